import PyProof.Rows.All
import Wide.All
import OpenK.AllK
import Wide.FinOn
import HandS.ForMost
import HandS.TupLe
import KE.KeyNested
import HandS.TryOnly
import HandS.ExcOwn
import HandS.WordsExc
import HandS.Wide
import HandS.TupAny
import HandS.Style
import HandS.IsInst
import HandS.Walk
import HandS.Zip
import HandS.Comp
import HandS.Remove
import HandS.TupMul
import HandS.Text
import KE.KTupSum
import KE.KRevSl
import KE.GoesEnum
import HandS.Conv
import HandS.Exc
import HandS.ExcCtx
import HandS.SuiteRaise
import HandS.TryMany
import HandS.SortInts
import HandS.SetFor
import HandS.StrMore
import HandS.Dict
import HandS.WordsDict
import HandS.More
import HandS.Strs
import KE.SortData
import HandS.Sort
import HandS.Deep
import HandS.DictComp
import HandS.List
import PyProof.Rows.StrMul
import PyProof.StrBlock2
import PyProof.ListStr
import PyProof.TupleOfGen
import HandS.RepeatKit
import KE.KDictKeyed
import PyProof.DictMoreH
import HandS.TupLen
import KE.GoesRaise
import HandS.Records
import PyProof.Rows.StrStep
import PySem.Challenge.RW_bitdraws_k38_whole_plans_as_texts
set_option Elab.async false
set_option linter.all false
set_option maxRecDepth 100000
set_option autoImplicit false
/-! PxA: plain data and the plain meaning of the program's constructs (no heap, no state of the machine). -/
namespace Sx
open PySem L2

/-- plain data; ref n: the n-th thing of the store; scr: the script -/
inductive D where
  | non | bl (b : Bool) | int (i : Int) | str (x : Str) | tup (xs : List D) | lst (xs : List D) | ref (n : Nat) | scr (ns : List Int) | ntp (xs : List D)
  deriving Inhabited
inductive Ob where
  | lst (xs : List D) | dic (kvs : List (Key × D)) | ins (c : Nat) (fs : List D)
  | dat (kvs : List (D × D)) | frd (kvs : List (D × D))
  deriving Inhabited
abbrev Env := List (Option D)
abbrev Sto := List Ob
inductive R (α : Type) where
  | ok (a : α) (s : Sto) | ex (c : Nat) (s : Sto) | no
def R.bind {α β : Type} (r : R α) (k : α → Sto → R β) : R β := match r with
  | .ok a s => k a s
  | .ex c s => .ex c s
  | .no => .no
def R.of {α : Type} (o : Option α) (s : Sto) : R α := match o with
  | some a => .ok a s
  | none => .no
abbrev EF := Env → Sto → R D
abbrev TF := Env → Sto → R Bool
abbrev AF := Env → Sto → R (List D)
abbrev FN := List D → Sto → R D
inductive SR where
  | nx (e : Env) (s : Sto) | rt (d : D) (s : Sto) | bk (e : Env) (s : Sto) | ct (e : Env) (s : Sto) | ex (c : Nat) (e : Env) (s : Sto) | no
abbrev SF := Env → Sto → SR
/-- the longest row that is made -/
def LIM : Nat := 1000000
/-- factors and divisors of a great size -/
def FIT (i : Int) : Bool := decide (i.natAbs < 2 ^ 64)
def FITW (i : Int) : Bool := decide (i.natAbs.log2 < 8000)

/-! ### expressions -/
def eVar (i : Nat) : EF := fun env s => match env[i]? with
  | some (some d) => .ok d s
  | _ => .no
def eC (d : D) : EF := fun _ s => .ok d s
def aNil : AF := fun _ s => .ok [] s
def aCons (f : EF) (g : AF) : AF := fun env s => (f env s).bind fun d s1 => (g env s1).bind fun ds s2 => .ok (d :: ds) s2
def eTup (g : AF) : EF := fun env s => (g env s).bind fun ds s1 => if ds.length ≤ LIM then .ok (.tup ds) s1 else .no
/-- a list that is never changed -/
def eLst (g : AF) : EF := fun env s => (g env s).bind fun ds s1 => if ds.length ≤ LIM then .ok (.lst ds) s1 else .no
/-- a list that is changed -/
def eNewL (g : AF) : EF := fun env s => (g env s).bind fun ds s1 => if ds.length ≤ LIM then .ok (.ref s1.length) (s1 ++ [.lst ds]) else .no
def eOp (g : Sto → D → D → Option D) (f1 f2 : EF) : EF := fun env s => (f1 env s).bind fun a s1 => (f2 env s1).bind fun b s2 => R.of (g s2 a b) s2
def eUn (g : Sto → D → Option D) (f1 : EF) : EF := fun env s => (f1 env s).bind fun a s1 => R.of (g s1 a) s1
/-- a built-in of values -/
def eFn (g : Sto → List D → Option D) (f1 : AF) : EF := fun env s => (f1 env s).bind fun a s1 => R.of (g s1 a) s1
def eFnN (g : Sto → List D → Option (List D)) (f1 : AF) : EF := fun env s => (f1 env s).bind fun a s1 => match g s1 a with
  | some ds => .ok (.ref s1.length) (s1 ++ [.lst ds])
  | none => .no
def eAnd (f g : EF) : EF := fun env s => (f env s).bind fun d s1 => match d with
  | .bl true => g env s1
  | .bl false => .ok (.bl false) s1
  | _ => .no
def eOr (f g : EF) : EF := fun env s => (f env s).bind fun d s1 => match d with
  | .bl false => g env s1
  | .bl true => .ok (.bl true) s1
  | _ => .no
def eNot (f : EF) : EF := fun env s => (f env s).bind fun d s1 => match d with
  | .bl b => .ok (.bl (!b)) s1
  | _ => .no
def eIf (t : TF) (f g : EF) : EF := fun env s => (t env s).bind fun b s1 => if b then f env s1 else g env s1
def eIsN (f : EF) : EF := fun env s => (f env s).bind fun d s1 => match d with
  | .non => .ok (.bl true) s1
  | _ => .ok (.bl false) s1
def eNotN (f : EF) : EF := fun env s => (f env s).bind fun d s1 => match d with
  | .non => .ok (.bl false) s1
  | _ => .ok (.bl true) s1
/-- a op b op' c -/
def eChain (g g' : Sto → D → D → Option D) (f1 f2 f3 : EF) : EF := fun env s => (f1 env s).bind fun a s1 => (f2 env s1).bind fun b s2 => match g s2 a b with
  | some (.bl true) => (f3 env s2).bind fun c s3 => R.of (g' s3 b c) s3
  | some (.bl false) => .ok (.bl false) s2
  | _ => .no

/-! ### tests -/
def tV (f : EF) : TF := fun env s => (f env s).bind fun d s1 => match d with
  | .bl b => .ok b s1
  | _ => .no
def truth (s : Sto) : D → Option Bool
  | .non => some false
  | .bl b => some b
  | .int i => some (i != 0)
  | .str x => if x.length ≤ LIM then some ((x.length : Int) != 0) else none
  | .tup xs => some (!xs.isEmpty)
  | .lst xs => some (!xs.isEmpty)
  | .scr ns => some (!ns.isEmpty)
  | .ntp _ => none
  | .ref n => match s[n]? with
    | some (.lst xs) => some (!xs.isEmpty)
    | some (.dic kvs) => some (!kvs.isEmpty)
    | _ => none
def tTru (f : EF) : TF := fun env s => (f env s).bind fun d s1 => R.of (truth s1 d) s1
def tAnd (f g : TF) : TF := fun env s => (f env s).bind fun b s1 => if b then g env s1 else .ok false s1
def tOr (f g : TF) : TF := fun env s => (f env s).bind fun b s1 => if b then .ok true s1 else g env s1
def tNot (f : TF) : TF := fun env s => (f env s).bind fun b s1 => .ok (!b) s1

/-! ### operators on values -/
/-- the items of a row -/
def rowOf (s : Sto) : D → Option (List D)
  | .tup xs => some xs
  | .lst xs => some xs
  | .ref n => match s[n]? with
    | some (.lst xs) => some xs
    | _ => none
  | _ => none
def lstOf (s : Sto) : D → Option (List D)
  | .lst xs => some xs
  | .ref n => match s[n]? with
    | some (.lst xs) => some xs
    | _ => none
  | _ => none
/-- two lists -/
def opCat (s : Sto) (a b : D) : Option D := match lstOf s a, lstOf s b with
  | some xs, some ys => if xs.length + ys.length ≤ LIM then some (.lst (xs ++ ys)) else none
  | _, _ => none
def opAdd (s : Sto) (a b : D) : Option D := match a, b with
  | .int i, .int j => some (.int (i + j))
  | .str x, .str y => if x.length + y.length ≤ LIM then some (.str (x ++ y)) else none
  | .tup xs, .tup ys => if xs.length + ys.length ≤ LIM then some (.tup (xs ++ ys)) else none
  | a, b => opCat s a b
def opSub (_ : Sto) (a b : D) : Option D := match a, b with
  | .int i, .int j => some (.int (i - j))
  | _, _ => none
def repD (xs : List D) (k : Int) : List D := (List.replicate k.toNat xs).flatten
def opMul (s : Sto) (a b : D) : Option D := match a, b with
  | .int i, .int j => if FIT i || FIT j || (FITW i && FITW j) then some (.int (i * j)) else none
  | .tup xs, .int k => if xs.isEmpty = false ∧ 2 ≤ k ∧ k ≤ 1000 ∧ xs.length ≤ 1000 then some (.tup (repD xs k)) else none
  | a, .int k => match lstOf s a with
    | some xs => if -1000 ≤ k ∧ k ≤ 1000 ∧ xs.length ≤ 1000 then some (.lst (repD xs k)) else none
    | none => none
  | _, _ => none
def opDiv (_ : Sto) (a b : D) : Option D := match a, b with
  | .int i, .int j => if 0 < j ∧ FITW j then some (.int (i / j)) else none
  | _, _ => none
def opMod (_ : Sto) (a b : D) : Option D := match a, b with
  | .int i, .int j => if 0 < j then some (.int (i % j)) else none
  | _, _ => none
def allInt : List D → Option (List Int)
  | [] => some []
  | .int i :: ds => (allInt ds).map (i :: ·)
  | _ :: _ => none
/-- tuples of numbers in order -/
def leI (ns ms : List Int) : Bool := _root_.Ob.lexAt (fun j => decide (ns.getD j 0 = ms.getD j 0)) (fun j => decide (ns.getD j 0 ≤ ms.getD j 0)) (decide (ns.length ≤ ms.length)) 0 (min ns.length ms.length)
def opLt (_ : Sto) (a b : D) : Option D := match a, b with
  | .int i, .int j => some (.bl (decide (i < j)))
  | .tup xs, .tup ys => match allInt xs, allInt ys with
    | some ns, some ms => some (.bl (HT.lexLt ns ms))
    | _, _ => none
  | _, _ => none
def opLe (_ : Sto) (a b : D) : Option D := match a, b with
  | .int i, .int j => some (.bl (decide (i ≤ j)))
  | .tup xs, .tup ys => match allInt xs, allInt ys with
    | some ns, some ms => some (.bl (leI ns ms))
    | _, _ => none
  | .str x, .str y => some (.bl (!decide (y.cps.toList < x.cps.toList)))
  | _, _ => none
def opGt (_ : Sto) (a b : D) : Option D := match a, b with
  | .int i, .int j => some (.bl (decide (j < i)))
  | _, _ => none
def opGe (_ : Sto) (a b : D) : Option D := match a, b with
  | .int i, .int j => some (.bl (decide (j ≤ i)))
  | _, _ => none
def opNeg (_ : Sto) (a : D) : Option D := match a with
  | .int i => some (.int (-i))
  | _ => none
mutual
def pd (s : Sto) : D → Option PyData
  | .non => some .none
  | .bl b => some (.bool b)
  | .int i => some (.int i)
  | .str x => some (.str x)
  | .tup xs => (pds s xs).map .tuple
  | .lst xs => (pds s xs).map .list
  | .ref _ => none
  | .scr _ => none
  | .ntp _ => none
def pds (s : Sto) : List D → Option (List PyData)
  | [] => some []
  | d :: ds => match pd s d, pds s ds with
    | some p, some ps => some (p :: ps)
    | _, _ => none
end
/-- a list of the store too -/
def pdR (s : Sto) (d : D) : Option PyData := match d with
  | .ref n => match s[n]? with
    | some (.lst xs) => (pds s xs).map .list
    | _ => none
  | d => pd s d
def eqV? (s : Sto) (a b : D) : Option Bool := match a, b with
  | .int i, .int j => some (decide (i = j))
  | .str x, .str y => some (decide (x = y))
  | .bl x, .bl y => some (decide (x = y))
  | a, b => match pdR s a, pdR s b with
    | some p, some q => if SeqAt.shaped p && SeqAt.shaped q then some (PyData.eqv p q) else none
    | _, _ => none
def opEq (s : Sto) (a b : D) : Option D := (eqV? s a b).map .bl
def opNe (s : Sto) (a b : D) : Option D := (eqV? s a b).map fun k => .bl (!k)
/-- a place of a row or a text -/
def opIx (s : Sto) (a b : D) : Option D := match a, b with
  | .scr ns, .int i => (atI ns i).map .int
  | .str z, .int i => if z.length ≤ LIM then (atI z.cps.toList i).map fun c => .str ⟨#[c]⟩ else none
  | a, .int i => match rowOf s a with
    | some xs => atI xs i
    | none => none
  | _, _ => none
def isFlat : D → Bool
  | .non => true
  | .bl _ => true
  | .int _ => true
  | .str _ => true
  | _ => false
def flatEq : D → D → Bool
  | .non, .non => true
  | .bl a, .bl b => a == b
  | .bl a, .int j => (if a then 1 else 0) == j
  | .int i, .bl b => i == (if b then 1 else 0)
  | .int i, .int j => i == j
  | .str x, .str y => x == y
  | _, _ => false
def opIn (s : Sto) (a b : D) : Option D := match b with
  | .str y => match a with
    | .str x => some (.bl (!(Builtin.Str.occurrences y x 0 y.length 1).isEmpty))
    | _ => none
  | b => match rowOf s b with
    | some xs => if isFlat a && xs.all isFlat then some (.bl (xs.any fun y => flatEq y a)) else none
    | none => none
def opNotIn (s : Sto) (a b : D) : Option D := match opIn s a b with
  | some (.bl k) => some (.bl (!k))
  | _ => none
/-- a cut of a row -/
def cutD (xs : List D) (lo hi : Option Int) : List D := (xs.drop (HT.sIx xs.length 0 lo)).take (HT.sIx xs.length xs.length hi - HT.sIx xs.length 0 lo)
abbrev OF := Env → Sto → R (Option Int)
def oNo : OF := fun _ s => .ok none s
def oSome (f : EF) : OF := fun env s => (f env s).bind fun d s1 => match d with
  | .int i => .ok (some i) s1
  | _ => .no
def opSl (s : Sto) (a : D) (lo hi : Option Int) : Option D := match a with
  | .tup xs => some (.tup (cutD xs lo hi))
  | .str z => if z.length ≤ LIM then some (.str (cutS z lo hi)) else none
  | a => match lstOf s a with
    | some xs => some (.lst (cutD xs lo hi))
    | none => none
def eSl (f : EF) (lo hi : OF) : EF := fun env s => (f env s).bind fun a s1 => (lo env s1).bind fun l s2 => (hi env s2).bind fun h s3 => R.of (opSl s3 a l h) s3

/-! ### built-ins by values -/
def fLen (s : Sto) (as : List D) : Option D := match as with
  | [.scr ns] => some (.int ns.length)
  | [.str z] => if z.length ≤ LIM then some (.int z.length) else none
  | [.ref n] => match s[n]? with
    | some (.lst xs) => some (.int xs.length)
    | _ => none
  | [.tup xs] => some (.int xs.length)
  | [.lst xs] => some (.int xs.length)
  | _ => none
def fTuple (s : Sto) (as : List D) : Option D := match as with
  | [a] => (rowOf s a).map .tup
  | _ => none
def fList (s : Sto) (as : List D) : Option (List D) := match as with
  | [a] => rowOf s a
  | _ => none
def fAbs (_ : Sto) (as : List D) : Option D := match as with
  | [.int i] => some (.int (if i < 0 then -i else i))
  | _ => none
def fMax (_ : Sto) (as : List D) : Option D := match as with
  | [.int i, .int j] => some (.int (if j > i then j else i))
  | _ => none
def fMin (_ : Sto) (as : List D) : Option D := match as with
  | [.int i, .int j] => some (.int (if j < i then j else i))
  | _ => none
def fInt (_ : Sto) (as : List D) : Option D := match as with
  | [.int i] => some (.int i)
  | [.bl b] => some (.int (if b then 1 else 0))
  | _ => none
def allBl : List D → Option (List Bool)
  | [] => some []
  | .bl i :: ds => (allBl ds).map (i :: ·)
  | _ :: _ => none
def fSum (s : Sto) (as : List D) : Option D := match as with
  | [a] => match lstOf s a with
    | some xs => (allInt xs).map fun ns => .int ns.sum
    | none => match a with
      | .tup xs => (allInt xs).map fun ns => .int ns.sum
      | _ => none
  | _ => none
def fAll (s : Sto) (as : List D) : Option D := match as with
  | [a] => match lstOf s a with
    | some xs => (allBl xs).map fun bs => .bl (bs.all id)
    | none => none
  | _ => none

/-- methods of lists: what is told, the store behind it -/
def eBM (g : Sto → D → List D → Option (D × Sto)) (fo : EF) (fa : AF) : EF := fun env s => (fo env s).bind fun o s1 => match lstOf s1 o with
  | some _ => (fa env s1).bind fun as s2 => match g s2 o as with
    | some r => .ok r.1 r.2
    | none => .no
  | none => .no
def mAppend (s : Sto) (o : D) (as : List D) : Option (D × Sto) := match o, as with
  | .ref n, [d] => match s[n]? with
    | some (.lst xs) => if xs.length < LIM then some (.non, s.set n (.lst (xs ++ [d]))) else none
    | _ => none
  | _, _ => none
def mPop (s : Sto) (o : D) (as : List D) : Option (D × Sto) := match o, as with
  | .ref n, [] => match s[n]? with
    | some (.lst xs) => match xs[xs.length - 1]? with
      | some y => some (y, s.set n (.lst xs.dropLast))
      | none => none
    | _ => none
  | _, _ => none
def mPopAt (s : Sto) (o : D) (as : List D) : Option (D × Sto) := match o, as with
  | .ref n, [.int i] => match s[n]? with
    | some (.lst xs) => if 0 ≤ i ∧ i < xs.length ∧ xs.length ≤ LIM then match xs[i.toNat]? with
      | some y => some (y, s.set n (.lst (xs.eraseIdx i.toNat)))
      | none => none
      else none
    | _ => none
  | _, _ => none
/-- isinstance of a built-in class -/
def tyName (s : Sto) : D → Option String
  | .non => some "NoneType"
  | .bl _ => some "bool"
  | .int _ => some "int"
  | .str _ => some "str"
  | .tup _ => some "tuple"
  | .lst _ => some "list"
  | .scr _ => some "list"
  | .ntp _ => none
  | .ref n => match s[n]? with
    | some (.lst _) => some "list"
    | some (.dic _) => some "dict"
    | _ => none
def isIn (T : String) (s : Sto) (d : D) : Option D := match tyName s d with
  | some U => some (.bl (U == T || (U == "bool" && T == "int")))
  | none => none

/-! ### statements -/
def sNext : SF := fun env s => .nx env s
def sSeq (g h : SF) : SF := fun env s => match g env s with
  | .nx e s' => h e s'
  | .rt d s' => .rt d s'
  | .bk e s' => .bk e s'
  | .ct e s' => .ct e s'
  | .ex c e s' => .ex c e s'
  | .no => .no
/-- an expression ahead of a statement's end -/
def SR.ofR {α : Type} (r : R α) (env : Env) (k : α → Sto → SR) : SR := match r with
  | .ok a s => k a s
  | .ex c s => .ex c env s
  | .no => .no
def sExpr (f : EF) : SF := fun env s => SR.ofR (f env s) env fun _ s' => .nx env s'
def sRet (f : EF) : SF := fun env s => SR.ofR (f env s) env fun d s' => .rt d s'
def sRetN : SF := fun _ s => .rt .non s
def sIf (t : TF) (g h : SF) : SF := fun env s => SR.ofR (t env s) env fun b s' => if b then g env s' else h env s'
def sBrk : SF := fun env s => .bk env s
def sCont : SF := fun env s => .ct env s
/-- targets: what is stored where -/
abbrev GF := D → Env → Sto → Option (Env × Sto)
def gVar (i : Nat) : GF := fun d env s => some (env.set i (some d), s)
abbrev GFs := List D → Env → Sto → Option (Env × Sto)
def gNil : GFs := fun ds env s => match ds with
  | [] => some (env, s)
  | _ => none
def gCons (g : GF) (h : GFs) : GFs := fun ds env s => match ds with
  | d :: ds => match g d env s with
    | some r => h ds r.1 r.2
    | none => none
  | [] => none
def gTup (n : Nat) (h : GFs) : GF := fun d env s => match d with
  | .tup xs => if xs.length = n then h xs env s else none
  | _ => none
def SR.ofG (r : Option (Env × Sto)) (k : Env → Sto → SR) : SR := match r with
  | some r => k r.1 r.2
  | none => .no
def sAsg (f : EF) (g : GF) : SF := fun env s => SR.ofR (f env s) env fun d s1 => SR.ofG (g d env s1) fun e s2 => .nx e s2
/-- a, b = x, y -/
def sPar (i j : Nat) (f1 f2 : EF) : SF := fun env s => SR.ofR (f1 env s) env fun a s1 => SR.ofR (f2 env s1) env fun b s2 => .nx ((env.set i (some a)).set j (some b)) s2
def sPar3 (i j l : Nat) (f1 f2 f3 : EF) : SF := fun env s => SR.ofR (f1 env s) env fun a s1 => SR.ofR (f2 env s1) env fun b s2 => SR.ofR (f3 env s2) env fun c s3 =>
  .nx (((env.set i (some a)).set j (some b)).set l (some c)) s3
/-- xs[i] = d, xs in the store -/
def setAt (s : Sto) (o i d : D) : Option Sto := match o, i with
  | .ref n, .int k => match s[n]? with
    | some (.lst xs) => match ixN xs.length k with
      | some j => some (s.set n (.lst (xs.set j d)))
      | none => none
    | _ => none
  | _, _ => none
def gSub (fo fi : EF) : GF := fun d env s => match fo env s with
  | .ok o s1 => match fi env s1 with
    | .ok i s2 => (setAt s2 o i d).map fun s3 => (env, s3)
    | _ => none
  | _ => none
/-- while -/
def sWhile (t : TF) (b : SF) : Nat → SF
  | 0 => fun _ _ => .no
  | n + 1 => fun env s => SR.ofR (t env s) env fun k s1 => if k then
      match b env s1 with
      | .nx e s2 => sWhile t b n e s2
      | .ct e s2 => sWhile t b n e s2
      | .bk e s2 => .nx e s2
      | .rt d s2 => .rt d s2
      | .ex c e s2 => .ex c e s2
      | .no => .no
    else .nx env s1
/-- for: the items as they stand -/
def forL (g : GF) (b : SF) : List D → SF
  | [] => fun env s => .nx env s
  | d :: ds => fun env s => SR.ofG (g d env s) fun e s1 => match b e s1 with
    | .nx e s2 => forL g b ds e s2
    | .ct e s2 => forL g b ds e s2
    | .bk e s2 => .nx e s2
    | .rt d s2 => .rt d s2
    | .ex c e s2 => .ex c e s2
    | .no => .no
/-- what is walked -/
abbrev IF := Env → Sto → R (List D)
def sFor (f : IF) (g : GF) (b : SF) : SF := fun env s => SR.ofR (f env s) env fun ds s1 => forL g b ds env s1
/-- a row that is never changed -/
def iRow (f : EF) : IF := fun env s => (f env s).bind fun d s1 => match d with
  | .tup xs => .ok xs s1
  | .lst xs => .ok xs s1
  | _ => .no
/-- a text's signs -/
def signsOf (z : Str) : List D := z.cps.toList.map fun c => .str ⟨#[c]⟩
def rangeD (lo hi : Int) : List D := (List.range (hi - lo).toNat).map fun (k : Nat) => .int (lo + k)
/-- the bounds of a range that is walked -/
def rOk (i : Int) : Bool := decide (-(2 ^ 62) ≤ i) && decide (i < 2 ^ 62)
def iRng1 (f : AF) : IF := fun env s => (f env s).bind fun ds s1 => match ds with
  | [.int j] => if rOk j then .ok (rangeD 0 j) s1 else .no
  | _ => .no
def iRng2 (f : AF) : IF := fun env s => (f env s).bind fun ds s1 => match ds with
  | [.int i, .int j] => if rOk i && rOk j then .ok (rangeD i j) s1 else .no
  | _ => .no
/-- downward by ones -/
def rangeB (lo hi : Int) : List D := (List.range (lo - hi).toNat).map fun (k : Nat) => .int (lo - k)
def iRng3 (f : AF) : IF := fun env s => (f env s).bind fun ds s1 => match ds with
  | [.int i, .int j, .int c] => if c = -1 ∧ rOk i ∧ rOk j then .ok (rangeB i j) s1 else .no
  | _ => .no

/-! ### comprehensions: the items of the block's list -/
/-- own slots emptied -/
def wipeE (env : Env) : List Nat → Env
  | [] => env
  | v :: vs => (wipeE env vs).set v none
def lcL (g : GF) (t : TF) (f : EF) (env : Env) : List D → Sto → Option (List D × Sto)
  | [], s => some ([], s)
  | d :: ds, s => match g d env s with
    | some r => match t r.1 r.2 with
      | .ok true s2 => match f r.1 s2 with
        | .ok x s3 => match lcL g t f env ds s3 with
          | some q => some (x :: q.1, q.2)
          | none => none
        | _ => none
      | .ok false s2 => lcL g t f env ds s2
      | _ => none
    | none => none
def tTrue : TF := fun _ s => .ok true s
def eLc (i : IF) (g : GF) (t : TF) (f : EF) (vs : List Nat) : EF := fun env s => (i env s).bind fun ds s1 => if ds.length ≤ LIM then
  match lcL g t f (wipeE env vs) ds s1 with
    | some q => .ok (.lst q.1) q.2
    | none => .no
  else .no
def eLcN (i : IF) (g : GF) (t : TF) (f : EF) (vs : List Nat) : EF := fun env s => (i env s).bind fun ds s1 => if ds.length ≤ LIM then
  match lcL g t f (wipeE env vs) ds s1 with
    | some q => .ok (.ref q.2.length) (q.2 ++ [.lst q.1])
    | none => .no
  else .no

/-! ### defs -/
def startE (N : Nat) (ds : List D) : Env := ds.map some ++ List.replicate (N - ds.length) none
def fnOf (n N : Nat) (b : SF) : FN := fun ds s => if ds.length = n then match b (startE N ds) s with
  | .nx _ s' => .ok .non s'
  | .rt d s' => .ok d s'
  | .ex c _ s' => .ex c s'
  | _ => .no else .no
mutual
def noRef : D → Bool
  | .ref _ => false
  | .scr _ => false
  | .ntp xs => noRefs xs
  | .tup xs => noRefs xs
  | .lst xs => noRefs xs
  | _ => true
def noRefs : List D → Bool
  | [] => true
  | d :: ds => noRef d && noRefs ds
end
/-- a list of one's own store handed out for good -/
def frz (s : Sto) (d : D) : Option D := match d with
  | .ref n => match s[n]? with
    | some (.lst xs) => if noRefs xs then some (.lst xs) else none
    | _ => none
  | d => if noRef d then some d else none
/-- a def on a store of its own -/
def iso (f : FN) : FN := fun ds s => if noRefs ds then match f ds [] with
  | .ok d s' => R.of (frz s' d) s
  | .ex c _ => .ex c s
  | .no => .no else .no
def eCall (f : FN) (g : AF) : EF := fun env s => (g env s).bind fun ds s1 => f ds s1
end Sx

/-! PxB: the plain meaning is what the machine does: the state's relation, expressions. -/
namespace Sx
open PySem L2

structure SCtx where
  adr : Nat → Addr
  fl : Nat → List Str
  w : World

def TupAt (K : PySem.W.Frag) (F ρ : List Addr) (H : Hp) (a : Addr) (vs : List V) : Prop := (Rd H a (.tup vs) ∧ a ∉ F ∧ a ∉ ρ) ∨ ∀ H' : Hp, SqT K H' a vs
def LstAt (F ρ : List Addr) (H : Hp) (a : Addr) (vs : List V) : Prop := H a = some (.lst vs) ∧ a ∉ F ∧ a ∉ ρ
def ScrAt (K : PySem.W.Frag) (F ρ : List Addr) (H : Hp) (a : Addr) (vs : List V) : Prop := (Rd H a (.lst vs) ∧ a ∉ F ∧ a ∉ ρ) ∨ ∀ H' : Hp, SqL K H' a vs
/-- a tuple of which it is known that it has no dict -/
def NtpAt (F ρ : List Addr) (H : Hp) (a : Addr) (vs : List V) : Prop := (∃ o : Obj, H a = some (.frz o (.tup vs)) ∧ o.dict = none) ∧ a ∉ F ∧ a ∉ ρ
mutual
inductive Rep (K : PySem.W.Frag) (F ρ : List Addr) (H : Hp) : V → D → Prop
  | non : Rep K F ρ H .non .non
  | bl (b : Bool) : Rep K F ρ H (.bl b) (.bl b)
  | int (i : Int) : Rep K F ρ H (.int i) (.int i)
  | str (x : Str) : Rep K F ρ H (.str x) (.str x)
  | tup {a : Addr} {vs : List V} {ds : List D} : TupAt K F ρ H a vs → Reps K F ρ H vs ds → Rep K F ρ H (.ref a) (.tup ds)
  | lst {a : Addr} {vs : List V} {ds : List D} : LstAt F ρ H a vs → Reps K F ρ H vs ds → Rep K F ρ H (.ref a) (.lst ds)
  | ref {a : Addr} {n : Nat} : ρ[n]? = some a → Rep K F ρ H (.ref a) (.ref n)
  | scr {a : Addr} {ns : List Int} : ScrAt K F ρ H a (ns.map V.int) → Rep K F ρ H (.ref a) (.scr ns)
  | ntp {a : Addr} {vs : List V} {ds : List D} : NtpAt F ρ H a vs → Reps K F ρ H vs ds → Rep K F ρ H (.ref a) (.ntp ds)
inductive Reps (K : PySem.W.Frag) (F ρ : List Addr) (H : Hp) : List V → List D → Prop
  | nil : Reps K F ρ H [] []
  | cons {v : V} {vs : List V} {d : D} {ds : List D} : Rep K F ρ H v d → Reps K F ρ H vs ds → Reps K F ρ H (v :: vs) (d :: ds)
end
/-- what may have come about: new things, changed things of ρ, all else as it was -/
structure Ext0 (ρ : List Addr) (H : Hp) (ρ' : List Addr) (H' : Hp) : Prop where
  pre : ∃ n, ρ' = ρ ++ n ∧ ∀ a ∈ n, H a = none
  keep : ∀ a o, H a = some o → a ∉ ρ → H' a = some o
  mono : ∀ a, H a ≠ none → H' a ≠ none
theorem Ext0.refl (ρ : List Addr) (H : Hp) : Ext0 ρ H ρ H := ⟨⟨[], by simp, by simp⟩, fun _ _ h _ => h, fun _ h => h⟩
theorem Ext0.trans {ρ ρ1 ρ2 : List Addr} {H H1 H2 : Hp} (a : Ext0 ρ H ρ1 H1) (b : Ext0 ρ1 H1 ρ2 H2) : Ext0 ρ H ρ2 H2 := by
  obtain ⟨⟨n, rfl, hn⟩, k, m⟩ := a
  obtain ⟨⟨n2, rfl, hn2⟩, k2, m2⟩ := b
  refine ⟨⟨n ++ n2, by simp, fun a ha => ?_⟩, fun x o h hx => ?_, fun x h => m2 x (m x h)⟩
  · rcases List.mem_append.mp ha with h | h
    · exact hn a h
    · cases q : H a with
      | none => rfl
      | some o => exact absurd (hn2 a h) (m a (by rw [q]; simp))
  · refine k2 x o (k x o h hx) fun z => ?_
    rcases List.mem_append.mp z with z | z
    · exact hx z
    · rw [hn x z] at h; cases h
theorem Ext0.mem {ρ ρ1 : List Addr} {H H1 : Hp} (a : Ext0 ρ H ρ1 H1) {x : Addr} {o : HO} (h : H x = some o) (hx : x ∉ ρ) : x ∉ ρ1 := fun z => by
  obtain ⟨n, rfl, hn⟩ := a.pre
  rcases List.mem_append.mp z with z | z
  · exact hx z
  · rw [hn x z] at h; cases h
theorem Rd.there {H : Hp} {a : Addr} {u : HO} (h : Rd H a u) : ∃ o, H a = some o := by
  rcases h with h | ⟨o, h⟩
  · exact ⟨_, h⟩
  · exact ⟨_, h⟩
theorem Rd.ext0 {ρ ρ1 : List Addr} {H H1 : Hp} (e : Ext0 ρ H ρ1 H1) {a : Addr} {u : HO} (h : Rd H a u) (hx : a ∉ ρ) : Rd H1 a u := by
  rcases h with h | ⟨o, h⟩
  · exact .inl (e.keep _ _ h hx)
  · exact .inr ⟨o, e.keep _ _ h hx⟩
theorem TupAt.ext0 {K : PySem.W.Frag} {F ρ ρ1 : List Addr} {H H1 : Hp} (e : Ext0 ρ H ρ1 H1) {a : Addr} {vs : List V} (h : TupAt K F ρ H a vs) : TupAt K F ρ1 H1 a vs := by
  rcases h with ⟨r, f, x⟩ | h
  · obtain ⟨o, ho⟩ := Rd.there r
    exact .inl ⟨Rd.ext0 e r x, f, e.mem ho x⟩
  · exact .inr h
theorem LstAt.ext0 {F ρ ρ1 : List Addr} {H H1 : Hp} (e : Ext0 ρ H ρ1 H1) {a : Addr} {vs : List V} (h : LstAt F ρ H a vs) : LstAt F ρ1 H1 a vs := ⟨e.keep _ _ h.1 h.2.2, h.2.1, e.mem h.1 h.2.2⟩
theorem ScrAt.ext0 {K : PySem.W.Frag} {F ρ ρ1 : List Addr} {H H1 : Hp} (e : Ext0 ρ H ρ1 H1) {a : Addr} {vs : List V} (h : ScrAt K F ρ H a vs) : ScrAt K F ρ1 H1 a vs := by
  rcases h with ⟨r, f, x⟩ | h
  · obtain ⟨o, ho⟩ := Rd.there r
    exact .inl ⟨Rd.ext0 e r x, f, e.mem ho x⟩
  · exact .inr h
theorem TupAt.sq {K : PySem.W.Frag} {F ρ : List Addr} {H : Hp} {a : Addr} {vs : List V} (h : TupAt K F ρ H a vs) : SqT K H a vs := by
  rcases h with ⟨r, _⟩ | h
  · exact .inl r
  · exact h H
theorem LstAt.sq {K : PySem.W.Frag} {F ρ : List Addr} {H : Hp} {a : Addr} {vs : List V} (h : LstAt F ρ H a vs) : SqL K H a vs := SqL.of h.1
theorem ScrAt.sq {K : PySem.W.Frag} {F ρ : List Addr} {H : Hp} {a : Addr} {vs : List V} (h : ScrAt K F ρ H a vs) : SqL K H a vs := by
  rcases h with ⟨r, _⟩ | h
  · exact .inl r
  · exact h H
section
variable {K : PySem.W.Frag} {F ρ ρ1 : List Addr} {H H1 : Hp}
mutual
theorem Rep.ext0 (e : Ext0 ρ H ρ1 H1) : ∀ {d : D} {v : V}, Rep K F ρ H v d → Rep K F ρ1 H1 v d
  | .non, _, h => by cases h; exact .non
  | .bl b, _, h => by cases h; exact .bl b
  | .int i, _, h => by cases h; exact .int i
  | .str x, _, h => by cases h; exact .str x
  | .tup ds, _, h => by
    cases h with
    | tup t r => exact .tup (t.ext0 e) (Reps.ext0 e r)
  | .lst ds, _, h => by
    cases h with
    | lst t r => exact .lst (t.ext0 e) (Reps.ext0 e r)
  | .ref n, _, h => by
    cases h with
    | ref q =>
      obtain ⟨m, rfl, _⟩ := e.pre
      refine .ref ?_
      rw [List.getElem?_append_left (List.getElem?_eq_some_iff.mp q).1]
      exact q
  | .scr ns, _, h => by
    cases h with
    | scr t => exact .scr (t.ext0 e)
  | .ntp ds, _, h => by
    cases h with
    | ntp t r =>
      obtain ⟨⟨o, ho, hd⟩, f, x⟩ := t
      exact .ntp ⟨⟨o, e.keep _ _ ho x, hd⟩, f, e.mem ho x⟩ (Reps.ext0 e r)
theorem Reps.ext0 (e : Ext0 ρ H ρ1 H1) : ∀ {ds : List D} {vs : List V}, Reps K F ρ H vs ds → Reps K F ρ1 H1 vs ds
  | [], _, h => by cases h; exact .nil
  | d :: ds, _, h => by
    cases h with
    | cons r t => exact .cons (Rep.ext0 e r) (Reps.ext0 e t)
end
mutual
theorem Rep.inn : ∀ {d : D} {v : V}, noRef d = true → Rep K F ρ H v d → Rep K (F ++ ρ) [] H v d
  | .non, _, _, h => by cases h; exact .non
  | .bl b, _, _, h => by cases h; exact .bl b
  | .int i, _, _, h => by cases h; exact .int i
  | .str x, _, _, h => by cases h; exact .str x
  | .tup ds, _, n, h => by
    cases h with
    | tup t r =>
      refine .tup ?_ (Reps.inn (by simpa [noRef] using n) r)
      rcases t with ⟨t, f, x⟩ | t
      · exact .inl ⟨t, by simp [f, x], by simp⟩
      · exact .inr t
  | .lst ds, _, n, h => by
    cases h with
    | lst t r =>
      refine .lst ?_ (Reps.inn (by simpa [noRef] using n) r)
      exact ⟨t.1, by simp [t.2.1, t.2.2], by simp⟩
  | .ref m, _, n, h => by simp [noRef] at n
  | .scr m, _, n, h => by simp [noRef] at n
  | .ntp ds, _, n, h => by
    cases h with
    | ntp t r => exact .ntp ⟨t.1, by simp [t.2.1, t.2.2], by simp⟩ (Reps.inn (by simpa [noRef] using n) r)
theorem Reps.inn : ∀ {ds : List D} {vs : List V}, noRefs ds = true → Reps K F ρ H vs ds → Reps K (F ++ ρ) [] H vs ds
  | [], _, _, h => by cases h; exact .nil
  | d :: ds, _, n, h => by
    simp only [noRefs, Bool.and_eq_true] at n
    cases h with
    | cons r t => exact .cons (Rep.inn n.1 r) (Reps.inn n.2 t)
end
mutual
theorem Rep.out : ∀ {d : D} {v : V}, noRef d = true → Rep K (F ++ ρ) ρ1 H v d → Rep K F ρ H v d
  | .non, _, _, h => by cases h; exact .non
  | .bl b, _, _, h => by cases h; exact .bl b
  | .int i, _, _, h => by cases h; exact .int i
  | .str x, _, _, h => by cases h; exact .str x
  | .tup ds, _, n, h => by
    cases h with
    | tup t r =>
      refine .tup ?_ (Reps.out (by simpa [noRef] using n) r)
      rcases t with ⟨t, f, x⟩ | t
      · exact .inl ⟨t, fun z => f (List.mem_append_left _ z), fun z => f (List.mem_append_right _ z)⟩
      · exact .inr t
  | .lst ds, _, n, h => by
    cases h with
    | lst t r =>
      refine .lst ?_ (Reps.out (by simpa [noRef] using n) r)
      exact ⟨t.1, fun z => t.2.1 (List.mem_append_left _ z), fun z => t.2.1 (List.mem_append_right _ z)⟩
  | .ref m, _, n, h => by simp [noRef] at n
  | .scr m, _, n, h => by simp [noRef] at n
  | .ntp ds, _, n, h => by
    cases h with
    | ntp t r => exact .ntp ⟨t.1, fun z => t.2.1 (List.mem_append_left _ z), fun z => t.2.1 (List.mem_append_right _ z)⟩ (Reps.out (by simpa [noRef] using n) r)
theorem Reps.out : ∀ {ds : List D} {vs : List V}, noRefs ds = true → Reps K (F ++ ρ) ρ1 H vs ds → Reps K F ρ H vs ds
  | [], _, _, h => by cases h; exact .nil
  | d :: ds, _, n, h => by
    simp only [noRefs, Bool.and_eq_true] at n
    cases h with
    | cons r t => exact .cons (Rep.out n.1 r) (Reps.out n.2 t)
end
/-! another set of things that are kept apart -/
mutual
theorem Rep.toF {F' : List Addr} (c : ∀ a ∈ F', a ∈ F ∨ H a = none) : ∀ {d : D} {v : V}, Rep K F ρ H v d → Rep K F' ρ H v d
  | .non, _, h => by cases h; exact .non
  | .bl b, _, h => by cases h; exact .bl b
  | .int i, _, h => by cases h; exact .int i
  | .str x, _, h => by cases h; exact .str x
  | .tup ds, _, h => by
    cases h with
    | tup t r =>
      refine .tup ?_ (Reps.toF c r)
      rcases t with ⟨t, f, x⟩ | t
      · refine .inl ⟨t, fun z => ?_, x⟩
        obtain ⟨o, ho⟩ := Rd.there t
        rcases c _ z with q | q
        · exact f q
        · rw [ho] at q; cases q
      · exact .inr t
  | .lst ds, _, h => by
    cases h with
    | lst t r =>
      refine .lst ⟨t.1, fun z => ?_, t.2.2⟩ (Reps.toF c r)
      rcases c _ z with q | q
      · exact t.2.1 q
      · rw [t.1] at q; cases q
  | .ref m, _, h => by
    cases h with
    | ref q => exact .ref q
  | .scr m, _, h => by
    cases h with
    | scr t =>
      rcases t with ⟨t, f, x⟩ | t
      · refine .scr (.inl ⟨t, fun z => ?_, x⟩)
        obtain ⟨o, ho⟩ := Rd.there t
        rcases c _ z with q | q
        · exact f q
        · rw [ho] at q; cases q
      · exact .scr (.inr t)
  | .ntp ds, _, h => by
    cases h with
    | ntp t r =>
      obtain ⟨⟨o, ho, hd⟩, f, x⟩ := t
      refine .ntp ⟨⟨o, ho, hd⟩, fun z => ?_, x⟩ (Reps.toF c r)
      rcases c _ z with q | q
      · exact f q
      · rw [ho] at q; cases q
theorem Reps.toF {F' : List Addr} (c : ∀ a ∈ F', a ∈ F ∨ H a = none) : ∀ {ds : List D} {vs : List V}, Reps K F ρ H vs ds → Reps K F' ρ H vs ds
  | [], _, h => by cases h; exact .nil
  | d :: ds, _, h => by
    cases h with
    | cons r t => exact .cons (Rep.toF c r) (Reps.toF c t)
end
/-! a thing that is kept apart is changed -/
mutual
theorem Rep.updF {p : Addr} {o : HO} (hp : p ∈ F) : ∀ {d : D} {v : V}, Rep K F ρ H v d → Rep K F ρ (upd H p o) v d
  | .non, _, h => by cases h; exact .non
  | .bl b, _, h => by cases h; exact .bl b
  | .int i, _, h => by cases h; exact .int i
  | .str x, _, h => by cases h; exact .str x
  | .tup ds, _, h => by
    cases h with
    | tup t r =>
      refine .tup ?_ (Reps.updF hp r)
      rcases t with ⟨t, f, x⟩ | t
      · refine .inl ⟨?_, f, x⟩
        have ne : ∀ q, q ∉ F → q ≠ p := fun q hq z => hq (by rw [z]; exact hp)
        rcases t with t | ⟨u, t⟩
        · exact .inl (by rw [upd_ne (ne _ f)]; exact t)
        · exact .inr ⟨u, by rw [upd_ne (ne _ f)]; exact t⟩
      · exact .inr t
  | .lst ds, _, h => by
    cases h with
    | lst t r => exact .lst ⟨by rw [upd_ne (fun z => t.2.1 (by rw [z]; exact hp))]; exact t.1, t.2⟩ (Reps.updF hp r)
  | .ref m, _, h => by
    cases h with
    | ref q => exact .ref q
  | .scr m, _, h => by
    cases h with
    | scr t =>
      rcases t with ⟨t, f, x⟩ | t
      · refine .scr (.inl ⟨?_, f, x⟩)
        have ne : ∀ q, q ∉ F → q ≠ p := fun q hq z => hq (by rw [z]; exact hp)
        rcases t with t | ⟨u, t⟩
        · exact .inl (by rw [upd_ne (ne _ f)]; exact t)
        · exact .inr ⟨u, by rw [upd_ne (ne _ f)]; exact t⟩
      · exact .scr (.inr t)
  | .ntp ds, _, h => by
    cases h with
    | ntp t r =>
      obtain ⟨⟨o, ho, hd⟩, f, x⟩ := t
      exact .ntp ⟨⟨o, by rw [upd_ne (fun z => f (by rw [z]; exact hp))]; exact ho, hd⟩, f, x⟩ (Reps.updF hp r)
theorem Reps.updF {p : Addr} {o : HO} (hp : p ∈ F) : ∀ {ds : List D} {vs : List V}, Reps K F ρ H vs ds → Reps K F ρ (upd H p o) vs ds
  | [], _, h => by cases h; exact .nil
  | d :: ds, _, h => by
    cases h with
    | cons r t => exact .cons (Rep.updF hp r) (Reps.updF hp t)
end
theorem Reps.length : ∀ {vs : List V} {ds : List D}, Reps K F ρ H vs ds → vs.length = ds.length
  | _, _, .nil => rfl
  | _, _, .cons _ t => by simp [Reps.length t]
theorem Reps.append : ∀ {vs ws : List V} {ds es : List D}, Reps K F ρ H vs ds → Reps K F ρ H ws es → Reps K F ρ H (vs ++ ws) (ds ++ es)
  | _, _, _, _, .nil, s => s
  | _, _, _, _, .cons r t, s => .cons r (Reps.append t s)
theorem Reps.get : ∀ {vs : List V} {ds : List D} {i : Nat} {d : D}, Reps K F ρ H vs ds → ds[i]? = some d → ∃ v, vs[i]? = some v ∧ Rep K F ρ H v d
  | _, _, _, _, .nil, e => by simp at e
  | _, _, 0, _, .cons r _, e => by simp at e; subst e; exact ⟨_, rfl, r⟩
  | _, _, i + 1, d, .cons _ t, e => by
    obtain ⟨u, h1, h2⟩ := Reps.get (i := i) (d := d) t (by simpa using e)
    exact ⟨u, by simpa using h1, h2⟩
theorem Reps.set {v : V} {d : D} (r : Rep K F ρ H v d) : ∀ {vs : List V} {ds : List D} (i : Nat), Reps K F ρ H vs ds → Reps K F ρ H (vs.set i v) (ds.set i d)
  | _, _, _, .nil => .nil
  | _, _, 0, .cons _ t => .cons r t
  | _, _, i + 1, .cons q t => .cons q (Reps.set r i t)
theorem Reps.take : ∀ {vs : List V} {ds : List D} (n : Nat), Reps K F ρ H vs ds → Reps K F ρ H (vs.take n) (ds.take n)
  | _, _, 0, _ => by simp only [List.take_zero]; exact .nil
  | _, _, n + 1, .nil => .nil
  | _, _, n + 1, .cons r t => .cons r (Reps.take n t)
theorem Reps.drop : ∀ {vs : List V} {ds : List D} (n : Nat), Reps K F ρ H vs ds → Reps K F ρ H (vs.drop n) (ds.drop n)
  | _, _, 0, h => h
  | _, _, n + 1, .nil => .nil
  | _, _, n + 1, .cons r t => Reps.drop n t
theorem Reps.erase : ∀ {vs : List V} {ds : List D} (n : Nat), Reps K F ρ H vs ds → Reps K F ρ H (vs.eraseIdx n) (ds.eraseIdx n)
  | _, _, 0, .nil => .nil
  | _, _, 0, .cons _ t => t
  | _, _, n + 1, .nil => .nil
  | _, _, n + 1, .cons r t => .cons r (Reps.erase n t)
theorem Reps.snoc {vs : List V} {ds : List D} {v : V} {d : D} (h : Reps K F ρ H vs ds) (r : Rep K F ρ H v d) : Reps K F ρ H (vs ++ [v]) (ds ++ [d]) := h.append (.cons r .nil)
theorem Reps.cutV {vs : List V} {ds : List D} (h : Reps K F ρ H vs ds) (lo hi : Option Int) : Reps K F ρ H (L2.cutV vs lo hi) (cutD ds lo hi) := by
  unfold L2.cutV cutD
  rw [h.length]
  exact (h.drop _).take _
end

mutual
/-- data that may be a key -/
def keyN : D → Option NestedKey
  | .non => some .none
  | .int i => some (.num i)
  | .str x => some (.text x)
  | .tup ds => (keysN ds).map .tup
  | _ => none
def keysN : List D → Option (List NestedKey)
  | [] => some []
  | d :: ds => match keyN d, keysN ds with
    | some k, some ks => some (k :: ks)
    | _, _ => none
end
/-- a dict with these entries and no others -/
def datAt (a : Addr) (L : List DictEntry) : HO := .ext fun h => (a == sysModules) = false ∧ L.length ≤ sizeLine ∧ ∃ o es ep, h.get? a = some o ∧ o.ExactDict ∧ o.data = .dict es ep ∧ es.toList = L
inductive EntR (w : World) : List DictEntry → List V → List V → List D → List NestedKey → Prop
  | nil : EntR w [] [] [] [] []
  | cons {e : DictEntry} {kv vv : V} {kd : D} {nk : NestedKey} {L : List DictEntry} {ks vs : List V} {ds : List D} {ns : List NestedKey} : keyN kd = some nk → nk.depth ≤ 8 → e.hash = nk.hash w → RelV kv e.key → RelV vv e.val → EntR w L ks vs ds ns →
    EntR w (e :: L) (kv :: ks) (vv :: vs) (kd :: ds) (nk :: ns)
def DatR (K : PySem.W.Frag) (w : World) (F ρ : List Addr) (H : Hp) (L : List DictEntry) (kvs : List (D × D)) : Prop :=
  ∃ ks vs ns, EntR w L ks vs (kvs.map (·.1)) ns ∧ ns.Nodup ∧ Reps K F ρ H ks (kvs.map (·.1)) ∧ Reps K F ρ H vs (kvs.map (·.2))
/-- an object of the store -/
def ObR (K : PySem.W.Frag) (G : SCtx) (F ρ : List Addr) (H : Hp) (a : Addr) : Ob → Prop
  | .lst ds => ∃ vs, H a = some (.lst vs) ∧ Reps K F ρ H vs ds
  | .dic kvs => ∃ ws : List (Key × V), H a = some (.dK ws) ∧ ws.map (·.1) = kvs.map (·.1) ∧ Reps K F ρ H (ws.map (·.2)) (kvs.map (·.2))
  | .ins c fs => ∃ (dx : Addr) (ws : List (Str × V)), H a = some (.ins (G.adr c) dx ws) ∧ ws.map (·.1) = (G.fl c).take fs.length ∧ Reps K F ρ H (ws.map (·.2)) fs
  | .dat kvs => ∃ L, H a = some (datAt a L) ∧ DatR K G.w F ρ H L kvs
  | .frd kvs => ∃ od L, H a = some (.frz od (datAt a L)) ∧ DatR K G.w F ρ H L kvs
structure SRel (K : PySem.W.Frag) (G : SCtx) (F ρ : List Addr) (H : Hp) (s : Sto) : Prop where
  nod : ρ.Nodup
  dis : ∀ a ∈ ρ, a ∉ F
  trk : ∀ a ∈ F, H a ≠ none
  len : ρ.length = s.length
  obs : ∀ (n : Nat) (a : Addr) (o : Ob), ρ[n]? = some a → s[n]? = some o → ObR K G F ρ H a o
section
variable {K : PySem.W.Frag} {G : SCtx} {F ρ ρ1 : List Addr} {H H1 : Hp} {s s1 : Sto}
theorem ObR.there {a : Addr} {o : Ob} (h : ObR K G F ρ H a o) : ∃ u, H a = some u := by
  cases o with
  | lst => obtain ⟨_, e, _⟩ := h; exact ⟨_, e⟩
  | dic => obtain ⟨_, e, _⟩ := h; exact ⟨_, e⟩
  | dat => obtain ⟨_, e, _⟩ := h; exact ⟨_, e⟩
  | frd => obtain ⟨_, _, e, _⟩ := h; exact ⟨_, e⟩
  | ins => obtain ⟨_, _, e, _⟩ := h; exact ⟨_, e⟩
theorem SRel.at (h : SRel K G F ρ H s) {n : Nat} {o : Ob} (e : s[n]? = some o) : ∃ a, ρ[n]? = some a ∧ ObR K G F ρ H a o := by
  have hn : n < ρ.length := by rw [h.len]; exact (List.getElem?_eq_some_iff.mp e).1
  exact ⟨ρ[n], by simp [hn], h.obs n _ o (by simp [hn]) e⟩
theorem SRel.of (h : SRel K G F ρ H s) {n : Nat} {a : Addr} (e : ρ[n]? = some a) : ∃ o, s[n]? = some o ∧ ObR K G F ρ H a o := by
  have hn : n < s.length := by rw [← h.len]; exact (List.getElem?_eq_some_iff.mp e).1
  exact ⟨s[n], by simp [hn], h.obs n a _ e (by simp [hn])⟩
theorem SRel.tracked (h : SRel K G F ρ H s) {a : Addr} (ha : a ∈ ρ) : ∃ u, H a = some u := by
  obtain ⟨n, hn⟩ := List.getElem?_of_mem ha
  obtain ⟨o, _, r⟩ := h.of hn
  exact r.there
theorem SRel.fresh (h : SRel K G F ρ H s) {p : Addr} (hp : H p = none) : p ∉ F ∧ p ∉ ρ := by
  refine ⟨fun z => h.trk p z hp, fun z => ?_⟩
  obtain ⟨u, e⟩ := h.tracked z
  rw [hp] at e; cases e
theorem ObR.ext0 (e : Ext0 ρ H ρ1 H1) {a : Addr} {o : Ob} (h : ObR K G F ρ H a o) (same : H1 a = H a) : ObR K G F ρ1 H1 a o := by
  cases o with
  | lst => obtain ⟨vs, x, r⟩ := h; exact ⟨vs, same.trans x, r.ext0 e⟩
  | dic => obtain ⟨vs, x, k, r⟩ := h; exact ⟨vs, same.trans x, k, r.ext0 e⟩
  | dat => obtain ⟨L, x, ks, vs, ns, h1, h2, r1, r2⟩ := h; exact ⟨L, same.trans x, ks, vs, ns, h1, h2, r1.ext0 e, r2.ext0 e⟩
  | frd => obtain ⟨od, L, x, ks, vs, ns, h1, h2, r1, r2⟩ := h; exact ⟨od, L, same.trans x, ks, vs, ns, h1, h2, r1.ext0 e, r2.ext0 e⟩
  | ins => obtain ⟨dx, ws, x, k, r⟩ := h; exact ⟨dx, ws, same.trans x, k, r.ext0 e⟩
/-- a new thing that is not of ρ -/
theorem Ext0.new (ρ : List Addr) {H : Hp} {p : Addr} {o : HO} (hp : H p = none) : Ext0 ρ H ρ (upd H p o) :=
  ⟨⟨[], by simp, by simp⟩, fun a u h _ => by rw [upd_ne (ne_of_none h hp)]; exact h, fun a h => by
    by_cases q : a = p
    · subst q; exact absurd hp h
    · rw [upd_ne q]; exact h⟩
theorem SRel.new (h : SRel K G F ρ H s) {p : Addr} {o : HO} (hp : H p = none) : SRel K G F ρ (upd H p o) s :=
  ⟨h.nod, h.dis, fun a ha => (Ext0.new ρ hp).mono a (h.trk a ha), h.len, fun n a o h1 h2 => (h.obs n a o h1 h2).ext0 (Ext0.new ρ hp) (by
    obtain ⟨u, e⟩ := (h.obs n a o h1 h2).there
    rw [upd_ne (ne_of_none e hp)])⟩
/-- a new thing of ρ -/
theorem Ext0.alloc (ρ : List Addr) {H : Hp} {p : Addr} {o : HO} (hp : H p = none) : Ext0 ρ H (ρ ++ [p]) (upd H p o) :=
  ⟨⟨[p], rfl, by simp [hp]⟩, (Ext0.new ρ hp).keep, (Ext0.new ρ hp).mono⟩
theorem SRel.alloc (h : SRel K G F ρ H s) {p : Addr} {o : HO} {b : Ob} (hp : H p = none) (hb : ObR K G F (ρ ++ [p]) (upd H p o) p b) : SRel K G F (ρ ++ [p]) (upd H p o) (s ++ [b]) := by
  have fr := h.fresh hp
  refine ⟨?_, ?_, fun a ha => (Ext0.new ρ hp).mono a (h.trk a ha), by simp [h.len], fun n a o' h1 h2 => ?_⟩
  · rw [List.nodup_append]
    exact ⟨h.nod, by simp, fun a ha b hb => by
      simp at hb; subst hb
      exact fun z => fr.2 (z ▸ ha)⟩
  · intro a ha
    rcases List.mem_append.mp ha with q | q
    · exact h.dis a q
    · simp at q; subst q; exact fr.1
  · by_cases hn : n < ρ.length
    · rw [List.getElem?_append_left hn] at h1
      rw [List.getElem?_append_left (by rw [← h.len]; exact hn)] at h2
      refine (h.obs n a o' h1 h2).ext0 (Ext0.alloc ρ hp) ?_
      obtain ⟨u, e⟩ := (h.obs n a o' h1 h2).there
      rw [upd_ne (ne_of_none e hp)]
    · rw [List.getElem?_append_right (by omega)] at h1
      rw [List.getElem?_append_right (by rw [← h.len]; omega), ← h.len] at h2
      have e0 : n - ρ.length = 0 := by
        rcases Nat.eq_zero_or_pos (n - ρ.length) with z | z
        · exact z
        · rw [List.getElem?_eq_none (by simp; omega)] at h1; cases h1
      rw [e0] at h1 h2
      simp at h1 h2
      subst h1 h2
      exact hb
/-- a thing of ρ is changed -/
theorem Ext0.put {ρ : List Addr} {H : Hp} {a : Addr} {o : HO} (ha : a ∈ ρ) : Ext0 ρ H ρ (upd H a o) :=
  ⟨⟨[], by simp, by simp⟩, fun b u h hb => by rw [upd_ne (fun z => hb (by rw [z]; exact ha))]; exact h, fun b h => by
    by_cases q : b = a
    · subst q; rw [upd_same]; simp
    · rw [upd_ne q]; exact h⟩
theorem SRel.put (h : SRel K G F ρ H s) {n : Nat} {a : Addr} {o : HO} {b : Ob} (hn : ρ[n]? = some a) (hb : ObR K G F ρ (upd H a o) a b) : SRel K G F ρ (upd H a o) (s.set n b) := by
  have ha : a ∈ ρ := List.mem_of_getElem? hn
  refine ⟨h.nod, h.dis, fun c hc => (Ext0.put ha).mono c (h.trk c hc), by simp [h.len], fun m c o' h1 h2 => ?_⟩
  by_cases q : n = m
  · subst q
    rw [hn] at h1; cases h1
    have hl : n < s.length := by rw [← h.len]; exact (List.getElem?_eq_some_iff.mp hn).1
    rw [List.getElem?_set_self hl] at h2
    cases h2
    exact hb
  · rw [List.getElem?_set_ne q] at h2
    refine (h.obs m c o' h1 h2).ext0 (Ext0.put ha) (upd_ne fun z => ?_)
    subst z
    exact q ((List.getElem?_inj (List.getElem?_eq_some_iff.mp hn).1 h.nod).mp (hn.trans h1.symm))
/-- .. and what is locked stays as it is -/
structure Ext (ρ : List Addr) (H : Hp) (ρ' : List Addr) (H' : Hp) : Prop extends Ext0 ρ H ρ' H' where
  frz : ∀ a od u, H a = some (.frz od u) → H' a = some (.frz od u)
theorem Ext.refl (ρ : List Addr) (H : Hp) : Ext ρ H ρ H := ⟨Ext0.refl ρ H, fun _ _ _ h => h⟩
theorem Ext.trans {ρ ρ1 ρ2 : List Addr} {H H1 H2 : Hp} (a : Ext ρ H ρ1 H1) (b : Ext ρ1 H1 ρ2 H2) : Ext ρ H ρ2 H2 := ⟨a.toExt0.trans b.toExt0, fun x od u h => b.frz x od u (a.frz x od u h)⟩
theorem Ext.new (ρ : List Addr) {H : Hp} {p : Addr} {o : HO} (hp : H p = none) : Ext ρ H ρ (upd H p o) := ⟨Ext0.new ρ hp, fun a od u h => by rw [upd_ne (ne_of_none h hp)]; exact h⟩
theorem Ext.alloc (ρ : List Addr) {H : Hp} {p : Addr} {o : HO} (hp : H p = none) : Ext ρ H (ρ ++ [p]) (upd H p o) := ⟨Ext0.alloc ρ hp, (Ext.new ρ hp).frz⟩
theorem nf {H : Hp} {a : Addr} {u : HO} (h : H a = some u) (hu : ∀ od v, u ≠ .frz od v := by exact fun _ _ z => nomatch z) : ∀ od v, H a ≠ some (.frz od v) := fun od v z => hu od v (by rw [h] at z; cases z; rfl)
theorem Ext.put {ρ : List Addr} {H : Hp} {a : Addr} {o : HO} (ha : a ∈ ρ) (hf : ∀ od u, H a ≠ some (.frz od u)) : Ext ρ H ρ (upd H a o) :=
  ⟨Ext0.put ha, fun b od u h => by rw [upd_ne (fun z => hf od u (by rw [← z]; exact h))]; exact h⟩
theorem Rd.ext {ρ ρ1 : List Addr} {H H1 : Hp} (e : Ext ρ H ρ1 H1) {a : Addr} {u : HO} (h : Rd H a u) (hx : a ∉ ρ) : Rd H1 a u := Rd.ext0 e.toExt0 h hx
theorem TupAt.ext {K : PySem.W.Frag} {F ρ ρ1 : List Addr} {H H1 : Hp} (e : Ext ρ H ρ1 H1) {a : Addr} {vs : List V} (h : TupAt K F ρ H a vs) : TupAt K F ρ1 H1 a vs := h.ext0 e.toExt0
theorem LstAt.ext {F ρ ρ1 : List Addr} {H H1 : Hp} (e : Ext ρ H ρ1 H1) {a : Addr} {vs : List V} (h : LstAt F ρ H a vs) : LstAt F ρ1 H1 a vs := h.ext0 e.toExt0
theorem ScrAt.ext {K : PySem.W.Frag} {F ρ ρ1 : List Addr} {H H1 : Hp} (e : Ext ρ H ρ1 H1) {a : Addr} {vs : List V} (h : ScrAt K F ρ H a vs) : ScrAt K F ρ1 H1 a vs := h.ext0 e.toExt0
theorem Rep.ext {K : PySem.W.Frag} {F ρ ρ1 : List Addr} {H H1 : Hp} (e : Ext ρ H ρ1 H1) {d : D} {v : V} (r : Rep K F ρ H v d) : Rep K F ρ1 H1 v d := r.ext0 e.toExt0
theorem Reps.ext {K : PySem.W.Frag} {F ρ ρ1 : List Addr} {H H1 : Hp} (e : Ext ρ H ρ1 H1) {ds : List D} {vs : List V} (r : Reps K F ρ H vs ds) : Reps K F ρ1 H1 vs ds := r.ext0 e.toExt0
theorem ObR.ext {K : PySem.W.Frag} {G : SCtx} {F ρ ρ1 : List Addr} {H H1 : Hp} (e : Ext ρ H ρ1 H1) {a : Addr} {o : Ob} (h : ObR K G F ρ H a o) (same : H1 a = H a) : ObR K G F ρ1 H1 a o := h.ext0 e.toExt0 same
theorem SRel.inn (h : SRel K G F ρ H s) : SRel K G (F ++ ρ) [] H [] := ⟨by simp, by simp, fun a ha => by
  rcases List.mem_append.mp ha with q | q
  · exact h.trk a q
  · obtain ⟨u, e⟩ := h.tracked q
    rw [e]; simp, rfl, by simp⟩
/-- behind a def on a store of its own: ours is as it was -/
theorem Ext.out {F ρ ρ1 : List Addr} {H H1 : Hp} (e : Ext [] H ρ1 H1) : Ext ρ H ρ H1 := ⟨⟨⟨[], by simp, by simp⟩, fun a o h _ => e.keep a o h (by simp), e.mono⟩, e.frz⟩
theorem SRel.out (h : SRel K G F ρ H s) (e : Ext [] H ρ1 H1) : SRel K G F ρ H1 s :=
  ⟨h.nod, h.dis, fun a ha => e.mono a (h.trk a ha), h.len, fun n a o h1 h2 => (h.obs n a o h1 h2).ext (Ext.out (F := F) e) (by
    obtain ⟨u, q⟩ := (h.obs n a o h1 h2).there
    rw [q]; exact e.keep a u q (by simp))⟩
end

section
variable {K : PySem.W.Frag} {G : SCtx} {F F' ρ : List Addr} {H : Hp} {s : Sto}
theorem ObR.toF (c : ∀ a ∈ F', a ∈ F ∨ H a = none) {a : Addr} {o : Ob} (h : ObR K G F ρ H a o) : ObR K G F' ρ H a o := by
  cases o with
  | lst => obtain ⟨vs, x, r⟩ := h; exact ⟨vs, x, r.toF c⟩
  | dic => obtain ⟨vs, x, k, r⟩ := h; exact ⟨vs, x, k, r.toF c⟩
  | dat => obtain ⟨L, x, ks, vs, ns, h1, h2, r1, r2⟩ := h; exact ⟨L, x, ks, vs, ns, h1, h2, r1.toF c, r2.toF c⟩
  | frd => obtain ⟨od, L, x, ks, vs, ns, h1, h2, r1, r2⟩ := h; exact ⟨od, L, x, ks, vs, ns, h1, h2, r1.toF c, r2.toF c⟩
  | ins => obtain ⟨dx, ws, x, k, r⟩ := h; exact ⟨dx, ws, x, k, r.toF c⟩
theorem SRel.subF (c : ∀ a ∈ F', a ∈ F) (h : SRel K G F ρ H s) : SRel K G F' ρ H s :=
  ⟨h.nod, fun a ha z => h.dis a ha (c a z), fun a ha => h.trk a (c a ha), h.len, fun n a o h1 h2 => (h.obs n a o h1 h2).toF fun b hb => .inl (c b hb)⟩
theorem SRel.addF {p : Addr} {u : HO} (hp : H p = none) (h : SRel K G F ρ H s) : SRel K G (p :: F) ρ (upd H p u) s := by
  have h' := h.new (o := u) hp
  refine ⟨h.nod, fun a ha z => ?_, fun a ha => ?_, h.len, fun n a o h1 h2 => ?_⟩
  · rcases List.mem_cons.mp z with q | q
    · subst q; exact (h.fresh hp).2 ha
    · exact h.dis a ha q
  · rcases List.mem_cons.mp ha with q | q
    · subst q; rw [upd_same]; simp
    · exact h'.trk a q
  · refine ((h.obs n a o h1 h2).toF (F' := p :: F) fun b hb => ?_).ext (Ext.new ρ hp) ?_
    · rcases List.mem_cons.mp hb with q | q
      · subst q; exact .inr hp
      · exact .inl q
    · obtain ⟨x, e⟩ := (h.obs n a o h1 h2).there
      rw [upd_ne (ne_of_none e hp)]
theorem SRel.updF {p : Addr} {u : HO} (hp : p ∈ F) (h : SRel K G F ρ H s) : SRel K G F ρ (upd H p u) s := by
  refine ⟨h.nod, h.dis, fun a ha => ?_, h.len, fun n a o h1 h2 => ?_⟩
  · by_cases q : a = p
    · subst q; rw [upd_same]; simp
    · rw [upd_ne q]; exact h.trk a ha
  · have ne : a ≠ p := fun z => h.dis a (List.mem_of_getElem? h1) (by rw [z]; exact hp)
    have q := h.obs n a o h1 h2
    cases o with
    | lst => obtain ⟨vs, x, r⟩ := q; exact ⟨vs, by rw [upd_ne ne]; exact x, r.updF hp⟩
    | dic => obtain ⟨vs, x, k, r⟩ := q; exact ⟨vs, by rw [upd_ne ne]; exact x, k, r.updF hp⟩
    | dat => obtain ⟨L, x, ks, vs, ns, h1, h2, r1, r2⟩ := q; exact ⟨L, by rw [upd_ne ne]; exact x, ks, vs, ns, h1, h2, r1.updF hp, r2.updF hp⟩
    | frd => obtain ⟨od, L, x, ks, vs, ns, h1, h2, r1, r2⟩ := q; exact ⟨od, L, by rw [upd_ne ne]; exact x, ks, vs, ns, h1, h2, r1.updF hp, r2.updF hp⟩
    | ins => obtain ⟨dx, ws, x, k, r⟩ := q; exact ⟨dx, ws, by rw [upd_ne ne]; exact x, k, r.updF hp⟩
/-- what was not tracked ahead may change -/
theorem Ext.updF {ρ1 : List Addr} {H1 : Hp} {p : Addr} {o : HO} (hp : H p = none) (e : Ext ρ H ρ1 H1) : Ext ρ H ρ1 (upd H1 p o) :=
  ⟨⟨e.pre, fun a u h hx => by rw [upd_ne (ne_of_none h hp)]; exact e.keep a u h hx, fun a h => by
    by_cases q : a = p
    · subst q; exact absurd hp h
    · rw [upd_ne q]; exact e.mono a h⟩, fun a od u h => by rw [upd_ne (ne_of_none h hp)]; exact e.frz a od u h⟩
end

/-- the slots -/
def EnvR (K : PySem.W.Frag) (F ρ : List Addr) (H : Hp) (σ : L2.St) (env : Env) : Prop := σ.length = env.length ∧ ∀ (i : Nat) (d : D), env[i]? = some (some d) → ∃ v, σ[i]? = some (some v) ∧ Rep K F ρ H v d
theorem EnvR.ext {K : PySem.W.Frag} {F ρ ρ1 : List Addr} {H H1 : Hp} {σ : L2.St} {env : Env} (e : Ext ρ H ρ1 H1) (h : EnvR K F ρ H σ env) : EnvR K F ρ1 H1 σ env :=
  ⟨h.1, fun i d q => let ⟨v, a, r⟩ := h.2 i d q; ⟨v, a, r.ext e⟩⟩
theorem EnvR.set {K : PySem.W.Frag} {F ρ : List Addr} {H : Hp} {σ : L2.St} {env : Env} (h : EnvR K F ρ H σ env) (i : Nat) {v : V} {d : D} (r : Rep K F ρ H v d) : EnvR K F ρ H (σ.set i (some v)) (env.set i (some d)) := by
  refine ⟨by simp [h.1], fun j e q => ?_⟩
  by_cases hij : i = j
  · subst hij
    have hl : i < env.length := by
      have := (List.getElem?_eq_some_iff.mp q).1
      simpa using this
    rw [List.getElem?_set_self hl] at q
    cases q
    exact ⟨v, List.getElem?_set_self (by rw [h.1]; exact hl), r⟩
  · rw [List.getElem?_set_ne hij] at q
    obtain ⟨w, a, b⟩ := h.2 j e q
    exact ⟨w, by rw [List.getElem?_set_ne hij]; exact a, b⟩
theorem EnvR.clear {K : PySem.W.Frag} {F ρ : List Addr} {H : Hp} {σ : L2.St} {env : Env} (h : EnvR K F ρ H σ env) (i : Nat) : EnvR K F ρ H (σ.set i none) (env.set i none) := by
  refine ⟨by simp [h.1], fun j e q => ?_⟩
  by_cases hij : i = j
  · subst hij
    have hl : i < env.length := by
      have := (List.getElem?_eq_some_iff.mp q).1
      simpa using this
    rw [List.getElem?_set_self hl] at q
    cases q
  · rw [List.getElem?_set_ne hij] at q
    obtain ⟨w, a, b⟩ := h.2 j e q
    exact ⟨w, by rw [List.getElem?_set_ne hij]; exact a, b⟩
theorem EnvR.wipe {K : PySem.W.Frag} {F ρ : List Addr} {H : Hp} {σ : L2.St} {env : Env} (h : EnvR K F ρ H σ env) : ∀ vs : List Nat, EnvR K F ρ H (L2.wipe σ vs) (wipeE env vs)
  | [] => h
  | v :: vs => (EnvR.wipe h vs).clear v

/-- what is to hold behind a run -/
def Pst (K : PySem.W.Frag) (G : SCtx) (F ρ : List Addr) (H : Hp) {α : Type} (r : R α) (N : α → Sto → List Addr → Hp → Prop) (E : Nat → Hp → Prop) : Prop := match r with
  | .ok a s' => ∀ ρ' H', Ext ρ H ρ' H' → SRel K G F ρ' H' s' → N a s' ρ' H'
  | .ex c s' => ∀ ρ' H', Ext ρ H ρ' H' → SRel K G F ρ' H' s' → E c H'
  | .no => False
section
variable {K : PySem.W.Frag} {G : SCtx} {F ρ : List Addr} {H : Hp} {s : Sto} {α β : Type} {E : Nat → Hp → Prop}
theorem Pst.imp {r : R α} {N N' : α → Sto → List Addr → Hp → Prop} {E' : Nat → Hp → Prop} (h : Pst K G F ρ H r N E) (i : ∀ a s' ρ' H', r = .ok a s' → Ext ρ H ρ' H' → SRel K G F ρ' H' s' → N a s' ρ' H' → N' a s' ρ' H') (j : ∀ c H', E c H' → E' c H') : Pst K G F ρ H r N' E' := by
  cases r with
  | ok a s' => exact fun ρ' H' e q => i a s' ρ' H' rfl e q (h ρ' H' e q)
  | ex c s' => exact fun ρ' H' e q => j c H' (h ρ' H' e q)
  | no => exact h
theorem Pst.bind {r : R α} {k : α → Sto → R β} {N : β → Sto → List Addr → Hp → Prop} (h : Pst K G F ρ H (r.bind k) N E) : Pst K G F ρ H r (fun a s' ρ' H' => Pst K G F ρ' H' (k a s') N E) E := by
  cases r with
  | ok a s' =>
    intro ρ' H' e q
    have h' : Pst K G F ρ H (k a s') N E := h
    cases z : k a s' with
    | ok b s2 => rw [z] at h'; exact fun ρ2 H2 e2 q2 => h' ρ2 H2 (e.trans e2) q2
    | ex c s2 => rw [z] at h'; exact fun ρ2 H2 e2 q2 => h' ρ2 H2 (e.trans e2) q2
    | no => rw [z] at h'; exact h'
  | ex c s' => exact h
  | no => exact h
theorem Pst.here {a : α} {N : α → Sto → List Addr → Hp → Prop} (h : Pst K G F ρ H (.ok a s) N E) (q : SRel K G F ρ H s) : N a s ρ H := h ρ H (Ext.refl ρ H) q
theorem Pst.off {o : Option α} {N : α → Sto → List Addr → Hp → Prop} (h : Pst K G F ρ H (R.of o s) N E) : ∃ a, o = some a ∧ Pst K G F ρ H (.ok a s) N E := by
  cases o with
  | some a => exact ⟨a, rfl, h⟩
  | none => exact h.elim
end

/-! ### the readings of plain meanings -/
abbrev eW (G : SCtx) (W : WX) (σ : L2.St) : Nat → Hp → Prop := fun c H' => W (.ref (G.adr c)) none σ H'
def tE (K : PySem.W.Frag) (G : SCtx) (W : WX) (f : EF) : TE := fun σ H Q => ∃ F ρ env s, EnvR K F ρ H σ env ∧ SRel K G F ρ H s ∧
  Pst K G F ρ H (f env s) (fun d _ ρ' H' => ∀ v, Rep K F ρ' H' v d → Q v H') (eW G W σ)
def tTT (K : PySem.W.Frag) (G : SCtx) (W : WX) (f : TF) : TT := fun σ H Q => ∃ F ρ env s, EnvR K F ρ H σ env ∧ SRel K G F ρ H s ∧
  Pst K G F ρ H (f env s) (fun b _ ρ' H' => Q b H') (eW G W σ)
def tA (K : PySem.W.Frag) (G : SCtx) (W : WX) (f : AF) : TA := fun σ H Q => ∃ F ρ env s, EnvR K F ρ H σ env ∧ SRel K G F ρ H s ∧
  Pst K G F ρ H (f env s) (fun ds _ ρ' H' => ∀ vs, Reps K F ρ' H' vs ds → Q vs H') (eW G W σ)
abbrev SE (X : Cx) (G : SCtx) (W : WX) (e : Expr) (f : EF) : Prop := PE X e (tE X.K G W f)
abbrev ST (X : Cx) (G : SCtx) (W : WX) (e : Expr) (f : TF) : Prop := PT X e (tTT X.K G W f)
abbrev SW (X : Cx) (G : SCtx) (W : WX) (e : Expr) (f : TF) : Prop := PW X e (tTT X.K G W f)
abbrev SA (X : Cx) (G : SCtx) (W : WX) (e : List Expr) (f : AF) : Prop := PA X e (tA X.K G W f)
theorem pe_imp {X : Cx} {e : Expr} {t t' : TE} (h : PE X e t) (i : ∀ σ H Q, t' σ H Q → t σ H Q) : PE X e t' := ⟨fun pins s σ H Q I q => h.run pins s σ H Q I (i σ H Q q)⟩
theorem pt_imp {X : Cx} {e : Expr} {t t' : TT} (h : PT X e t) (i : ∀ σ H Q, t' σ H Q → t σ H Q) : PT X e t' := ⟨fun pins s σ H Q I q => h.run pins s σ H Q I (i σ H Q q)⟩
theorem pw_imp {X : Cx} {e : Expr} {t t' : TT} (h : PW X e t) (i : ∀ σ H Q, t' σ H Q → t σ H Q) : PW X e t' := ⟨fun wh pins s σ H Q I q => h.run wh pins s σ H Q I (i σ H Q q)⟩
theorem pa_imp {X : Cx} {e : List Expr} {t t' : TA} (h : PA X e t) (i : ∀ σ H Q, t' σ H Q → t σ H Q) : PA X e t' := ⟨fun ps pins s σ H Q I q => h.run ps pins s σ H Q I (i σ H Q q)⟩
theorem ps_imp {X : Cx} {e : Stmt} {t t' : TS} (h : PS X e t) (i : ∀ D σ H, t' D σ H → t D σ H) : PS X e t' := ⟨fun pins s σ H D I q => h.run pins s σ H D I (i D σ H q)⟩
theorem pss_imp {X : Cx} {e : List Stmt} {t t' : TS} (h : PSs X e t) (i : ∀ D σ H, t' D σ H → t D σ H) : PSs X e t' := ⟨fun pins s σ H D I q => h.run pins s σ H D I (i D σ H q)⟩
/-- one of two readings -/
theorem pe_or2 {X : Cx} {e : Expr} {t t1 t2 : TE} (h1 : PE X e t1) (h2 : PE X e t2) (i : ∀ σ H Q, t σ H Q → t1 σ H Q ∨ t2 σ H Q) : PE X e t := ⟨fun pins s σ H Q I q => (i σ H Q q).elim (h1.run pins s σ H Q I) (h2.run pins s σ H Q I)⟩
section
variable {K : PySem.W.Frag} {G : SCtx} {W : WX} {F ρ : List Addr} {H : Hp} {s : Sto} {σ : L2.St} {env : Env} {β : Type} {N : β → Sto → List Addr → Hp → Prop}
/-- the first part, then the rest -/
theorem tE.step {f : EF} {k : D → Sto → R β} {Q : VK} (he : EnvR K F ρ H σ env) (hs : SRel K G F ρ H s) (hp : Pst K G F ρ H ((f env s).bind k) N (eW G W σ))
    (hq : ∀ d s1 ρ1 H1 v, f env s = .ok d s1 → EnvR K F ρ1 H1 σ env → SRel K G F ρ1 H1 s1 → Ext ρ H ρ1 H1 → Rep K F ρ1 H1 v d → Pst K G F ρ1 H1 (k d s1) N (eW G W σ) → Q v H1) : tE K G W f σ H Q :=
  ⟨F, ρ, env, s, he, hs, hp.bind.imp (fun d s1 ρ1 H1 hf e q h v r => hq d s1 ρ1 H1 v hf (he.ext e) q e r h) fun _ _ h => h⟩
theorem tTT.step {f : TF} {k : Bool → Sto → R β} {Q : Bool → Hp → Prop} (he : EnvR K F ρ H σ env) (hs : SRel K G F ρ H s) (hp : Pst K G F ρ H ((f env s).bind k) N (eW G W σ))
    (hq : ∀ d s1 ρ1 H1, f env s = .ok d s1 → EnvR K F ρ1 H1 σ env → SRel K G F ρ1 H1 s1 → Ext ρ H ρ1 H1 → Pst K G F ρ1 H1 (k d s1) N (eW G W σ) → Q d H1) : tTT K G W f σ H Q :=
  ⟨F, ρ, env, s, he, hs, hp.bind.imp (fun d s1 ρ1 H1 hf e q h => hq d s1 ρ1 H1 hf (he.ext e) q e h) fun _ _ h => h⟩
theorem tA.step {f : AF} {k : List D → Sto → R β} {Q : List V → Hp → Prop} (he : EnvR K F ρ H σ env) (hs : SRel K G F ρ H s) (hp : Pst K G F ρ H ((f env s).bind k) N (eW G W σ))
    (hq : ∀ d s1 ρ1 H1 v, f env s = .ok d s1 → EnvR K F ρ1 H1 σ env → SRel K G F ρ1 H1 s1 → Ext ρ H ρ1 H1 → Reps K F ρ1 H1 v d → Pst K G F ρ1 H1 (k d s1) N (eW G W σ) → Q v H1) : tA K G W f σ H Q :=
  ⟨F, ρ, env, s, he, hs, hp.bind.imp (fun d s1 ρ1 H1 hf e q h v r => hq d s1 ρ1 H1 v hf (he.ext e) q e r h) fun _ _ h => h⟩
end

/-! ### values -/
section
variable {X : Cx} {G : SCtx} {W : WX} {pos : Pos} {a b c : Expr} {f1 f2 f3 : EF} {t1 t2 : TF} {g1 g2 : AF} {es : List Expr}
theorem s_var (i : Nat) {x : Str} (hN : X.N[i]? = some x := by rfl) (hv : Vis X.env.scope x := by first | exact Or.inl rfl | exact Or.inr (Or.inl rfl) | exact Or.inr (Or.inr rfl)) (hd : (x == ("__debug__" : Str)) = false := by decide)
    (hcd : (x == ("__classdict__" : Str)) = false := by decide) : SE X G W (.Name x pos) (eVar i) := by
  refine pe_imp (pe_var hN hv hd hcd) fun σ H Q h => ?_
  obtain ⟨F, ρ, env, s, he, hs, hp⟩ := h
  simp only [eVar] at hp
  split at hp
  · rename_i d hd
    obtain ⟨v, hv, r⟩ := he.2 i d hd
    exact ⟨v, hv, hp.here hs v r⟩
  · exact hp.elim
theorem s_c {e : Expr} {v : V} {d : D} (h : PE X e (tC v)) (r : ∀ F ρ H, Rep X.K F ρ H v d) : SE X G W e (eC d) := by
  refine pe_imp h fun σ H Q h => ?_
  obtain ⟨F, ρ, env, s, he, hs, hp⟩ := h
  exact hp.here hs v (r _ _ _)
theorem s_int {i : Int} {j : Nat} : SE X G W (.Constant (.int i) j pos) (eC (.int i)) := s_c pe_int fun _ _ _ => .int i
theorem s_bl {i : Bool} {j : Nat} : SE X G W (.Constant (.bool i) j pos) (eC (.bl i)) := s_c pe_bl fun _ _ _ => .bl i
theorem s_non {j : Nat} : SE X G W (.Constant .none j pos) (eC .non) := s_c pe_non fun _ _ _ => .non
theorem s_str {x : Str} {j : Nat} : SE X G W (.Constant (.str x) j pos) (eC (.str x)) := s_c pe_str fun _ _ _ => .str x
theorem s_glob {x : Str} {v : V} {u : Value} {d : D} (hg : Gl X x) (hm : X.mg x = some u) (r : RelV v u) (hr : ∀ F ρ H, Rep X.K F ρ H v d) (hd : (x == ("__debug__" : Str)) = false := by decide) : SE X G W (.Name x pos) (eC d) := s_c (pe_glob hg hm r hd) hr
theorem sa_nil : SA X G W [] aNil := pa_imp pa_nil fun σ H Q h => by
  obtain ⟨F, ρ, env, s, he, hs, hp⟩ := h
  exact hp.here hs [] .nil
theorem sa_cons {e : Expr} (he : SE X G W e f1) (hr : SA X G W es g1) (hst : starEach (e :: es) X.env = (false, eval e X.env) :: starEach es X.env := by rfl) : SA X G W (e :: es) (aCons f1 g1) := by
  refine pa_imp (pa_cons he hr hst) fun σ H Q h => ?_
  obtain ⟨F, ρ, env, s, he, hs, hp⟩ := h
  refine tE.step he hs hp fun d s1 ρ1 H1 v _ he1 hs1 e1 r1 hp1 => ?_
  refine tA.step he1 hs1 hp1 fun ds s2 ρ2 H2 vs _ he2 hs2 e2 r2 hp2 => ?_
  exact hp2.here hs2 _ (.cons (r1.ext e2) r2)
theorem lim {n : Nat} (h : n ≤ LIM) : n ≤ sizeLine := Nat.le_trans h (by decide)
theorem Rep.newT {K : PySem.W.Frag} {F ρ : List Addr} {H : Hp} {s : Sto} (hs : SRel K G F ρ H s) {p : Addr} (hp : H p = none) {vs : List V} {ds : List D} (r : Reps K F ρ H vs ds) : Rep K F ρ (upd H p (.tup vs)) (.ref p) (.tup ds) :=
  .tup (.inl ⟨.inl upd_same, (hs.fresh hp).1, (hs.fresh hp).2⟩) (r.ext (Ext.new ρ hp))
theorem Rep.newL {K : PySem.W.Frag} {F ρ : List Addr} {H : Hp} {s : Sto} (hs : SRel K G F ρ H s) {p : Addr} (hp : H p = none) {vs : List V} {ds : List D} (r : Reps K F ρ H vs ds) : Rep K F ρ (upd H p (.lst vs)) (.ref p) (.lst ds) :=
  .lst ⟨upd_same, (hs.fresh hp).1, (hs.fresh hp).2⟩ (r.ext (Ext.new ρ hp))
theorem SRel.newR {K : PySem.W.Frag} {F ρ : List Addr} {H : Hp} {s : Sto} (hs : SRel K G F ρ H s) {p : Addr} (hp : H p = none) {vs : List V} {ds : List D} (r : Reps K F ρ H vs ds) :
    SRel K G F (ρ ++ [p]) (upd H p (.lst vs)) (s ++ [.lst ds]) ∧ Rep K F (ρ ++ [p]) (upd H p (.lst vs)) (.ref p) (.ref s.length) := by
  refine ⟨hs.alloc hp ⟨vs, upd_same, r.ext (Ext.alloc ρ hp)⟩, .ref ?_⟩
  rw [← hs.len]; simp
theorem s_tup {k : Nat} (h : SA X G W es g1) : SE X G W (.Tuple es k pos) (eTup g1) := by
  refine pe_imp (pe_tup h) fun σ H Q h => ?_
  obtain ⟨F, ρ, env, s, he, hs, hp⟩ := h
  refine tA.step he hs hp fun ds s1 ρ1 H1 vs _ he1 hs1 e1 r1 hp1 => ?_
  split at hp1
  · rename_i hl
    exact ⟨by rw [r1.length]; exact lim hl, fun p hpn => hp1 _ _ (Ext.new ρ1 hpn) (hs1.new hpn) _ (Rep.newT hs1 hpn r1)⟩
  · exact hp1.elim
theorem s_lst (h : SA X G W es g1) : SE X G W (.List es pos) (eLst g1) := by
  refine pe_imp (pe_lst h) fun σ H Q h => ?_
  obtain ⟨F, ρ, env, s, he, hs, hp⟩ := h
  refine tA.step he hs hp fun ds s1 ρ1 H1 vs _ he1 hs1 e1 r1 hp1 => ?_
  split at hp1
  · rename_i hl
    exact ⟨by rw [r1.length]; exact lim hl, fun p hpn => hp1 _ _ (Ext.new ρ1 hpn) (hs1.new hpn) _ (Rep.newL hs1 hpn r1)⟩
  · exact hp1.elim
theorem s_newL (h : SA X G W es g1) : SE X G W (.List es pos) (eNewL g1) := by
  refine pe_imp (pe_lst h) fun σ H Q h => ?_
  obtain ⟨F, ρ, env, s, he, hs, hp⟩ := h
  refine tA.step he hs hp fun ds s1 ρ1 H1 vs _ he1 hs1 e1 r1 hp1 => ?_
  split at hp1
  · rename_i hl
    exact ⟨by rw [r1.length]; exact lim hl, fun p hpn => hp1 _ _ (Ext.alloc ρ1 hpn) (hs1.newR hpn r1).1 _ (hs1.newR hpn r1).2⟩
  · exact hp1.elim

/-! ### operators -/
/-- a two-place rule does what g says -/
def Sim2 (K : PySem.W.Frag) (r : R2) (g : Sto → D → D → Option D) : Prop := ∀ (G : SCtx) (F ρ : List Addr) (H : Hp) (s : Sto) (x y : V) (a b d : D) (Q : VK), SRel K G F ρ H s → Rep K F ρ H x a → Rep K F ρ H y b → g s a b = some d →
  (∀ H' v, Ext ρ H ρ H' → SRel K G F ρ H' s → Rep K F ρ H' v d → Q v H') → r x y H Q
theorem s_op {op : Operator} {r : R2} {g : Sto → D → D → Option D} (ho : OpR X (binaryOp op) r) (hg : Sim2 X.K r g) (ha : SE X G W a f1) (hb : SE X G W b f2) : SE X G W (.BinOp a op b pos) (eOp g f1 f2) := by
  refine pe_imp (pe_op ho ha hb) fun σ H Q h => ?_
  obtain ⟨F, ρ, env, s, he, hs, hp⟩ := h
  refine tE.step he hs hp fun d s1 ρ1 H1 v _ he1 hs1 e1 r1 hp1 => ?_
  refine tE.step he1 hs1 hp1 fun d' s2 ρ2 H2 v' _ he2 hs2 e2 r2 hp2 => ?_
  obtain ⟨z, hz, hp3⟩ := hp2.off
  exact hg G F ρ2 H2 s2 v v' d d' z Q hs2 (r1.ext e2) r2 hz fun H' w e q rr => hp3 _ H' e q w rr
theorem s_cmp {op : CmpOp} {r : R2} {g : Sto → D → D → Option D} (ho : OpR X (compareOp op) r) (hg : Sim2 X.K r g) (ha : SE X G W a f1) (hb : SE X G W b f2) (hm : behindInMarks op b = false) : SE X G W (.Compare a [op] [b] pos) (eOp g f1 f2) := by
  refine pe_imp (pe_cmpR ho ha hb hm) fun σ H Q h => ?_
  obtain ⟨F, ρ, env, s, he, hs, hp⟩ := h
  refine tE.step he hs hp fun d s1 ρ1 H1 v _ he1 hs1 e1 r1 hp1 => ?_
  refine tE.step he1 hs1 hp1 fun d' s2 ρ2 H2 v' _ he2 hs2 e2 r2 hp2 => ?_
  obtain ⟨z, hz, hp3⟩ := hp2.off
  exact hg G F ρ2 H2 s2 v v' d d' z Q hs2 (r1.ext e2) r2 hz fun H' w e q rr => hp3 _ H' e q w rr
theorem st_cmp {op : CmpOp} {r : R2} {g : Sto → D → D → Option D} (ho : OpR X (compareOp op) r) (hg : Sim2 X.K r g) (ha : SE X G W a f1) (hb : SE X G W b f2) (hm : behindInMarks op b = false) : ST X G W (.Compare a [op] [b] pos) (tV (eOp g f1 f2)) := by
  refine pt_imp (pt_cmpR ho ha hb hm) fun σ H Q h => ?_
  obtain ⟨F, ρ, env, s, he, hs, hp⟩ := h
  have hp' : Pst X.K G F ρ H ((f1 env s).bind fun a s1 => (f2 env s1).bind fun b s2 => (R.of (g s2 a b) s2).bind fun d s1 => match d with | .bl b => R.ok b s1 | _ => .no) (fun b _ ρ' H' => Q b H') (eW G W σ) := by
    have e : (tV (eOp g f1 f2)) env s = ((f1 env s).bind fun a s1 => (f2 env s1).bind fun b s2 => (R.of (g s2 a b) s2).bind fun d s1 => match d with | .bl b => R.ok b s1 | _ => .no) := by
      simp only [tV, eOp]
      cases f1 env s with
      | ok a s1 => simp only [R.bind]; cases f2 env s1 <;> rfl
      | ex => rfl
      | no => rfl
    rw [← e]; exact hp
  refine tE.step he hs hp' fun d s1 ρ1 H1 v _ he1 hs1 e1 r1 hp1 => ?_
  refine tE.step he1 hs1 hp1 fun d' s2 ρ2 H2 v' _ he2 hs2 e2 r2 hp2 => ?_
  cases hz : g s2 d d' with
  | none => rw [hz] at hp2; exact hp2.elim
  | some z =>
    rw [hz] at hp2
    refine hg G F ρ2 H2 s2 v v' d d' z _ hs2 (r1.ext e2) r2 hz fun H' w e q rr => ?_
    cases rr with
    | bl k => exact ⟨k, rfl, hp2 _ H' e q⟩
    | non => exact hp2.elim
    | int => exact hp2.elim
    | str => exact hp2.elim
    | tup => exact hp2.elim
    | lst => exact hp2.elim
    | ref => exact hp2.elim
    | scr => exact hp2.elim
    | ntp => exact hp2.elim
/-- a value's test -/
theorem st_val {e : Expr} (h : SE X G W e f1) (he : ∀ whole, isTrue e X.env whole = (do let v ← whole; standAt e.pos; holding [v] (truthy v)) := by intro _; rfl) : ST X G W e (tV f1) := by
  refine pt_imp (pt_val h he) fun σ H Q h => ?_
  obtain ⟨F, ρ, env, s, he, hs, hp⟩ := h
  refine tE.step he hs hp fun d s1 ρ1 H1 v _ he1 hs1 e1 r1 hp1 => ?_
  cases r1 with
  | bl k => exact ⟨k, rfl, hp1.here hs1⟩
  | non => exact hp1.elim
  | int => exact hp1.elim
  | str => exact hp1.elim
  | tup => exact hp1.elim
  | lst => exact hp1.elim
  | ref => exact hp1.elim
  | scr => exact hp1.elim
  | ntp => exact hp1.elim
theorem st_not (h : ST X G W a t1) : ST X G W (.UnaryOp .Not a pos) (Sx.tNot t1) := by
  refine pt_imp (pt_not h) fun σ H Q h => ?_
  obtain ⟨F, ρ, env, s, he, hs, hp⟩ := h
  exact tTT.step he hs hp fun d s1 ρ1 H1 _ he1 hs1 e1 hp1 => hp1.here hs1
theorem sw_and1 (h : ST X G W a t1) : SW X G W (.BoolOp .And [a] pos) t1 := pw_and1 h
theorem sw_or1 (h : ST X G W a t1) : SW X G W (.BoolOp .Or [a] pos) t1 := pw_or1 h
theorem sw_and {rest : List Expr} (h : ST X G W a t1) (h2 : SW X G W (.BoolOp .And (b :: rest) pos) t2) : SW X G W (.BoolOp .And (a :: b :: rest) pos) (Sx.tAnd t1 t2) := by
  refine pw_imp (pw_and h h2) fun σ H Q h => ?_
  obtain ⟨F, ρ, env, s, he, hs, hp⟩ := h
  refine tTT.step he hs hp fun d s1 ρ1 H1 _ he1 hs1 e1 hp1 => ?_
  cases d with
  | true => exact iteT ⟨F, ρ1, env, s1, he1, hs1, hp1⟩
  | false => exact iteF (hp1.here hs1)
theorem sw_or {rest : List Expr} (h : ST X G W a t1) (h2 : SW X G W (.BoolOp .Or (b :: rest) pos) t2) : SW X G W (.BoolOp .Or (a :: b :: rest) pos) (Sx.tOr t1 t2) := by
  refine pw_imp (pw_or h h2) fun σ H Q h => ?_
  obtain ⟨F, ρ, env, s, he, hs, hp⟩ := h
  refine tTT.step he hs hp fun d s1 ρ1 H1 _ he1 hs1 e1 hp1 => ?_
  cases d with
  | true => exact iteT (hp1.here hs1)
  | false => exact iteF ⟨F, ρ1, env, s1, he1, hs1, hp1⟩
theorem st_w {e : Expr} (h : SW X G W e t1) : ST X G W e t1 := h.pt
theorem s_one {op : BoolOp} (h : SE X G W a f1) : SE X G W (.BoolOp op [a] pos) f1 := pe_one h
theorem s_and {rest : List Expr} (h : SE X G W a f1) (h2 : SE X G W (.BoolOp .And (b :: rest) pos) f2) : SE X G W (.BoolOp .And (a :: b :: rest) pos) (eAnd f1 f2) := by
  refine pe_imp (pe_and h h2) fun σ H Q h => ?_
  obtain ⟨F, ρ, env, s, he, hs, hp⟩ := h
  refine tE.step he hs hp fun d s1 ρ1 H1 v _ he1 hs1 e1 r1 hp1 => ?_
  cases r1 with
  | bl k =>
    cases k with
    | true => exact ⟨true, rfl, iteT ⟨F, ρ1, env, s1, he1, hs1, hp1⟩⟩
    | false => exact ⟨false, rfl, iteF (hp1.here hs1 _ (.bl false))⟩
  | non => exact hp1.elim
  | int => exact hp1.elim
  | str => exact hp1.elim
  | tup => exact hp1.elim
  | lst => exact hp1.elim
  | ref => exact hp1.elim
  | scr => exact hp1.elim
  | ntp => exact hp1.elim
theorem s_or {rest : List Expr} (h : SE X G W a f1) (h2 : SE X G W (.BoolOp .Or (b :: rest) pos) f2) : SE X G W (.BoolOp .Or (a :: b :: rest) pos) (eOr f1 f2) := by
  refine pe_imp (pe_or h h2) fun σ H Q h => ?_
  obtain ⟨F, ρ, env, s, he, hs, hp⟩ := h
  refine tE.step he hs hp fun d s1 ρ1 H1 v _ he1 hs1 e1 r1 hp1 => ?_
  cases r1 with
  | bl k =>
    cases k with
    | true => exact ⟨true, rfl, iteT (hp1.here hs1 _ (.bl true))⟩
    | false => exact ⟨false, rfl, iteF ⟨F, ρ1, env, s1, he1, hs1, hp1⟩⟩
  | non => exact hp1.elim
  | int => exact hp1.elim
  | str => exact hp1.elim
  | tup => exact hp1.elim
  | lst => exact hp1.elim
  | ref => exact hp1.elim
  | scr => exact hp1.elim
  | ntp => exact hp1.elim
theorem s_not (h : SE X G W a f1) : SE X G W (.UnaryOp .Not a pos) (eNot f1) := by
  refine pe_imp (pe_not h) fun σ H Q h => ?_
  obtain ⟨F, ρ, env, s, he, hs, hp⟩ := h
  refine tE.step he hs hp fun d s1 ρ1 H1 v _ he1 hs1 e1 r1 hp1 => ?_
  cases r1 with
  | bl k => exact ⟨k, rfl, hp1.here hs1 _ (.bl _)⟩
  | non => exact hp1.elim
  | int => exact hp1.elim
  | str => exact hp1.elim
  | tup => exact hp1.elim
  | lst => exact hp1.elim
  | ref => exact hp1.elim
  | scr => exact hp1.elim
  | ntp => exact hp1.elim
theorem s_if (ht : ST X G W c t1) (h1 : SE X G W a f1) (h2 : SE X G W b f2) : SE X G W (.IfExp c a b pos) (eIf t1 f1 f2) := by
  refine pe_imp (pe_ifExp ht h1 h2) fun σ H Q h => ?_
  obtain ⟨F, ρ, env, s, he, hs, hp⟩ := h
  refine tTT.step he hs hp fun d s1 ρ1 H1 _ he1 hs1 e1 hp1 => ?_
  cases d with
  | true => exact iteT ⟨F, ρ1, env, s1, he1, hs1, hp1⟩
  | false => exact iteF ⟨F, ρ1, env, s1, he1, hs1, hp1⟩
theorem s_isN {j : Nat} {pos' : Pos} (h : SE X G W a f1) : SE X G W (.Compare a [.Is] [.Constant .none j pos'] pos) (eIsN f1) := by
  refine pe_imp (pe_cmp (pc_isN h) rfl) fun σ H Q h => ?_
  obtain ⟨F, ρ, env, s, he, hs, hp⟩ := h
  refine tE.step he hs hp fun d s1 ρ1 H1 v _ he1 hs1 e1 r1 hp1 => ?_
  cases r1 <;> exact hp1.here hs1 _ (.bl _)
theorem s_notN {j : Nat} {pos' : Pos} (h : SE X G W a f1) : SE X G W (.Compare a [.IsNot] [.Constant .none j pos'] pos) (eNotN f1) := by
  refine pe_imp (pe_cmp (pc_notN h) rfl) fun σ H Q h => ?_
  obtain ⟨F, ρ, env, s, he, hs, hp⟩ := h
  refine tE.step he hs hp fun d s1 ρ1 H1 v _ he1 hs1 e1 r1 hp1 => ?_
  cases r1 <;> exact hp1.here hs1 _ (.bl _)
theorem s_chain {op op' : CmpOp} {r r' : R2} {g g' : Sto → D → D → Option D} (ho : OpR X (compareOp op) r) (hg : Sim2 X.K r g) (ho' : OpR X (compareOp op') r') (hg' : Sim2 X.K r' g') (ha : SE X G W a f1) (hb : SE X G W b f2) (hc : SE X G W c f3)
    (hm : lastMarks [op, op'] [b, c] = false := by with_unfolding_all rfl) : SE X G W (.Compare a [op, op'] [b, c] pos) (eChain g g' f1 f2 f3) := by
  refine pe_imp (pe_chain ho ho' ha hb hc hm) fun σ H Q h => ?_
  obtain ⟨F, ρ, env, s, he, hs, hp⟩ := h
  refine tE.step he hs hp fun d s1 ρ1 H1 v _ he1 hs1 e1 r1 hp1 => ?_
  refine tE.step he1 hs1 hp1 fun d' s2 ρ2 H2 v' _ he2 hs2 e2 r2 hp2 => ?_
  cases hz : g s2 d d' with
  | none => rw [hz] at hp2; exact hp2.elim
  | some z =>
    rw [hz] at hp2
    refine hg G F ρ2 H2 s2 v v' d d' z _ hs2 (r1.ext e2) r2 hz fun H' w e q rr => ?_
    cases rr with
    | bl k =>
      refine ⟨k, rfl, ?_⟩
      cases k with
      | false => exact iteF (hp2 _ H' e q _ (.bl false))
      | true =>
        have hp3 : Pst X.K G F ρ2 H2 ((f3 env s2).bind fun c s3 => R.of (g' s3 d' c) s3) _ (eW G W σ) := hp2
        refine iteT (tE.step (he2.ext e) q (N := fun d s ρ' H' => ∀ v, Rep X.K F ρ' H' v d → Q v H') (k := fun c s3 => R.of (g' s3 d' c) s3) ?_ fun d3 s3 ρ3 H3 v3 _ he3 hs3 e3 r3 hp4 => ?_)
        · cases z : ((f3 env s2).bind fun c s3 => R.of (g' s3 d' c) s3) with
          | ok b s5 => rw [z] at hp3; exact fun ρ5 H5 e5 q5 => hp3 ρ5 H5 (e.trans e5) q5
          | ex c s5 => rw [z] at hp3; exact fun ρ5 H5 e5 q5 => hp3 ρ5 H5 (e.trans e5) q5
          | no => rw [z] at hp3; exact hp3
        · obtain ⟨z, hz, hp5⟩ := hp4.off
          exact hg' G F ρ3 H3 s3 v' v3 d' d3 z Q hs3 (r2.ext (e.trans e3)) r3 hz fun H' w e q rr => hp5 _ H' e q w rr
    | non => exact hp2.elim
    | int => exact hp2.elim
    | str => exact hp2.elim
    | tup => exact hp2.elim
    | lst => exact hp2.elim
    | ref => exact hp2.elim
    | scr => exact hp2.elim
    | ntp => exact hp2.elim
end
end Sx

/-! PxC: operators, built-ins, rows, methods of lists. -/
namespace Sx
open PySem L2

section
variable {K : PySem.W.Frag} {G : SCtx} {F ρ : List Addr} {H : Hp} {s : Sto}
theorem lstOf_rep (hs : SRel K G F ρ H s) {v : V} {d : D} {xs : List D} (r : Rep K F ρ H v d) (h : lstOf s d = some xs) : ∃ a vs, v = .ref a ∧ H a = some (.lst vs) ∧ Reps K F ρ H vs xs := by
  cases r with
  | lst t q =>
    simp only [lstOf, Option.some.injEq] at h
    subst h
    exact ⟨_, _, rfl, t.1, q⟩
  | ref q =>
    simp only [lstOf] at h
    split at h
    · rename_i ys e
      obtain ⟨a, ha, vs, hv, rr⟩ := hs.at e
      rw [q] at ha
      cases ha
      cases h
      exact ⟨_, vs, rfl, hv, rr⟩
    · cases h
  | _ => simp [lstOf] at h
theorem rowOf_rep (hs : SRel K G F ρ H s) {v : V} {d : D} {xs : List D} (r : Rep K F ρ H v d) (h : rowOf s d = some xs) : ∃ a vs, v = .ref a ∧ (SqL K H a vs ∨ SqT K H a vs) ∧ Reps K F ρ H vs xs := by
  cases r with
  | tup t q =>
    simp only [rowOf, Option.some.injEq] at h
    subst h
    exact ⟨_, _, rfl, .inr t.sq, q⟩
  | lst t q =>
    obtain ⟨a, vs, e, h1, h2⟩ := lstOf_rep hs (.lst t q) (xs := xs) (by simpa [rowOf, lstOf] using h)
    exact ⟨a, vs, e, .inl (SqL.of h1), h2⟩
  | ref q =>
    obtain ⟨a, vs, e, h1, h2⟩ := lstOf_rep hs (.ref q) (xs := xs) (by simpa [rowOf, lstOf] using h)
    exact ⟨a, vs, e, .inl (SqL.of h1), h2⟩
  | _ => simp [rowOf] at h
theorem atI_rep {vs : List V} {ds : List D} {i : Int} {d : D} (r : Reps K F ρ H vs ds) (h : atI ds i = some d) : ∃ v, atI vs i = some v ∧ Rep K F ρ H v d := by
  unfold atI at h ⊢
  rw [r.length]
  cases e : ixN ds.length i with
  | none => rw [e] at h; cases h
  | some j =>
    rw [e] at h
    obtain ⟨v, h1, h2⟩ := r.get (i := j) (d := d) h
    exact ⟨v, h1, h2⟩
theorem atI_map {α β : Type} {f : α → β} {xs : List α} {i : Int} {y : β} (h : (atI xs i).map f = some y) : atI (xs.map f) i = some y := by
  unfold atI at h ⊢
  rw [List.length_map]
  cases e : ixN xs.length i with
  | none => rw [e] at h; cases h
  | some j =>
    rw [e] at h
    show (xs.map f)[j]? = some y
    rw [List.getElem?_map]
    exact h
theorem fit {i : Int} (h : FIT i = true) : -(2 ^ 64) < i ∧ i < 2 ^ 64 := by
  have := of_decide_eq_true h
  omega
mutual
theorem Dp_of (hs : SRel K G F ρ H s) : ∀ (d : D) {v : V} {p : PyData}, Rep K F ρ H v d → pd s d = some p → Dp K H v p
  | .non, _, _, r, h => by cases r; simp [pd] at h; subst h; exact .non
  | .bl _, _, _, r, h => by cases r; simp [pd] at h; subst h; exact .bl _
  | .int _, _, _, r, h => by cases r; simp [pd] at h; subst h; exact .int _
  | .str _, _, _, r, h => by cases r; simp [pd] at h; subst h; exact .str _
  | .tup ds, _, _, r, h => by
    cases r with
    | tup t q =>
      simp only [pd, Option.map_eq_some_iff] at h
      obtain ⟨ps, e, rfl⟩ := h
      exact .tup t.sq (DpAll_of hs ds q e)
  | .lst ds, _, _, r, h => by
    cases r with
    | lst t q =>
      simp only [pd, Option.map_eq_some_iff] at h
      obtain ⟨ps, e, rfl⟩ := h
      exact .lst (SqL.of t.1) (DpAll_of hs ds q e)
  | .ref _, _, _, r, h => by simp [pd] at h
  | .scr _, _, _, r, h => by simp [pd] at h
  | .ntp _, _, _, r, h => by simp [pd] at h
theorem DpAll_of (hs : SRel K G F ρ H s) : ∀ (ds : List D) {vs : List V} {ps : List PyData}, Reps K F ρ H vs ds → pds s ds = some ps → DpAll K H vs ps
  | [], _, _, r, h => by cases r; simp [pds] at h; subst h; exact .nil
  | d :: ds, _, _, r, h => by
    cases r with
    | cons r q =>
      simp only [pds] at h
      split at h
      · rename_i p ps e1 e2
        cases h
        exact .cons (Dp_of hs d r e1) (DpAll_of hs ds q e2)
      · cases h
end
theorem DpR_of (hs : SRel K G F ρ H s) {d : D} {v : V} {p : PyData} (r : Rep K F ρ H v d) (h : pdR s d = some p) : Dp K H v p := by
  cases d with
  | ref n =>
    simp only [pdR] at h
    split at h
    · rename_i xs e
      simp only [Option.map_eq_some_iff] at h
      obtain ⟨ps, e2, rfl⟩ := h
      cases r with
      | ref q =>
        obtain ⟨a, ha, vs, hv, rr⟩ := hs.at e
        rw [q] at ha
        cases ha
        exact .lst (SqL.of hv) (DpAll_of hs xs rr e2)
    · cases h
  | _ => exact Dp_of hs _ r (by simpa [pdR] using h)
end

/-! ### operators -/
section
variable {X : Cx}
theorem o_add : OpR X (binaryOp .Add) (fun x y H Q => rI0 (fun i j => .int (i + j)) x y H Q ∨ (∃ i j, x = .str i ∧ y = .str j ∧ i.length + j.length ≤ sizeLine ∧ Q (.str (i ++ j)) H) ∨ rCatA X.K x y H Q ∨ rCat x y H Q) :=
  op_add.or (op_add_str.or (op_catA.or op_cat))
theorem o_lt (hu : X.A.units + 64 < cLine) : OpR X (compareOp .Lt) (fun x y H Q => rI0 (fun i j => .bl (decide (i < j))) x y H Q ∨ rLtT X.K x y H Q) := op_lt.or (op_ltT (by omega))
theorem o_le (hu : X.A.units + 64 < cLine) : OpR X (compareOp .LtE) (fun x y H Q => rI0 (fun i j => .bl (decide (i ≤ j))) x y H Q ∨ rLeT X.K x y H Q ∨ (∃ i j, x = .str i ∧ y = .str j ∧ Q (.bl (!decide (j.cps.toList < i.cps.toList))) H)) := op_le.or ((op_leT (by omega)).or op_le_str)
theorem o_mul : OpR X (binaryOp .Mult) (fun x y H Q => rI CMul (fun i j => .int (i * j)) x y H Q ∨ rI CMulW (fun i j => .int (i * j)) x y H Q ∨ rRep x y H Q ∨ rRepT X.K x y H Q) := op_mul.or (op_mulW.or (op_rep.or op_repT))
theorem o_eq (hu : X.A.units + 64 < cLine) : OpR X (compareOp .Eq) (fun x y H Q => rEq x y H Q ∨ rEqD X.K x y H Q) := op_eq.or (op_eqD hu)
theorem o_ne (hu : X.A.units + 64 < cLine) : OpR X (compareOp .NotEq) (fun x y H Q => rNe x y H Q ∨ rNeD X.K x y H Q) := op_ne.or (op_neD hu)
theorem o_in : OpR X (compareOp .In) (fun x y H Q => rIn X.K false x y H Q ∨ (∃ i j, x = .str i ∧ y = .str j ∧ Q (.bl (!(Builtin.Str.occurrences j i 0 j.length 1).isEmpty)) H)) := op_in_seq.or op_in_str
theorem o_notIn : OpR X (compareOp .NotIn) (fun x y H Q => rIn X.K true x y H Q ∨ (∃ i j, x = .str i ∧ y = .str j ∧ Q (.bl (!(!(Builtin.Str.occurrences j i 0 j.length 1).isEmpty))) H)) := op_notIn_seq.or op_notIn_str
end
section
variable {K : PySem.W.Frag}
theorem sim_add : Sim2 K (fun x y H Q => rI0 (fun i j => .int (i + j)) x y H Q ∨ (∃ i j, x = .str i ∧ y = .str j ∧ i.length + j.length ≤ sizeLine ∧ Q (.str (i ++ j)) H) ∨ rCatA K x y H Q ∨ rCat x y H Q) opAdd := by
  intro G F ρ H s x y a b d Q hs rx ry hz hq
  unfold opAdd at hz
  split at hz
  · cases rx; cases ry; cases hz
    exact .inl ⟨_, _, rfl, rfl, hq H _ (Ext.refl ρ H) hs (.int _)⟩
  · cases rx; cases ry
    split at hz
    · rename_i hl
      cases hz
      exact .inr (.inl ⟨_, _, rfl, rfl, lim hl, hq H _ (Ext.refl ρ H) hs (.str _)⟩)
    · cases hz
  · rename_i xs ys
    split at hz
    · rename_i hl
      cases hz
      cases rx with
      | tup t1 q1 =>
        cases ry with
        | tup t2 q2 =>
          refine .inr (.inr (.inl ⟨_, _, _, _, rfl, rfl, t1.sq, t2.sq, by rw [q1.length, q2.length]; exact lim hl, fun e => ?_, fun _ e => ?_, fun _ _ p hp => ?_⟩))
          · subst e
            cases q1
            exact hq H _ (Ext.refl ρ H) hs (.tup t2 q2)
          · subst e
            cases q2
            rw [List.append_nil] at hq
            exact hq H _ (Ext.refl ρ H) hs (.tup t1 q1)
          · exact hq _ _ (Ext.new ρ hp) (hs.new hp) (Rep.newT hs hp (q1.append q2))
    · cases hz
  · unfold opCat at hz
    split at hz
    · rename_i xs ys e1 e2
      split at hz
      · rename_i hl
        cases hz
        obtain ⟨l, vs, rfl, h1, r1⟩ := lstOf_rep hs rx e1
        obtain ⟨m, ws, rfl, h2, r2⟩ := lstOf_rep hs ry e2
        exact .inr (.inr (.inr ⟨_, _, _, _, rfl, rfl, h1, h2, by rw [r1.length, r2.length]; exact lim hl, fun p hp => hq _ _ (Ext.new ρ hp) (hs.new hp) (Rep.newL hs hp (r1.append r2))⟩))
      · cases hz
    · cases hz
theorem sim_sub : Sim2 K (rI0 fun i j => .int (i - j)) opSub := by
  intro G F ρ H s x y a b d Q hs rx ry hz hq
  unfold opSub at hz
  split at hz
  · cases rx; cases ry; cases hz
    exact ⟨_, _, rfl, rfl, hq H _ (Ext.refl ρ H) hs (.int _)⟩
  · cases hz
theorem Reps.rep {F ρ : List Addr} {H : Hp} {vs : List V} {ds : List D} (r : Reps K F ρ H vs ds) : ∀ n : Nat, Reps K F ρ H (List.replicate n vs).flatten (List.replicate n ds).flatten
  | 0 => .nil
  | n + 1 => by
    rw [List.replicate_succ, List.replicate_succ, List.flatten_cons, List.flatten_cons]
    exact r.append (Reps.rep r n)
theorem sim_mul : Sim2 K (fun x y H Q => rI CMul (fun i j => .int (i * j)) x y H Q ∨ rI CMulW (fun i j => .int (i * j)) x y H Q ∨ rRep x y H Q ∨ rRepT K x y H Q) opMul := by
  intro G F ρ H s x y a b d Q hs rx ry hz hq
  unfold opMul at hz
  split at hz
  · rename_i i j
    cases rx; cases ry
    split at hz
    · rename_i hf
      cases hz
      rw [Bool.or_eq_true, Bool.or_eq_true, Bool.and_eq_true] at hf
      rcases hf with (hf | hf) | ⟨h1, h2⟩
      · exact .inl ⟨_, _, rfl, rfl, .inl (fit hf), hq H _ (Ext.refl ρ H) hs (.int _)⟩
      · exact .inl ⟨_, _, rfl, rfl, .inr (fit hf), hq H _ (Ext.refl ρ H) hs (.int _)⟩
      · refine .inr (.inl ⟨_, _, rfl, rfl, ?_, hq H _ (Ext.refl ρ H) hs (.int _)⟩)
        have a1 := of_decide_eq_true h1
        have a2 := of_decide_eq_true h2
        unfold CMulW
        omega
    · cases hz
  · rename_i xs k
    split at hz
    · rename_i hh
      obtain ⟨h0, h1, h2, h3⟩ := hh
      cases hz
      cases rx with
      | tup t q =>
        cases ry
        refine .inr (.inr (.inr ⟨_, _, _, rfl, rfl, t.sq, fun e => ?_, h1, h2, by rw [q.length]; exact h3, fun p hp => hq _ _ (Ext.new ρ hp) (hs.new hp) (Rep.newT hs hp (q.rep _))⟩))
        subst e
        cases q
        cases h0
    · cases hz
  · rename_i k _ _
    split at hz
    · rename_i xs ex
      split at hz
      · rename_i hh
        obtain ⟨h1, h2, h3⟩ := hh
        cases hz
        cases ry
        obtain ⟨l, vs, rfl, e1, r1⟩ := lstOf_rep hs rx ex
        refine .inr (.inr (.inl ⟨_, _, _, rfl, rfl, e1, by omega, by omega, ?_, fun p hp => hq _ _ (Ext.new ρ hp) (hs.new hp) (Rep.newL hs hp (r1.rep _))⟩))
        rw [r1.length, sizeLine_eq]
        have : xs.length * k.toNat ≤ 1000 * 1000 := Nat.mul_le_mul h3 (by omega)
        omega
      · cases hz
    · cases hz
  · cases hz
theorem sim_div : Sim2 K (rI CDivW fun i j => .int (i / j)) opDiv := by
  intro G F ρ H s x y a b d Q hs rx ry hz hq
  unfold opDiv at hz
  split at hz
  · cases rx; cases ry
    split at hz
    · rename_i hf
      cases hz
      exact ⟨_, _, rfl, rfl, ⟨hf.1, Nat.lt_trans (of_decide_eq_true hf.2) (by decide)⟩, hq H _ (Ext.refl ρ H) hs (.int _)⟩
    · cases hz
  · cases hz
theorem sim_mod : Sim2 K (rI (fun _ j => 0 < j) fun i j => .int (i % j)) opMod := by
  intro G F ρ H s x y a b d Q hs rx ry hz hq
  unfold opMod at hz
  split at hz
  · cases rx; cases ry
    split at hz
    · rename_i hf
      cases hz
      exact ⟨_, _, rfl, rfl, hf, hq H _ (Ext.refl ρ H) hs (.int _)⟩
    · cases hz
  · cases hz
theorem ints_rep {F ρ : List Addr} {H : Hp} : ∀ {vs : List V} {ds : List D} {ns : List Int}, Reps K F ρ H vs ds → allInt ds = some ns → vs = ns.map V.int
  | _, _, _, .nil, h => by cases h; rfl
  | _, _, _, .cons r t, h => by
    cases r with
    | int i =>
      obtain ⟨ms, e, rfl⟩ := Option.map_eq_some_iff.mp h
      rw [ints_rep t e]
      rfl
    | _ => cases h
theorem sim_lt : Sim2 K (fun x y H Q => rI0 (fun i j => .bl (decide (i < j))) x y H Q ∨ rLtT K x y H Q) opLt := by
  intro G F ρ H s x y a b d Q hs rx ry hz hq
  unfold opLt at hz
  split at hz
  · cases rx; cases ry; cases hz
    exact .inl ⟨_, _, rfl, rfl, hq H _ (Ext.refl ρ H) hs (.bl _)⟩
  · split at hz
    · rename_i ns ms e1 e2
      cases hz
      cases rx with
      | tup t1 q1 =>
        cases ry with
        | tup t2 q2 =>
          have h1 := ints_rep q1 e1
          have h2 := ints_rep q2 e2
          subst h1
          subst h2
          exact .inr ⟨_, _, _, _, rfl, rfl, t1.sq, t2.sq, hq H _ (Ext.refl ρ H) hs (.bl _)⟩
    · cases hz
  · cases hz
theorem sim_le : Sim2 K (fun x y H Q => rI0 (fun i j => .bl (decide (i ≤ j))) x y H Q ∨ rLeT K x y H Q ∨ (∃ i j, x = .str i ∧ y = .str j ∧ Q (.bl (!decide (j.cps.toList < i.cps.toList))) H)) opLe := by
  intro G F ρ H s x y a b d Q hs rx ry hz hq
  unfold opLe at hz
  split at hz
  · cases rx; cases ry; cases hz
    exact .inl ⟨_, _, rfl, rfl, hq H _ (Ext.refl ρ H) hs (.bl _)⟩
  · split at hz
    · rename_i ns ms e1 e2
      cases hz
      cases rx with
      | tup t1 q1 =>
        cases ry with
        | tup t2 q2 =>
          have h1 := ints_rep q1 e1
          have h2 := ints_rep q2 e2
          subst h1
          subst h2
          exact .inr (.inl ⟨_, _, _, _, rfl, rfl, t1.sq, t2.sq, hq H _ (Ext.refl ρ H) hs (.bl _)⟩)
    · cases hz
  · cases rx; cases ry; cases hz
    exact .inr (.inr ⟨_, _, rfl, rfl, hq H _ (Ext.refl ρ H) hs (.bl _)⟩)
  · cases hz
theorem sim_gt : Sim2 K (rI0 fun i j => .bl (decide (j < i))) opGt := by
  intro G F ρ H s x y a b d Q hs rx ry hz hq
  unfold opGt at hz
  split at hz
  · cases rx; cases ry; cases hz
    exact ⟨_, _, rfl, rfl, hq H _ (Ext.refl ρ H) hs (.bl _)⟩
  · cases hz
theorem sim_ge : Sim2 K (rI0 fun i j => .bl (decide (j ≤ i))) opGe := by
  intro G F ρ H s x y a b d Q hs rx ry hz hq
  unfold opGe at hz
  split at hz
  · cases rx; cases ry; cases hz
    exact ⟨_, _, rfl, rfl, hq H _ (Ext.refl ρ H) hs (.bl _)⟩
  · cases hz
theorem eqV_rep {G : SCtx} {F ρ : List Addr} {H : Hp} {s : Sto} {x y : V} {a b : D} {k : Bool} (hs : SRel K G F ρ H s) (rx : Rep K F ρ H x a) (ry : Rep K F ρ H y b) (h : eqV? s a b = some k) :
    (scal x y = true ∧ k = decide (x = y)) ∨ ∃ p q, Dp K H x p ∧ Dp K H y q ∧ SeqAt.shaped p = true ∧ SeqAt.shaped q = true ∧ k = PyData.eqv p q := by
  unfold eqV? at h
  split at h
  · cases rx; cases ry; cases h
    exact .inl ⟨rfl, by simp⟩
  · cases rx; cases ry; cases h
    exact .inl ⟨rfl, by simp⟩
  · cases rx; cases ry; cases h
    exact .inl ⟨rfl, by simp⟩
  · split at h
    · rename_i p q e1 e2
      split at h
      · rename_i hsh
        rw [Bool.and_eq_true] at hsh
        cases h
        exact .inr ⟨p, q, DpR_of hs rx e1, DpR_of hs ry e2, hsh.1, hsh.2, rfl⟩
      · cases h
    · cases h
theorem sim_eq : Sim2 K (fun x y H Q => rEq x y H Q ∨ rEqD K x y H Q) opEq := by
  intro G F ρ H s x y a b d Q hs rx ry hz hq
  unfold opEq at hz
  obtain ⟨k, e, rfl⟩ := Option.map_eq_some_iff.mp hz
  rcases eqV_rep hs rx ry e with ⟨h1, h2⟩ | ⟨p, q, h1, h2, h3, h4, h5⟩
  · refine .inl ⟨h1, ?_⟩
    rw [← h2]
    exact hq H _ (Ext.refl ρ H) hs (.bl _)
  · refine .inr ⟨p, q, h1, h2, h3, h4, ?_⟩
    rw [← h5]
    exact hq H _ (Ext.refl ρ H) hs (.bl _)
theorem sim_ne : Sim2 K (fun x y H Q => rNe x y H Q ∨ rNeD K x y H Q) opNe := by
  intro G F ρ H s x y a b d Q hs rx ry hz hq
  unfold opNe at hz
  obtain ⟨k, e, rfl⟩ := Option.map_eq_some_iff.mp hz
  rcases eqV_rep hs rx ry e with ⟨h1, h2⟩ | ⟨p, q, h1, h2, h3, h4, h5⟩
  · refine .inl ⟨h1, ?_⟩
    rw [← h2]
    exact hq H _ (Ext.refl ρ H) hs (.bl _)
  · refine .inr ⟨p, q, h1, h2, h3, h4, ?_⟩
    rw [← h5]
    exact hq H _ (Ext.refl ρ H) hs (.bl _)
theorem flat_rep {F ρ : List Addr} {H : Hp} {v : V} {d : D} (r : Rep K F ρ H v d) (h : isFlat d = true) : flatV v = true := by
  cases r <;> first | rfl | simp [isFlat] at h
theorem flats_rep {F ρ : List Addr} {H : Hp} : ∀ {vs : List V} {ds : List D}, Reps K F ρ H vs ds → ds.all isFlat = true → vs.all flatV = true
  | _, _, .nil, _ => rfl
  | _, _, .cons r t, h => by
    simp only [List.all_cons, Bool.and_eq_true] at h ⊢
    exact ⟨flat_rep r h.1, flats_rep t h.2⟩
theorem flatEq_rep {F ρ : List Addr} {H : Hp} {v w : V} {d e : D} (r : Rep K F ρ H v d) (q : Rep K F ρ H w e) (h : isFlat d = true) (h2 : isFlat e = true) : eqV v w = flatEq d e := by
  cases r <;> cases q <;> first | rfl | (simp [isFlat] at h) | (simp [isFlat] at h2)
theorem inV_rep {F ρ : List Addr} {H : Hp} {v : V} {d : D} (r : Rep K F ρ H v d) (h : isFlat d = true) : ∀ {vs : List V} {ds : List D}, Reps K F ρ H vs ds → ds.all isFlat = true → inV v vs = ds.any fun y => flatEq y d
  | _, _, .nil, _ => rfl
  | _, _, .cons q t, h2 => by
    simp only [List.all_cons, Bool.and_eq_true] at h2
    have i := inV_rep r h t h2.2
    unfold inV at i ⊢
    rw [List.any_cons, List.any_cons, i, flatEq_rep q r h2.1 h]
theorem sim_in : Sim2 K (fun x y H Q => rIn K false x y H Q ∨ (∃ i j, x = .str i ∧ y = .str j ∧ Q (.bl (!(Builtin.Str.occurrences j i 0 j.length 1).isEmpty)) H)) opIn := by
  intro G F ρ H s x y a b d Q hs rx ry hz hq
  unfold opIn at hz
  split at hz
  · split at hz
    · cases rx; cases ry; cases hz
      exact .inr ⟨_, _, rfl, rfl, hq H _ (Ext.refl ρ H) hs (.bl _)⟩
    · cases hz
  · split at hz
    · rename_i xs e
      split at hz
      · rename_i hf
        rw [Bool.and_eq_true] at hf
        cases hz
        obtain ⟨p, vs, rfl, h1, r1⟩ := rowOf_rep hs ry e
        refine .inl ⟨p, vs, rfl, h1, flat_rep rx hf.1, flats_rep r1 hf.2, ?_⟩
        rw [inV_rep rx hf.1 r1 hf.2]
        exact hq H _ (Ext.refl ρ H) hs (.bl _)
      · cases hz
    · cases hz
theorem sim_notIn : Sim2 K (fun x y H Q => rIn K true x y H Q ∨ (∃ i j, x = .str i ∧ y = .str j ∧ Q (.bl (!(!(Builtin.Str.occurrences j i 0 j.length 1).isEmpty))) H)) opNotIn := by
  intro G F ρ H s x y a b d Q hs rx ry hz hq
  unfold opNotIn at hz
  split at hz
  · rename_i k hz'
    cases hz
    unfold opIn at hz'
    split at hz'
    · split at hz'
      · cases rx; cases ry; cases hz'
        exact .inr ⟨_, _, rfl, rfl, hq H _ (Ext.refl ρ H) hs (.bl _)⟩
      · cases hz'
    · split at hz'
      · rename_i xs e
        split at hz'
        · rename_i hf
          rw [Bool.and_eq_true] at hf
          cases hz'
          obtain ⟨p, vs, rfl, h1, r1⟩ := rowOf_rep hs ry e
          refine .inl ⟨p, vs, rfl, h1, flat_rep rx hf.1, flats_rep r1 hf.2, ?_⟩
          rw [inV_rep rx hf.1 r1 hf.2]
          exact hq H _ (Ext.refl ρ H) hs (.bl _)
        · cases hz'
      · cases hz'
  · cases hz
theorem sim_ix : Sim2 K (rIx K) opIx := by
  intro G F ρ H s x y a b d Q hs rx ry hz hq
  unfold opIx at hz
  split at hz
  · cases rx with
    | scr t =>
      cases ry
      have h1 := atI_map hz
      have h2 : ∃ i, d = .int i := by
        obtain ⟨i, _, e⟩ := Option.map_eq_some_iff.mp hz
        exact ⟨i, e.symm⟩
      obtain ⟨i, rfl⟩ := h2
      refine .inl ⟨_, _, _, .int i, rfl, rfl, t.sq, atI_map (y := V.int i) ?_, hq H _ (Ext.refl ρ H) hs (.int _)⟩
      obtain ⟨j, e1, e2⟩ := Option.map_eq_some_iff.mp hz
      cases e2
      rw [e1]; rfl
  · split at hz
    · rename_i hl
      cases rx; cases ry
      obtain ⟨c, e, rfl⟩ := Option.map_eq_some_iff.mp hz
      exact .inr (.inr ⟨_, _, c, rfl, rfl, lim hl, e, hq H _ (Ext.refl ρ H) hs (.str _)⟩)
    · cases hz
  · split at hz
    · rename_i xs e
      cases ry
      obtain ⟨p, vs, rfl, h1, r1⟩ := rowOf_rep hs rx e
      obtain ⟨v, h2, r2⟩ := atI_rep r1 hz
      rcases h1 with h1 | h1
      · exact .inl ⟨_, _, _, _, rfl, rfl, h1, h2, hq H _ (Ext.refl ρ H) hs r2⟩
      · exact .inr (.inl ⟨_, _, _, _, rfl, rfl, h1, h2, hq H _ (Ext.refl ρ H) hs r2⟩)
    · cases hz
  · cases hz
end
section
variable {X : Cx} {G : SCtx} {W : WX} {pos : Pos} {a b c : Expr} {f1 f2 f3 : EF} {t1 t2 : TF} {g1 g2 : AF} {es : List Expr}
theorem s_ix (ha : SE X G W a f1) (hb : SE X G W b f2) (hs : PlainIx b := by exact fun _ _ => rfl) : SE X G W (.Subscript a b pos) (eOp opIx f1 f2) := by
  refine pe_imp (pe_ix ix_seq ha hb hs) fun σ H Q h => ?_
  obtain ⟨F, ρ, env, s, he, hs, hp⟩ := h
  refine tE.step he hs hp fun d s1 ρ1 H1 v _ he1 hs1 e1 r1 hp1 => ?_
  refine tE.step he1 hs1 hp1 fun d' s2 ρ2 H2 v' _ he2 hs2 e2 r2 hp2 => ?_
  obtain ⟨z, hz, hp3⟩ := hp2.off
  exact sim_ix G F ρ2 H2 s2 v v' d d' z Q hs2 (r1.ext e2) r2 hz fun H' w e q rr => hp3 _ H' e q w rr
theorem s_neg (ha : SE X G W a f1) : SE X G W (.UnaryOp .USub a pos) (eUn opNeg f1) := by
  refine pe_imp (pe_un un_neg ha) fun σ H Q h => ?_
  obtain ⟨F, ρ, env, s, he, hs, hp⟩ := h
  refine tE.step he hs hp fun d s1 ρ1 H1 v _ he1 hs1 e1 r1 hp1 => ?_
  obtain ⟨z, hz, hp3⟩ := hp1.off
  unfold opNeg at hz
  split at hz
  · cases r1; cases hz
    exact ⟨_, rfl, hp3.here hs1 _ (.int _)⟩
  · cases hz
theorem st_tru (h : SE X G W a f1) (he : ∀ whole, isTrue a X.env whole = (do let v ← whole; standAt a.pos; holding [v] (truthy v)) := by intro _; rfl) : ST X G W a (tTru f1) := by
  refine pt_imp (pt_truth h he) fun σ H Q h => ?_
  obtain ⟨F, ρ, env, s, he, hs, hp⟩ := h
  refine tE.step he hs hp fun d s1 ρ1 H1 v _ he1 hs1 e1 r1 hp1 => ?_
  obtain ⟨k, hz, hp3⟩ := hp1.off
  refine ⟨k, ?_, hp3.here hs1⟩
  cases r1 with
  | non => cases hz; rfl
  | bl => cases hz; rfl
  | int => cases hz; rfl
  | str x =>
    simp only [truth] at hz
    split at hz
    · rename_i hl
      cases hz
      exact ⟨lim hl, rfl⟩
    · cases hz
  | tup t q =>
    cases hz
    refine .inr (.inl ⟨_, t.sq, ?_⟩)
    cases q <;> rfl
  | lst t q =>
    cases hz
    refine .inl ⟨_, SqL.of t.1, ?_⟩
    cases q <;> rfl
  | scr t =>
    cases hz
    exact .inl ⟨_, t.sq, by simp⟩
  | ntp => cases hz
  | ref q =>
    simp only [truth] at hz
    split at hz
    · rename_i xs e
      cases hz
      obtain ⟨a, ha, vs, hv, rr⟩ := hs1.at e
      rw [q] at ha
      cases ha
      refine .inl ⟨_, SqL.of hv, ?_⟩
      cases rr <;> rfl
    · rename_i kvs e
      cases hz
      obtain ⟨a, ha, ws, hv, hk, rr⟩ := hs1.at e
      rw [q] at ha
      cases ha
      refine .inr (.inr ⟨ws, hv, ?_⟩)
      cases ws <;> cases kvs <;> first | rfl | simp at hk
    · cases hz

/-! ### slices -/
def SOt (X : Cx) (G : SCtx) (W : WX) (o : Option Expr) (f : OF) : Prop := PO X o (fun σ H Q => ∃ F ρ env s, EnvR X.K F ρ H σ env ∧ SRel X.K G F ρ H s ∧ Pst X.K G F ρ H (f env s) (fun d _ ρ' H' => Q d H') (eW G W σ))
theorem po_imp {o : Option Expr} {t t' : TO} (h : PO X o t) (i : ∀ σ H Q, t' σ H Q → t σ H Q) : PO X o t' := ⟨fun pins s σ H Q I q => h.run pins s σ H Q I (i σ H Q q)⟩
theorem so_no : SOt X G W none oNo := po_imp po_none fun σ H Q h => by
  obtain ⟨F, ρ, env, s, he, hs, hp⟩ := h
  exact hp.here hs
theorem so_some (h : SE X G W a f1) : SOt X G W (some a) (oSome f1) := po_imp (po_some h) fun σ H Q h => by
  obtain ⟨F, ρ, env, s, he, hs, hp⟩ := h
  refine tE.step he hs hp fun d s1 ρ1 H1 v _ he1 hs1 e1 r1 hp1 => ?_
  cases r1 with
  | int i => exact ⟨i, rfl, hp1.here hs1⟩
  | _ => exact hp1.elim
theorem cutD_length (xs : List D) (lo hi : Option Int) : (cutD xs lo hi).length ≤ xs.length := by
  unfold cutD
  rw [List.length_take, List.length_drop]
  omega
theorem cut_whole {K : PySem.W.Frag} {F ρ : List Addr} {H : Hp} {vs : List V} {ys : List D} {lo hi : Option Int} (q : Reps K F ρ H vs ys) (h1 : HT.sIx vs.length 0 lo = 0) (h2 : HT.sIx vs.length vs.length hi = vs.length) : cutD ys lo hi = ys := by
  unfold cutD
  rw [← q.length, h1, h2]
  simp [q.length]
theorem s_sl {lo hi : Option Expr} {p2 : Pos} {g h : OF} (ha : SE X G W a f1) (hl : SOt X G W lo g) (hu : SOt X G W hi h) : SE X G W (.Subscript a (.Slice lo hi none p2) pos) (eSl f1 g h) := by
  refine pe_imp (pe_slice (sl_list.or (sl_tupA.or sl_str)) ha hl hu) fun σ H Q h => ?_
  obtain ⟨F, ρ, env, s, he, hs, hp⟩ := h
  refine tE.step he hs hp fun d s1 ρ1 H1 v _ he1 hs1 e1 r1 hp1 => ?_
  refine ⟨F, ρ1, env, s1, he1, hs1, hp1.bind.imp (fun l s2 ρ2 H2 _ e2 hs2 hp2 => ?_) fun _ _ h => h⟩
  refine ⟨F, ρ2, env, s2, he1.ext e2, hs2, hp2.bind.imp (fun u s3 ρ3 H3 _ e3 hs3 hp3 => ?_) fun _ _ h => h⟩
  obtain ⟨z, hz, hp4⟩ := hp3.off
  have r3 := (r1.ext e2).ext e3
  unfold opSl at hz
  split at hz
  · cases hz
    cases r3 with
    | tup t q =>
      refine .inr (.inl ⟨_, _, rfl, t.sq, fun hw => ?_, fun hw p hpn => ?_⟩)
      · refine hp4 _ H3 (Ext.refl ρ3 H3) hs3 _ ?_
        rw [cut_whole q hw.1 hw.2]
        exact .tup t q
      · exact hp4 _ _ (Ext.new ρ3 hpn) (hs3.new hpn) _ (Rep.newT hs3 hpn (q.cutV l u))
  · split at hz
    · rename_i hl
      cases hz
      cases r3
      exact .inr (.inr ⟨_, rfl, lim hl, hp4.here hs3 _ (.str _)⟩)
    · cases hz
  · split at hz
    · rename_i xs e
      cases hz
      obtain ⟨l', vs, rfl, h1, q⟩ := lstOf_rep hs3 r3 e
      exact .inl ⟨_, _, rfl, SqL.of h1, fun p hpn => hp4 _ _ (Ext.new ρ3 hpn) (hs3.new hpn) _ (Rep.newL hs3 hpn (q.cutV l u))⟩
    · cases hz

/-! ### built-ins by values -/
def SimN (K : PySem.W.Frag) (r : List V → Hp → VK → Prop) (g : Sto → List D → Option D) : Prop := ∀ (G : SCtx) (F ρ : List Addr) (H : Hp) (s : Sto) (vs : List V) (ds : List D) (d : D) (Q : VK), SRel K G F ρ H s → Reps K F ρ H vs ds → g s ds = some d →
  (∀ H' v, Ext ρ H ρ H' → SRel K G F ρ H' s → Rep K F ρ H' v d → Q v H') → r vs H Q
/-- .. that hands out a list that is changed later on -/
def SimNN (K : PySem.W.Frag) (r : List V → Hp → VK → Prop) (g : Sto → List D → Option (List D)) : Prop := ∀ (G : SCtx) (F ρ : List Addr) (H : Hp) (s : Sto) (vs : List V) (ds es : List D) (Q : VK), SRel K G F ρ H s → Reps K F ρ H vs ds → g s ds = some es →
  (∀ ρ' H' v, Ext ρ H ρ' H' → SRel K G F ρ' H' (s ++ [.lst es]) → Rep K F ρ' H' v (.ref s.length) → Q v H') → r vs H Q
theorem s_cb {e : Expr} {r : List V → Hp → VK → Prop} {g : Sto → List D → Option D} (h : PE X e (tCB r (tA X.K G W g1))) (hg : SimN X.K r g) : SE X G W e (eFn g g1) := by
  refine pe_imp h fun σ H Q h => ?_
  obtain ⟨F, ρ, env, s, he, hs, hp⟩ := h
  refine tA.step he hs hp fun ds s1 ρ1 H1 vs _ he1 hs1 e1 r1 hp1 => ?_
  obtain ⟨z, hz, hp2⟩ := hp1.off
  exact hg G F ρ1 H1 s1 vs ds z Q hs1 r1 hz fun H' w e q rr => hp2 _ H' e q w rr
theorem s_cbN {e : Expr} {r : List V → Hp → VK → Prop} {g : Sto → List D → Option (List D)} (h : PE X e (tCB r (tA X.K G W g1))) (hg : SimNN X.K r g) : SE X G W e (eFnN g g1) := by
  refine pe_imp h fun σ H Q h => ?_
  obtain ⟨F, ρ, env, s, he, hs, hp⟩ := h
  refine tA.step he hs hp fun ds s1 ρ1 H1 vs _ he1 hs1 e1 r1 hp1 => ?_
  split at hp1
  · rename_i es hz
    exact hg G F ρ1 H1 s1 vs ds es Q hs1 r1 hz fun ρ' H' w e q rr => hp1 _ H' e q w rr
  · exact hp1.elim
end
section
variable {K : PySem.W.Frag}
def rLenA (K : PySem.W.Frag) : List V → Hp → VK → Prop := fun xs H Q => ∃ x n, xs = [x] ∧ LenV K x H n ∧ Q (.int n) H
theorem sim_len : SimN K (fun xs H Q => ∃ x n, xs = [x] ∧ LenV K x H n ∧ Q (.int n) H) fLen := by
  intro G F ρ H s vs ds d Q hs r hz hq
  unfold fLen at hz
  split at hz
  · cases r with
    | cons r t =>
      cases t
      cases r with
      | scr t =>
        cases hz
        exact ⟨_, _, rfl, .inl ⟨_, t.sq, (List.length_map ..).symm⟩, hq H _ (Ext.refl ρ H) hs (.int _)⟩
  · split at hz
    · rename_i hl
      cases r with
      | cons r t =>
        cases t
        cases r
        cases hz
        exact ⟨_, _, rfl, ⟨lim hl, rfl⟩, hq H _ (Ext.refl ρ H) hs (.int _)⟩
    · cases hz
  · cases r with
    | cons r t =>
      cases t
      cases r with
      | ref q =>
        split at hz
        · rename_i xs e
          cases hz
          obtain ⟨a, ha, vs, hv, rr⟩ := hs.at e
          rw [q] at ha
          cases ha
          exact ⟨_, _, rfl, .inl ⟨_, SqL.of hv, rr.length.symm⟩, hq H _ (Ext.refl ρ H) hs (.int _)⟩
        · cases hz
  · cases r with
    | cons r t =>
      cases t
      cases r with
      | tup t q =>
        cases hz
        exact ⟨_, _, rfl, .inr ⟨_, t.sq, q.length.symm⟩, hq H _ (Ext.refl ρ H) hs (.int _)⟩
  · cases r with
    | cons r t =>
      cases t
      cases r with
      | lst t q =>
        cases hz
        exact ⟨_, _, rfl, .inl ⟨_, SqL.of t.1, q.length.symm⟩, hq H _ (Ext.refl ρ H) hs (.int _)⟩
  · cases hz
theorem sim_tuple : SimN K (fun xs H Q => ∃ p ys, xs = [.ref p] ∧ ((SqL K H p ys ∧ ∀ l, H l = none → Q (.ref l) (upd H l (.tup ys))) ∨ (SqT K H p ys ∧ Q (.ref p) H))) fTuple := by
  intro G F ρ H s vs ds d Q hs r hz hq
  unfold fTuple at hz
  split at hz
  · obtain ⟨xs, e, rfl⟩ := Option.map_eq_some_iff.mp hz
    cases r with
    | cons r t =>
      cases t
      cases hd : r with
      | tup t q =>
        simp only [rowOf, Option.some.injEq] at e
        subst e
        exact ⟨_, _, rfl, .inr ⟨t.sq, hq H _ (Ext.refl ρ H) hs r⟩⟩
      | lst t q =>
        obtain ⟨a, vs, ev, h1, q⟩ := lstOf_rep hs r (xs := xs) (by simpa [rowOf, lstOf] using e)
        cases ev
        exact ⟨_, _, rfl, .inl ⟨SqL.of h1, fun p hp => hq _ _ (Ext.new ρ hp) (hs.new hp) (Rep.newT hs hp q)⟩⟩
      | ref _ =>
        obtain ⟨a, vs, ev, h1, q⟩ := lstOf_rep hs r (xs := xs) (by simpa [rowOf, lstOf] using e)
        cases ev
        exact ⟨_, _, rfl, .inl ⟨SqL.of h1, fun p hp => hq _ _ (Ext.new ρ hp) (hs.new hp) (Rep.newT hs hp q)⟩⟩
      | _ => simp [rowOf] at e
  · cases hz
theorem sim_list : SimNN K (fun xs H Q => ∃ p ys, xs = [.ref p] ∧ (SqL K H p ys ∨ SqT K H p ys) ∧ ∀ l, H l = none → Q (.ref l) (upd H l (.lst ys))) fList := by
  intro G F ρ H s vs ds es Q hs r hz hq
  unfold fList at hz
  split at hz
  · cases r with
    | cons r t =>
      cases t
      obtain ⟨a, ws, rfl, h1, q⟩ := rowOf_rep hs r hz
      exact ⟨_, _, rfl, h1, fun p hp => hq _ _ _ (Ext.alloc ρ hp) (hs.newR hp q).1 (hs.newR hp q).2⟩
  · cases hz
theorem sim_listF : SimN K (fun xs H Q => ∃ p ys, xs = [.ref p] ∧ (SqL K H p ys ∨ SqT K H p ys) ∧ ∀ l, H l = none → Q (.ref l) (upd H l (.lst ys))) (fun s as => (fList s as).map .lst) := by
  intro G F ρ H s vs ds d Q hs r hz hq
  obtain ⟨es, hz2, rfl⟩ := Option.map_eq_some_iff.mp hz
  clear hz
  unfold fList at hz2
  split at hz2
  · cases r with
    | cons r t =>
      cases t
      obtain ⟨a, ws, rfl, h1, q⟩ := rowOf_rep hs r hz2
      exact ⟨_, _, rfl, h1, fun p hp => hq _ _ (Ext.new ρ hp) (hs.new hp) (Rep.newL hs hp q)⟩
  · cases hz2
theorem sim_abs : SimN K (fun xs H Q => ∃ i, xs = [.int i] ∧ Q (.int (if i < 0 then -i else i)) H) fAbs := by
  intro G F ρ H s vs ds d Q hs r hz hq
  unfold fAbs at hz
  split at hz
  · cases r with
    | cons r t => cases t; cases r; cases hz; exact ⟨_, rfl, hq H _ (Ext.refl ρ H) hs (.int _)⟩
  · cases hz
theorem sim_max2 : SimN K (fun xs H Q => ∃ i j, xs = [.int i, .int j] ∧ Q (.int (if j > i then j else i)) H) fMax := by
  intro G F ρ H s vs ds d Q hs r hz hq
  unfold fMax at hz
  split at hz
  · cases r with
    | cons r t =>
      cases t with
      | cons r' t => cases t; cases r; cases r'; cases hz; exact ⟨_, _, rfl, hq H _ (Ext.refl ρ H) hs (.int _)⟩
  · cases hz
theorem sim_min2 : SimN K (fun xs H Q => ∃ i j, xs = [.int i, .int j] ∧ Q (.int (if j < i then j else i)) H) fMin := by
  intro G F ρ H s vs ds d Q hs r hz hq
  unfold fMin at hz
  split at hz
  · cases r with
    | cons r t =>
      cases t with
      | cons r' t => cases t; cases r; cases r'; cases hz; exact ⟨_, _, rfl, hq H _ (Ext.refl ρ H) hs (.int _)⟩
  · cases hz
theorem sim_int1 : SimN K (fun xs H Q => (∃ i, xs = [.int i] ∧ Q (.int i) H) ∨ ∃ k, xs = [.bl k] ∧ Q (.int (if k then 1 else 0)) H) fInt := by
  intro G F ρ H s vs ds d Q hs r hz hq
  unfold fInt at hz
  split at hz
  · cases r with
    | cons r t => cases t; cases r; cases hz; exact .inl ⟨_, rfl, hq H _ (Ext.refl ρ H) hs (.int _)⟩
  · cases r with
    | cons r t => cases t; cases r; cases hz; exact .inr ⟨_, rfl, hq H _ (Ext.refl ρ H) hs (.int _)⟩
  · cases hz
theorem bls_rep {F ρ : List Addr} {H : Hp} : ∀ {vs : List V} {ds : List D} {ns : List Bool}, Reps K F ρ H vs ds → allBl ds = some ns → vs = ns.map V.bl
  | _, _, _, .nil, h => by cases h; rfl
  | _, _, _, .cons r t, h => by
    cases r with
    | bl i =>
      obtain ⟨ms, e, rfl⟩ := Option.map_eq_some_iff.mp h
      rw [bls_rep t e]
      rfl
    | _ => cases h
def rSumT (K : PySem.W.Frag) : List V → Hp → VK → Prop := fun vs H Q => ∃ (a : Addr) (ns : List Int), vs = [V.ref a] ∧ SqT K H a (ns.map V.int) ∧ Q (.int ns.sum) H
theorem cr_sumT {X : Cx} (hc : X.calm = true) : CallR X (.builtin "sum") (rSumT X.K) := by
  intro pins s σ H vs us Q I r h
  obtain ⟨a, ns, rfl, hs, q⟩ := h
  obtain ⟨its, rv, ht, _⟩ := I.tuple hs
  rw [Vals.ref1 r]
  have hi := rv.ints
  obtain ⟨xs, e⟩ := hi.allInts.items
  have hn : PySem.numsOf (PySem.intItems xs).toList = ns := by rw [← e]; exact hi.numsOf
  rw [PySem.nums_intItems] at hn
  rw [e] at ht
  obtain ⟨o, h1, h2, n, h3⟩ := ht
  refine PySem.W.ktm_sumG (I.ok.hd hc) ⟨o, h1, h2, n, h3⟩ fun h' tk t' hk => ⟨.int _, H, I.kept hk, ⟨t', ?_⟩, q⟩
  rw [PySem.preSum_eq, List.take_of_length_le (by simp), hn]
theorem cr_sumA {X : Cx} (hc : X.calm = true) : CallR X (.builtin "sum") (fun vs H Q => rSum X.K vs H Q ∨ rSumT X.K vs H Q) := (cr_sum hc).or (cr_sumT hc)
theorem sim_sum : SimN K (fun vs H Q => rSum K vs H Q ∨ rSumT K vs H Q) fSum := by
  intro G F ρ H s vs ds d Q hs r hz hq
  unfold fSum at hz
  split at hz
  · cases r with
    | cons r t =>
      cases t
      split at hz
      · rename_i xs e
        obtain ⟨ns, e2, rfl⟩ := Option.map_eq_some_iff.mp hz
        obtain ⟨a, ws, rfl, h1, q⟩ := lstOf_rep hs r e
        have e3 := ints_rep q e2
        subst e3
        exact .inl ⟨_, _, rfl, SqL.of h1, hq H _ (Ext.refl ρ H) hs (.int _)⟩
      · split at hz
        · obtain ⟨ns, e2, rfl⟩ := Option.map_eq_some_iff.mp hz
          cases r with
          | tup t q =>
            have e3 := ints_rep q e2
            subst e3
            exact .inr ⟨_, _, rfl, t.sq, hq H _ (Ext.refl ρ H) hs (.int _)⟩
        · cases hz
  · cases hz
theorem sim_all : SimN K (rAll K) fAll := by
  intro G F ρ H s vs ds d Q hs r hz hq
  unfold fAll at hz
  split at hz
  · cases r with
    | cons r t =>
      cases t
      split at hz
      · rename_i xs e
        obtain ⟨ns, e2, rfl⟩ := Option.map_eq_some_iff.mp hz
        obtain ⟨a, ws, rfl, h1, q⟩ := lstOf_rep hs r e
        have e3 := bls_rep q e2
        subst e3
        exact ⟨_, _, rfl, SqL.of h1, hq H _ (Ext.refl ρ H) hs (.bl _)⟩
      · cases hz
  · cases hz
end

/-! ### isinstance -/
section
variable {K : PySem.W.Frag} {G : SCtx} {F ρ : List Addr} {H : Hp} {s : Sto}
theorem tyX_of (hs : SRel K G F ρ H s) {v : V} {d : D} {T : String} (r : Rep K F ρ H v d) (h : tyName s d = some T) : TyX K H v (.type T) := by
  cases r with
  | non => cases h; exact .base .non
  | bl => cases h; exact .base (.bl _)
  | int => cases h; exact .base (.int _)
  | str => cases h; exact .base (.str _)
  | tup t q =>
    cases h
    rcases t.sq with h | ⟨o, its, n, h1, h2, _⟩
    · rcases h with h | ⟨o, h⟩
      · exact .base (.tup h)
      · exact .fTuple h
    · exact .kTuple h1 h2
  | lst t q => cases h; exact .base (.lst t.1)
  | scr t =>
    cases h
    rcases t.sq with h | ⟨o, its, n, h1, h2, _⟩
    · rcases h with h | ⟨o, h⟩
      · exact .base (.lst h)
      · exact .base (.frz h)
    · exact .kList h1 h2
  | ntp => cases h
  | ref q =>
    simp only [tyName] at h
    split at h
    · rename_i xs e
      cases h
      obtain ⟨a, ha, vs, hv, rr⟩ := hs.at e
      rw [q] at ha
      cases ha
      exact .base (.lst hv)
    · rename_i xs e
      cases h
      obtain ⟨a, ha, vs, hv, rr⟩ := hs.at e
      rw [q] at ha
      cases ha
      exact .base (.dK hv)
    · cases h
theorem kit_all {s : Sto} {d : D} {U T : String} (h : tyName s d = some U) (hT : T = "bool" ∨ T = "int" ∨ T = "str" ∨ T = "tuple" ∨ T = "list") : kitB U T = some (U == T || (U == "bool" && T == "int")) := by
  have hU : U = "NoneType" ∨ U = "bool" ∨ U = "int" ∨ U = "str" ∨ U = "tuple" ∨ U = "list" ∨ U = "dict" := by
    unfold tyName at h
    repeat' split at h
    all_goals (try cases h)
    all_goals simp
  rcases hT with rfl | rfl | rfl | rfl | rfl <;> rcases hU with rfl | rfl | rfl | rfl | rfl | rfl | rfl <;> decide +kernel
end
section
variable {X : Cx} {G : SCtx} {W : WX} {pos p1 p2 : Pos} {a : Expr} {f1 : EF}
theorem s_isin {e : Expr} {T : String} (h : PE X e (tCB (rIsi X.K) (tCons (tE X.K G W f1) (tCons (tC (.ty T)) tNil)))) (hT : T = "bool" ∨ T = "int" ∨ T = "str" ∨ T = "tuple" ∨ T = "list" := by simp) : SE X G W e (eUn (isIn T) f1) := by
  refine pe_imp h fun σ H Q h => ?_
  obtain ⟨F, ρ, env, s, he, hs, hp⟩ := h
  refine tE.step he hs hp fun d s1 ρ1 H1 v _ he1 hs1 e1 r1 hp1 => ?_
  obtain ⟨z, hz, hp2⟩ := hp1.off
  unfold isIn at hz
  split at hz
  · rename_i U e
    cases hz
    exact ⟨v, .ty T, .type U, .type T, _, rfl, .ty T, tyX_of hs1 r1 e, kit_ty (kit_all e hT), hp2.here hs1 _ (.bl _)⟩
  · cases hz
end
end Sx

/-! PxD: statements, loops, comprehensions, defs. -/
namespace Sx
open PySem L2

def PstS (K : PySem.W.Frag) (G : SCtx) (W : WX) (F ρ : List Addr) (H : Hp) (r : SR) (D : Ends) : Prop := match r with
  | .nx e s' => ∀ ρ' H' σ', Ext ρ H ρ' H' → SRel K G F ρ' H' s' → EnvR K F ρ' H' σ' e → D.nx σ' H'
  | .rt d s' => ∀ ρ' H' v, Ext ρ H ρ' H' → SRel K G F ρ' H' s' → Rep K F ρ' H' v d → D.rt v H'
  | .bk e s' => ∀ ρ' H' σ', Ext ρ H ρ' H' → SRel K G F ρ' H' s' → EnvR K F ρ' H' σ' e → D.bk σ' H'
  | .ct e s' => ∀ ρ' H' σ', Ext ρ H ρ' H' → SRel K G F ρ' H' s' → EnvR K F ρ' H' σ' e → D.ct σ' H'
  | .ex c e s' => ∀ ρ' H' σ', Ext ρ H ρ' H' → SRel K G F ρ' H' s' → EnvR K F ρ' H' σ' e → W (.ref (G.adr c)) none σ' H'
  | .no => False
section
variable {K : PySem.W.Frag} {G : SCtx} {W : WX} {F ρ ρ1 : List Addr} {H H1 : Hp} {s : Sto} {σ : L2.St} {env : Env} {D : Ends}
theorem PstS.ext {r : SR} (e : Ext ρ H ρ1 H1) (h : PstS K G W F ρ H r D) : PstS K G W F ρ1 H1 r D := by
  cases r with
  | nx e' s' => exact fun ρ' H' σ' a b c => h ρ' H' σ' (e.trans a) b c
  | rt d s' => exact fun ρ' H' σ' a b c => h ρ' H' σ' (e.trans a) b c
  | bk e' s' => exact fun ρ' H' σ' a b c => h ρ' H' σ' (e.trans a) b c
  | ct e' s' => exact fun ρ' H' σ' a b c => h ρ' H' σ' (e.trans a) b c
  | ex c e' s' => exact fun ρ' H' σ' a b c => h ρ' H' σ' (e.trans a) b c
  | no => exact h
theorem PstS.ofR {α : Type} {r : R α} {k : α → Sto → SR} (he : EnvR K F ρ H σ env) (h : PstS K G W F ρ H (SR.ofR r env k) D) : Pst K G F ρ H r (fun a s' ρ' H' => PstS K G W F ρ' H' (k a s') D) (eW G W σ) := by
  cases r with
  | ok a s' => exact fun ρ' H' e q => PstS.ext e h
  | ex c s' => exact fun ρ' H' e q => h ρ' H' σ e q (he.ext e)
  | no => exact h
theorem Pst.ext {α : Type} {r : R α} {N : α → Sto → List Addr → Hp → Prop} {E : Nat → Hp → Prop} (e : Ext ρ H ρ1 H1) (h : Pst K G F ρ H r N E) : Pst K G F ρ1 H1 r N E := by
  cases r with
  | ok a s' => exact fun ρ' H' a' b => h ρ' H' (e.trans a') b
  | ex c s' => exact fun ρ' H' a' b => h ρ' H' (e.trans a') b
  | no => exact h
end
def tS (K : PySem.W.Frag) (G : SCtx) (W : WX) (g : SF) : TS := fun D σ H => ∃ F ρ env s, EnvR K F ρ H σ env ∧ SRel K G F ρ H s ∧ PstS K G W F ρ H (g env s) D
abbrev SS (X : Cx) (G : SCtx) (W : WX) (st : Stmt) (g : SF) : Prop := PS X st (tS X.K G W g)
abbrev SB (X : Cx) (G : SCtx) (W : WX) (st : List Stmt) (g : SF) : Prop := PSs X st (tS X.K G W g)
def PstG (K : PySem.W.Frag) (G : SCtx) (F ρ : List Addr) (H : Hp) (r : Option (Env × Sto)) (Q : L2.St → Hp → Prop) : Prop := match r with
  | some r => ∀ ρ' H' σ', Ext ρ H ρ' H' → SRel K G F ρ' H' r.2 → EnvR K F ρ' H' σ' r.1 → Q σ' H'
  | none => False
theorem PstG.ext {K : PySem.W.Frag} {G : SCtx} {F ρ ρ1 : List Addr} {H H1 : Hp} {r : Option (Env × Sto)} {Q : L2.St → Hp → Prop} (e : Ext ρ H ρ1 H1) (h : PstG K G F ρ H r Q) : PstG K G F ρ1 H1 r Q := by
  cases r with
  | some r => exact fun ρ' H' σ' a b c => h ρ' H' σ' (e.trans a) b c
  | none => exact h
def tG (K : PySem.W.Frag) (G : SCtx) (g : GF) : TG := fun v σ H Q => ∃ F ρ env s d, EnvR K F ρ H σ env ∧ SRel K G F ρ H s ∧ Rep K F ρ H v d ∧ PstG K G F ρ H (g d env s) Q
def tGs (K : PySem.W.Frag) (G : SCtx) (g : GFs) : TGs := fun v σ H Q => ∃ F ρ env s d, EnvR K F ρ H σ env ∧ SRel K G F ρ H s ∧ Reps K F ρ H v d ∧ PstG K G F ρ H (g d env s) Q
abbrev SG (X : Cx) (G : SCtx) (tg : Expr) (g : GF) : Prop := PG X tg (tG X.K G g)
abbrev SGs (X : Cx) (G : SCtx) (tg : List Expr) (g : GFs) : Prop := PGs X tg (tGs X.K G g)
theorem pg_imp {X : Cx} {e : Expr} {t t' : TG} (h : PG X e t) (i : ∀ v σ H Q, t' v σ H Q → t v σ H Q) : PG X e t' := ⟨fun pins s σ H v u Q I r q => h.run pins s σ H v u Q I r (i v σ H Q q)⟩
theorem pgs_imp {X : Cx} {e : List Expr} {t t' : TGs} (h : PGs X e t) (i : ∀ v σ H Q, t' v σ H Q → t v σ H Q) : PGs X e t' := ⟨fun pins s σ H v u Q I r q => h.run pins s σ H v u Q I r (i v σ H Q q)⟩
section
variable {X : Cx} {G : SCtx} {W : WX} {pos : Pos} {e a b : Expr} {f f1 f2 f3 : EF} {t : TF} {g h : SF} {st : Stmt} {rest bd el : List Stmt}
theorem sb_nil : SB X G W [] sNext := pss_imp pss_nil fun D σ H h => by
  obtain ⟨F, ρ, env, s, he, hs, hp⟩ := h
  exact hp ρ H σ (Ext.refl ρ H) hs he
theorem sb_cons (h1 : SS X G W st g) (h2 : SB X G W rest h) : SB X G W (st :: rest) (sSeq g h) := by
  refine pss_imp (pss_cons h1 h2) fun D σ H h => ?_
  obtain ⟨F, ρ, env, s, he, hs, hp⟩ := h
  refine ⟨F, ρ, env, s, he, hs, ?_⟩
  simp only [sSeq] at hp
  cases hg : g env s with
  | nx e' s1 =>
    rw [hg] at hp
    exact fun ρ' H' σ' ee q r => ⟨F, ρ', e', s1, r, q, PstS.ext ee hp⟩
  | rt d s1 => rw [hg] at hp; exact hp
  | bk e' s1 => rw [hg] at hp; exact hp
  | ct e' s1 => rw [hg] at hp; exact hp
  | ex c e' s1 => rw [hg] at hp; exact hp
  | no => rw [hg] at hp; exact hp
theorem sb_one (h1 : SS X G W st g) : SB X G W [st] g := pss_one h1
theorem ss_pass : SS X G W (.Pass pos) sNext := ps_imp ps_pass fun D σ H h => by
  obtain ⟨F, ρ, env, s, he, hs, hp⟩ := h
  exact hp ρ H σ (Ext.refl ρ H) hs he
theorem ss_brk : SS X G W (.Break pos) sBrk := ps_imp ps_break fun D σ H h => by
  obtain ⟨F, ρ, env, s, he, hs, hp⟩ := h
  exact hp ρ H σ (Ext.refl ρ H) hs he
theorem ss_cont : SS X G W (.Continue pos) sCont := ps_imp ps_continue fun D σ H h => by
  obtain ⟨F, ρ, env, s, he, hs, hp⟩ := h
  exact hp ρ H σ (Ext.refl ρ H) hs he
/-- the first part of a statement -/
theorem tE.first {F ρ : List Addr} {H : Hp} {s : Sto} {σ : L2.St} {env : Env} {k : D → Sto → SR} {Q : VK} {D : Ends} (he : EnvR X.K F ρ H σ env) (hs : SRel X.K G F ρ H s) (hp : PstS X.K G W F ρ H (SR.ofR (f env s) env k) D)
    (hq : ∀ d s1 ρ1 H1 v, EnvR X.K F ρ1 H1 σ env → SRel X.K G F ρ1 H1 s1 → Ext ρ H ρ1 H1 → Rep X.K F ρ1 H1 v d → PstS X.K G W F ρ1 H1 (k d s1) D → Q v H1) : tE X.K G W f σ H Q :=
  ⟨F, ρ, env, s, he, hs, (hp.ofR he).imp (fun d s1 ρ1 H1 _ e q h v r => hq d s1 ρ1 H1 v (he.ext e) q e r h) fun _ _ h => h⟩
theorem ss_expr (h : SE X G W e f) (hs : swapsWith e none pos.line X.env = pure false := by rfl) : SS X G W (.Expr e pos) (sExpr f) := by
  refine ps_imp (ps_expr h hs) fun D σ H h => ?_
  obtain ⟨F, ρ, env, s, he, hs, hp⟩ := h
  exact tE.first he hs hp fun d s1 ρ1 H1 v he1 hs1 e1 r1 hp1 => hp1 ρ1 H1 σ (Ext.refl _ _) hs1 he1
theorem ss_ret (h : SE X G W e f) : SS X G W (.Return (some e) pos) (sRet f) := by
  refine ps_imp (ps_ret h) fun D σ H h => ?_
  obtain ⟨F, ρ, env, s, he, hs, hp⟩ := h
  exact tE.first he hs hp fun d s1 ρ1 H1 v he1 hs1 e1 r1 hp1 => hp1 ρ1 H1 v (Ext.refl _ _) hs1 r1
theorem ss_retN : SS X G W (.Return none pos) sRetN := ps_imp ps_retN fun D σ H h => by
  obtain ⟨F, ρ, env, s, he, hs, hp⟩ := h
  exact hp ρ H .non (Ext.refl ρ H) hs .non
theorem ss_if {c : Expr} (ht : ST X G W c t) (h1 : SB X G W bd g) (h2 : SB X G W el h) : SS X G W (.If c bd el pos) (sIf t g h) := by
  refine ps_imp (ps_if ht h1 h2) fun D σ H h => ?_
  obtain ⟨F, ρ, env, s, he, hs, hp⟩ := h
  refine ⟨F, ρ, env, s, he, hs, (hp.ofR he).imp (fun k s1 ρ1 H1 _ e q hp1 => ?_) fun _ _ h => h⟩
  cases k with
  | true => exact iteT ⟨F, ρ1, env, s1, he.ext e, q, hp1⟩
  | false => exact iteF ⟨F, ρ1, env, s1, he.ext e, q, hp1⟩

/-! ### targets -/
theorem sg_var (i : Nat) {x : Str} (hN : X.N.Nodup) (hi : X.N[i]? = some x) (hx : Loc X.env.scope x) (hf : X.fn x = true ∨ X.env.scope.names.lookup x = some .local := by first | exact .inl rfl | exact .inr rfl | assumption) : SG X G (.Name x pos) (gVar i) := by
  refine pg_imp (pg_name hN hi hx hf) fun v σ H Q h => ?_
  obtain ⟨F, ρ, env, s, d, he, hs, r, hp⟩ := h
  exact hp ρ H _ (Ext.refl _ _) hs (he.set i r)
theorem sg_nil : SGs X G [] Sx.gNil := pgs_imp pgs_nil fun v σ H Q h => by
  obtain ⟨F, ρ, env, s, d, he, hs, r, hp⟩ := h
  cases r with
  | nil => exact ⟨rfl, hp ρ H _ (Ext.refl _ _) hs he⟩
  | cons => exact hp.elim
theorem sg_cons {es : List Expr} {g1 : GF} {g2 : GFs} (h1 : SG X G e g1) (h2 : SGs X G es g2) (hs : (assignEach (e :: es) X.env).map (·.2) = assign e X.env :: (assignEach es X.env).map (·.2) := by rfl) : SGs X G (e :: es) (Sx.gCons g1 g2) := by
  refine pgs_imp (pgs_cons h1 h2 hs) fun v σ H Q h => ?_
  obtain ⟨F, ρ, env, s, d, he, hs, r, hp⟩ := h
  cases r with
  | nil => exact hp.elim
  | @cons _ _ d _ r rr =>
    refine ⟨_, _, rfl, F, ρ, env, s, _, he, hs, r, ?_⟩
    simp only [Sx.gCons] at hp
    split at hp
    · rename_i q hg
      rw [hg]
      exact fun ρ' H' σ' e hs' he' => ⟨F, ρ', q.1, q.2, _, he', hs', rr.ext e, hp.ext e⟩
    · exact hp.elim
theorem sg_tup {es : List Expr} {k n : Nat} {g2 : GFs} (hc : X.calm = true) (h : SGs X G es g2)
    (hn : (assignEach es X.env).length = n := by rfl) (hst : (assignEach es X.env).findIdx? (·.1) = none := by rfl) : SG X G (.Tuple es k pos) (Sx.gTup n g2) := by
  refine pg_imp (pg_tup hc h hn hst) fun v σ H Q h => ?_
  obtain ⟨F, ρ, env, s, d, he, hs, r, hp⟩ := h
  cases r with
  | tup t q =>
    simp only [Sx.gTup] at hp
    split at hp
    · rename_i hl
      exact ⟨_, _, rfl, t.sq, q.length.trans hl, F, ρ, env, s, _, he, hs, q, hp⟩
    · exact hp.elim
  | _ => exact hp.elim
theorem sg_sub {o i : Expr} {fo fi : EF} (ho : SE X G (fun _ _ _ _ => False) o fo) (hi : SE X G (fun _ _ _ _ => False) i fi)
    (ha : ∀ v, assign (.Subscript o i pos) X.env v = (do
      let ov ← holding [v] (eval o X.env)
      let iv ← holding [v, ov] (eval i X.env)
      standAt pos
      holding [v, ov, iv] (setItem ov iv v)
      release [v, ov, iv] []) := by intro _; rfl) : SG X G (.Subscript o i pos) (Sx.gSub fo fi) := by
  refine pg_imp (pg_sub ho hi set_list ha) fun v σ H Q h => ?_
  obtain ⟨F, ρ, env, s, d, he, hs, r, hp⟩ := h
  simp only [Sx.gSub] at hp
  refine ⟨F, ρ, env, s, he, hs, ?_⟩
  split at hp
  · rename_i o1 s1 e1
    rw [e1]
    intro ρ1 H1 ee1 hs1 v1 r1
    refine ⟨F, ρ1, env, s1, he.ext ee1, hs1, ?_⟩
    split at hp
    · rename_i i1 s2 e2
      rw [e2]
      intro ρ2 H2 ee2 hs2 v2 r2
      cases z : setAt s2 o1 i1 d with
      | none => rw [z] at hp; exact hp.elim
      | some s3 =>
        rw [z] at hp
        unfold setAt at z
        split at z
        · split at z
          · rename_i xs hx
            split at z
            · rename_i k _ _ _ j hj
              cases z
              obtain ⟨a, ha, vs, hv, rr⟩ := hs2.at hx
              have r1' := r1.ext ee2
              cases r1' with
              | ref q =>
                rw [q] at ha
                cases ha
                cases r2 with
                | int =>
                  refine ⟨_, vs, _, j, rfl, rfl, hv, by rw [rr.length]; exact hj, ?_⟩
                  have hm := List.mem_of_getElem? q
                  refine hp ρ2 _ σ ((ee1.trans ee2).trans (Ext.put hm (nf hv))) (hs2.put q ⟨_, upd_same, ?_⟩) ((he.ext (ee1.trans ee2)).ext (Ext.put hm (nf hv)))
                  exact (Reps.set ((r.ext (ee1.trans ee2))) j rr).ext (Ext.put hm (nf hv))
            · cases z
          · cases z
        · cases z
    · exact hp.elim
  · exact hp.elim
theorem ss_asg {tg : Expr} {g1 : GF} (h : SE X G W e f) (hg : SG X G tg g1) (hs : swapsWithSole [tg] e pos.line X.env = pure false := by rfl) (hw : swappedStores [tg] e X.env = pure none := by rfl)
    (h1 : (assignEach [tg] X.env).map (·.2) = [assign tg X.env] := by rfl) : SS X G W (.Assign [tg] e pos) (sAsg f g1) := by
  refine ps_imp (ps_asg h hg hs hw h1) fun D σ H h => ?_
  obtain ⟨F, ρ, env, s, he, hs, hp⟩ := h
  refine tE.first he hs hp fun d s1 ρ1 H1 v he1 hs1 e1 r1 hp1 => ?_
  refine ⟨F, ρ1, env, s1, d, he1, hs1, r1, ?_⟩
  cases z : g1 d env s1 with
  | none => rw [z] at hp1; exact hp1.elim
  | some q => rw [z] at hp1; exact hp1
theorem ss_set (i : Nat) {x : Str} {pos' : Pos} (hN : X.N.Nodup) (hi : X.N[i]? = some x) (hx : Loc X.env.scope x) (h : SE X G W e f) (hs : swapsWith e (some (.Name x pos')) pos.line X.env = pure false := by rfl) (hf : X.fn x = true ∨ X.env.scope.names.lookup x = some .local := by first | exact .inl rfl | exact .inr rfl | assumption) :
    SS X G W (.Assign [.Name x pos'] e pos) (sAsg f (gVar i)) := by
  refine ps_imp (ps_set hN hi hx h hs hf) fun D σ H h => ?_
  obtain ⟨F, ρ, env, s, he, hs, hp⟩ := h
  exact tE.first he hs hp fun d s1 ρ1 H1 v he1 hs1 e1 r1 hp1 => hp1 ρ1 H1 _ (Ext.refl _ _) hs1 (he1.set i r1)
theorem ss_par {i j : Nat} {x y : Str} {px py pt : Pos} {kt k2 pt2} (hc : X.calm = true) (hN : X.N.Nodup) (hi : X.N[i]? = some x) (hj : X.N[j]? = some y) (hij : i ≠ j)
    (hx : X.env.scope.names.lookup x = some .local) (hy : X.env.scope.names.lookup y = some .local) (ha : SE X G W a f1) (hb : SE X G W b f2)
    (hw : swappedStores [.Tuple [.Name x px, .Name y py] kt pt] (.Tuple [a, b] k2 pt2) X.env = pure (some [x, y]))
    (h1 : starEach [a, b] X.env = (false, eval a X.env) :: starEach [b] X.env := by rfl) (h2 : starEach [b] X.env = (false, eval b X.env) :: starEach [] X.env := by rfl)
    (hs : swapsWithSole [.Tuple [.Name x px, .Name y py] kt pt] (.Tuple [a, b] k2 pt2) pos.line X.env = pure false := by rfl) :
    SS X G W (.Assign [.Tuple [.Name x px, .Name y py] kt pt] (.Tuple [a, b] k2 pt2) pos) (sPar i j f1 f2) := by
  refine ps_imp (ps_par hc hN hi hj hij hx hy (pa_cons ha (pa_cons hb pa_nil h2) h1) hw hs) fun D σ H h => ?_
  obtain ⟨F, ρ, env, s, he, hs, hp⟩ := h
  refine tE.first he hs hp fun d s1 ρ1 H1 v he1 hs1 e1 r1 hp1 => ?_
  refine tE.first he1 hs1 hp1 fun d' s2 ρ2 H2 v' he2 hs2 e2 r2 hp2 => ?_
  exact ⟨v, v', rfl, hp2 ρ2 H2 _ (Ext.refl _ _) hs2 ((he2.set i (r1.ext e2)).set j r2)⟩
theorem ss_par3 {i j l : Nat} {c : Expr} {x y z : Str} {px py pz pt : Pos} {kt k2 pt2} (hc : X.calm = true) (hN : X.N.Nodup) (hi : X.N[i]? = some x) (hj : X.N[j]? = some y) (hl : X.N[l]? = some z) (hij : i ≠ j) (hil : i ≠ l) (hjl : j ≠ l)
    (hx : X.env.scope.names.lookup x = some .local) (hy : X.env.scope.names.lookup y = some .local) (hz : X.env.scope.names.lookup z = some .local) (ha : SE X G W a f1) (hb : SE X G W b f2) (hcc : SE X G W c f3)
    (hw : swappedStores [.Tuple [.Name x px, .Name y py, .Name z pz] kt pt] (.Tuple [a, b, c] k2 pt2) X.env = pure (some [x, y, z]))
    (h1 : starEach [a, b, c] X.env = (false, eval a X.env) :: starEach [b, c] X.env := by rfl) (h2 : starEach [b, c] X.env = (false, eval b X.env) :: starEach [c] X.env := by rfl) (h3 : starEach [c] X.env = (false, eval c X.env) :: starEach [] X.env := by rfl)
    (hs : swapsWithSole [.Tuple [.Name x px, .Name y py, .Name z pz] kt pt] (.Tuple [a, b, c] k2 pt2) pos.line X.env = pure false := by rfl) :
    SS X G W (.Assign [.Tuple [.Name x px, .Name y py, .Name z pz] kt pt] (.Tuple [a, b, c] k2 pt2) pos) (sPar3 i j l f1 f2 f3) := by
  refine ps_imp (ps_par3 hc hN hi hj hl hij hil hjl hx hy hz (pa_cons ha (pa_cons hb (pa_cons hcc pa_nil h3) h2) h1) hw hs) fun D σ H h => ?_
  obtain ⟨F, ρ, env, s, he, hs, hp⟩ := h
  refine tE.first he hs hp fun d s1 ρ1 H1 v he1 hs1 e1 r1 hp1 => ?_
  refine tE.first he1 hs1 hp1 fun d' s2 ρ2 H2 v' he2 hs2 e2 r2 hp2 => ?_
  refine tE.first he2 hs2 hp2 fun d3 s3 ρ3 H3 v3 he3 hs3 e3 r3 hp3 => ?_
  exact ⟨v, v', v3, rfl, hp3 ρ3 H3 _ (Ext.refl _ _) hs3 (((he3.set i (r1.ext (e2.trans e3))).set j (r2.ext e3)).set l r3)⟩

/-! ### while -/
theorem ss_while {c : Expr} (hp : PassesOwn (model X.prog X.w) X.A X.env X.xe) (n : Nat) (ht : ST X G W c t) (hb : SB X G W bd g) : SS X G W (.While c bd [] pos) (sWhile t g n) := by
  refine ps_imp (ps_while hp ht hb) fun D σ H h => ?_
  obtain ⟨F, ρ, env, s, he, hs, hp⟩ := h
  refine ⟨fun m σ H => ∃ ρ env s, EnvR X.K F ρ H σ env ∧ SRel X.K G F ρ H s ∧ PstS X.K G W F ρ H (sWhile t g m env s) D, ⟨n, ρ, env, s, he, hs, hp⟩, ?_⟩
  rintro m σ H ⟨ρ, env, s, he, hs, hp⟩
  cases m with
  | zero => exact hp.elim
  | succ m =>
    simp only [sWhile] at hp
    refine ⟨F, ρ, env, s, he, hs, (hp.ofR he).imp (fun k s1 ρ1 H1 _ e q hp1 => ?_) fun _ _ h => h⟩
    cases k with
    | false => exact iteF (hp1 ρ1 H1 σ (Ext.refl _ _) q (he.ext e))
    | true =>
      refine iteT ⟨fun σ' H' => ∃ ρ env s, EnvR X.K F ρ H' σ' env ∧ SRel X.K G F ρ H' s ∧ PstS X.K G W F ρ H' (sWhile t g m env s) D, fun σ' H' h => ⟨m, Nat.lt_succ_self m, h⟩, F, ρ1, env, s1, he.ext e, q, ?_⟩
      simp only [if_pos] at hp1
      cases hg : g env s1 with
      | nx e2 s2 => rw [hg] at hp1; exact fun ρ' H' σ' ee a b => ⟨ρ', e2, s2, b, a, PstS.ext ee hp1⟩
      | ct e2 s2 => rw [hg] at hp1; exact fun ρ' H' σ' ee a b => ⟨ρ', e2, s2, b, a, PstS.ext ee hp1⟩
      | bk e2 s2 => rw [hg] at hp1; exact hp1
      | rt d s2 => rw [hg] at hp1; exact hp1
      | ex c e2 s2 => rw [hg] at hp1; exact hp1
      | no => rw [hg] at hp1; exact hp1
end

/-! ### what is walked -/
def ItR (K : PySem.W.Frag) (G : SCtx) (F ρ0 : List Addr) (H0 : Hp) (ds : List D) (J : It) : Prop := ∃ (Gd : Hp → Prop) (Y : Nat → Hp → V → Hp → Prop), L2.Walk J ds.length Gd Y ∧
  (∀ F' ρ H s, (∀ a ∈ F', a ∈ F ∨ H0 a = none) → Ext ρ0 H0 ρ H → SRel K G F' ρ H s → Gd H) ∧
  ∀ F' i ρ H s x H' d, (∀ a ∈ F', a ∈ F ∨ H0 a = none) → Ext ρ0 H0 ρ H → SRel K G F' ρ H s → ds[i]? = some d → Y i H x H' → Ext ρ H ρ H' ∧ SRel K G F' ρ H' s ∧ Rep K F' ρ H' x d
def tI (K : PySem.W.Frag) (G : SCtx) (W : WX) (f : IF) : TI := fun σ H R => ∃ F ρ env s, EnvR K F ρ H σ env ∧ SRel K G F ρ H s ∧ Pst K G F ρ H (f env s) (fun ds _ ρ' H' => ∀ J, ItR K G F ρ' H' ds J → R J H') (eW G W σ)
abbrev SI (X : Cx) (G : SCtx) (W : WX) (tg e : Expr) (f : IF) : Prop := PI X tg e (tI X.K G W f)
theorem pi_imp {X : Cx} {tg e : Expr} {t t' : TI} (h : PI X tg e t) (i : ∀ σ H R, t' σ H R → t σ H R) : PI X tg e t' := ⟨fun pins s σ H R I q => h.run pins s σ H R I (i σ H R q)⟩
theorem pi_or2 {X : Cx} {tg e : Expr} {t t1 t2 : TI} (h1 : PI X tg e t1) (h2 : PI X tg e t2) (i : ∀ σ H R, t σ H R → t1 σ H R ∨ t2 σ H R) : PI X tg e t := ⟨fun pins s σ H R I q => (i σ H R q).elim (h1.run pins s σ H R I) (h2.run pins s σ H R I)⟩
section
variable {K : PySem.W.Frag} {G : SCtx} {F ρ : List Addr} {H : Hp} {s : Sto}
theorem itr_tup {a : Addr} {vs : List V} {ds : List D} (t : TupAt K F ρ H a vs) (q : Reps K F ρ H vs ds) : ItR K G F ρ H ds (Itt K a) := by
  refine ⟨_, _, by rw [← q.length]; exact walk_tup (xs := vs), fun F' ρ1 H1 s c e _ => (t.ext e).sq, fun F' i ρ1 H1 s x H' d c e hs hd y => ?_⟩
  obtain ⟨rfl, hx⟩ := y
  obtain ⟨v, h1, h2⟩ := q.get hd
  rw [hx] at h1
  cases h1
  exact ⟨Ext.refl _ _, hs, (h2.toF c).ext e⟩
theorem itr_lst {a : Addr} {vs : List V} {ds : List D} (t : LstAt F ρ H a vs) (q : Reps K F ρ H vs ds) : ItR K G F ρ H ds (Itl K a) := by
  refine ⟨_, _, by rw [← q.length]; exact walk_list (xs := vs), fun F' ρ1 H1 s c e _ => (t.ext e).sq, fun F' i ρ1 H1 s x H' d c e hs hd y => ?_⟩
  obtain ⟨rfl, hx⟩ := y
  obtain ⟨v, h1, h2⟩ := q.get hd
  rw [hx] at h1
  cases h1
  exact ⟨Ext.refl _ _, hs, (h2.toF c).ext e⟩
theorem itr_rng {lo hi : Int} : ItR K G F ρ H (rangeD lo hi) (Itr lo (hi - lo).toNat) := by
  refine ⟨_, _, by rw [show (rangeD lo hi).length = (hi - lo).toNat by simp [rangeD]]; exact walk_range, fun _ _ _ _ _ _ _ => trivial, fun F' i ρ1 H1 s x H' d c e hs hd y => ?_⟩
  obtain ⟨rfl, rfl⟩ := y
  unfold rangeD at hd
  rw [List.getElem?_map] at hd
  obtain ⟨k, h1, rfl⟩ := Option.map_eq_some_iff.mp hd
  have : k = i := by
    have := List.getElem?_eq_some_iff.mp h1
    obtain ⟨h, e⟩ := this
    simp at e
    exact e.symm
  subst this
  exact ⟨Ext.refl _ _, hs, .int _⟩
end
section
variable {X : Cx} {G : SCtx} {W : WX} {pos : Pos} {e a b tg : Expr} {f f1 f2 f3 : EF} {g1 : AF} {g : SF} {bd : List Stmt}
theorem si_row (h : SE X G W e f) : SI X G W tg e (iRow f) := by
  refine pi_or2 (pi_list h) (pi_tup h) fun σ H R h => ?_
  obtain ⟨F, ρ, env, s, he, hs, hp⟩ := h
  simp only [iRow] at hp
  cases hf : f env s with
  | ex c s1 =>
    rw [hf] at hp
    exact .inl ⟨F, ρ, env, s, he, hs, by rw [hf]; exact hp⟩
  | no => rw [hf] at hp; exact hp.elim
  | ok d s1 =>
    rw [hf] at hp
    cases d with
    | tup xs =>
      refine .inr ⟨F, ρ, env, s, he, hs, ?_⟩
      rw [hf]
      intro ρ1 H1 e1 hs1 v r
      cases r with
      | tup t q => exact ⟨_, rfl, ⟨_, t.sq⟩, hp ρ1 H1 e1 hs1 _ (itr_tup t q)⟩
    | lst xs =>
      refine .inl ⟨F, ρ, env, s, he, hs, ?_⟩
      rw [hf]
      intro ρ1 H1 e1 hs1 v r
      cases r with
      | lst t q => exact ⟨_, rfl, ⟨_, SqL.of t.1⟩, hp ρ1 H1 e1 hs1 _ (itr_lst t q)⟩
    | _ => exact hp.elim
theorem rOk_of {i : Int} (h : rOk i = true) : -(2 ^ 62) ≤ i ∧ i < 2 ^ 62 := by
  unfold rOk at h
  rw [Bool.and_eq_true] at h
  exact ⟨of_decide_eq_true h.1, of_decide_eq_true h.2⟩
theorem si_rng1 {p : Pos} (hg : Gl X "range") (hm : X.mg "range" = none) (ha : SA X G W [a] g1) (hs : starEach [a] X.env = [(false, eval a X.env)] := by rfl) : SI X G W tg (.Call (.Name "range" p) [a] [] pos) (Sx.iRng1 g1) := by
  refine pi_imp (pi_range1 hg hm ha hs) fun σ H R h => ?_
  obtain ⟨F, ρ, env, s, he, hs, hp⟩ := h
  refine tA.step he hs hp fun ds s1 ρ1 H1 vs _ he1 hs1 e1 r1 hp1 => ?_
  split at hp1
  · rename_i j _
    split at hp1
    · rename_i hj
      cases r1 with
      | cons r t =>
        cases t
        cases r
        have q := rOk_of hj
        have z := hp1.here hs1 (Itr 0 (j - 0).toNat) itr_rng
        rw [Int.sub_zero] at z
        exact ⟨j, rfl, q.1, q.2, z⟩
    · exact hp1.elim
  · exact hp1.elim
theorem si_rng2 {p : Pos} (hg : Gl X "range") (hm : X.mg "range" = none) (ha : SA X G W [a, b] g1) (hs : starEach [a, b] X.env = [(false, eval a X.env), (false, eval b X.env)] := by rfl) (hs2 : starEach [b] X.env = [(false, eval b X.env)] := by rfl) : SI X G W tg (.Call (.Name "range" p) [a, b] [] pos) (Sx.iRng2 g1) := by
  refine pi_imp (pi_range2 hg hm ha hs hs2) fun σ H R h => ?_
  obtain ⟨F, ρ, env, s, he, hs, hp⟩ := h
  refine tA.step he hs hp fun ds s1 ρ1 H1 vs _ he1 hs1 e1 r1 hp1 => ?_
  split at hp1
  · rename_i i j _
    split at hp1
    · rename_i hj
      rw [Bool.and_eq_true] at hj
      cases r1 with
      | cons r t =>
        cases t with
        | cons r' t =>
          cases t
          cases r
          cases r'
          have q := rOk_of hj.1
          have q' := rOk_of hj.2
          exact ⟨i, j, rfl, ⟨q.1, q.2, q'.1, q'.2⟩, hp1.here hs1 (Itr i (j - i).toNat) itr_rng⟩
    · exact hp1.elim
  · exact hp1.elim
end
end Sx

/-! PxE: for, comprehensions, methods of lists, calls, defs. -/
namespace Sx
open PySem L2
section
variable {X : Cx} {G : SCtx} {W : WX} {pos : Pos} {e a b c tg : Expr} {f f1 f2 f3 : EF} {g1 : AF} {g : SF} {gt : GF} {i : IF} {bd : List Stmt}
theorem ss_for (hpo : PassesOwn (model X.prog X.w) X.A X.env X.xe) (hc : X.calm = true) (hi : SI X G W tg e i) (hg : SG X G tg gt) (hb : SB X G W bd g)
    (hs : ∀ x, foldedSetIterable e X.env x = pure x := by intro _; rfl) : SS X G W (.For tg e bd [] pos) (sFor i gt g) := by
  refine ps_imp (ps_for hpo hc hi hg hb hs) fun D σ H h => ?_
  obtain ⟨F, ρ0, env0, s0, he0, hs0, hp0⟩ := h
  refine ⟨F, ρ0, env0, s0, he0, hs0, (hp0.ofR he0).imp (fun ds s1 ρ1 H1 _ e1 q1 hp1 J hJ => ?_) fun _ _ h => h⟩
  obtain ⟨Gd, Y, w, hgd, hy⟩ := hJ
  refine for_it w (fun i σ H => ∃ ρ env s, Ext ρ1 H1 ρ H ∧ EnvR X.K F ρ H σ env ∧ SRel X.K G F ρ H s ∧ PstS X.K G W F ρ H (forL gt g (ds.drop i) env s) D)
    ⟨ρ1, env0, s1, Ext.refl _ _, he0.ext e1, q1, hp1⟩ (fun i σ H _ ⟨ρ, env, s, e, _, q, _⟩ => hgd F ρ H s (fun _ h => .inl h) e q) ?_ ?_
  · rintro i x σ H H' hi ⟨ρ, env, s, e, he, q, hp⟩ hY
    have hd : ds[i]? = some ds[i] := List.getElem?_eq_getElem hi
    obtain ⟨e2, q2, r2⟩ := hy F i ρ H s x H' ds[i] (fun _ h => .inl h) e q hd hY
    rw [List.drop_eq_getElem_cons hi] at hp
    refine ⟨F, ρ, env, s, ds[i], he.ext e2, q2, r2, ?_⟩
    have hp' := PstS.ext e2 hp
    simp only [forL] at hp'
    cases z : gt ds[i] env s with
    | none => rw [z] at hp'; exact hp'.elim
    | some r =>
      rw [z] at hp'
      intro ρ3 H3 σ3 e3 q3 he3
      refine ⟨F, ρ3, r.1, r.2, he3, q3, ?_⟩
      have hp3 := PstS.ext e3 hp'
      simp only [SR.ofG] at hp3
      have e13 : Ext ρ1 H1 ρ3 H3 := (e.trans e2).trans e3
      cases zg : g r.1 r.2 with
      | nx e4 s4 => rw [zg] at hp3; exact fun ρ' H' σ' ee a b => ⟨ρ', e4, s4, e13.trans ee, b, a, PstS.ext ee hp3⟩
      | ct e4 s4 => rw [zg] at hp3; exact fun ρ' H' σ' ee a b => ⟨ρ', e4, s4, e13.trans ee, b, a, PstS.ext ee hp3⟩
      | bk e4 s4 => rw [zg] at hp3; exact hp3
      | rt d s4 => rw [zg] at hp3; exact hp3
      | ex c e4 s4 => rw [zg] at hp3; exact hp3
      | no => rw [zg] at hp3; exact hp3
  · rintro σ H ⟨ρ, env, s, e, he, q, hp⟩
    rw [List.drop_length] at hp
    exact hp ρ H σ (Ext.refl _ _) q he

theorem si_rng3 {p : Pos} (hg : Gl X "range") (hm : X.mg "range" = none) (ha : SA X G W [a, b, c] g1)
    (hs : starEach [a, b, c] X.env = (false, eval a X.env) :: starEach [b, c] X.env := by rfl) (hpl : (backTo pos (starEach [b, c] X.env)).any (·.1) = false := by rfl) : SI X G W tg (.Call (.Name "range" p) [a, b, c] [] pos) (Sx.iRng3 g1) := by
  refine pi_imp (pi_range3 hg hm ha hs hpl) fun σ H R h => ?_
  obtain ⟨F, ρ, env, s, he, hs, hp⟩ := h
  refine tA.step he hs hp fun ds s1 ρ1 H1 vs _ he1 hs1 e1 r1 hp1 => ?_
  split at hp1
  · rename_i i j k _
    split at hp1
    · rename_i hj
      obtain ⟨rfl, h1, h2⟩ := hj
      cases r1 with
      | cons r t =>
        cases t with
        | cons r' t =>
          cases t with
          | cons r'' t =>
            cases t
            cases r
            cases r'
            cases r''
            have q := rOk_of h1
            have q' := rOk_of h2
            refine ⟨i, j, -1, _, rfl, RgC.neg q.1 q.2 q'.1 q'.2, hp1.here hs1 _ ?_⟩
            refine ⟨_, _, by rw [show (rangeB i j).length = (i - j).toNat by simp [rangeB]]; exact walk_rangeC, fun _ _ _ _ _ _ _ => trivial, fun F' m ρ1 H1 s x H' d c e hs hd y => ?_⟩
            obtain ⟨rfl, rfl⟩ := y
            unfold rangeB at hd
            rw [List.getElem?_map] at hd
            obtain ⟨k, h1, rfl⟩ := Option.map_eq_some_iff.mp hd
            have : k = m := by
              obtain ⟨h, e⟩ := List.getElem?_eq_some_iff.mp h1
              simp at e
              exact e.symm
            subst this
            refine ⟨Ext.refl _ _, hs, ?_⟩
            show Rep X.K F' ρ1 H' (V.int (i + (k : Nat) * (-1 : Int))) _
            rw [show i + (k : Nat) * (-1 : Int) = i - (k : Nat) by omega]
            exact .int _
    · exact hp1.elim
  · exact hp1.elim
end

/-- pairs of two rows -/
def iZip (g : AF) : IF := fun env s => (g env s).bind fun ds s1 => match ds with
  | [.tup xs, .tup ys] => .ok (List.zipWith (fun a b => .tup [a, b]) xs ys) s1
  | [.lst xs, .lst ys] => .ok (List.zipWith (fun a b => .tup [a, b]) xs ys) s1
  | _ => .no
def iStr (f : EF) : IF := fun env s => (f env s).bind fun d s1 => match d with
  | .str z => .ok (signsOf z) s1
  | _ => .no
section
variable {K : PySem.W.Frag} {a b : Addr} {xs ys : List V}
theorem walk_zipT {n : Nat} (hn : n = min xs.length ys.length) : L2.Walk (RZ.ItzT K a b) n (fun H => SqT K H a xs ∧ SqT K H b ys) (YPair (fun i => xs[i]?) (fun i => ys[i]?)) := by
  subst hn
  refine ⟨fun i _ hi q => ?_, fun _ q => ⟨xs, ys, q.1, q.2, by omega⟩, fun i H v H' _ q y => ?_⟩
  · have h1 : i < xs.length := by omega
    have h2 : i < ys.length := by omega
    exact ⟨xs, ys, xs[i], ys[i], q.1, q.2, by simp [h1], by simp [h2]⟩
  · obtain ⟨T, x, z, h1, h2, h3, h4, h5⟩ := y
    exact ⟨T, x, z, h1, h2, h3, h4 xs q.1, h5 ys q.2⟩
end
section
variable {K : PySem.W.Frag} {G : SCtx} {F ρ : List Addr} {H : Hp} {s : Sto}
/-- a new pair -/
theorem ypair_rep {ρ1 : List Addr} {H1 H' : Hp} {x : V} {f g : Nat → Option V} {i : Nat} {d1 d2 : D} {v1 v2 : V} (hs : SRel K G F ρ1 H1 s) (y : YPair f g i H1 x H') (h1 : f i = some v1) (h2 : g i = some v2) (r1 : Rep K F ρ1 H1 v1 d1) (r2 : Rep K F ρ1 H1 v2 d2) :
    Ext ρ1 H1 ρ1 H' ∧ SRel K G F ρ1 H' s ∧ Rep K F ρ1 H' x (.tup [d1, d2]) := by
  obtain ⟨T, a, b, rfl, hT, rfl, e1, e2⟩ := y
  rw [h1] at e1
  rw [h2] at e2
  cases e1
  cases e2
  exact ⟨Ext.new ρ1 hT, hs.new hT, Rep.newT hs hT (.cons r1 (.cons r2 .nil))⟩
theorem zipW_get {xs ys : List D} {i : Nat} {d : D} (h : (List.zipWith (fun a b => D.tup [a, b]) xs ys)[i]? = some d) : ∃ a b, xs[i]? = some a ∧ ys[i]? = some b ∧ d = .tup [a, b] := by
  rw [List.getElem?_zipWith] at h
  cases h1 : xs[i]? with
  | none => rw [h1] at h; cases h
  | some a =>
    cases h2 : ys[i]? with
    | none => rw [h1, h2] at h; cases h
    | some b => rw [h1, h2] at h; cases h; exact ⟨a, b, rfl, rfl, rfl⟩
end
section
variable {X : Cx} {G : SCtx} {W : WX} {pos : Pos} {e a b c tg : Expr} {f f1 f2 f3 : EF} {g1 : AF} {g : SF} {gt : GF} {i : IF} {bd : List Stmt}
theorem si_zip {p tpos : Pos} {elts : List Expr} {kk : Nat} (hg : Gl X "zip") (hm : X.mg "zip" = none) (ha : SA X G W [a, b] g1)
    (hs : starEach [a, b] X.env = (false, eval a X.env) :: starEach [b] X.env := by rfl) (hpl : (backTo pos (starEach [b] X.env)).any (·.1) = false := by rfl) :
    SI X G W (.Tuple elts kk tpos) (.Call (.Name "zip" p) [a, b] [] pos) (Sx.iZip g1) := by
  refine pi_imp (RZ.pi_zipA hg hm ha hs hpl) fun σ H R h => ?_
  obtain ⟨F, ρ, env, s, he, hs, hp⟩ := h
  refine tA.step he hs hp fun ds s1 ρ1 H1 vs _ he1 hs1 e1 r1 hp1 => ?_
  split at hp1
  · rename_i xs ys _
    cases r1 with
    | cons r t =>
      cases t with
      | cons r' t =>
        cases t
        cases r with
        | tup t1 q1 =>
          cases r' with
          | tup t2 q2 =>
            refine ⟨_, _, _, _, rfl, .inr ⟨t1.sq, t2.sq, hp1.here hs1 _ ?_⟩⟩
            refine ⟨_, _, walk_zipT (by rw [q1.length, q2.length, List.length_zipWith]), fun F' ρ H s c e _ => ⟨(t1.ext e).sq, (t2.ext e).sq⟩, fun F' m ρ H s x H' d c e hs hd y => ?_⟩
            obtain ⟨d1, d2, h1, h2, rfl⟩ := zipW_get hd
            obtain ⟨v1, h3, r3⟩ := q1.get h1
            obtain ⟨v2, h4, r4⟩ := q2.get h2
            exact ypair_rep hs y h3 h4 ((r3.toF c).ext e) ((r4.toF c).ext e)
  · rename_i xs ys _
    cases r1 with
    | cons r t =>
      cases t with
      | cons r' t =>
        cases t
        cases r with
        | lst t1 q1 =>
          cases r' with
          | lst t2 q2 =>
            refine ⟨_, _, _, _, rfl, .inl ⟨SqL.of t1.1, SqL.of t2.1, hp1.here hs1 _ ?_⟩⟩
            refine ⟨_, _, walk_zip (by rw [q1.length, q2.length, List.length_zipWith]), fun F' ρ H s c e _ => ⟨(t1.ext e).sq, (t2.ext e).sq⟩, fun F' m ρ H s x H' d c e hs hd y => ?_⟩
            obtain ⟨d1, d2, h1, h2, rfl⟩ := zipW_get hd
            obtain ⟨v1, h3, r3⟩ := q1.get h1
            obtain ⟨v2, h4, r4⟩ := q2.get h2
            exact ypair_rep hs y h3 h4 ((r3.toF c).ext e) ((r4.toF c).ext e)
  · exact hp1.elim
theorem si_str (h : SE X G W e f) : SI X G W tg e (Sx.iStr f) := by
  refine pi_imp (pi_str h) fun σ H R h => ?_
  obtain ⟨F, ρ, env, s, he, hs, hp⟩ := h
  refine tE.step he hs hp fun d s1 ρ1 H1 v _ he1 hs1 e1 r1 hp1 => ?_
  cases r1 with
  | str z =>
    refine ⟨z, rfl, hp1.here hs1 _ ?_⟩
    refine ⟨_, _, by rw [show (signsOf z).length = z.cps.size by simp [signsOf]]; exact walk_str, fun _ _ _ _ _ _ _ => trivial, fun F' m ρ H s x H' d c e hs hd y => ?_⟩
    obtain ⟨rfl, c, hc, rfl⟩ := y
    unfold signsOf at hd
    rw [List.getElem?_map, Array.getElem?_toList, hc] at hd
    cases hd
    exact ⟨Ext.refl _ _, hs, .str _⟩
  | _ => exact hp1.elim

/-! ### comprehensions -/
abbrev W0 : WX := fun _ _ _ _ => False
/-- the target of a comprehension: names of its own -/
structure CG (K : PySem.W.Frag) (g : GF) (gt : TG) (vs : List Nat) : Prop where
  run : ∀ (G : SCtx) (F ρ : List Addr) (H : Hp) (s : Sto) (σ : L2.St) (env : Env) (v : V) (d : D) (Q : L2.St → Hp → Prop), EnvR K F ρ H σ env → SRel K G F ρ H s → Rep K F ρ H v d → ∀ r, g d env s = some r → r.2 = s →
    (∀ σ', EnvR K F ρ H σ' r.1 → L2.wipe σ' vs = L2.wipe σ vs → Q σ' H) → gt v σ H Q
  same : ∀ d env s r, g d env s = some r → r.2 = s
theorem wipe_set {σ : L2.St} {i : Nat} {x : Option V} : ∀ {vs : List Nat}, i ∈ vs → L2.wipe (σ.set i x) vs = L2.wipe σ vs
  | [], h => by cases h
  | v :: vs, h => by
    unfold L2.wipe
    by_cases hv : i ∈ vs
    · rw [wipe_set hv]
    · have e : v = i := by
        rcases List.mem_cons.mp h with z | z
        · exact z.symm
        · exact absurd z hv
      subst e
      have go : ∀ (ws : List Nat), v ∉ ws → L2.wipe (σ.set v x) ws = (L2.wipe σ ws).set v x := by
        intro ws hw
        induction ws with
        | nil => rfl
        | cons w ws ih =>
          have h1 : v ≠ w := fun z => hw (by rw [z]; exact List.mem_cons_self)
          have h2 : v ∉ ws := fun z => hw (List.mem_cons_of_mem _ z)
          unfold L2.wipe
          rw [ih h2, List.set_comm _ _ h1]
      rw [go vs hv, List.set_set]
theorem cg_var {K : PySem.W.Frag} {i : Nat} {vs : List Nat} (h : i ∈ vs := by decide) : CG K (gVar i) (L2.gName i) vs where
  run := fun G F ρ H s σ env v d Q he hs r q hq _ k => by
    cases hq
    exact k _ (he.set i r) (wipe_set h)
  same := fun d env s r h => by cases h; rfl
theorem cg_tup2 {K : PySem.W.Frag} {i j : Nat} {vs : List Nat} (h : i ∈ vs := by decide) (h2 : j ∈ vs := by decide) : CG K (Sx.gTup 2 (Sx.gCons (gVar i) (Sx.gCons (gVar j) Sx.gNil))) (L2.gTup K 2 (L2.gCons (L2.gName i) (L2.gCons (L2.gName j) L2.gNil))) vs where
  run := fun G F ρ H s σ env v d Q he hs r q hq _ k => by
    cases r with
    | tup t rr =>
      simp only [Sx.gTup] at hq
      split at hq
      · rename_i hl
        cases rr with
        | nil => cases hl
        | cons r1 rr =>
          cases rr with
          | nil => cases hl
          | cons r2 rr =>
            cases rr with
            | cons => cases hl
            | nil =>
              cases hq
              exact ⟨_, _, rfl, t.sq, rfl, _, _, rfl, _, _, rfl, rfl, k _ ((he.set i r1).set j r2) (by rw [wipe_set h2, wipe_set h])⟩
      · cases hq
    | _ => cases hq
  same := fun d env s r h => by
    cases d with
    | tup ds =>
      simp only [Sx.gTup] at h
      split at h
      · rename_i hl
        match ds, hl with
        | [_, _], _ => cases h; rfl
      · cases h
    | _ => cases h
theorem cg_tup3 {K : PySem.W.Frag} {i j l : Nat} {vs : List Nat} (h : i ∈ vs := by decide) (h2 : j ∈ vs := by decide) (h3 : l ∈ vs := by decide) : CG K (Sx.gTup 3 (Sx.gCons (gVar i) (Sx.gCons (gVar j) (Sx.gCons (gVar l) Sx.gNil)))) (L2.gTup K 3 (L2.gCons (L2.gName i) (L2.gCons (L2.gName j) (L2.gCons (L2.gName l) L2.gNil)))) vs where
  run := fun G F ρ H s σ env v d Q he hs r q hq _ k => by
    cases r with
    | tup t rr =>
      simp only [Sx.gTup] at hq
      split at hq
      · rename_i hl
        cases rr with
        | nil => cases hl
        | cons r1 rr =>
          cases rr with
          | nil => cases hl
          | cons r2 rr =>
            cases rr with
            | nil => cases hl
            | cons r3 rr =>
              cases rr with
              | cons => cases hl
              | nil =>
                cases hq
                exact ⟨_, _, rfl, t.sq, rfl, _, _, rfl, _, _, rfl, _, _, rfl, rfl, k _ (((he.set i r1).set j r2).set l r3) (by rw [wipe_set h3, wipe_set h2, wipe_set h])⟩
      · cases hq
    | _ => cases hq
  same := fun d env s r h => by
    cases d with
    | tup ds =>
      simp only [Sx.gTup] at h
      split at h
      · rename_i hl
        match ds, hl with
        | [_, _, _], _ => cases h; rfl
      · cases h
    | _ => cases h

theorem EnvR.toF {K : PySem.W.Frag} {F F' ρ : List Addr} {H : Hp} {σ : L2.St} {env : Env} (c : ∀ a ∈ F', a ∈ F ∨ H a = none) (h : EnvR K F ρ H σ env) : EnvR K F' ρ H σ env :=
  ⟨h.1, fun i d q => let ⟨v, a, r⟩ := h.2 i d q; ⟨v, a, r.toF c⟩⟩
theorem EnvR.updF {K : PySem.W.Frag} {F ρ : List Addr} {H : Hp} {σ : L2.St} {env : Env} {p : Addr} {o : HO} (hp : p ∈ F) (h : EnvR K F ρ H σ env) : EnvR K F ρ (upd H p o) σ env :=
  ⟨h.1, fun i d q => let ⟨v, a, r⟩ := h.2 i d q; ⟨v, a, r.updF hp⟩⟩
theorem wipe_wipe {σ : L2.St} : ∀ {vs ws : List Nat}, (∀ v ∈ ws, v ∈ vs) → L2.wipe (L2.wipe σ ws) vs = L2.wipe σ vs
  | _, [], _ => rfl
  | vs, w :: ws, h => by
    show L2.wipe ((L2.wipe σ ws).set w none) vs = _
    rw [wipe_set (h w List.mem_cons_self)]
    exact wipe_wipe fun v hv => h v (List.mem_cons_of_mem _ hv)
/-- the heart of a comprehension -/
theorem lc_sound {t : TF} {gtt : TG} {vs : List Nat} {K : PySem.W.Frag} {F ρ1 : List Addr} {H1 : Hp} {s1 : Sto} {σ : L2.St} {env : Env} {ds : List D} {J : It} {Q : VK} {D0 : Addr} {q0 : List D × Sto} (cg : CG K gt gtt vs) (he : EnvR K F ρ1 H1 σ env) (hs : SRel K G F ρ1 H1 s1)
    (hJ : ItR K G F ρ1 H1 ds J) (hl : ds.length ≤ LIM) (hD : H1 D0 = none) (hq : lcL gt t f (wipeE env vs) ds s1 = some q0)
    (hQ : ∀ ρ' H' vacc, Ext ρ1 H1 ρ' H' → SRel K G (D0 :: F) ρ' H' q0.2 → H' D0 = some (.lst vacc) → Reps K (D0 :: F) ρ' H' vacc q0.1 → Q (.ref D0) H') :
    ∃ W : Nat → Nat → Hp → Prop, (∃ m, W 0 m (upd H1 D0 (.lst []))) ∧ ∀ i m H, W i m H →
      (J.stop i H ∧ Q (.ref D0) H) ∨ (J.go i H ∧ ∃ Nx : Hp → Prop, (∀ H', Nx H' → ∃ m', m' < m ∧ W (i + 1) m' H') ∧ ∀ x H', J.yld i H x H' → gtt x (L2.wipe σ vs) H' fun σ2 H2 => L2.wipe σ2 vs = L2.wipe σ vs ∧ tTT K G W0 t σ2 H2 fun b H3 =>
        if b = true then tE K G W0 f σ2 H3 fun y H4 => ∃ acc, H4 D0 = some (.lst acc) ∧ acc.length < sizeLine ∧ Nx (upd H4 D0 (.lst (acc ++ [y]))) else Nx H3) := by
  obtain ⟨Gd, Y, w, hgd, hy⟩ := hJ
  have cF : ∀ a ∈ D0 :: F, a ∈ F ∨ H1 a = none := fun a ha => by
    rcases List.mem_cons.mp ha with q | q
    · subst q; exact .inr hD
    · exact .inl q
  refine lc_it w (fun i H => ∃ ρ s vacc dacc q, Ext ρ1 H1 ρ H ∧ SRel K G (D0 :: F) ρ H s ∧ EnvR K (D0 :: F) ρ H (L2.wipe σ vs) (wipeE env vs) ∧ H D0 = some (.lst vacc) ∧ Reps K (D0 :: F) ρ H vacc dacc ∧ dacc.length ≤ i ∧
    lcL gt t f (wipeE env vs) (ds.drop i) s = some q ∧ q0 = (dacc ++ q.1, q.2)) ?_ (fun i H _ ⟨ρ, s, _, _, _, e, q, _⟩ => hgd _ ρ H s cF e q) ?_ ?_
  · exact ⟨ρ1, s1, [], [], q0, Ext.new ρ1 hD, hs.addF hD, ((he.wipe vs).toF cF).ext (Ext.new ρ1 hD), upd_same, .nil, Nat.le_refl _, hq, rfl⟩
  · rintro i x H H' hi ⟨ρ, s, vacc, dacc, q, e, hs, hen, hv, hr, hln, hlc, hq0⟩ hY
    have hd : ds[i]? = some ds[i] := List.getElem?_eq_getElem hi
    obtain ⟨e2, q2, r2⟩ := hy _ i ρ H s x H' ds[i] cF e hs hd hY
    rw [List.drop_eq_getElem_cons hi] at hlc
    simp only [lcL] at hlc
    split at hlc
    · rename_i r hr1
      have hD0 : D0 ∈ D0 :: F := List.mem_cons_self
      have nD : ∀ {ρ H s}, SRel K G (D0 :: F) ρ H s → D0 ∉ ρ := fun h z => h.dis _ z hD0
      refine cg.run G (D0 :: F) ρ H' s _ (wipeE env vs) x ds[i] _ (hen.ext e2) q2 r2 r hr1 (cg.same _ _ _ _ hr1) fun σ' he' hw' => ?_
      refine ⟨hw'.trans (wipe_wipe fun _ h => h), D0 :: F, ρ, r.1, r.2, he', by rw [cg.same _ _ _ _ hr1]; exact q2, ?_⟩
      cases ht : t r.1 r.2 with
      | ex => simp [ht] at hlc
      | no => simp [ht] at hlc
      | ok b s2 =>
        simp only [ht] at hlc
        intro ρ3 H3 e3 q3
        have hv3 : H3 D0 = some (.lst vacc) := e3.keep _ _ (e2.keep _ _ hv (nD hs)) (nD q2)
        cases b with
        | false => exact iteF ⟨ρ3, s2, vacc, dacc, q, (e.trans e2).trans e3, q3, hen.ext (e2.trans e3), hv3, hr.ext (e2.trans e3), Nat.le_succ_of_le hln, hlc, hq0⟩
        | true =>
          refine iteT ⟨D0 :: F, ρ3, r.1, s2, he'.ext e3, q3, ?_⟩
          cases hf : f r.1 s2 with
          | ex => simp [hf] at hlc
          | no => simp [hf] at hlc
          | ok y s3 =>
            simp only [hf] at hlc
            split at hlc
            · rename_i q' hq'
              cases hlc
              intro ρ4 H4 e4 q4 v r4
              have hv4 : H4 D0 = some (.lst vacc) := e4.keep _ _ hv3 (nD q3)
              refine ⟨vacc, hv4, ?_, ?_⟩
              · rw [hr.length]
                have : LIM = 1000000 := rfl
                have := sizeLine_eq
                omega
              · refine ⟨ρ4, s3, vacc ++ [v], dacc ++ [y], q', Ext.updF hD (((e.trans e2).trans e3).trans e4), q4.updF hD0, EnvR.updF hD0 (hen.ext ((e2.trans e3).trans e4)), upd_same,
                  Reps.updF hD0 ((hr.ext ((e2.trans e3).trans e4)).snoc r4), by simp; omega, hq', ?_⟩
                rw [hq0]
                simp
            · cases hlc
    · cases hlc
  · rintro H ⟨ρ, s, vacc, dacc, q, e, hs, hen, hv, hr, hln, hlc, hq0⟩
    rw [List.drop_length] at hlc
    simp only [lcL, Option.some.injEq] at hlc
    subst hlc
    subst hq0
    exact hQ ρ H vacc e hs hv (by simpa using hr)
theorem Rep.ofD {K : PySem.W.Frag} {F ρ : List Addr} {H : Hp} {D0 : Addr} {s : Sto} {vacc : List V} {ds : List D} (hs : SRel K G (D0 :: F) ρ H s) (hF : D0 ∉ F) (hv : H D0 = some (.lst vacc)) (r : Reps K (D0 :: F) ρ H vacc ds) : Rep K F ρ H (.ref D0) (.lst ds) :=
  .lst ⟨hv, hF, fun z => hs.dis _ z List.mem_cons_self⟩ (r.toF fun a ha => .inl (List.mem_cons_of_mem _ ha))
theorem s_lc {elt iter : Expr} {ifs : List Expr} {scope : Scope} {own : List (Str × Nat)} {t : TF} {gtt : TG} (hc : X.calm = true) (hN : X.N.Nodup) (hi : SI X G W tg iter i) (ok : BlkOk X.N X.env.scope scope own) (cg : CG X.K gt gtt (own.map (·.2)))
    (hg : ∀ (s : Shared) (H : Hp) (C : Addr) (cl : List (Str × Addr)) (fp : List Addr), PG (X.blk s H scope (compEnvC scope cl C X.env) fp) tg gtt)
    (ht : ∀ (s : Shared) (H : Hp) (C : Addr) (cl : List (Str × Addr)) (fp : List Addr), PTs (X.blk s H scope (compEnvC scope cl C X.env) fp) ifs (tTT X.K G W0 t))
    (he : ∀ (s : Shared) (H : Hp) (C : Addr) (cl : List (Str × Addr)) (fp : List Addr), SE (X.blk s H scope (compEnvC scope cl C X.env) fp) G W0 elt f) (hs : ∀ x, foldedSetIterable iter X.env x = pure x := by intro _; rfl) :
    SE X G W (.ListComp elt [⟨tg, iter, ifs, 0⟩] scope pos) (eLc i gt t f (own.map (·.2))) := by
  refine pe_imp (pe_lc (te := tE X.K G W0 f) hc hN hi ok hg ht he hs) fun σ H Q h => ?_
  obtain ⟨F, ρ, env, s, hen, hsr, hp⟩ := h
  refine ⟨F, ρ, env, s, hen, hsr, hp.bind.imp (fun ds s1 ρ1 H1 _ e1 hs1 hp1 J hJ D0 hD => ?_) fun _ _ h => h⟩
  split at hp1
  · rename_i hl
    split at hp1
    · rename_i q hq
      refine lc_sound cg (hen.ext e1) hs1 hJ hl hD hq fun ρ' H' vacc e hs' hv r => ?_
      exact hp1 ρ' H' e (hs'.subF fun a ha => List.mem_cons_of_mem _ ha) _ (Rep.ofD hs' (hs1.fresh hD).1 hv r)
    · exact hp1.elim
  · exact hp1.elim
mutual
theorem Rep.grow {K : PySem.W.Frag} {F ρ : List Addr} {H : Hp} {p : Addr} : ∀ {d : D} {v : V}, Rep K (p :: F) ρ H v d → Rep K F (ρ ++ [p]) H v d
  | .non, _, h => by cases h; exact .non
  | .bl b, _, h => by cases h; exact .bl b
  | .int i, _, h => by cases h; exact .int i
  | .str x, _, h => by cases h; exact .str x
  | .tup ds, _, h => by
    cases h with
    | tup t r =>
      refine .tup ?_ (Reps.grow r)
      rcases t with ⟨t, f, x⟩ | t
      · simp only [List.mem_cons, not_or] at f
        exact .inl ⟨t, f.2, by simp [x, f.1]⟩
      · exact .inr t
  | .lst ds, _, h => by
    cases h with
    | lst t r =>
      have f := t.2.1
      simp only [List.mem_cons, not_or] at f
      exact .lst ⟨t.1, f.2, by simp [t.2.2, f.1]⟩ (Reps.grow r)
  | .ref m, _, h => by
    cases h with
    | ref q => exact .ref (by rw [List.getElem?_append_left (List.getElem?_eq_some_iff.mp q).1]; exact q)
  | .scr m, _, h => by
    cases h with
    | scr t =>
      rcases t with ⟨t, f, x⟩ | t
      · simp only [List.mem_cons, not_or] at f
        exact .scr (.inl ⟨t, f.2, by simp [x, f.1]⟩)
      · exact .scr (.inr t)
  | .ntp ds, _, h => by
    cases h with
    | ntp t r =>
      obtain ⟨hh, f, x⟩ := t
      simp only [List.mem_cons, not_or] at f
      exact .ntp ⟨hh, f.2, by simp [x, f.1]⟩ (Reps.grow r)
theorem Reps.grow {K : PySem.W.Frag} {F ρ : List Addr} {H : Hp} {p : Addr} : ∀ {ds : List D} {vs : List V}, Reps K (p :: F) ρ H vs ds → Reps K F (ρ ++ [p]) H vs ds
  | [], _, h => by cases h; exact .nil
  | d :: ds, _, h => by
    cases h with
    | cons r t => exact .cons (Rep.grow r) (Reps.grow t)
end
/-- a list that stands apart comes into the store -/
theorem SRel.grow {K : PySem.W.Frag} {F ρ : List Addr} {H : Hp} {p : Addr} {s : Sto} {vs : List V} {ds : List D} (h : SRel K G (p :: F) ρ H s) (hF : p ∉ F) (hv : H p = some (.lst vs)) (r : Reps K (p :: F) ρ H vs ds) : SRel K G F (ρ ++ [p]) H (s ++ [.lst ds]) := by
  have hn : p ∉ ρ := fun z => h.dis _ z List.mem_cons_self
  refine ⟨?_, fun a ha => ?_, fun a ha => h.trk a (List.mem_cons_of_mem _ ha), by simp [h.len], fun n a o h1 h2 => ?_⟩
  · rw [List.nodup_append]
    exact ⟨h.nod, by simp, fun a ha b hb => by
      simp at hb; subst hb
      exact fun z => hn (z ▸ ha)⟩
  · rcases List.mem_append.mp ha with q | q
    · exact fun z => h.dis a q (List.mem_cons_of_mem _ z)
    · simp at q; subst q; exact hF
  · by_cases hlt : n < ρ.length
    · rw [List.getElem?_append_left hlt] at h1
      rw [List.getElem?_append_left (by rw [← h.len]; exact hlt)] at h2
      have q := h.obs n a o h1 h2
      cases o with
      | lst => obtain ⟨vs, x, r⟩ := q; exact ⟨vs, x, r.grow⟩
      | dic => obtain ⟨vs, x, k, r⟩ := q; exact ⟨vs, x, k, r.grow⟩
      | dat => obtain ⟨L, x, ks, vs, ns, h1, h2, r1, r2⟩ := q; exact ⟨L, x, ks, vs, ns, h1, h2, r1.grow, r2.grow⟩
      | frd => obtain ⟨od, L, x, ks, vs, ns, h1, h2, r1, r2⟩ := q; exact ⟨od, L, x, ks, vs, ns, h1, h2, r1.grow, r2.grow⟩
      | ins => obtain ⟨dx, ws, x, k, r⟩ := q; exact ⟨dx, ws, x, k, r.grow⟩
    · rw [List.getElem?_append_right (by omega)] at h1
      rw [List.getElem?_append_right (by rw [← h.len]; omega), ← h.len] at h2
      have e0 : n - ρ.length = 0 := by
        rcases Nat.eq_zero_or_pos (n - ρ.length) with z | z
        · exact z
        · rw [List.getElem?_eq_none (by simp; omega)] at h1; cases h1
      rw [e0] at h1 h2
      simp at h1 h2
      subst h1 h2
      exact ⟨vs, hv, r.grow⟩
/-- .. a list that is changed later on -/
theorem s_lcN {elt iter : Expr} {ifs : List Expr} {scope : Scope} {own : List (Str × Nat)} {t : TF} {gtt : TG} (hc : X.calm = true) (hN : X.N.Nodup) (hi : SI X G W tg iter i) (ok : BlkOk X.N X.env.scope scope own) (cg : CG X.K gt gtt (own.map (·.2)))
    (hg : ∀ (s : Shared) (H : Hp) (C : Addr) (cl : List (Str × Addr)) (fp : List Addr), PG (X.blk s H scope (compEnvC scope cl C X.env) fp) tg gtt)
    (ht : ∀ (s : Shared) (H : Hp) (C : Addr) (cl : List (Str × Addr)) (fp : List Addr), PTs (X.blk s H scope (compEnvC scope cl C X.env) fp) ifs (tTT X.K G W0 t))
    (he : ∀ (s : Shared) (H : Hp) (C : Addr) (cl : List (Str × Addr)) (fp : List Addr), SE (X.blk s H scope (compEnvC scope cl C X.env) fp) G W0 elt f) (hs : ∀ x, foldedSetIterable iter X.env x = pure x := by intro _; rfl) :
    SE X G W (.ListComp elt [⟨tg, iter, ifs, 0⟩] scope pos) (eLcN i gt t f (own.map (·.2))) := by
  refine pe_imp (pe_lc (te := tE X.K G W0 f) hc hN hi ok hg ht he hs) fun σ H Q h => ?_
  obtain ⟨F, ρ, env, s, hen, hsr, hp⟩ := h
  refine ⟨F, ρ, env, s, hen, hsr, hp.bind.imp (fun ds s1 ρ1 H1 _ e1 hs1 hp1 J hJ D0 hD => ?_) fun _ _ h => h⟩
  split at hp1
  · rename_i hl
    split at hp1
    · rename_i q hq
      refine lc_sound cg (hen.ext e1) hs1 hJ hl hD hq fun ρ' H' vacc e hs' hv r => ?_
      have hn : D0 ∉ ρ' := fun z => hs'.dis _ z List.mem_cons_self
      have hF := (hs1.fresh hD).1
      have hs2 : SRel X.K G F ρ' H' q.2 := hs'.subF fun a ha => List.mem_cons_of_mem _ ha
      have e3 : Ext ρ1 H1 (ρ' ++ [D0]) H' := by
        obtain ⟨⟨⟨n, hn1, hn2⟩, k, m⟩, kf⟩ := e
        refine ⟨⟨⟨n ++ [D0], by rw [hn1]; simp, fun a ha => ?_⟩, k, m⟩, kf⟩
        rcases List.mem_append.mp ha with z | z
        · exact hn2 a z
        · simp at z; subst z; exact hD
      refine hp1 (ρ' ++ [D0]) H' e3 (hs'.grow hF hv r) _ (.ref ?_)
      rw [← hs2.len]; simp
    · exact hp1.elim
  · exact hp1.elim

/-! ### methods of lists -/
def SimM (K : PySem.W.Frag) (r : V → List V → Hp → VK → Prop) (g : Sto → D → List D → Option (D × Sto)) : Prop := ∀ (G : SCtx) (F ρ : List Addr) (H : Hp) (s : Sto) (x : V) (vs : List V) (o : D) (ds : List D) (q : D × Sto) (Q : VK), SRel K G F ρ H s → Rep K F ρ H x o → Reps K F ρ H vs ds → g s o ds = some q →
  (∀ H' v, Ext ρ H ρ H' → SRel K G F ρ H' q.2 → Rep K F ρ H' v q.1 → Q v H') → r x vs H Q
theorem tyV_of {K : PySem.W.Frag} {F ρ : List Addr} {H : Hp} {s : Sto} {v : V} {d : D} {xs : List D} (hs : SRel K G F ρ H s) (r : Rep K F ρ H v d) (h : lstOf s d = some xs) : tyV K "list" v H := by
  obtain ⟨a, vs, rfl, h1, _⟩ := lstOf_rep hs r h
  exact .inl ⟨rfl, vs, SqL.of h1⟩
theorem s_bm {e : Expr} {r : V → List V → Hp → VK → Prop} {g : Sto → D → List D → Option (D × Sto)} (h : PE X e (tBM X.K "list" r (tE X.K G W f1) (tA X.K G W g1))) (hg : SimM X.K r g) : SE X G W e (eBM g f1 g1) := by
  refine pe_imp h fun σ H Q h => ?_
  obtain ⟨F, ρ, env, s, he, hs, hp⟩ := h
  refine tE.step he hs hp fun d s1 ρ1 H1 v _ he1 hs1 e1 r1 hp1 => ?_
  split at hp1
  · rename_i xs hx
    refine ⟨tyV_of hs1 r1 hx, tA.step he1 hs1 hp1 fun ds s2 ρ2 H2 vs _ he2 hs2 e2 r2 hp2 => ?_⟩
    split at hp2
    · rename_i q hq
      exact hg G F ρ2 H2 s2 v vs d ds q Q hs2 (r1.ext e2) r2 hq fun H' w e q rr => hp2 _ H' e q w rr
    · exact hp2.elim
  · exact hp1.elim
theorem s_bm0 {e : Expr} {r : V → List V → Hp → VK → Prop} {g : Sto → D → List D → Option (D × Sto)} (h : PE X e (tBM0 X.K "list" r (tE X.K G W f1))) (hg : SimM X.K r g) : SE X G W e (eBM g f1 aNil) := by
  refine pe_imp h fun σ H Q h => ?_
  obtain ⟨F, ρ, env, s, he, hs, hp⟩ := h
  refine tE.step he hs hp fun d s1 ρ1 H1 v _ he1 hs1 e1 r1 hp1 => ?_
  split at hp1
  · rename_i xs hx
    refine ⟨tyV_of hs1 r1 hx, ?_⟩
    simp only [aNil, R.bind] at hp1
    split at hp1
    · rename_i q hq
      exact hg G F ρ1 H1 s1 v [] d [] q Q hs1 r1 .nil hq fun H' w e q rr => hp1 _ H' e q w rr
    · exact hp1.elim
  · exact hp1.elim
theorem sim_append {K : PySem.W.Frag} : SimM K rAppend mAppend := by
  intro G F ρ H s x vs o ds q Q hs rx rv hq k
  unfold mAppend at hq
  split at hq
  · split at hq
    · rename_i n d _ xs hx
      split at hq
      · rename_i hl
        cases hq
        cases rx with
        | ref hr =>
          cases rv with
          | cons r t =>
            cases t
            obtain ⟨a, ha, ws, hv, rr⟩ := hs.at hx
            rw [hr] at ha
            cases ha
            have hm := List.mem_of_getElem? hr
            refine ⟨_, ws, _, rfl, rfl, hv, by rw [rr.length]; exact Nat.lt_of_lt_of_le hl (by decide), ?_⟩
            exact k _ _ (Ext.put hm (nf hv)) (hs.put hr ⟨_, upd_same, (rr.snoc r).ext (Ext.put hm (nf hv))⟩) .non
      · cases hq
    · cases hq
  · cases hq
theorem sim_pop {K : PySem.W.Frag} : SimM K rPop mPop := by
  intro G F ρ H s x vs o ds q Q hs rx rv hq k
  unfold mPop at hq
  split at hq
  · split at hq
    · rename_i n _ xs hx
      split at hq
      · rename_i y hy
        cases hq
        cases rx with
        | ref hr =>
          cases rv
          obtain ⟨a, ha, ws, hv, rr⟩ := hs.at hx
          rw [hr] at ha
          cases ha
          have hm := List.mem_of_getElem? hr
          obtain ⟨w, hw, rw'⟩ := rr.get hy
          refine ⟨_, ws, w, rfl, rfl, hv, by rw [rr.length]; exact hw, ?_⟩
          refine k _ _ (Ext.put hm (nf hv)) (hs.put hr ⟨_, upd_same, ?_⟩) (rw'.ext (Ext.put hm (nf hv)))
          rw [List.dropLast_eq_take, List.dropLast_eq_take, rr.length]
          exact (rr.take _).ext (Ext.put hm (nf hv))
      · cases hq
    · cases hq
  · cases hq
theorem sim_popAt {K : PySem.W.Frag} : SimM K rPopAt mPopAt := by
  intro G F ρ H s x vs o ds q Q hs rx rv hq k
  unfold mPopAt at hq
  split at hq
  · split at hq
    · rename_i n i _ xs hx
      split at hq
      · rename_i hi
        split at hq
        · rename_i y hy
          cases hq
          cases rx with
          | ref hr =>
            cases rv with
            | cons r t =>
              cases t
              cases r
              obtain ⟨a, ha, ws, hv, rr⟩ := hs.at hx
              rw [hr] at ha
              cases ha
              have hm := List.mem_of_getElem? hr
              obtain ⟨w, hw, rw'⟩ := rr.get hy
              have hL : LIM = 1000000 := rfl
              refine ⟨_, ws, i, i.toNat, w, rfl, rfl, hv, by omega, by omega, ?_, hw, ?_⟩
              · rw [rr.length]
                unfold seqIndex?
                simp only [show ¬ i < 0 by omega]
                simp
                omega
              · exact k _ _ (Ext.put hm (nf hv)) (hs.put hr ⟨_, upd_same, (rr.erase _).ext (Ext.put hm (nf hv))⟩) (rw'.ext (Ext.put hm (nf hv)))
        · cases hq
      · cases hq
    · cases hq
  · cases hq

/-! ### calls of the text's own defs -/
def SpF (K : PySem.W.Frag) (G : SCtx) (fn : FN) : Sp := fun vs H Q E => ∃ F ρ ds s, Reps K F ρ H vs ds ∧ SRel K G F ρ H s ∧ Pst K G F ρ H (fn ds s) (fun d _ ρ' H' => ∀ v, Rep K F ρ' H' v d → Q v H') (fun c H' => E (.ref (G.adr c)) none H')
theorem s_call {e : Expr} {fn : FN} (h : PE X e (tCallS (SpF X.K G fn) (WE W) (tA X.K G W g1))) : SE X G W e (eCall fn g1) := by
  refine pe_imp h fun σ H Q h => ?_
  obtain ⟨F, ρ, env, s, he, hs, hp⟩ := h
  exact tA.step he hs hp fun ds s1 ρ1 H1 vs _ he1 hs1 e1 r1 hp1 => ⟨F, ρ1, ds, s1, r1, hs1, hp1⟩
section
variable {P : Program} {w : World} {K : PySem.W.Frag} {mg : Str → Option Value} {base : Heap} {k : Nat} {fa : Addr} {fd : FuncData} {ps : List Str} {fn : FN}
theorem fn_iso (h : FnOk P w K mg base (L2.CX P w) k fa fd ps (SpF K G fn)) : FnOk P w K mg base (L2.CX P w) k fa fd ps (SpF K G (iso fn)) := by
  refine h.imp fun vs H Q E q => ?_
  obtain ⟨F, ρ, ds, s, r, hs, hp⟩ := q
  simp only [iso] at hp
  split at hp
  · rename_i hn
    refine ⟨F ++ ρ, [], ds, [], r.inn hn, hs.inn, ?_⟩
    cases z : fn ds [] with
    | no => rw [z] at hp; exact hp.elim
    | ex c s' =>
      rw [z] at hp
      exact fun ρ' H' e q => hp ρ H' (Ext.out (F := F) e) (hs.out e)
    | ok d s' =>
      rw [z] at hp
      obtain ⟨d', hd, hp'⟩ := hp.off
      intro ρ' H' e q v rv
      have e' : Ext ρ H ρ H' := Ext.out (F := F) e
      unfold frz at hd
      split at hd
      · split at hd
        · rename_i xs hx
          split at hd
          · rename_i hnr
            cases hd
            obtain ⟨a, vs', ev, h1, r1⟩ := lstOf_rep q rv (xs := xs) (by simp only [lstOf]; rw [hx])
            cases ev
            cases rv with
            | ref hr =>
              have hd := q.dis _ (List.mem_of_getElem? hr)
              exact hp' ρ H' e' (hs.out e) _ (.lst ⟨h1, fun z => hd (List.mem_append_left _ z), fun z => hd (List.mem_append_right _ z)⟩ (r1.out hnr))
          · cases hd
        · cases hd
      · split at hd
        · rename_i hnr
          cases hd
          exact hp' ρ H' e' (hs.out e) _ (rv.out hnr)
        · cases hd
  · exact hp.elim
theorem fn_no : FnOk P w K mg base (L2.CX P w) k fa fd ps (SpF K G (fun _ _ => .no)) :=
  ⟨fun vs H Q E h => by obtain ⟨_, _, _, _, _, _, h⟩ := h; exact h.elim, fun _ _ _ _ _ _ _ _ _ _ _ _ _ h => by obtain ⟨_, _, _, _, _, _, h⟩ := h; exact h.elim⟩
theorem startE_rep {F ρ : List Addr} {H : Hp} {N : List Str} {vs : List V} {ds : List D} (r : Reps K F ρ H vs ds) : EnvR K F ρ H (L2.start N vs) (startE N.length ds) := by
  refine ⟨by simp [L2.start, startE, r.length], fun i d h => ?_⟩
  unfold startE at h
  by_cases hi : i < ds.length
  · rw [List.getElem?_append_left (by simpa using hi), List.getElem?_map] at h
    obtain ⟨x, h1, h2⟩ := Option.map_eq_some_iff.mp h
    cases h2
    obtain ⟨v, hv, rv⟩ := r.get h1
    refine ⟨v, ?_, rv⟩
    unfold L2.start
    rw [List.getElem?_append_left (by rw [List.length_map, r.length]; exact hi), List.getElem?_map, hv]
    rfl
  · rw [List.getElem?_append_right (by simpa using Nat.not_lt.mp hi)] at h
    rw [List.getElem?_replicate] at h
    split at h
    · cases h
    · cases h
/-- THE RULE for a def -/
theorem fn_ok {x qual : Str} {st : Stmt} {N : List Str} {b : SF} (Fu : Fun K x qual st fa fd) (S : FnScope N ps (defScope st))
    (hb : ∀ (cdv : Value) (A : Around) (outer : List PySem.Env) (s : Shared) (H : Hp) (E : XK), Room k (A.deeper (PyProof.Rows.envOfC qual (defScope st) s.heap.objs.size fa cdv)) →
      SB (cxOf (L2.CX P w) P w K mg base N qual (defScope st) fa cdv A outer s H E) G (fun cls d _ H => E cls d H) (defBody st) b) :
    FnOk P w K mg base (L2.CX P w) (k + 1) fa fd ps (SpF K G (fnOf ps.length N.length b)) := by
  refine Fu.okX S (fun vs H Q E h => ?_) fun cdv A outer s H vs Q E hr h => ⟨_, hb cdv A outer s H E hr, ?_⟩
  · obtain ⟨F, ρ, ds, s, r, hs, hp⟩ := h
    simp only [fnOf] at hp
    split at hp
    · rename_i hl
      rw [r.length, hl]
    · exact hp.elim
  · obtain ⟨F, ρ, ds, s, r, hs, hp⟩ := h
    simp only [fnOf] at hp
    split at hp
    · refine ⟨F, ρ, _, s, startE_rep r, hs, ?_⟩
      cases z : b (startE N.length ds) s with
      | nx e s' => rw [z] at hp; exact fun ρ' H' σ' a b _ => hp ρ' H' a b _ .non
      | rt d s' => rw [z] at hp; exact fun ρ' H' v a b r => hp ρ' H' a b v r
      | ex c e s' => rw [z] at hp; exact fun ρ' H' σ' a b _ => hp ρ' H' a b
      | bk e s' => rw [z] at hp; exact hp.elim
      | ct e s' => rw [z] at hp; exact hp.elim
      | no => rw [z] at hp; exact hp.elim
    · exact hp.elim
end
/-- the law's own end -/
theorem sp_law {K : PySem.W.Frag} {G : SCtx} {fn : FN} {H : Hp} {a : Addr} {ns : List Int} (hS : SqL K H a (ns.map V.int)) (h : ∃ s', fn [.scr ns] [] = .ok (.bl true) s') : SpF K G fn [.ref a] H (fun v _ => v = .bl true) fun _ _ _ => False := by
  obtain ⟨s', e⟩ := h
  refine ⟨[], [], [.scr ns], [], .cons (.scr ?_) .nil, ⟨by simp, by simp, by simp, rfl, by simp⟩, ?_⟩
  · rcases hS with h | h
    · exact .inl ⟨h, by simp, by simp⟩
    · exact .inr fun H' => .inr h
  · rw [e]
    intro ρ' H' _ _ v r
    cases r
    rfl
end
end Sx

/-! PxF: what a printed derivation names. -/
namespace Sx
open PySem L2
/-- a def of the text that stands behind the top -/
def DefAt (K : PySem.W.Frag) (mg : Str → Option Value) (x : Str) (st : Stmt) (ps : List Str) : Prop := ∃ (f : Addr) (fd : FuncData), Fun K x x st f fd ∧ mg x = some (.ref f) ∧ Binds K fd ps []
/-- .. that does what fn does -/
def Has (P : Program) (w : World) (K : PySem.W.Frag) (mg : Str → Option Value) (base : Heap) (G : SCtx) (k : Nat) (x : Str) (fn : FN) : Prop := ∃ (f : Addr) (fd : FuncData) (ps : List Str), FnOk P w K mg base (L2.CX P w) k f fd ps (SpF K G fn) ∧ mg x = some (.ref f) ∧ PySem.W.keepIn K (.ref f) = true ∧ Binds K fd ps []
section
variable {P : Program} {w : World} {K : PySem.W.Frag} {mg : Str → Option Value} {base : Heap} {G : SCtx} {k : Nat} {x : Str} {fn : FN} {st : Stmt} {ps : List Str}
theorem Has.iso (h : Has P w K mg base G k x fn) : Has P w K mg base G k x (iso fn) := by
  obtain ⟨f, fd, ps, h1, h2⟩ := h
  exact ⟨f, fd, ps, fn_iso h1, h2⟩
theorem has_no (d : DefAt K mg x st ps) : Has P w K mg base G k x (fun _ _ => .no) := by
  obtain ⟨f, fd, h1, h2, h3⟩ := d
  exact ⟨f, fd, ps, fn_no, h2, h1.kp, h3⟩
theorem has_ok {N : List Str} {b : SF} (d : DefAt K mg x st ps) (S : FnScope N ps (defScope st))
    (hb : ∀ (f : Addr) (cdv : Value) (A : Around) (outer : List PySem.Env) (s : Shared) (H : Hp) (E : XK), Room k (A.deeper (PyProof.Rows.envOfC x (defScope st) s.heap.objs.size f cdv)) →
      SB (cxOf (L2.CX P w) P w K mg base N x (defScope st) f cdv A outer s H E) G (fun cls d _ H => E cls d H) (defBody st) b) :
    Has P w K mg base G (k + 1) x (fnOf ps.length N.length b) := by
  obtain ⟨f, fd, h1, h2, h3⟩ := d
  exact ⟨f, fd, ps, fn_ok h1 S (fun cdv A outer s H E hr => hb f cdv A outer s H E hr), h2, h1.kp, h3⟩
theorem takesF {N : List Str} {qual : Str} {sc : Scope} {f : Addr} {cdv : Value} {A : Around} {outer : List PySem.Env} {s : Shared} {H : Hp} {E : XK} : Takes (cxOf (L2.CX P w) P w K mg base N qual sc f cdv A outer s H E) (fun cls d _ H => E cls d H) := takes_of rfl rfl rfl rfl
theorem passF {N : List Str} {qual : Str} {sc : Scope} {f : Addr} {cdv : Value} {A : Around} {outer : List PySem.Env} {s : Shared} {H : Hp} {E : XK} : PassesOwn (model P w) (cxOf (L2.CX P w) P w K mg base N qual sc f cdv A outer s H E).A (cxOf (L2.CX P w) P w K mg base N qual sc f cdv A outer s H E).env (cxOf (L2.CX P w) P w K mg base N qual sc f cdv A outer s H E).xe := passes_of rfl
end
section
variable {X : Cx} {G : SCtx} {W : WX} {pos p : Pos} {e a b c : Expr} {es : List Expr} {f f1 f2 f3 : EF} {g1 : AF} {x : Str} {fn : FN} {j k : Nat}
theorem s_callH (h : Has X.prog X.w X.K X.mg X.base G j x fn) (hr : Room k X.A) (hj : j ≤ k) (tk : Takes X W) (ha : SA X G W (e :: es) g1) (hg : Gl X x := by rfl)
    (hdb : (x == ("__debug__" : Str)) = false := by decide) (he : starEach (e :: es) X.env = (false, eval e X.env) :: starEach es X.env := by rfl) (hpl : (backTo pos (starEach es X.env)).any (·.1) = false := by rfl) :
    SE X G W (.Call (.Name x p) (e :: es) [] pos) (eCall fn g1) := by
  obtain ⟨f, fd, ps, h1, h2, h3, h4⟩ := h
  exact s_call (pe_callS h1 (hr.mono hj) hg h2 h3 h4 (fun σ => passAt tk σ) ha hdb he hpl)
theorem s_globI {v : Int} (h : ∃ t, X.mg x = some (.int v t)) (hg : Gl X x := by rfl) (hd : (x == ("__debug__" : Str)) = false := by decide) : SE X G W (.Name x pos) (eC (.int v)) := by
  obtain ⟨t, h⟩ := h
  exact s_glob (v := .int v) hg h ⟨t, rfl⟩ (fun _ _ _ => .int v) hd
theorem s_globS {v : Str} (h : ∃ t, X.mg x = some (.str v t)) (hg : Gl X x := by rfl) (hd : (x == ("__debug__" : Str)) = false := by decide) : SE X G W (.Name x pos) (eC (.str v)) := by
  obtain ⟨t, h⟩ := h
  exact s_glob (v := .str v) hg h ⟨t, rfl⟩ (fun _ _ _ => .str v) hd
theorem st_isN {j : Nat} {pos' : Pos} (h : SE X G W a f1) : ST X G W (.Compare a [.Is] [.Constant .none j pos'] pos) (tV (eIsN f1)) := by
  refine pt_imp (pt_cmp (pc_isN h) rfl) fun σ H Q h => ?_
  obtain ⟨F, ρ, env, s, he, hs, hp⟩ := h
  have hp' : Pst X.K G F ρ H ((f1 env s).bind fun d s1 => .ok (match d with | .non => true | _ => false) s1) (fun b _ ρ' H' => Q b H') (eW G W σ) := by
    have e : tV (eIsN f1) env s = ((f1 env s).bind fun d s1 => .ok (match d with | .non => true | _ => false) s1) := by
      simp only [tV, eIsN]
      cases f1 env s with
      | ok d s1 => cases d <;> rfl
      | ex => rfl
      | no => rfl
    rw [← e]; exact hp
  refine tE.step he hs hp' fun d s1 ρ1 H1 v _ he1 hs1 e1 r1 hp1 => ?_
  cases r1 <;> exact ⟨_, rfl, hp1.here hs1⟩
theorem st_notN {j : Nat} {pos' : Pos} (h : SE X G W a f1) : ST X G W (.Compare a [.IsNot] [.Constant .none j pos'] pos) (tV (eNotN f1)) := by
  refine pt_imp (pt_cmp (pc_notN h) rfl) fun σ H Q h => ?_
  obtain ⟨F, ρ, env, s, he, hs, hp⟩ := h
  have hp' : Pst X.K G F ρ H ((f1 env s).bind fun d s1 => .ok (match d with | .non => false | _ => true) s1) (fun b _ ρ' H' => Q b H') (eW G W σ) := by
    have e : tV (eNotN f1) env s = ((f1 env s).bind fun d s1 => .ok (match d with | .non => false | _ => true) s1) := by
      simp only [tV, eNotN]
      cases f1 env s with
      | ok d s1 => cases d <;> rfl
      | ex => rfl
      | no => rfl
    rw [← e]; exact hp
  refine tE.step he hs hp' fun d s1 ρ1 H1 v _ he1 hs1 e1 r1 hp1 => ?_
  cases r1 <;> exact ⟨_, rfl, hp1.here hs1⟩
theorem st_chain {op op' : CmpOp} {r r' : R2} {g g' : Sto → D → D → Option D} (ho : OpR X (compareOp op) r) (hg : Sim2 X.K r g) (ho' : OpR X (compareOp op') r') (hg' : Sim2 X.K r' g') (ha : SE X G W a f1) (hb : SE X G W b f2) (hc : SE X G W c f3)
    (hm : lastMarks [op, op'] [b, c] = false := by with_unfolding_all rfl) : ST X G W (.Compare a [op, op'] [b, c] pos) (tV (eChain g g' f1 f2 f3)) := by
  refine pt_imp (pt_chain ho ho' ha hb hc hm) fun σ H Q h => ?_
  obtain ⟨F, ρ, env, s, he, hs, hp⟩ := h
  have hp' : Pst X.K G F ρ H ((f1 env s).bind fun a s1 => (f2 env s1).bind fun b s2 => match g s2 a b with
      | some (.bl true) => (f3 env s2).bind fun c s3 => (R.of (g' s3 b c) s3).bind fun d s1 => match d with | .bl b => R.ok b s1 | _ => .no
      | some (.bl false) => .ok false s2
      | _ => .no) (fun b _ ρ' H' => Q b H') (eW G W σ) := by
    have e : tV (eChain g g' f1 f2 f3) env s = ((f1 env s).bind fun a s1 => (f2 env s1).bind fun b s2 => match g s2 a b with
      | some (.bl true) => (f3 env s2).bind fun c s3 => (R.of (g' s3 b c) s3).bind fun d s1 => match d with | .bl b => R.ok b s1 | _ => .no
      | some (.bl false) => .ok false s2
      | _ => .no) := by
      simp only [tV, eChain]
      cases f1 env s with
      | ex => rfl
      | no => rfl
      | ok d s1 =>
        simp only [R.bind]
        cases f2 env s1 with
        | ex => rfl
        | no => rfl
        | ok d2 s2 =>
          simp only
          cases z : g s2 d d2 with
          | none => rfl
          | some v =>
            cases v with
            | bl k =>
              cases k with
              | false => rfl
              | true => simp only; cases f3 env s2 <;> rfl
            | _ => rfl
    rw [← e]; exact hp
  refine tE.step he hs hp' fun d s1 ρ1 H1 v _ he1 hs1 e1 r1 hp1 => ?_
  refine tE.step he1 hs1 hp1 fun d' s2 ρ2 H2 v' _ he2 hs2 e2 r2 hp2 => ?_
  cases hz : g s2 d d' with
  | none => rw [hz] at hp2; exact hp2.elim
  | some z =>
    rw [hz] at hp2
    refine hg G F ρ2 H2 s2 v v' d d' z _ hs2 (r1.ext e2) r2 hz fun H' w e q rr => ?_
    cases rr with
    | bl k =>
      refine ⟨k, rfl, ?_⟩
      cases k with
      | false => exact iteF ⟨false, rfl, hp2 _ H' e q⟩
      | true =>
        have hp3 : Pst X.K G F ρ2 H' _ _ (eW G W σ) := Pst.ext (F := F) (r := (f3 env s2).bind fun c s3 => (R.of (g' s3 d' c) s3).bind fun d s1 => match d with | .bl b => R.ok b s1 | _ => .no) e hp2
        refine iteT (tE.step (he2.ext e) q hp3 fun d3 s3 ρ3 H3 v3 _ he3 hs3 e3 r3 hp4 => ?_)
        cases hz2 : g' s3 d' d3 with
        | none => rw [hz2] at hp4; exact hp4.elim
        | some z2 =>
          rw [hz2] at hp4
          refine hg' G F ρ3 H3 s3 v' v3 d' d3 z2 _ hs3 (r2.ext (e.trans e3)) r3 hz2 fun H5 w5 e5 q5 rr5 => ?_
          cases rr5 with
          | bl k5 => exact ⟨k5, rfl, hp4 _ H5 e5 q5⟩
          | _ => exact hp4.elim
    | _ => exact hp2.elim
theorem sts_nil : PTs X [] (tTT X.K G W tTrue) := ⟨fun pins s σ H Q I h => by
  obtain ⟨F, ρ, env, st, he, hs, hp⟩ := h
  exact pts_nil.run pins s σ H Q I (hp.here hs)⟩
end
theorem no_cx {P : Program} {w : World} {H : Hp} {s s' : Shared} {e : Value} (h : L2.CX P w [] H s (fun _ _ _ => False) e s') : False := by
  obtain ⟨_, _, _, _, _, _, _, _, _, _, _, _, z⟩ := h
  exact z
end Sx

/-! PxV: how plain meanings are reckoned, step by step: for simp. -/
namespace Sx
open PySem L2
@[simp] theorem LIM_v : LIM = 1000000 := rfl
section
variable {env : Env} {s : Sto} {f f1 f2 f3 : EF} {g g1 : AF} {t t1 t2 : TF} {i j l : Nat} {d : D}
def lookV : Option (Option D) → Sto → R D
  | some (some d), s => .ok d s
  | _, _ => .no
set_option autoImplicit true in
@[simp] theorem lookV_0  : lookV  (some (some d')) (s') = .ok d' s' := rfl
@[simp] theorem eVar_v : eVar i env s = lookV env[i]? s := by
  unfold eVar
  cases env[i]? with
  | none => rfl
  | some o => cases o <;> rfl
@[simp] theorem eC_v : eC d env s = .ok d s := rfl
@[simp] theorem aNil_v : aNil env s = .ok [] s := rfl
@[simp] theorem of_some {α : Type} {a : α} : R.of (some a) s = .ok a s := rfl
@[simp] theorem of_none {α : Type} : (R.of none s : R α) = .no := rfl
def kCons2 (d : D) : R (List D) → R (List D)
  | .ok ds s => .ok (d :: ds) s
  | .ex c s => .ex c s
  | .no => .no
set_option autoImplicit true in
@[simp] theorem kCons2_0 {d : D} : kCons2 d (.ok ds' s') = .ok (d :: ds') s' := rfl
set_option autoImplicit true in
@[simp] theorem kCons2_1 {d : D} : kCons2 d (.ex c' s') = .ex c' s' := rfl
set_option autoImplicit true in
@[simp] theorem kCons2_2 {d : D} : kCons2 d (.no) = .no := rfl
def kCons1 (g : AF) (env : Env) : R D → R (List D)
  | .ok d s => kCons2 d (g env s)
  | .ex c s => .ex c s
  | .no => .no
set_option autoImplicit true in
@[simp] theorem kCons1_0 {g : AF} {env : Env} : kCons1 g env (.ok d' s') = kCons2 d' (g env s') := rfl
set_option autoImplicit true in
@[simp] theorem kCons1_1 {g : AF} {env : Env} : kCons1 g env (.ex c' s') = .ex c' s' := rfl
set_option autoImplicit true in
@[simp] theorem kCons1_2 {g : AF} {env : Env} : kCons1 g env (.no) = .no := rfl
@[simp] theorem aCons_v : aCons f g env s = kCons1 g env (f env s) := by
  unfold aCons
  cases f env s with
  | ok d s1 => show (g env s1).bind _ = kCons2 d (g env s1); cases g env s1 <;> rfl
  | _ => rfl
def kTup : R (List D) → R D
  | .ok ds s => if ds.length ≤ LIM then .ok (.tup ds) s else .no
  | .ex c s => .ex c s
  | .no => .no
set_option autoImplicit true in
@[simp] theorem kTup_0  : kTup  (.ok ds' s') = if ds'.length ≤ LIM then .ok (.tup ds') s' else .no := rfl
set_option autoImplicit true in
@[simp] theorem kTup_1  : kTup  (.ex c' s') = .ex c' s' := rfl
set_option autoImplicit true in
@[simp] theorem kTup_2  : kTup  (.no) = .no := rfl
@[simp] theorem eTup_v : eTup g env s = kTup (g env s) := by unfold eTup; cases g env s <;> rfl
def kLst : R (List D) → R D
  | .ok ds s => if ds.length ≤ LIM then .ok (.lst ds) s else .no
  | .ex c s => .ex c s
  | .no => .no
set_option autoImplicit true in
@[simp] theorem kLst_0  : kLst  (.ok ds' s') = if ds'.length ≤ LIM then .ok (.lst ds') s' else .no := rfl
set_option autoImplicit true in
@[simp] theorem kLst_1  : kLst  (.ex c' s') = .ex c' s' := rfl
set_option autoImplicit true in
@[simp] theorem kLst_2  : kLst  (.no) = .no := rfl
@[simp] theorem eLst_v : eLst g env s = kLst (g env s) := by unfold eLst; cases g env s <;> rfl
def kNewL : R (List D) → R D
  | .ok ds s => if ds.length ≤ LIM then .ok (.ref s.length) (s ++ [.lst ds]) else .no
  | .ex c s => .ex c s
  | .no => .no
set_option autoImplicit true in
@[simp] theorem kNewL_0  : kNewL  (.ok ds' s') = if ds'.length ≤ LIM then .ok (.ref s'.length) (s' ++ [.lst ds']) else .no := rfl
set_option autoImplicit true in
@[simp] theorem kNewL_1  : kNewL  (.ex c' s') = .ex c' s' := rfl
set_option autoImplicit true in
@[simp] theorem kNewL_2  : kNewL  (.no) = .no := rfl
@[simp] theorem eNewL_v : eNewL g env s = kNewL (g env s) := by unfold eNewL; cases g env s <;> rfl
def kOp2 (h : Sto → D → D → Option D) (a : D) : R D → R D
  | .ok b s => R.of (h s a b) s
  | .ex c s => .ex c s
  | .no => .no
set_option autoImplicit true in
@[simp] theorem kOp2_0 {h : Sto → D → D → Option D} {a : D} : kOp2 h a (.ok b' s') = R.of (h s' a b') s' := rfl
set_option autoImplicit true in
@[simp] theorem kOp2_1 {h : Sto → D → D → Option D} {a : D} : kOp2 h a (.ex c' s') = .ex c' s' := rfl
set_option autoImplicit true in
@[simp] theorem kOp2_2 {h : Sto → D → D → Option D} {a : D} : kOp2 h a (.no) = .no := rfl
def kOp1 (h : Sto → D → D → Option D) (f2 : EF) (env : Env) : R D → R D
  | .ok a s => kOp2 h a (f2 env s)
  | .ex c s => .ex c s
  | .no => .no
set_option autoImplicit true in
@[simp] theorem kOp1_0 {h : Sto → D → D → Option D} {f2 : EF} {env : Env} : kOp1 h f2 env (.ok a' s') = kOp2 h a' (f2 env s') := rfl
set_option autoImplicit true in
@[simp] theorem kOp1_1 {h : Sto → D → D → Option D} {f2 : EF} {env : Env} : kOp1 h f2 env (.ex c' s') = .ex c' s' := rfl
set_option autoImplicit true in
@[simp] theorem kOp1_2 {h : Sto → D → D → Option D} {f2 : EF} {env : Env} : kOp1 h f2 env (.no) = .no := rfl
@[simp] theorem eOp_v {h : Sto → D → D → Option D} : eOp h f1 f2 env s = kOp1 h f2 env (f1 env s) := by
  unfold eOp
  cases f1 env s with
  | ok a s1 => show (f2 env s1).bind _ = kOp2 h a (f2 env s1); cases f2 env s1 <;> rfl
  | _ => rfl
def kUn (h : Sto → D → Option D) : R D → R D
  | .ok a s => R.of (h s a) s
  | .ex c s => .ex c s
  | .no => .no
set_option autoImplicit true in
@[simp] theorem kUn_0 {h : Sto → D → Option D} : kUn h (.ok a' s') = R.of (h s' a') s' := rfl
set_option autoImplicit true in
@[simp] theorem kUn_1 {h : Sto → D → Option D} : kUn h (.ex c' s') = .ex c' s' := rfl
set_option autoImplicit true in
@[simp] theorem kUn_2 {h : Sto → D → Option D} : kUn h (.no) = .no := rfl
@[simp] theorem eUn_v {h : Sto → D → Option D} : eUn h f1 env s = kUn h (f1 env s) := by unfold eUn; cases f1 env s <;> rfl
def kFn (h : Sto → List D → Option D) : R (List D) → R D
  | .ok a s => R.of (h s a) s
  | .ex c s => .ex c s
  | .no => .no
set_option autoImplicit true in
@[simp] theorem kFn_0 {h : Sto → List D → Option D} : kFn h (.ok a' s') = R.of (h s' a') s' := rfl
set_option autoImplicit true in
@[simp] theorem kFn_1 {h : Sto → List D → Option D} : kFn h (.ex c' s') = .ex c' s' := rfl
set_option autoImplicit true in
@[simp] theorem kFn_2 {h : Sto → List D → Option D} : kFn h (.no) = .no := rfl
@[simp] theorem eFn_v {h : Sto → List D → Option D} : eFn h g env s = kFn h (g env s) := by unfold eFn; cases g env s <;> rfl
def newL : Option (List D) → Sto → R D
  | some ds, s => .ok (.ref s.length) (s ++ [.lst ds])
  | none, _ => .no
set_option autoImplicit true in
@[simp] theorem newL_0  : newL  (some ds') (s') = .ok (.ref s'.length) (s' ++ [.lst ds']) := rfl
set_option autoImplicit true in
@[simp] theorem newL_1  : newL  (none) (v1') = .no := rfl
def kFnN (h : Sto → List D → Option (List D)) : R (List D) → R D
  | .ok a s => newL (h s a) s
  | .ex c s => .ex c s
  | .no => .no
set_option autoImplicit true in
@[simp] theorem kFnN_0 {h : Sto → List D → Option (List D)} : kFnN h (.ok a' s') = newL (h s' a') s' := rfl
set_option autoImplicit true in
@[simp] theorem kFnN_1 {h : Sto → List D → Option (List D)} : kFnN h (.ex c' s') = .ex c' s' := rfl
set_option autoImplicit true in
@[simp] theorem kFnN_2 {h : Sto → List D → Option (List D)} : kFnN h (.no) = .no := rfl
@[simp] theorem eFnN_v {h : Sto → List D → Option (List D)} : eFnN h g env s = kFnN h (g env s) := by
  unfold eFnN
  cases g env s with
  | ok a s1 => show (match h s1 a with | some ds => _ | none => _) = newL (h s1 a) s1; cases h s1 a <;> rfl
  | _ => rfl
def kAnd (g : EF) (env : Env) : R D → R D
  | .ok (.bl true) s => g env s
  | .ok (.bl false) s => .ok (.bl false) s
  | .ok _ _ => .no
  | .ex c s => .ex c s
  | .no => .no
set_option autoImplicit true in
@[simp] theorem kAnd_0 {g : EF} {env : Env} : kAnd g env (.ok (.bl true) s') = g env s' := rfl
set_option autoImplicit true in
@[simp] theorem kAnd_1 {g : EF} {env : Env} : kAnd g env (.ok (.bl false) s') = .ok (.bl false) s' := rfl
set_option autoImplicit true in
@[simp] theorem kAnd_2 {g : EF} {env : Env} : kAnd g env (.ex c' s') = .ex c' s' := rfl
set_option autoImplicit true in
@[simp] theorem kAnd_3 {g : EF} {env : Env} : kAnd g env (.no) = .no := rfl
@[simp] theorem eAnd_v : eAnd f1 f2 env s = kAnd f2 env (f1 env s) := by
  unfold eAnd
  cases f1 env s with
  | ok d s1 =>
    cases d with
    | bl b => cases b <;> rfl
    | _ => rfl
  | _ => rfl
def kOr (g : EF) (env : Env) : R D → R D
  | .ok (.bl false) s => g env s
  | .ok (.bl true) s => .ok (.bl true) s
  | .ok _ _ => .no
  | .ex c s => .ex c s
  | .no => .no
set_option autoImplicit true in
@[simp] theorem kOr_0 {g : EF} {env : Env} : kOr g env (.ok (.bl false) s') = g env s' := rfl
set_option autoImplicit true in
@[simp] theorem kOr_1 {g : EF} {env : Env} : kOr g env (.ok (.bl true) s') = .ok (.bl true) s' := rfl
set_option autoImplicit true in
@[simp] theorem kOr_2 {g : EF} {env : Env} : kOr g env (.ex c' s') = .ex c' s' := rfl
set_option autoImplicit true in
@[simp] theorem kOr_3 {g : EF} {env : Env} : kOr g env (.no) = .no := rfl
@[simp] theorem eOr_v : eOr f1 f2 env s = kOr f2 env (f1 env s) := by
  unfold eOr
  cases f1 env s with
  | ok d s1 =>
    cases d with
    | bl b => cases b <;> rfl
    | _ => rfl
  | _ => rfl
def kNot : R D → R D
  | .ok (.bl b) s => .ok (.bl (!b)) s
  | .ok _ _ => .no
  | .ex c s => .ex c s
  | .no => .no
set_option autoImplicit true in
@[simp] theorem kNot_0  : kNot  (.ok (.bl b') s') = .ok (.bl (!b')) s' := rfl
set_option autoImplicit true in
@[simp] theorem kNot_1  : kNot  (.ex c' s') = .ex c' s' := rfl
set_option autoImplicit true in
@[simp] theorem kNot_2  : kNot  (.no) = .no := rfl
@[simp] theorem eNot_v : eNot f env s = kNot (f env s) := by
  unfold eNot
  cases f env s with
  | ok d s1 => cases d <;> rfl
  | _ => rfl
def kIf (f g : EF) (env : Env) : R Bool → R D
  | .ok true s => f env s
  | .ok false s => g env s
  | .ex c s => .ex c s
  | .no => .no
set_option autoImplicit true in
@[simp] theorem kIf_0 {f g : EF} {env : Env} : kIf f g env (.ok true s') = f env s' := rfl
set_option autoImplicit true in
@[simp] theorem kIf_1 {f g : EF} {env : Env} : kIf f g env (.ok false s') = g env s' := rfl
set_option autoImplicit true in
@[simp] theorem kIf_2 {f g : EF} {env : Env} : kIf f g env (.ex c' s') = .ex c' s' := rfl
set_option autoImplicit true in
@[simp] theorem kIf_3 {f g : EF} {env : Env} : kIf f g env (.no) = .no := rfl
@[simp] theorem eIf_v : eIf t f1 f2 env s = kIf f1 f2 env (t env s) := by
  unfold eIf
  cases t env s with
  | ok b s1 => cases b <;> rfl
  | _ => rfl
def isNone : D → Bool
  | .non => true
  | _ => false
set_option autoImplicit true in
@[simp] theorem isNone_0  : isNone  (.non) = true := rfl
@[simp] theorem isNone_non : isNone .non = true := rfl
@[simp] theorem isNone_bl {b : Bool} : isNone (.bl b) = false := rfl
@[simp] theorem isNone_int {b : Int} : isNone (.int b) = false := rfl
@[simp] theorem isNone_str {b : Str} : isNone (.str b) = false := rfl
@[simp] theorem isNone_tup {b : List D} : isNone (.tup b) = false := rfl
@[simp] theorem isNone_lst {b : List D} : isNone (.lst b) = false := rfl
@[simp] theorem isNone_ref {b : Nat} : isNone (.ref b) = false := rfl
def kIsN : R D → R D
  | .ok d s => .ok (.bl (isNone d)) s
  | .ex c s => .ex c s
  | .no => .no
set_option autoImplicit true in
@[simp] theorem kIsN_0  : kIsN  (.ok d' s') = .ok (.bl (isNone d')) s' := rfl
set_option autoImplicit true in
@[simp] theorem kIsN_1  : kIsN  (.ex c' s') = .ex c' s' := rfl
set_option autoImplicit true in
@[simp] theorem kIsN_2  : kIsN  (.no) = .no := rfl
@[simp] theorem eIsN_v : eIsN f env s = kIsN (f env s) := by
  unfold eIsN
  cases f env s with
  | ok d s1 => cases d <;> rfl
  | _ => rfl
def kNotN : R D → R D
  | .ok d s => .ok (.bl (!isNone d)) s
  | .ex c s => .ex c s
  | .no => .no
set_option autoImplicit true in
@[simp] theorem kNotN_0  : kNotN  (.ok d' s') = .ok (.bl (!isNone d')) s' := rfl
set_option autoImplicit true in
@[simp] theorem kNotN_1  : kNotN  (.ex c' s') = .ex c' s' := rfl
set_option autoImplicit true in
@[simp] theorem kNotN_2  : kNotN  (.no) = .no := rfl
@[simp] theorem eNotN_v : eNotN f env s = kNotN (f env s) := by
  unfold eNotN
  cases f env s with
  | ok d s1 => cases d <;> rfl
  | _ => rfl
def kCh3 (h' : Sto → D → D → Option D) (b : D) : R D → R D
  | .ok c s => R.of (h' s b c) s
  | .ex c s => .ex c s
  | .no => .no
set_option autoImplicit true in
@[simp] theorem kCh3_0 {h' : Sto → D → D → Option D} {b : D} : kCh3 h' b (.ok c' s') = R.of (h' s' b c') s' := rfl
set_option autoImplicit true in
@[simp] theorem kCh3_1 {h' : Sto → D → D → Option D} {b : D} : kCh3 h' b (.ex c' s') = .ex c' s' := rfl
set_option autoImplicit true in
@[simp] theorem kCh3_2 {h' : Sto → D → D → Option D} {b : D} : kCh3 h' b (.no) = .no := rfl
def kCh2' (h' : Sto → D → D → Option D) (f3 : EF) (env : Env) (b : D) (s : Sto) : Option D → R D
  | some (.bl true) => kCh3 h' b (f3 env s)
  | some (.bl false) => .ok (.bl false) s
  | _ => .no
set_option autoImplicit true in
@[simp] theorem kCh2'_0 {h' : Sto → D → D → Option D} {f3 : EF} {env : Env} {b : D} {s : Sto} : kCh2' h' f3 env b s (some (.bl true)) = kCh3 h' b (f3 env s) := rfl
set_option autoImplicit true in
@[simp] theorem kCh2'_1 {h' : Sto → D → D → Option D} {f3 : EF} {env : Env} {b : D} {s : Sto} : kCh2' h' f3 env b s (some (.bl false)) = .ok (.bl false) s := rfl
def kCh2 (h h' : Sto → D → D → Option D) (f3 : EF) (env : Env) (a : D) : R D → R D
  | .ok b s => kCh2' h' f3 env b s (h s a b)
  | .ex c s => .ex c s
  | .no => .no
set_option autoImplicit true in
@[simp] theorem kCh2_0 {h h' : Sto → D → D → Option D} {f3 : EF} {env : Env} {a : D} : kCh2 h h' f3 env a (.ok b' s') = kCh2' h' f3 env b' s' (h s' a b') := rfl
set_option autoImplicit true in
@[simp] theorem kCh2_1 {h h' : Sto → D → D → Option D} {f3 : EF} {env : Env} {a : D} : kCh2 h h' f3 env a (.ex c' s') = .ex c' s' := rfl
set_option autoImplicit true in
@[simp] theorem kCh2_2 {h h' : Sto → D → D → Option D} {f3 : EF} {env : Env} {a : D} : kCh2 h h' f3 env a (.no) = .no := rfl
def kCh1 (h h' : Sto → D → D → Option D) (f2 f3 : EF) (env : Env) : R D → R D
  | .ok a s => kCh2 h h' f3 env a (f2 env s)
  | .ex c s => .ex c s
  | .no => .no
set_option autoImplicit true in
@[simp] theorem kCh1_0 {h h' : Sto → D → D → Option D} {f2 f3 : EF} {env : Env} : kCh1 h h' f2 f3 env (.ok a' s') = kCh2 h h' f3 env a' (f2 env s') := rfl
set_option autoImplicit true in
@[simp] theorem kCh1_1 {h h' : Sto → D → D → Option D} {f2 f3 : EF} {env : Env} : kCh1 h h' f2 f3 env (.ex c' s') = .ex c' s' := rfl
set_option autoImplicit true in
@[simp] theorem kCh1_2 {h h' : Sto → D → D → Option D} {f2 f3 : EF} {env : Env} : kCh1 h h' f2 f3 env (.no) = .no := rfl
@[simp] theorem eChain_v {h h' : Sto → D → D → Option D} : eChain h h' f1 f2 f3 env s = kCh1 h h' f2 f3 env (f1 env s) := by
  unfold eChain
  cases f1 env s with
  | ok a s1 =>
    show (f2 env s1).bind _ = kCh2 h h' f3 env a (f2 env s1)
    cases f2 env s1 with
    | ok b s2 =>
      show (match h s2 a b with | some (.bl true) => _ | some (.bl false) => _ | _ => _) = kCh2' h' f3 env b s2 (h s2 a b)
      cases h s2 a b with
      | none => rfl
      | some d =>
        cases d with
        | bl k =>
          cases k with
          | true => show (f3 env s2).bind _ = kCh3 h' b (f3 env s2); cases f3 env s2 <;> rfl
          | false => rfl
        | _ => rfl
    | _ => rfl
  | _ => rfl
/-! tests -/
def kV : R D → R Bool
  | .ok (.bl b) s => .ok b s
  | .ok _ _ => .no
  | .ex c s => .ex c s
  | .no => .no
set_option autoImplicit true in
@[simp] theorem kV_0  : kV  (.ok (.bl b') s') = .ok b' s' := rfl
set_option autoImplicit true in
@[simp] theorem kV_1  : kV  (.ex c' s') = .ex c' s' := rfl
set_option autoImplicit true in
@[simp] theorem kV_2  : kV  (.no) = .no := rfl
@[simp] theorem tV_v : tV f env s = kV (f env s) := by
  unfold tV
  cases f env s with
  | ok d s1 => cases d <;> rfl
  | _ => rfl
def kTru : R D → R Bool
  | .ok d s => R.of (truth s d) s
  | .ex c s => .ex c s
  | .no => .no
set_option autoImplicit true in
@[simp] theorem kTru_0  : kTru  (.ok d' s') = R.of (truth s' d') s' := rfl
set_option autoImplicit true in
@[simp] theorem kTru_1  : kTru  (.ex c' s') = .ex c' s' := rfl
set_option autoImplicit true in
@[simp] theorem kTru_2  : kTru  (.no) = .no := rfl
@[simp] theorem tTru_v : tTru f env s = kTru (f env s) := by unfold tTru; cases f env s <;> rfl
def kTAnd (g : TF) (env : Env) : R Bool → R Bool
  | .ok true s => g env s
  | .ok false s => .ok false s
  | .ex c s => .ex c s
  | .no => .no
set_option autoImplicit true in
@[simp] theorem kTAnd_0 {g : TF} {env : Env} : kTAnd g env (.ok true s') = g env s' := rfl
set_option autoImplicit true in
@[simp] theorem kTAnd_1 {g : TF} {env : Env} : kTAnd g env (.ok false s') = .ok false s' := rfl
set_option autoImplicit true in
@[simp] theorem kTAnd_2 {g : TF} {env : Env} : kTAnd g env (.ex c' s') = .ex c' s' := rfl
set_option autoImplicit true in
@[simp] theorem kTAnd_3 {g : TF} {env : Env} : kTAnd g env (.no) = .no := rfl
@[simp] theorem tAnd_v : Sx.tAnd t1 t2 env s = kTAnd t2 env (t1 env s) := by
  unfold Sx.tAnd
  cases t1 env s with
  | ok b s1 => cases b <;> rfl
  | _ => rfl
def kTOr (g : TF) (env : Env) : R Bool → R Bool
  | .ok false s => g env s
  | .ok true s => .ok true s
  | .ex c s => .ex c s
  | .no => .no
set_option autoImplicit true in
@[simp] theorem kTOr_0 {g : TF} {env : Env} : kTOr g env (.ok false s') = g env s' := rfl
set_option autoImplicit true in
@[simp] theorem kTOr_1 {g : TF} {env : Env} : kTOr g env (.ok true s') = .ok true s' := rfl
set_option autoImplicit true in
@[simp] theorem kTOr_2 {g : TF} {env : Env} : kTOr g env (.ex c' s') = .ex c' s' := rfl
set_option autoImplicit true in
@[simp] theorem kTOr_3 {g : TF} {env : Env} : kTOr g env (.no) = .no := rfl
@[simp] theorem tOr_v : Sx.tOr t1 t2 env s = kTOr t2 env (t1 env s) := by
  unfold Sx.tOr
  cases t1 env s with
  | ok b s1 => cases b <;> rfl
  | _ => rfl
def kTNot : R Bool → R Bool
  | .ok b s => .ok (!b) s
  | .ex c s => .ex c s
  | .no => .no
set_option autoImplicit true in
@[simp] theorem kTNot_0  : kTNot  (.ok b' s') = .ok (!b') s' := rfl
set_option autoImplicit true in
@[simp] theorem kTNot_1  : kTNot  (.ex c' s') = .ex c' s' := rfl
set_option autoImplicit true in
@[simp] theorem kTNot_2  : kTNot  (.no) = .no := rfl
@[simp] theorem tNot_v : Sx.tNot t env s = kTNot (t env s) := by unfold Sx.tNot; cases t env s <;> rfl
/-! values -/
@[simp] theorem opAdd_int {a b : Int} : opAdd s (.int a) (.int b) = some (.int (a + b)) := rfl
@[simp] theorem opAdd_tup {a b : List D} : opAdd s (.tup a) (.tup b) = if a.length + b.length ≤ LIM then some (.tup (a ++ b)) else none := rfl
@[simp] theorem opAdd_str {a b : Str} : opAdd s (.str a) (.str b) = if a.length + b.length ≤ LIM then some (.str (a ++ b)) else none := rfl
@[simp] theorem opAdd_lst {a b : List D} : opAdd s (.lst a) (.lst b) = if a.length + b.length ≤ LIM then some (.lst (a ++ b)) else none := rfl
@[simp] theorem opSub_int {a b : Int} : opSub s (.int a) (.int b) = some (.int (a - b)) := rfl
theorem opMul_int {a b : Int} : opMul s (.int a) (.int b) = if FIT a || FIT b || (FITW a && FITW b) then some (.int (a * b)) else none := rfl
theorem fit_of {a : Int} (h : -18446744073709551616 < a) (h2 : a < 18446744073709551616) : FIT a = true := by unfold FIT; exact decide_eq_true (by omega)
theorem opMul_l {a b : Int} (h : -18446744073709551616 < a) (h2 : a < 18446744073709551616) : opMul s (.int a) (.int b) = some (.int (a * b)) := by rw [opMul_int, fit_of h h2]; rfl
theorem opMul_r {a b : Int} (h : -18446744073709551616 < b) (h2 : b < 18446744073709551616) : opMul s (.int a) (.int b) = some (.int (a * b)) := by rw [opMul_int, fit_of h h2]; simp
theorem opDiv_int {a b : Int} (h : 0 < b) (h2 : b < 18446744073709551616) : opDiv s (.int a) (.int b) = some (.int (a / b)) := by
  show (if 0 < b ∧ FITW b then some (D.int (a / b)) else none) = _
  rw [if_pos]
  refine ⟨h, ?_⟩
  unfold FITW
  refine decide_eq_true ?_
  have h3 : b.natAbs.log2 < 64 := (Nat.log2_lt (by omega)).mpr (by omega)
  omega
theorem opMod_int {a b : Int} (h : 0 < b) : opMod s (.int a) (.int b) = some (.int (a % b)) := by
  show (if 0 < b then some (D.int (a % b)) else none) = _
  rw [if_pos h]
@[simp] theorem opLt_int {a b : Int} : opLt s (.int a) (.int b) = some (.bl (decide (a < b))) := rfl
@[simp] theorem opLe_int {a b : Int} : opLe s (.int a) (.int b) = some (.bl (decide (a ≤ b))) := rfl
@[simp] theorem opGt_int {a b : Int} : opGt s (.int a) (.int b) = some (.bl (decide (b < a))) := rfl
@[simp] theorem opGe_int {a b : Int} : opGe s (.int a) (.int b) = some (.bl (decide (b ≤ a))) := rfl
@[simp] theorem opEq_int {a b : Int} : opEq s (.int a) (.int b) = some (.bl (decide (a = b))) := rfl
@[simp] theorem opNe_int {a b : Int} : opNe s (.int a) (.int b) = some (.bl (!decide (a = b))) := rfl
@[simp] theorem opEq_str {a b : Str} : opEq s (.str a) (.str b) = some (.bl (decide (a = b))) := rfl
@[simp] theorem opNe_str {a b : Str} : opNe s (.str a) (.str b) = some (.bl (!decide (a = b))) := rfl
@[simp] theorem opEq_bl {a b : Bool} : opEq s (.bl a) (.bl b) = some (.bl (decide (a = b))) := rfl
@[simp] theorem opNeg_int {a : Int} : opNeg s (.int a) = some (.int (-a)) := rfl
@[simp] theorem truth_bl {b : Bool} : truth s (.bl b) = some b := rfl
@[simp] theorem truth_int {a : Int} : truth s (.int a) = some (a != 0) := rfl
@[simp] theorem truth_tup {a : List D} : truth s (.tup a) = some (!a.isEmpty) := rfl
@[simp] theorem truth_lst {a : List D} : truth s (.lst a) = some (!a.isEmpty) := rfl
@[simp] theorem truth_scr {a : List Int} : truth s (.scr a) = some (!a.isEmpty) := rfl
@[simp] theorem truth_non : truth s .non = some false := rfl
@[simp] theorem fLen_tup {a : List D} : fLen s [.tup a] = some (.int a.length) := rfl
@[simp] theorem fLen_lst {a : List D} : fLen s [.lst a] = some (.int a.length) := rfl
@[simp] theorem fLen_scr {a : List Int} : fLen s [.scr a] = some (.int a.length) := rfl
theorem fLen_ref {n : Nat} {xs : List D} (h : s[n]? = some (.lst xs)) : fLen s [.ref n] = some (.int xs.length) := by simp only [fLen]; rw [h]
@[simp] theorem fLen_str {z : Str} : fLen s [.str z] = if z.length ≤ LIM then some (.int z.length) else none := rfl
@[simp] theorem fTuple_lst {a : List D} : fTuple s [.lst a] = some (.tup a) := rfl
@[simp] theorem fTuple_tup {a : List D} : fTuple s [.tup a] = some (.tup a) := rfl
theorem fTuple_ref {n : Nat} {xs : List D} (h : s[n]? = some (.lst xs)) : fTuple s [.ref n] = some (.tup xs) := by simp only [fTuple, rowOf]; rw [h]; rfl
@[simp] theorem fAbs_v {a : Int} : fAbs s [.int a] = some (.int (if a < 0 then -a else a)) := rfl
@[simp] theorem fMax_v {a b : Int} : fMax s [.int a, .int b] = some (.int (if b > a then b else a)) := rfl
@[simp] theorem fMin_v {a b : Int} : fMin s [.int a, .int b] = some (.int (if b < a then b else a)) := rfl
@[simp] theorem fInt_int {a : Int} : fInt s [.int a] = some (.int a) := rfl
@[simp] theorem fInt_bl {a : Bool} : fInt s [.bl a] = some (.int (if a then 1 else 0)) := rfl
@[simp] theorem isIn_int {T : String} {a : Int} : isIn T s (.int a) = some (.bl ("int" == T || ("int" == "bool" && T == "int"))) := rfl
@[simp] theorem isIn_bl {T : String} {a : Bool} : isIn T s (.bl a) = some (.bl ("bool" == T || ("bool" == "bool" && T == "int"))) := rfl
@[simp] theorem isIn_str {T : String} {a : Str} : isIn T s (.str a) = some (.bl ("str" == T || ("str" == "bool" && T == "int"))) := rfl
@[simp] theorem isIn_tup {T : String} {a : List D} : isIn T s (.tup a) = some (.bl ("tuple" == T || ("tuple" == "bool" && T == "int"))) := rfl
@[simp] theorem isIn_lst {T : String} {a : List D} : isIn T s (.lst a) = some (.bl ("list" == T || ("list" == "bool" && T == "int"))) := rfl
@[simp] theorem isIn_non {T : String} : isIn T s .non = some (.bl ("NoneType" == T || ("NoneType" == "bool" && T == "int"))) := rfl
/-! cuts -/
@[simp] theorem oNo_v : oNo env s = .ok none s := rfl
def kO : R D → R (Option Int)
  | .ok (.int i) s => .ok (some i) s
  | .ok _ _ => .no
  | .ex c s => .ex c s
  | .no => .no
set_option autoImplicit true in
@[simp] theorem kO_0  : kO  (.ok (.int i') s') = .ok (some i') s' := rfl
set_option autoImplicit true in
@[simp] theorem kO_1  : kO  (.ex c' s') = .ex c' s' := rfl
set_option autoImplicit true in
@[simp] theorem kO_2  : kO  (.no) = .no := rfl
@[simp] theorem oSome_v : oSome f env s = kO (f env s) := by
  unfold oSome
  cases f env s with
  | ok d s1 => cases d <;> rfl
  | _ => rfl
def kSl3 (a : D) (lo : Option Int) : R (Option Int) → R D
  | .ok hi s => R.of (opSl s a lo hi) s
  | .ex c s => .ex c s
  | .no => .no
set_option autoImplicit true in
@[simp] theorem kSl3_0 {a : D} {lo : Option Int} : kSl3 a lo (.ok hi' s') = R.of (opSl s' a lo hi') s' := rfl
set_option autoImplicit true in
@[simp] theorem kSl3_1 {a : D} {lo : Option Int} : kSl3 a lo (.ex c' s') = .ex c' s' := rfl
set_option autoImplicit true in
@[simp] theorem kSl3_2 {a : D} {lo : Option Int} : kSl3 a lo (.no) = .no := rfl
def kSl2 (a : D) (h : OF) (env : Env) : R (Option Int) → R D
  | .ok lo s => kSl3 a lo (h env s)
  | .ex c s => .ex c s
  | .no => .no
set_option autoImplicit true in
@[simp] theorem kSl2_0 {a : D} {h : OF} {env : Env} : kSl2 a h env (.ok lo' s') = kSl3 a lo' (h env s') := rfl
set_option autoImplicit true in
@[simp] theorem kSl2_1 {a : D} {h : OF} {env : Env} : kSl2 a h env (.ex c' s') = .ex c' s' := rfl
set_option autoImplicit true in
@[simp] theorem kSl2_2 {a : D} {h : OF} {env : Env} : kSl2 a h env (.no) = .no := rfl
def kSl1 (lo hi : OF) (env : Env) : R D → R D
  | .ok a s => kSl2 a hi env (lo env s)
  | .ex c s => .ex c s
  | .no => .no
set_option autoImplicit true in
@[simp] theorem kSl1_0 {lo hi : OF} {env : Env} : kSl1 lo hi env (.ok a' s') = kSl2 a' hi env (lo env s') := rfl
set_option autoImplicit true in
@[simp] theorem kSl1_1 {lo hi : OF} {env : Env} : kSl1 lo hi env (.ex c' s') = .ex c' s' := rfl
set_option autoImplicit true in
@[simp] theorem kSl1_2 {lo hi : OF} {env : Env} : kSl1 lo hi env (.no) = .no := rfl
@[simp] theorem eSl_v {lo hi : OF} : eSl f lo hi env s = kSl1 lo hi env (f env s) := by
  unfold eSl
  cases f env s with
  | ok a s1 =>
    show (lo env s1).bind _ = kSl2 a hi env (lo env s1)
    cases lo env s1 with
    | ok l s2 => show (hi env s2).bind _ = kSl3 a l (hi env s2); cases hi env s2 <;> rfl
    | _ => rfl
  | _ => rfl
@[simp] theorem opSl_tup {xs : List D} {lo hi : Option Int} : opSl s (.tup xs) lo hi = some (.tup (cutD xs lo hi)) := rfl
@[simp] theorem opSl_lst {xs : List D} {lo hi : Option Int} : opSl s (.lst xs) lo hi = some (.lst (cutD xs lo hi)) := rfl
/-! methods of lists -/
def rOf2 : Option (D × Sto) → R D
  | some q => .ok q.1 q.2
  | none => .no
set_option autoImplicit true in
@[simp] theorem rOf2_0  : rOf2  (some q') = .ok q'.1 q'.2 := rfl
set_option autoImplicit true in
@[simp] theorem rOf2_1  : rOf2  (none) = .no := rfl
def kBM2 (h : Sto → D → List D → Option (D × Sto)) (o : D) : R (List D) → R D
  | .ok as s => rOf2 (h s o as)
  | .ex c s => .ex c s
  | .no => .no
set_option autoImplicit true in
@[simp] theorem kBM2_0 {h : Sto → D → List D → Option (D × Sto)} {o : D} : kBM2 h o (.ok as' s') = rOf2 (h s' o as') := rfl
set_option autoImplicit true in
@[simp] theorem kBM2_1 {h : Sto → D → List D → Option (D × Sto)} {o : D} : kBM2 h o (.ex c' s') = .ex c' s' := rfl
set_option autoImplicit true in
@[simp] theorem kBM2_2 {h : Sto → D → List D → Option (D × Sto)} {o : D} : kBM2 h o (.no) = .no := rfl
def kBM1' (h : Sto → D → List D → Option (D × Sto)) (fa : AF) (env : Env) (o : D) (s : Sto) : Option (List D) → R D
  | some _ => kBM2 h o (fa env s)
  | none => .no
set_option autoImplicit true in
@[simp] theorem kBM1'_0 {h : Sto → D → List D → Option (D × Sto)} {fa : AF} {env : Env} {o : D} {s : Sto} : kBM1' h fa env o s (some v1') = kBM2 h o (fa env s) := rfl
set_option autoImplicit true in
@[simp] theorem kBM1'_1 {h : Sto → D → List D → Option (D × Sto)} {fa : AF} {env : Env} {o : D} {s : Sto} : kBM1' h fa env o s (none) = .no := rfl
def kBM1 (h : Sto → D → List D → Option (D × Sto)) (fa : AF) (env : Env) : R D → R D
  | .ok o s => kBM1' h fa env o s (lstOf s o)
  | .ex c s => .ex c s
  | .no => .no
set_option autoImplicit true in
@[simp] theorem kBM1_0 {h : Sto → D → List D → Option (D × Sto)} {fa : AF} {env : Env} : kBM1 h fa env (.ok o' s') = kBM1' h fa env o' s' (lstOf s' o') := rfl
set_option autoImplicit true in
@[simp] theorem kBM1_1 {h : Sto → D → List D → Option (D × Sto)} {fa : AF} {env : Env} : kBM1 h fa env (.ex c' s') = .ex c' s' := rfl
set_option autoImplicit true in
@[simp] theorem kBM1_2 {h : Sto → D → List D → Option (D × Sto)} {fa : AF} {env : Env} : kBM1 h fa env (.no) = .no := rfl
@[simp] theorem eBM_v {h : Sto → D → List D → Option (D × Sto)} : eBM h f g env s = kBM1 h g env (f env s) := by
  unfold eBM
  cases f env s with
  | ok o s1 =>
    show (match lstOf s1 o with | some _ => _ | none => _) = kBM1' h g env o s1 (lstOf s1 o)
    cases lstOf s1 o with
    | none => rfl
    | some xs =>
      show (g env s1).bind _ = kBM2 h o (g env s1)
      cases g env s1 with
      | ok as s2 => show (match h s2 o as with | some r => _ | none => _) = rOf2 (h s2 o as); cases h s2 o as <;> rfl
      | _ => rfl
  | _ => rfl
@[simp] theorem lstOf_lst {xs : List D} : lstOf s (.lst xs) = some xs := rfl
theorem lstOf_ref {n : Nat} {xs : List D} (h : s[n]? = some (.lst xs)) : lstOf s (.ref n) = some xs := by simp only [lstOf]; rw [h]
theorem mAppend_v {n : Nat} {xs : List D} {d : D} (h : s[n]? = some (.lst xs)) (hl : xs.length < LIM) : mAppend s (.ref n) [d] = some (.non, s.set n (.lst (xs ++ [d]))) := by
  simp only [mAppend]; rw [h]; simp only; rw [if_pos hl]
end
/-! statements -/
section
variable {env : Env} {s : Sto} {f f1 f2 f3 : EF} {g g1 : AF} {t t1 t2 : TF} {i j l : Nat} {d : D} {a b : SF} {gt : GF} {gs : GFs} {it : IF}
@[simp] theorem sNext_v : sNext env s = .nx env s := rfl
@[simp] theorem sRetN_v : sRetN env s = .rt .non s := rfl
@[simp] theorem sBrk_v : sBrk env s = .bk env s := rfl
@[simp] theorem sCont_v : sCont env s = .ct env s := rfl
def kSeq (h : SF) : SR → SR
  | .nx e s => h e s
  | .rt d s => .rt d s
  | .bk e s => .bk e s
  | .ct e s => .ct e s
  | .ex c e s => .ex c e s
  | .no => .no
set_option autoImplicit true in
@[simp] theorem kSeq_0 {h : SF} : kSeq h (.nx e' s') = h e' s' := rfl
set_option autoImplicit true in
@[simp] theorem kSeq_1 {h : SF} : kSeq h (.rt d' s') = .rt d' s' := rfl
set_option autoImplicit true in
@[simp] theorem kSeq_2 {h : SF} : kSeq h (.bk e' s') = .bk e' s' := rfl
set_option autoImplicit true in
@[simp] theorem kSeq_3 {h : SF} : kSeq h (.ct e' s') = .ct e' s' := rfl
set_option autoImplicit true in
@[simp] theorem kSeq_4 {h : SF} : kSeq h (.ex c' e' s') = .ex c' e' s' := rfl
set_option autoImplicit true in
@[simp] theorem kSeq_5 {h : SF} : kSeq h (.no) = .no := rfl
@[simp] theorem sSeq_v : sSeq a b env s = kSeq b (a env s) := by unfold sSeq; cases a env s <;> rfl
def kExpr (env : Env) : R D → SR
  | .ok _ s => .nx env s
  | .ex c s => .ex c env s
  | .no => .no
set_option autoImplicit true in
@[simp] theorem kExpr_0 {env : Env} : kExpr env (.ok v1' s') = .nx env s' := rfl
set_option autoImplicit true in
@[simp] theorem kExpr_1 {env : Env} : kExpr env (.ex c' s') = .ex c' env s' := rfl
set_option autoImplicit true in
@[simp] theorem kExpr_2 {env : Env} : kExpr env (.no) = .no := rfl
@[simp] theorem sExpr_v : sExpr f env s = kExpr env (f env s) := by unfold sExpr SR.ofR; cases f env s <;> rfl
def kRet (env : Env) : R D → SR
  | .ok d s => .rt d s
  | .ex c s => .ex c env s
  | .no => .no
set_option autoImplicit true in
@[simp] theorem kRet_0 {env : Env} : kRet env (.ok d' s') = .rt d' s' := rfl
set_option autoImplicit true in
@[simp] theorem kRet_1 {env : Env} : kRet env (.ex c' s') = .ex c' env s' := rfl
set_option autoImplicit true in
@[simp] theorem kRet_2 {env : Env} : kRet env (.no) = .no := rfl
@[simp] theorem sRet_v : sRet f env s = kRet env (f env s) := by unfold sRet SR.ofR; cases f env s <;> rfl
def kSIf (a b : SF) (env : Env) : R Bool → SR
  | .ok true s => a env s
  | .ok false s => b env s
  | .ex c s => .ex c env s
  | .no => .no
set_option autoImplicit true in
@[simp] theorem kSIf_0 {a b : SF} {env : Env} : kSIf a b env (.ok true s') = a env s' := rfl
set_option autoImplicit true in
@[simp] theorem kSIf_1 {a b : SF} {env : Env} : kSIf a b env (.ok false s') = b env s' := rfl
set_option autoImplicit true in
@[simp] theorem kSIf_2 {a b : SF} {env : Env} : kSIf a b env (.ex c' s') = .ex c' env s' := rfl
set_option autoImplicit true in
@[simp] theorem kSIf_3 {a b : SF} {env : Env} : kSIf a b env (.no) = .no := rfl
@[simp] theorem sIf_v : sIf t a b env s = kSIf a b env (t env s) := by
  unfold sIf SR.ofR
  cases t env s with
  | ok k s1 => cases k <;> rfl
  | _ => rfl
@[simp] theorem gVar_v : gVar i d env s = some (env.set i (some d), s) := rfl
@[simp] theorem gNil_v : Sx.gNil [] env s = some (env, s) := rfl
def kGC (h : GFs) (ds : List D) : Option (Env × Sto) → Option (Env × Sto)
  | some r => h ds r.1 r.2
  | none => none
set_option autoImplicit true in
@[simp] theorem kGC_0 {h : GFs} {ds : List D} : kGC h ds (some r') = h ds r'.1 r'.2 := rfl
set_option autoImplicit true in
@[simp] theorem kGC_1 {h : GFs} {ds : List D} : kGC h ds (none) = none := rfl
@[simp] theorem gCons_v {ds : List D} : Sx.gCons gt gs (d :: ds) env s = kGC gs ds (gt d env s) := by simp only [Sx.gCons]; cases gt d env s <;> rfl
@[simp] theorem gTup_v {n : Nat} {xs : List D} : Sx.gTup n gs (.tup xs) env s = if xs.length = n then gs xs env s else none := rfl
def kG : Option (Env × Sto) → SR
  | some r => .nx r.1 r.2
  | none => .no
set_option autoImplicit true in
@[simp] theorem kG_0  : kG  (some r') = .nx r'.1 r'.2 := rfl
set_option autoImplicit true in
@[simp] theorem kG_1  : kG  (none) = .no := rfl
def kAsg (gt : GF) (env : Env) : R D → SR
  | .ok d s => kG (gt d env s)
  | .ex c s => .ex c env s
  | .no => .no
set_option autoImplicit true in
@[simp] theorem kAsg_0 {gt : GF} {env : Env} : kAsg gt env (.ok d' s') = kG (gt d' env s') := rfl
set_option autoImplicit true in
@[simp] theorem kAsg_1 {gt : GF} {env : Env} : kAsg gt env (.ex c' s') = .ex c' env s' := rfl
set_option autoImplicit true in
@[simp] theorem kAsg_2 {gt : GF} {env : Env} : kAsg gt env (.no) = .no := rfl
@[simp] theorem sAsg_v : sAsg f gt env s = kAsg gt env (f env s) := by
  unfold sAsg SR.ofR
  cases f env s with
  | ok d s1 => show SR.ofG (gt d env s1) _ = kG (gt d env s1); unfold SR.ofG; cases gt d env s1 <;> rfl
  | _ => rfl
def kPar2 (i j : Nat) (env : Env) (a : D) : R D → SR
  | .ok b s => .nx ((env.set i (some a)).set j (some b)) s
  | .ex c s => .ex c env s
  | .no => .no
set_option autoImplicit true in
@[simp] theorem kPar2_0 {i j : Nat} {env : Env} {a : D} : kPar2 i j env a (.ok b' s') = .nx ((env.set i (some a)).set j (some b')) s' := rfl
set_option autoImplicit true in
@[simp] theorem kPar2_1 {i j : Nat} {env : Env} {a : D} : kPar2 i j env a (.ex c' s') = .ex c' env s' := rfl
set_option autoImplicit true in
@[simp] theorem kPar2_2 {i j : Nat} {env : Env} {a : D} : kPar2 i j env a (.no) = .no := rfl
def kPar1 (i j : Nat) (f2 : EF) (env : Env) : R D → SR
  | .ok a s => kPar2 i j env a (f2 env s)
  | .ex c s => .ex c env s
  | .no => .no
set_option autoImplicit true in
@[simp] theorem kPar1_0 {i j : Nat} {f2 : EF} {env : Env} : kPar1 i j f2 env (.ok a' s') = kPar2 i j env a' (f2 env s') := rfl
set_option autoImplicit true in
@[simp] theorem kPar1_1 {i j : Nat} {f2 : EF} {env : Env} : kPar1 i j f2 env (.ex c' s') = .ex c' env s' := rfl
set_option autoImplicit true in
@[simp] theorem kPar1_2 {i j : Nat} {f2 : EF} {env : Env} : kPar1 i j f2 env (.no) = .no := rfl
@[simp] theorem sPar_v : sPar i j f1 f2 env s = kPar1 i j f2 env (f1 env s) := by
  unfold sPar SR.ofR
  cases f1 env s with
  | ok a s1 => simp only [kPar1]; cases f2 env s1 <;> rfl
  | _ => rfl
def kPar33 (i j l : Nat) (env : Env) (a b : D) : R D → SR
  | .ok c s => .nx (((env.set i (some a)).set j (some b)).set l (some c)) s
  | .ex c s => .ex c env s
  | .no => .no
set_option autoImplicit true in
@[simp] theorem kPar33_0 {i j l : Nat} {env : Env} {a b : D} : kPar33 i j l env a b (.ok c' s') = .nx (((env.set i (some a)).set j (some b)).set l (some c')) s' := rfl
set_option autoImplicit true in
@[simp] theorem kPar33_1 {i j l : Nat} {env : Env} {a b : D} : kPar33 i j l env a b (.ex c' s') = .ex c' env s' := rfl
set_option autoImplicit true in
@[simp] theorem kPar33_2 {i j l : Nat} {env : Env} {a b : D} : kPar33 i j l env a b (.no) = .no := rfl
def kPar32 (i j l : Nat) (f3 : EF) (env : Env) (a : D) : R D → SR
  | .ok b s => kPar33 i j l env a b (f3 env s)
  | .ex c s => .ex c env s
  | .no => .no
set_option autoImplicit true in
@[simp] theorem kPar32_0 {i j l : Nat} {f3 : EF} {env : Env} {a : D} : kPar32 i j l f3 env a (.ok b' s') = kPar33 i j l env a b' (f3 env s') := rfl
set_option autoImplicit true in
@[simp] theorem kPar32_1 {i j l : Nat} {f3 : EF} {env : Env} {a : D} : kPar32 i j l f3 env a (.ex c' s') = .ex c' env s' := rfl
set_option autoImplicit true in
@[simp] theorem kPar32_2 {i j l : Nat} {f3 : EF} {env : Env} {a : D} : kPar32 i j l f3 env a (.no) = .no := rfl
def kPar31 (i j l : Nat) (f2 f3 : EF) (env : Env) : R D → SR
  | .ok a s => kPar32 i j l f3 env a (f2 env s)
  | .ex c s => .ex c env s
  | .no => .no
set_option autoImplicit true in
@[simp] theorem kPar31_0 {i j l : Nat} {f2 f3 : EF} {env : Env} : kPar31 i j l f2 f3 env (.ok a' s') = kPar32 i j l f3 env a' (f2 env s') := rfl
set_option autoImplicit true in
@[simp] theorem kPar31_1 {i j l : Nat} {f2 f3 : EF} {env : Env} : kPar31 i j l f2 f3 env (.ex c' s') = .ex c' env s' := rfl
set_option autoImplicit true in
@[simp] theorem kPar31_2 {i j l : Nat} {f2 f3 : EF} {env : Env} : kPar31 i j l f2 f3 env (.no) = .no := rfl
@[simp] theorem sPar3_v : sPar3 i j l f1 f2 f3 env s = kPar31 i j l f2 f3 env (f1 env s) := by
  unfold sPar3 SR.ofR
  cases f1 env s with
  | ok a s1 =>
    simp only [kPar31]
    cases f2 env s1 with
    | ok b s2 => simp only [kPar32]; cases f3 env s2 <;> rfl
    | _ => rfl
  | _ => rfl
def kTurn (h : SF) : SR → SR
  | .nx e s => h e s
  | .ct e s => h e s
  | .bk e s => .nx e s
  | .rt d s => .rt d s
  | .ex c e s => .ex c e s
  | .no => .no
@[simp] theorem kTurn_nx {h : SF} {e : Env} : kTurn h (.nx e s) = h e s := rfl
@[simp] theorem kTurn_ct {h : SF} {e : Env} : kTurn h (.ct e s) = h e s := rfl
@[simp] theorem kTurn_bk {h : SF} {e : Env} : kTurn h (.bk e s) = .nx e s := rfl
@[simp] theorem kTurn_rt {h : SF} {e : D} : kTurn h (.rt e s) = .rt e s := rfl
@[simp] theorem kTurn_ex {h : SF} {c : Nat} {e : Env} : kTurn h (.ex c e s) = .ex c e s := rfl
def kWhile (t : TF) (b : SF) (n : Nat) (env : Env) : R Bool → SR
  | .ok true s => kTurn (sWhile t b n) (b env s)
  | .ok false s => .nx env s
  | .ex c s => .ex c env s
  | .no => .no
@[simp] theorem kWhile_t {n : Nat} : kWhile t b n env (.ok true s) = kTurn (sWhile t b n) (b env s) := rfl
@[simp] theorem kWhile_f {n : Nat} : kWhile t b n env (.ok false s) = .nx env s := rfl
theorem sWhile_s {n : Nat} : sWhile t b (n + 1) env s = kWhile t b n env (t env s) := by
  simp only [sWhile, SR.ofR]
  cases t env s with
  | ok k s1 =>
    cases k with
    | true => simp only [if_pos, kWhile_t]; cases b env s1 <;> rfl
    | false => rfl
  | _ => rfl
@[simp] theorem forL_nil : forL gt b [] env s = .nx env s := rfl
def kFor (b : SF) (k : SF) : Option (Env × Sto) → SR
  | some r => kTurn k (b r.1 r.2)
  | none => .no
@[simp] theorem kFor_some {k : SF} {r : Env × Sto} : kFor b k (some r) = kTurn k (b r.1 r.2) := rfl
theorem forL_cons {ds : List D} : forL gt b (d :: ds) env s = kFor b (forL gt b ds) (gt d env s) := by
  simp only [forL, SR.ofG]
  cases gt d env s with
  | none => rfl
  | some r => simp only [kFor_some]; cases b r.1 r.2 <;> rfl
def kSFor (gt : GF) (b : SF) (env : Env) : R (List D) → SR
  | .ok ds s => forL gt b ds env s
  | .ex c s => .ex c env s
  | .no => .no
set_option autoImplicit true in
@[simp] theorem kSFor_0 {gt : GF} {b : SF} {env : Env} : kSFor gt b env (.ok ds' s') = forL gt b ds' env s' := rfl
set_option autoImplicit true in
@[simp] theorem kSFor_1 {gt : GF} {b : SF} {env : Env} : kSFor gt b env (.ex c' s') = .ex c' env s' := rfl
set_option autoImplicit true in
@[simp] theorem kSFor_2 {gt : GF} {b : SF} {env : Env} : kSFor gt b env (.no) = .no := rfl
@[simp] theorem sFor_v : sFor it gt b env s = kSFor gt b env (it env s) := by unfold sFor SR.ofR; cases it env s <;> rfl
def kRow : R D → R (List D)
  | .ok (.tup xs) s => .ok xs s
  | .ok (.lst xs) s => .ok xs s
  | .ok _ _ => .no
  | .ex c s => .ex c s
  | .no => .no
set_option autoImplicit true in
@[simp] theorem kRow_0  : kRow  (.ok (.tup xs') s') = .ok xs' s' := rfl
set_option autoImplicit true in
@[simp] theorem kRow_1  : kRow  (.ok (.lst xs') s') = .ok xs' s' := rfl
set_option autoImplicit true in
@[simp] theorem kRow_2  : kRow  (.ex c' s') = .ex c' s' := rfl
set_option autoImplicit true in
@[simp] theorem kRow_3  : kRow  (.no) = .no := rfl
@[simp] theorem iRow_v : iRow f env s = kRow (f env s) := by
  unfold iRow
  cases f env s with
  | ok d s1 => cases d <;> rfl
  | _ => rfl
def kRng1 : R (List D) → R (List D)
  | .ok [.int j] s => if rOk j then .ok (rangeD 0 j) s else .no
  | .ok _ _ => .no
  | .ex c s => .ex c s
  | .no => .no
set_option autoImplicit true in
@[simp] theorem kRng1_0  : kRng1  (.ok [.int j'] s') = if rOk j' then .ok (rangeD 0 j') s' else .no := rfl
set_option autoImplicit true in
@[simp] theorem kRng1_1  : kRng1  (.ex c' s') = .ex c' s' := rfl
set_option autoImplicit true in
@[simp] theorem kRng1_2  : kRng1  (.no) = .no := rfl
@[simp] theorem iRng1_v : Sx.iRng1 g env s = kRng1 (g env s) := by
  unfold Sx.iRng1
  cases g env s with
  | ok ds s1 =>
    match ds with
    | [] => rfl
    | [d] => cases d <;> rfl
    | _ :: _ :: _ => simp only [R.bind, kRng1]
  | _ => rfl
def kRng2 : R (List D) → R (List D)
  | .ok [.int i, .int j] s => if rOk i && rOk j then .ok (rangeD i j) s else .no
  | .ok _ _ => .no
  | .ex c s => .ex c s
  | .no => .no
set_option autoImplicit true in
@[simp] theorem kRng2_0  : kRng2  (.ok [.int i', .int j'] s') = if rOk i' && rOk j' then .ok (rangeD i' j') s' else .no := rfl
set_option autoImplicit true in
@[simp] theorem kRng2_1  : kRng2  (.ex c' s') = .ex c' s' := rfl
set_option autoImplicit true in
@[simp] theorem kRng2_2  : kRng2  (.no) = .no := rfl
theorem rOk_v {i : Int} (h : -(2 ^ 62) ≤ i) (h2 : i < 2 ^ 62) : rOk i = true := by unfold rOk; rw [decide_eq_true h, decide_eq_true h2]; rfl
@[simp] theorem tTrue_v : tTrue env s = .ok true s := rfl
def lcR : Option (List D × Sto) → R D
  | some q => .ok (.lst q.1) q.2
  | none => .no
set_option autoImplicit true in
@[simp] theorem lcR_0  : lcR  (some q') = .ok (.lst q'.1) q'.2 := rfl
set_option autoImplicit true in
@[simp] theorem lcR_1  : lcR  (none) = .no := rfl
def kLc (gt : GF) (t : TF) (f : EF) (vs : List Nat) (env : Env) : R (List D) → R D
  | .ok ds s => if ds.length ≤ LIM then lcR (lcL gt t f (wipeE env vs) ds s) else .no
  | .ex c s => .ex c s
  | .no => .no
set_option autoImplicit true in
@[simp] theorem kLc_0 {gt : GF} {t : TF} {f : EF} {vs : List Nat} {env : Env} : kLc gt t f vs env (.ok ds' s') = if ds'.length ≤ LIM then lcR (lcL gt t f (wipeE env vs) ds' s') else .no := rfl
set_option autoImplicit true in
@[simp] theorem kLc_1 {gt : GF} {t : TF} {f : EF} {vs : List Nat} {env : Env} : kLc gt t f vs env (.ex c' s') = .ex c' s' := rfl
set_option autoImplicit true in
@[simp] theorem kLc_2 {gt : GF} {t : TF} {f : EF} {vs : List Nat} {env : Env} : kLc gt t f vs env (.no) = .no := rfl
@[simp] theorem eLc_v {vs : List Nat} : eLc it gt t f vs env s = kLc gt t f vs env (it env s) := by
  unfold eLc
  cases it env s with
  | ok ds s1 =>
    simp only [R.bind, kLc]
    split
    · cases lcL gt t f (wipeE env vs) ds s1 <;> rfl
    · rfl
  | _ => rfl
def kFnOf : SR → R D
  | .nx _ s => .ok .non s
  | .rt d s => .ok d s
  | .ex c _ s => .ex c s
  | _ => .no
set_option autoImplicit true in
@[simp] theorem kFnOf_0  : kFnOf  (.nx v1' s') = .ok .non s' := rfl
set_option autoImplicit true in
@[simp] theorem kFnOf_1  : kFnOf  (.rt d' s') = .ok d' s' := rfl
set_option autoImplicit true in
@[simp] theorem kFnOf_2  : kFnOf  (.ex c' v1' s') = .ex c' s' := rfl
theorem fnOf_v {n N : Nat} {ds : List D} (h : ds.length = n) : fnOf n N b ds s = kFnOf (b (startE N ds) s) := by
  unfold fnOf
  rw [if_pos h]
  cases b (startE N ds) s <;> rfl
def kCall (fn : FN) : R (List D) → R D
  | .ok ds s => fn ds s
  | .ex c s => .ex c s
  | .no => .no
set_option autoImplicit true in
@[simp] theorem kCall_0 {fn : FN} : kCall fn (.ok ds' s') = fn ds' s' := rfl
set_option autoImplicit true in
@[simp] theorem kCall_1 {fn : FN} : kCall fn (.ex c' s') = .ex c' s' := rfl
set_option autoImplicit true in
@[simp] theorem kCall_2 {fn : FN} : kCall fn (.no) = .no := rfl
@[simp] theorem eCall_v {fn : FN} : eCall fn g env s = kCall fn (g env s) := by unfold eCall; cases g env s <;> rfl
end
theorem fnOf_1 {N : Nat} {b : SF} {a0 : D} {s : Sto} : fnOf 1 N b [a0] s = kFnOf (b (some a0 :: List.replicate (N - 1) none) s) := fnOf_v rfl
theorem fnOf_2 {N : Nat} {b : SF} {a0 a1 : D} {s : Sto} : fnOf 2 N b [a0, a1] s = kFnOf (b (some a0 :: some a1 :: List.replicate (N - 2) none) s) := fnOf_v rfl
theorem fnOf_3 {N : Nat} {b : SF} {a0 a1 a2 : D} {s : Sto} : fnOf 3 N b [a0, a1, a2] s = kFnOf (b (some a0 :: some a1 :: some a2 :: List.replicate (N - 3) none) s) := fnOf_v rfl
theorem fnOf_4 {N : Nat} {b : SF} {a0 a1 a2 a3 : D} {s : Sto} : fnOf 4 N b [a0, a1, a2, a3] s = kFnOf (b (some a0 :: some a1 :: some a2 :: some a3 :: List.replicate (N - 4) none) s) := fnOf_v rfl
theorem fnOf_5 {N : Nat} {b : SF} {a0 a1 a2 a3 a4 : D} {s : Sto} : fnOf 5 N b [a0, a1, a2, a3, a4] s = kFnOf (b (some a0 :: some a1 :: some a2 :: some a3 :: some a4 :: List.replicate (N - 5) none) s) := fnOf_v rfl
theorem fnOf_6 {N : Nat} {b : SF} {a0 a1 a2 a3 a4 a5 : D} {s : Sto} : fnOf 6 N b [a0, a1, a2, a3, a4, a5] s = kFnOf (b (some a0 :: some a1 :: some a2 :: some a3 :: some a4 :: some a5 :: List.replicate (N - 6) none) s) := fnOf_v rfl
/-! comprehensions that change nothing -/
theorem lcL_map {gt : GF} {t : TF} {f : EF} {env : Env} {s : Sto} {F : D → D} : ∀ {ds : List D}, (∀ d ∈ ds, ∃ r, gt d env s = some r ∧ t r.1 r.2 = .ok true s ∧ f r.1 s = .ok (F d) s) → lcL gt t f env ds s = some (ds.map F, s)
  | [], _ => rfl
  | d :: ds, h => by
    obtain ⟨r, h1, h2, h3⟩ := h d List.mem_cons_self
    simp only [lcL]
    rw [h1]
    simp only
    rw [h2]
    simp only
    rw [h3]
    simp only
    rw [lcL_map fun x hx => h x (List.mem_cons_of_mem _ hx)]
    rfl
theorem lcL_filter {gt : GF} {t : TF} {f : EF} {env : Env} {s : Sto} {F : D → D} {p : D → Bool} : ∀ {ds : List D}, (∀ d ∈ ds, ∃ r, gt d env s = some r ∧ t r.1 r.2 = .ok (p d) s ∧ f r.1 s = .ok (F d) s) → lcL gt t f env ds s = some ((ds.filter p).map F, s)
  | [], _ => rfl
  | d :: ds, h => by
    obtain ⟨r, h1, h2, h3⟩ := h d List.mem_cons_self
    simp only [lcL]
    rw [h1]
    simp only
    rw [h2]
    have ih := lcL_filter (ds := ds) fun x hx => h x (List.mem_cons_of_mem _ hx)
    cases hp : p d with
    | true =>
      simp only
      rw [h3]
      simp only
      rw [ih, List.filter_cons_of_pos hp]
      rfl
    | false =>
      simp only
      rw [ih, List.filter_cons_of_neg (by simp [hp])]
/-- a loop by what holds between its turns -/
theorem forL_inv {gt : GF} {b : SF} {ds : List D} (I : Nat → Env → Sto → Prop) (step : ∀ i d env s, ds[i]? = some d → I i env s → ∃ r, gt d env s = some r ∧ ∃ e1 s1, (b r.1 r.2 = .nx e1 s1 ∨ b r.1 r.2 = .ct e1 s1) ∧ I (i + 1) e1 s1) :
    ∀ {env : Env} {s : Sto}, I 0 env s → ∃ e1 s1, forL gt b ds env s = .nx e1 s1 ∧ I ds.length e1 s1 := by
  intro env s h0
  have go : ∀ (k : Nat) (i : Nat) (env : Env) (s : Sto), ds.length - i = k → i ≤ ds.length → I i env s → ∃ e1 s1, forL gt b (ds.drop i) env s = .nx e1 s1 ∧ I ds.length e1 s1 := by
    intro k
    induction k with
    | zero =>
      intro i env s hk hi h
      have : i = ds.length := by omega
      subst this
      rw [List.drop_length]
      exact ⟨env, s, rfl, h⟩
    | succ k ih =>
      intro i env s hk hi h
      have hlt : i < ds.length := by omega
      rw [List.drop_eq_getElem_cons hlt, forL_cons]
      obtain ⟨r, hr, e1, s1, hb, hI⟩ := step i ds[i] env s (List.getElem?_eq_getElem hlt) h
      rw [hr, kFor_some]
      obtain ⟨e2, s2, h2, h3⟩ := ih (i + 1) e1 s1 (by omega) hlt hI
      refine ⟨e2, s2, ?_, h3⟩
      rcases hb with hb | hb
      · rw [hb, kTurn_nx]; exact h2
      · rw [hb, kTurn_ct]; exact h2
  have := go ds.length 0 env s (by omega) (Nat.zero_le _) h0
  rw [List.drop_zero] at this
  exact this
theorem rangeD_len {lo hi : Int} : (rangeD lo hi).length = (hi - lo).toNat := by simp [rangeD]
theorem rangeD_get {lo hi : Int} {i : Nat} {d : D} (h : (rangeD lo hi)[i]? = some d) : i < (hi - lo).toNat ∧ d = .int (lo + i) := by
  unfold rangeD at h
  rw [List.getElem?_map] at h
  obtain ⟨k, h1, rfl⟩ := Option.map_eq_some_iff.mp h
  obtain ⟨h2, e⟩ := List.getElem?_eq_some_iff.mp h1
  simp at e h2
  exact ⟨by omega, by rw [← e]⟩
/-- a loop over a range -/
theorem forR_inv {j : Nat} {b : SF} {lo hi : Int} (I : Nat → Env → Sto → Prop) (step : ∀ k env s, k < (hi - lo).toNat → I k env s → ∃ e1 s1, b (env.set j (some (.int (lo + (k : Int))))) s = .nx e1 s1 ∧ I (k + 1) e1 s1) {env : Env} {s : Sto} (h : I 0 env s) :
    ∃ e1 s1, forL (gVar j) b (rangeD lo hi) env s = .nx e1 s1 ∧ I (hi - lo).toNat e1 s1 := by
  obtain ⟨e1, s1, h1, h2⟩ := forL_inv (gt := gVar j) (b := b) (ds := rangeD lo hi) I (fun i d env s hd hI => by
    obtain ⟨hi', rfl⟩ := rangeD_get hd
    obtain ⟨e1, s1, h1, h2⟩ := step i env s hi' hI
    exact ⟨_, rfl, e1, s1, .inl h1, h2⟩) h
  rw [rangeD_len] at h2
  exact ⟨e1, s1, h1, h2⟩
end Sx

/-! PxM: the helpers that every law has: draws by cells, one of some, rows of bits, likeness. -/
namespace Sx
open PySem L2
/-- the town: as many noughts as draws -/
def tw (n : Nat) : Ob := .lst (List.replicate n (.int 0))
theorem tw_zero : Ob.lst [] = tw 0 := rfl
def drawS : FN := fnOf 3 7 (sSeq (sExpr (eBM mAppend (eVar 1) (aCons (eC (.int 0)) aNil))) (sSeq (sAsg (eFn fLen (aCons (eVar 1) aNil)) (gVar 3)) (sSeq (sAsg (eC (.int 0)) (gVar 4)) (sSeq (sIf (tTru (eVar 0))
    (sAsg (eOp opIx (eVar 0) (eOp opMod (eVar 3) (eFn fLen (aCons (eVar 0) aNil)))) (gVar 4))
    sNext) (sSeq (sAsg (eOp opMod (eOp opAdd (eVar 4) (eOp opMul (eC (.int 104729)) (eVar 3))) (eC (.int 4294967291))) (gVar 5)) (sSeq (sAsg (eOp opMod (eOp opMul (eOp opMod (eOp opMul (eVar 5) (eVar 5)) (eC (.int 4294967279))) (eC (.int 48271))) (eC (.int 4294967291))) (gVar 5)) (sSeq (sAsg (eOp opMod (eOp opMul (eOp opMod (eOp opMul (eVar 5) (eVar 5)) (eC (.int 4294967279))) (eC (.int 69621))) (eC (.int 4294967291))) (gVar 6)) (sRet (eOp opMod (eOp opAdd (eOp opMul (eOp opDiv (eVar 5) (eC (.int 64))) (eC (.int 67108864))) (eOp opDiv (eVar 6) (eC (.int 64)))) (eVar 2))))))))))
def cellv (ns : List Int) (n : Nat) : Int := if ns = [] then 0 else (atI ns (((n + 1 : Nat) : Int) % (ns.length : Int))).getD 0
def drawv (ns : List Int) (n : Nat) (many : Int) : Int :=
  let a := (cellv ns n + 104729 * ((n + 1 : Nat) : Int)) % 4294967291
  let b := a * a % 4294967279 * 48271 % 4294967291
  let c := b * b % 4294967279 * 69621 % 4294967291
  (b / 64 * 67108864 + c / 64) % many
theorem drawv_nn {ns : List Int} {n : Nat} {many : Int} (h : 0 < many) : 0 ≤ drawv ns n many := Int.emod_nonneg _ (by omega)
theorem drawv_lt {ns : List Int} {n : Nat} {many : Int} (h : 0 < many) : drawv ns n many < many := Int.emod_lt_of_pos _ h
theorem opIx_scr {s : Sto} {ns : List Int} {i : Int} (h : ns ≠ []) (h0 : 0 ≤ i) (h1 : i < ns.length) : opIx s (.scr ns) (.int i) = some (.int ((atI ns i).getD 0)) := by
  show (atI ns i).map D.int = _
  have : ∃ v, atI ns i = some v := by
    unfold atI ixN
    rw [if_pos h0, if_pos h1]
    exact ⟨ns[i.toNat]'(by omega), by simp⟩
  obtain ⟨v, e⟩ := this
  rw [e]
  rfl
theorem draw_v {ns : List Int} {n : Nat} {many : Int} {rest : Sto} (hn : n < 900000) (hm : 0 < many) : drawS [.scr ns, .ref 0, .int many] (tw n :: rest) = .ok (.int (drawv ns n many)) (tw (n + 1) :: rest) := by
  unfold drawS
  rw [fnOf_3]
  have e1 : mAppend (tw n :: rest) (.ref 0) [.int 0] = some (.non, tw (n + 1) :: rest) := by
    rw [mAppend_v (xs := List.replicate n (.int 0)) rfl (by simp; omega)]
    simp [tw, List.replicate_succ']
  have e2 : fLen (tw (n + 1) :: rest) [.ref 0] = some (.int ((n + 1 : Nat) : Int)) := by
    rw [fLen_ref (s := tw (n + 1) :: rest) (n := 0) (xs := List.replicate (n + 1) (.int 0)) rfl]; simp
  have e3 : lstOf (tw n :: rest) (.ref 0) = some (List.replicate n (.int 0)) := rfl
  have key : ∀ c : Int, cellv ns n = c → 0 ≤ (c + 104729 * ((n + 1 : Nat) : Int)) % 4294967291 ∧ (c + 104729 * ((n + 1 : Nat) : Int)) % 4294967291 < 4294967291 := fun c _ => ⟨Int.emod_nonneg _ (by decide), Int.emod_lt_of_pos _ (by decide)⟩
  have hb : ∀ x : Int, 0 ≤ x % 4294967291 ∧ x % 4294967291 < 4294967291 := fun x => ⟨Int.emod_nonneg _ (by decide), Int.emod_lt_of_pos _ (by decide)⟩
  have hb2 : ∀ x : Int, 0 ≤ x % 4294967279 ∧ x % 4294967279 < 4294967279 := fun x => ⟨Int.emod_nonneg _ (by decide), Int.emod_lt_of_pos _ (by decide)⟩
  have m1 : ∀ {s : Sto} (x y : Int), opMul s (.int (x % 4294967291)) (.int y) = some (.int (x % 4294967291 * y)) := fun x y => opMul_l (by have := hb x; omega) (by have := hb x; omega)
  have m2 : ∀ {s : Sto} (x y : Int), opMul s (.int (x % 4294967279)) (.int y) = some (.int (x % 4294967279 * y)) := fun x y => opMul_l (by have := hb2 x; omega) (by have := hb2 x; omega)
  have m3 : ∀ {s : Sto} (x : Int), opMul s (.int 104729) (.int x) = some (.int (104729 * x)) := fun x => opMul_l (by decide) (by decide)
  have m4 : ∀ {s : Sto} (x : Int), opMul s (.int x) (.int 67108864) = some (.int (x * 67108864)) := fun x => opMul_r (by decide) (by decide)
  have d1 : ∀ {s : Sto} (x : Int), opDiv s (.int x) (.int 64) = some (.int (x / 64)) := fun x => opDiv_int (by decide) (by decide)
  have o1 : ∀ {s : Sto} (x : Int), opMod s (.int x) (.int 4294967291) = some (.int (x % 4294967291)) := fun x => opMod_int (by decide)
  have o2 : ∀ {s : Sto} (x : Int), opMod s (.int x) (.int 4294967279) = some (.int (x % 4294967279)) := fun x => opMod_int (by decide)
  have o3 : ∀ {s : Sto} (x : Int), opMod s (.int x) (.int many) = some (.int (x % many)) := fun x => opMod_int hm
  by_cases hns : ns = []
  · subst hns
    have hc : cellv [] n = 0 := rfl
    simp [e1, e2, e3, m1, m2, m3, m4, d1, o1, o2, o3, drawv, hc]
  · have hl : 0 < (ns.length : Int) := by
      have := List.length_pos_iff.mpr hns
      omega
    have o4 : ∀ {s : Sto} (x : Int), opMod s (.int x) (.int (ns.length : Int)) = some (.int (x % (ns.length : Int))) := fun x => opMod_int hl
    have hi : opIx (tw (n + 1) :: rest) (.scr ns) (.int (((n + 1 : Nat) : Int) % (ns.length : Int))) = some (.int (cellv ns n)) := by
      rw [opIx_scr hns (Int.emod_nonneg _ (by omega)) (Int.emod_lt_of_pos _ hl)]
      unfold cellv
      rw [if_neg hns]
    have hemp : ns.isEmpty = false := by
      cases ns with
      | nil => exact absurd rfl hns
      | cons => rfl
    rw [Int.natCast_add] at hi e2
    simp at hi e2
    simp [e1, e2, e3, m1, m2, m3, m4, d1, o1, o2, o3, o4, hi, hemp, drawv]
/-! ### one of some -/
def oneS : FN := fnOf 3 3 (sRet (eOp opIx (eVar 2) (eCall drawS (aCons (eVar 0) (aCons (eVar 1) (aCons (eFn fLen (aCons (eVar 2) aNil)) aNil))))))
theorem atI_get0 {α : Type} {xs : List α} {i : Int} (h0 : 0 ≤ i) (h1 : i < xs.length) : atI xs i = some (xs[i.toNat]'(by omega)) := by
  unfold atI ixN
  rw [if_pos h0, if_pos h1]
  simp
theorem one_v {ns : List Int} {n : Nat} {xs : List D} {rest : Sto} (hn : n < 900000) (hx : xs ≠ []) : ∃ d, d ∈ xs ∧ oneS [.scr ns, .ref 0, .lst xs] (tw n :: rest) = .ok d (tw (n + 1) :: rest) := by
  have hl : 0 < (xs.length : Int) := by
    have := List.length_pos_iff.mpr hx
    omega
  have h0 := drawv_nn (ns := ns) (n := n) hl
  have h1 := drawv_lt (ns := ns) (n := n) hl
  refine ⟨xs[(drawv ns n xs.length).toNat]'(by omega), List.getElem_mem _, ?_⟩
  unfold oneS
  rw [fnOf_3]
  have e : opIx (tw (n + 1) :: rest) (.lst xs) (.int (drawv ns n xs.length)) = some (xs[(drawv ns n xs.length).toNat]'(by omega)) := by
    show (match rowOf (tw (n + 1) :: rest) (D.lst xs) with | some xs => atI xs _ | none => none) = _
    exact atI_get0 h0 h1
  simp [draw_v hn hl, e]
/-! ### likeness -/
def sameS : Nat → FN
  | 0 => fun _ _ => .no
  | n + 1 => fnOf 2 4 (sSeq (sIf (tV (eIsN (eVar 1)))
    (sRet (eIsN (eVar 0)))
    sNext) (sSeq (sIf (tTru (eUn (isIn "bool") (eVar 1)))
    (sRet (eAnd (eUn (isIn "bool") (eVar 0)) (eOp opEq (eVar 0) (eVar 1))))
    sNext) (sSeq (sIf (tTru (eUn (isIn "tuple") (eVar 1)))
    (sSeq (sIf (Sx.tOr (Sx.tNot (tTru (eUn (isIn "tuple") (eVar 0)))) (tV (eOp opNe (eFn fLen (aCons (eVar 0) aNil)) (eFn fLen (aCons (eVar 1) aNil)))))
    (sRet (eC (.bl false)))
    sNext) (sRet (eFn fAll (aCons (eLc (iZip (aCons (eVar 0) (aCons (eVar 1) aNil))) (Sx.gTup 2 (Sx.gCons (gVar 2) (Sx.gCons (gVar 3) Sx.gNil))) tTrue (eCall (sameS n) (aCons (eVar 2) (aCons (eVar 3) aNil))) [2, 3]) aNil))))
    sNext) (sSeq (sIf (tTru (eUn (isIn "str") (eVar 1)))
    (sRet (eAnd (eUn (isIn "str") (eVar 0)) (eOp opEq (eVar 0) (eVar 1))))
    sNext) (sRet (eAnd (eUn (isIn "int") (eVar 0)) (eAnd (eNot (eUn (isIn "bool") (eVar 0))) (eOp opEq (eVar 0) (eVar 1)))))))))
mutual
/-- plain things: numbers, truths, texts, None, tuples of such, not too deep -/
def plainD : Nat → D → Bool
  | _, .non => true
  | _, .bl _ => true
  | _, .int _ => true
  | _, .str _ => true
  | 0, .tup _ => false
  | n + 1, .tup xs => decide (xs.length ≤ LIM) && plainDs n xs
  | _, _ => false
def plainDs : Nat → List D → Bool
  | _, [] => true
  | n, d :: ds => plainD n d && plainDs n ds
end
@[simp] def kZip : R (List D) → R (List D)
  | .ok [.tup xs, .tup ys] s => .ok (List.zipWith (fun a b => .tup [a, b]) xs ys) s
  | .ok [.lst xs, .lst ys] s => .ok (List.zipWith (fun a b => .tup [a, b]) xs ys) s
  | .ok _ _ => .no
  | .ex c s => .ex c s
  | .no => .no
theorem iZip_v {g : AF} {env : Env} {s : Sto} {ds : List D} {s1 : Sto} (h : g env s = .ok ds s1) : iZip g env s = kZip (.ok ds s1) := by
  unfold iZip
  rw [h]
  simp only [R.bind]
  split <;> simp_all
theorem iZip_tt {g : AF} {env : Env} {s : Sto} {xs ys : List D} {s1 : Sto} (h : g env s = .ok [.tup xs, .tup ys] s1) : iZip g env s = .ok (List.zipWith (fun a b => .tup [a, b]) xs ys) s1 := by
  unfold iZip
  rw [h]
  rfl
theorem zip_self_mem {xs : List D} {d : D} : d ∈ List.zipWith (fun a b => D.tup [a, b]) xs xs → ∃ x ∈ xs, d = .tup [x, x] := by
  induction xs with
  | nil => intro h; cases h
  | cons x xs ih =>
    intro h
    rw [List.zipWith_cons_cons] at h
    rcases List.mem_cons.mp h with rfl | h
    · exact ⟨x, List.mem_cons_self, rfl⟩
    · obtain ⟨y, hy, e⟩ := ih h
      exact ⟨y, List.mem_cons_of_mem _ hy, e⟩
theorem plainDs_mem {n : Nat} {x : D} : ∀ {xs : List D}, plainDs n xs = true → x ∈ xs → plainD n x = true
  | y :: ys, h, hx => by
    simp only [plainDs, Bool.and_eq_true] at h
    rcases List.mem_cons.mp hx with rfl | hx
    · exact h.1
    · exact plainDs_mem h.2 hx
theorem allBl_true : ∀ (k : Nat), allBl (List.replicate k (.bl true)) = some (List.replicate k true)
  | 0 => rfl
  | k + 1 => by
    rw [List.replicate_succ, List.replicate_succ]
    show (allBl (List.replicate k (.bl true))).map _ = _
    rw [allBl_true k]
    rfl
/-- a thing is like itself -/
theorem same_self : ∀ (n : Nat) (d : D) (s : Sto), plainD n d = true → ∀ m, n < m → sameS m [d, d] s = .ok (.bl true) s
  | n, .non, s, h, m + 1, hm => by
    unfold sameS
    rw [fnOf_2]
    simp
  | n, .bl b, s, h, m + 1, hm => by
    unfold sameS
    rw [fnOf_2]
    simp
  | n, .int i, s, h, m + 1, hm => by
    unfold sameS
    rw [fnOf_2]
    simp
  | n, .str i, s, h, m + 1, hm => by
    unfold sameS
    rw [fnOf_2]
    simp
  | n + 1, .tup xs, s, h, m + 1, hm => by
    simp only [plainD, Bool.and_eq_true] at h
    have hl : xs.length ≤ LIM := of_decide_eq_true h.1
    unfold sameS
    rw [fnOf_2]
    have hzz : List.zipWith (fun a b => D.tup [a, b]) xs xs = xs.map (fun a => D.tup [a, a]) := by simp
    have hz : iZip (aCons (eVar 0) (aCons (eVar 1) aNil)) [some (.tup xs), some (.tup xs), none, none] s = .ok (xs.map (fun a => D.tup [a, a])) s := by
      rw [← hzz]; exact iZip_tt (by simp)
    have hc := lcL_map (gt := Sx.gTup 2 (Sx.gCons (gVar 2) (Sx.gCons (gVar 3) Sx.gNil))) (t := tTrue) (f := eCall (sameS m) (aCons (eVar 2) (aCons (eVar 3) aNil))) (env := wipeE [some (.tup xs), some (.tup xs), none, none] [2, 3]) (s := s) (F := fun _ => .bl true)
      (ds := xs.map (fun a => D.tup [a, a])) (fun d hd => by
        obtain ⟨x, hx, rfl⟩ := List.mem_map.mp hd
        refine ⟨_, rfl, rfl, ?_⟩
        have ih := same_self n x s (plainDs_mem h.2 hx) m (by omega)
        simp [wipeE, ih])
    have hm2 : (xs.map (fun a => D.tup [a, a])).map (fun _ => D.bl true) = List.replicate xs.length (.bl true) := by
      rw [List.map_const']
      simp
    rw [hm2] at hc
    have hall : fAll s [.lst (List.replicate xs.length (.bl true))] = some (.bl true) := by
      show (allBl _).map _ = _
      rw [allBl_true]
      simp
    have hl2 : xs.length ≤ 1000000 := hl
    simp [hz, hc, hall, hl2]
end Sx

/-! PxG: cuts of rows by a step. -/
namespace Sx
open PySem L2
section
open PySem.Spec PyProof.Rows
variable {prog : Program} {w : World} {A : Around} {E : Value → Shared → Prop} {s : Shared}
theorem sliceSt {sl : Addr} {vl vu vs : Value} {lo hi : Option Int} {n k : Int} {Q : Int × Int × Nat → Shared → Prop} (hs : s.heap.IsSliceOf sl vl vu vs) (pl : IsPart vl lo) (pu : IsPart vu hi) (ps : IsPart vs (some k)) (hk : k ≠ 0)
    (h : Q ((Builtin.Slice.sliceAdjust lo hi k n).1, k, Builtin.Slice.slicePlaces (Builtin.Slice.sliceAdjust lo hi k n).1 (Builtin.Slice.sliceAdjust lo hi k n).2 k) s) :
    wpAny (model prog w) A (Builtin.Slice.sliceApplied (.ref sl) (pure n)) Q E s := by
  obtain ⟨os, h1, h2, h3⟩ := hs
  unfold Builtin.Slice.sliceApplied Builtin.Slice.sliceFields
  have f1 : ∀ {Q : Value → Shared → Prop}, Q vl s → wpAny (model prog w) A (PySem.field (.ref sl) 0) Q E s := fun q => wpAny_field h1 h3 (x := vl) rfl q
  have f2 : ∀ {Q : Value → Shared → Prop}, Q vu s → wpAny (model prog w) A (PySem.field (.ref sl) 1) Q E s := fun q => wpAny_field h1 h3 (x := vu) rfl q
  have f3 : ∀ {Q : Value → Shared → Prop}, Q vs s → wpAny (model prog w) A (PySem.field (.ref sl) 2) Q E s := fun q => wpAny_field h1 h3 (x := vs) rfl q
  refine wpAny_bind (wpAny_bind (f1 (wpAny_bind (f2 (wpAny_bind (f3 (wpAny_pure ?_)))))))
  refine wpAny_bind (HT.slicePart_ ps ?_)
  show wpAny _ _ (if (k == 0) = true then _ else _) _ _ s
  rw [if_neg (by simpa using hk)]
  exact wpAny_bind (HT.slicePart_ pl (wpAny_bind (HT.slicePart_ pu (wpAny_bind (wpAny_pure (wpAny_pure h))))))
/-- the items at such places -/
def stepL {α : Type} (xs : List α) (lo hi : Option Int) (k : Int) : List α :=
  (List.range (Builtin.Slice.slicePlaces (Builtin.Slice.sliceAdjust lo hi k (xs.length : Int)).1 (Builtin.Slice.sliceAdjust lo hi k (xs.length : Int)).2 k)).filterMap fun (m : Nat) => xs[((Builtin.Slice.sliceAdjust lo hi k (xs.length : Int)).1 + (m : Int) * k).toNat]?
theorem getItem_step {t sl : Addr} {items : List Value} {vl vu vs : Value} {lo hi : Option Int} {k : Int} {Q : Value → Shared → Prop} (ht : IsTup s.heap t items.toArray) (hs : s.heap.IsSliceOf sl vl vu vs) (pl : IsPart vl lo) (pu : IsPart vu hi) (ps : IsPart vs (some k)) (hk : k ≠ 0) (h1 : k ≠ 1)
    (hsz : (stepL items lo hi k).length ≤ sizeLine) (h : Q (.ref s.heap.objs.size) { s with heap := s.heap.push { cls := .type "tuple", data := .seq (stepL items lo hi k).toArray } }) :
    wpAny (model prog w) A (getItem (.ref t) (.ref sl)) Q E s := by
  obtain ⟨os, ho1, ho2, ho3⟩ := id hs
  have hT : s.TypeIs (.ref sl) "slice" := ⟨os, ho1, ho2⟩
  unfold getItem
  try with_reducible refine wpAny_holding ?_
  first | refine wpAny_bind (wpAny_pure ?_) | skip
  refine wpAny_bind (wpAny_sequenceKey ht.typeIs (by decide) ?_)
  refine wpAny_bind (wpAny_callSpecial?_slot (name := Str.ofString "__getitem__") ht.typeIs slot_tuple_getitem ?_)
  refine wpAny_call_entry slot_tuple_getitem ht.typeIs entry_tuple_getitem ?_ (args_tuple_getitem _ _)
  show wpAny _ _ (Builtin.Tuple.tupleItemsOf (.ref t) >>= _) _ _ s
  refine wpAny_bind (tupleItemsOf_ ht (wpAny_bind (wpAny_typeOf hT ?_)))
  rw [if_pos (by decide)]
  refine wpAny_bind (sliceSt hs pl pu ps hk ?_)
  have hno : ∀ (a : Int) (n m : Nat), ¬ ((a == 0 && k == 1 && n == m) = true) := fun a n m q => by
    rw [Bool.and_eq_true, Bool.and_eq_true] at q
    exact h1 (eq_of_beq q.1.2)
  show wpAny _ _ (if ((_ : Int) == 0 && k == 1 && _ == _) = true then _ else _) _ _ s
  rw [if_neg (hno _ _ _)]
  have e : ((List.range (Builtin.Slice.slicePlaces (Builtin.Slice.sliceAdjust lo hi k (items.toArray.size : Int)).1 (Builtin.Slice.sliceAdjust lo hi k (items.toArray.size : Int)).2 k)).filterMap fun (m : Nat) => items.toArray[((Builtin.Slice.sliceAdjust lo hi k (items.toArray.size : Int)).1 + (m : Int) * k).toNat]?) = stepL items lo hi k := by
    unfold stepL
    simp
  rw [e]
  first
    | exact wpAny_bind (m := Builtin.Tuple.tupleExact _) (wpAny_newObj_type (wpAny_pure ⟨_, rfl, wpAny_pure h⟩) (by show (stepL items lo hi k).toArray.size ≤ _; simpa using hsz))
    | exact wpAny_bind (m := Builtin.Tuple.tupleExact _) (wpAny_newObj_type (wpAny_bind (wpAny_pure (wpAny_pure ⟨_, rfl, wpAny_pure h⟩))) (by show (stepL items lo hi k).toArray.size ≤ _; simpa using hsz))
    | exact wpAny_bind (wpAny_bind (m := Builtin.Tuple.tupleExact _) (wpAny_newObj_type (wpAny_pure (wpAny_pure ⟨_, rfl, wpAny_pure h⟩)) (by show (stepL items lo hi k).toArray.size ≤ _; simpa using hsz)))
    | exact wpAny_bind (wpAny_bind (m := Builtin.Tuple.tupleExact _) (wpAny_newObj_type (wpAny_pure ⟨_, rfl, wpAny_pure h⟩) (by show (stepL items lo hi k).toArray.size ≤ _; simpa using hsz)))
end

theorem Paired_step {vs : List V} {us : List Value} (r : Vals vs us) (lo hi : Option Int) (k : Int) : Vals (stepL vs lo hi k) (stepL us lo hi k) := by
  unfold stepL
  rw [r.length]
  generalize List.range _ = ms
  induction ms with
  | nil => exact .nil
  | cons m ms ih =>
    rw [List.filterMap_cons, List.filterMap_cons]
    cases e : vs[((Builtin.Slice.sliceAdjust lo hi k (us.length : Int)).1 + (m : Int) * k).toNat]? with
    | none =>
      rw [r.none_of e]
      exact ih
    | some v =>
      obtain ⟨u, hu, ru⟩ := r.get e
      rw [hu]
      exact .cons ru ih
theorem Reps.step {K : PySem.W.Frag} {F ρ : List Addr} {H : Hp} {vs : List V} {ds : List D} (r : Reps K F ρ H vs ds) (lo hi : Option Int) (k : Int) : Reps K F ρ H (stepL vs lo hi k) (stepL ds lo hi k) := by
  unfold stepL
  rw [r.length]
  generalize List.range _ = ms
  induction ms with
  | nil => exact .nil
  | cons m ms ih =>
    rw [List.filterMap_cons, List.filterMap_cons]
    cases e : ds[((Builtin.Slice.sliceAdjust lo hi k (ds.length : Int)).1 + (m : Int) * k).toNat]? with
    | none =>
      have e2 : vs[((Builtin.Slice.sliceAdjust lo hi k (ds.length : Int)).1 + (m : Int) * k).toNat]? = none := by
        rw [List.getElem?_eq_none_iff] at e ⊢
        rw [r.length]
        exact e
      rw [e2]
      exact ih
    | some v =>
      obtain ⟨u, hu, ru⟩ := r.get e
      rw [hu]
      exact .cons ru ih
theorem stepL_map {α β : Type} (f : α → β) (xs : List α) (lo hi : Option Int) (k : Int) : stepL (xs.map f) lo hi k = (stepL xs lo hi k).map f := by
  unfold stepL
  rw [List.length_map, List.map_filterMap]
  congr 1
  funext m
  rw [List.getElem?_map]
/-- the items of a list at the places of a cut by a step -/
def pickL {α : Type} (xs : List α) (lo hi : Option Int) (k : Int) : List α :=
  (sliceRange (sliceBounds lo hi (some k) xs.length).1 (sliceBounds lo hi (some k) xs.length).2.1 (sliceBounds lo hi (some k) xs.length).2.2).filterMap (xs[·]?)
theorem pickL_mem {α : Type} {xs : List α} {lo hi : Option Int} {k : Int} {x : α} (h : x ∈ pickL xs lo hi k) : x ∈ xs := by
  unfold pickL at h
  obtain ⟨m, _, hm⟩ := List.mem_filterMap.mp h
  exact List.mem_of_getElem? hm
theorem pickL_map {α β : Type} (f : α → β) (xs : List α) (lo hi : Option Int) (k : Int) : pickL (xs.map f) lo hi k = (pickL xs lo hi k).map f := by
  unfold pickL
  rw [List.length_map, List.map_filterMap]
  congr 1
  funext m
  rw [List.getElem?_map]
theorem pickL_arr (its : List Value) (lo hi : Option Int) (k : Int) : slicePick its.toArray lo hi (some k) = (pickL its lo hi k).toArray := by
  unfold slicePick pickL
  simp
theorem Paired_pick {vs : List V} {us : List Value} (r : Vals vs us) (lo hi : Option Int) (k : Int) : Vals (pickL vs lo hi k) (pickL us lo hi k) := by
  unfold pickL
  rw [r.length]
  generalize sliceRange _ _ _ = ms
  induction ms with
  | nil => exact .nil
  | cons m ms ih =>
    rw [List.filterMap_cons, List.filterMap_cons]
    cases e : vs[m]? with
    | none =>
      rw [r.none_of e]
      exact ih
    | some v =>
      obtain ⟨u, hu, ru⟩ := r.get e
      rw [hu]
      exact .cons ru ih
theorem Reps.pick {K : PySem.W.Frag} {F ρ : List Addr} {H : Hp} {vs : List V} {ds : List D} (r : Reps K F ρ H vs ds) (lo hi : Option Int) (k : Int) : Reps K F ρ H (pickL vs lo hi k) (pickL ds lo hi k) := by
  unfold pickL
  rw [r.length]
  generalize sliceRange _ _ _ = ms
  induction ms with
  | nil => exact .nil
  | cons m ms ih =>
    rw [List.filterMap_cons, List.filterMap_cons]
    cases e : ds[m]? with
    | none =>
      have e2 : vs[m]? = none := by
        rw [List.getElem?_eq_none_iff] at e ⊢
        rw [r.length]
        exact e
      rw [e2]
      exact ih
    | some v =>
      obtain ⟨u, hu, ru⟩ := r.get e
      rw [hu]
      exact .cons ru ih
/-- xs[lo:hi:k] of a tuple, xs[::-1] of a list -/
def opSt (s : Sto) (a : D) (lo hi k : Option Int) : Option D := match a with
  | .tup xs => match k with
    | some k => if k ≠ 0 ∧ k ≠ 1 ∧ (stepL xs lo hi k).length ≤ LIM then some (.tup (stepL xs lo hi k)) else none
    | none => none
  | a => match lstOf s a with
    | some xs => if lo = none ∧ hi = none ∧ k = some (-1) then some (.lst xs.reverse) else match k with
      | some k => if 2 ≤ k ∧ (pickL xs lo hi k).length ≤ LIM then some (.lst (pickL xs lo hi k)) else none
      | none => none
    | none => none
def eSt (f : EF) (lo hi st : OF) : EF := fun env s => (f env s).bind fun a s1 => (lo env s1).bind fun l s2 => (hi env s2).bind fun h s3 => (st env s3).bind fun k s4 => R.of (opSt s4 a l h k) s4
def rSt (K : PySem.W.Frag) (x : V) (lo hi k : Option Int) (H : Hp) (Q : VK) : Prop :=
  (∃ a xs j, x = .ref a ∧ k = some j ∧ SqT K H a xs ∧ j ≠ 0 ∧ j ≠ 1 ∧ (stepL xs lo hi j).length ≤ sizeLine ∧ ∀ p, H p = none → Q (.ref p) (upd H p (.tup (stepL xs lo hi j)))) ∨
  (∃ a xs, x = .ref a ∧ k = some (-1) ∧ lo = none ∧ hi = none ∧ SqL K H a xs ∧ ∀ p, H p = none → Q (.ref p) (upd H p (.lst xs.reverse))) ∨
  (∃ a xs j, x = .ref a ∧ k = some j ∧ SqL K H a xs ∧ j ≠ 0 ∧ (pickL xs lo hi j).length ≤ sizeLine ∧ ∀ p, H p = none → Q (.ref p) (upd H p (.lst (pickL xs lo hi j))))
theorem Reps.rev {K : PySem.W.Frag} {F ρ : List Addr} {H : Hp} : ∀ {vs : List V} {ds : List D}, Reps K F ρ H vs ds → Reps K F ρ H vs.reverse ds.reverse
  | _, _, .nil => .nil
  | _, _, .cons r t => by
    rw [List.reverse_cons, List.reverse_cons]
    exact (Reps.rev t).snoc r
section
open PySem.Spec PyProof.Rows
variable {X : Cx} {G : SCtx} {W : WX} {e : Expr} {te : TE} {lo hi : Option Expr} {st : Expr} {tl th ts : TO} {pos p2 : Pos} {f1 : EF} {g h o : OF}
theorem pe_step (he : PE X e te) (hl : PO X lo tl) (hu : PO X hi th) (hs : PO X (some st) ts) (hsb : ∀ {a b : Value}, subscripted (.Slice lo hi (some st) p2) false a b = operate [a, b] (getItem a b) := by intros; with_unfolding_all rfl) :
    PE X (.Subscript e (.Slice lo hi (some st) p2) pos) (fun σ H Q => te σ H fun x H1 => tl σ H1 fun l H2 => th σ H2 fun u H3 => ts σ H3 fun k H4 => rSt X.K x l u k H4 Q) := by
  refine ⟨fun pins s σ H Q I h => Subscript_ (thn (he.run pins s σ H _ I h) fun v s1 ⟨x, H1, I1, r1, q1⟩ => ?_)⟩
  refine wpAny_Slice (thn (hl.run pins s1 σ H1 _ I1 q1) fun vl s2 ⟨l, H2, I2, pl, q2⟩ => thn (hu.run pins s2 σ H2 _ I2 q2) fun vu s3 ⟨u, H3, I3, pu, q3⟩ => ?_)
  refine thn (hs.run pins s3 σ H3 _ I3 q3) fun vs s4 ⟨k, H4, I4, ps, q4⟩ => ?_
  have I5 : Inv X pins σ H4 { s4 with heap := s4.heap.push { cls := .type "slice", data := .fields #[vl, vu, vs] } } := I4.kept (t' := s4.toks) fun b ob q => Heap.get?_push_of_some _ q
  have sl := Heap.IsSliceOf.new s4.heap vl vu vs
  rcases q4 with ⟨a, xs, j, rfl, rfl, hx, h0, h1, hz, q⟩ | ⟨a, xs, rfl, rfl, rfl, rfl, hx, q⟩ | ⟨a, xs, j, rfl, rfl, hx, h0, hz2, q⟩
  · cases r1
    obtain ⟨its, r, ht, _⟩ := I5.tuple hx
    have rr := Paired_step r l u j
    refine tail_any (ops := [.ref a, .ref s4.heap.objs.size]) ht.typeIs slot_tuple_getitem.lookup ?_ hsb
    refine getItem_step ht sl pl pu ps h0 h1 (by rw [← rr.length]; exact hz) ?_
    exact ⟨.ref _, _, I5.laid (t' := s4.toks) (o := .tup (stepL xs l u j)) (fun b ob z => Heap.get?_push_of_some _ z) (Nat.le_refl _) ⟨hz, _, rr, IsTup.new _ _⟩, rfl, q _ (I5.hok.fresh (Nat.le_refl _))⟩
  · cases r1
    obtain ⟨its, r, ht, hz⟩ := I5.list hx
    refine tail_any (ops := [.ref a, .ref s4.heap.objs.size]) ht.isList.typeIs (PySem.slot_list_getitem.lookup) ?_ hsb
    refine wpAny_getItem_list_slice ht.isList sl pl pu ps (by decide) ?_ (by rw [List.size_toArray, ← r.length]; exact hz)
    rw [PySem.W.krv_pick]
    exact ⟨.ref _, _, I5.laid (t' := s4.toks) (o := .lst xs.reverse) (fun b ob z => Heap.get?_push_of_some _ z) (Nat.le_refl _) ⟨by rw [List.length_reverse]; exact hz, _, 0, r.reverse, Heap.get?_push_size _ rfl⟩, rfl, q _ (I5.hok.fresh (Nat.le_refl _))⟩
  · cases r1
    obtain ⟨its, r, ht, hz⟩ := I5.list hx
    have rr := Paired_pick r l u j
    refine tail_any (ops := [.ref a, .ref s4.heap.objs.size]) ht.isList.typeIs (PySem.slot_list_getitem.lookup) ?_ hsb
    refine wpAny_getItem_list_slice ht.isList sl pl pu ps (by simpa using h0) ?_ (by rw [List.size_toArray, ← r.length]; exact hz)
    rw [pickL_arr]
    exact ⟨.ref _, _, I5.laid (t' := s4.toks) (o := .lst (pickL xs l u j)) (fun b ob z => Heap.get?_push_of_some _ z) (Nat.le_refl _) ⟨hz2, _, 0, rr, Heap.get?_push_size _ rfl⟩, rfl, q _ (I5.hok.fresh (Nat.le_refl _))⟩
theorem s_st (ha : SE X G W e f1) (hl : SOt X G W lo g) (hu : SOt X G W hi h) (hs : SOt X G W (some st) o) (hsb : ∀ {a b : Value}, subscripted (.Slice lo hi (some st) p2) false a b = operate [a, b] (getItem a b) := by intros; with_unfolding_all rfl) :
    SE X G W (.Subscript e (.Slice lo hi (some st) p2) pos) (eSt f1 g h o) := by
  refine pe_imp (pe_step ha hl hu hs hsb) fun σ H Q h => ?_
  obtain ⟨F, ρ, env, s, he, hsr, hp⟩ := h
  refine tE.step he hsr hp fun d s1 ρ1 H1 v _ he1 hs1 e1 r1 hp1 => ?_
  refine ⟨F, ρ1, env, s1, he1, hs1, hp1.bind.imp (fun l s2 ρ2 H2 _ e2 hs2 hp2 => ?_) fun _ _ h => h⟩
  refine ⟨F, ρ2, env, s2, he1.ext e2, hs2, hp2.bind.imp (fun u s3 ρ3 H3 _ e3 hs3 hp3 => ?_) fun _ _ h => h⟩
  refine ⟨F, ρ3, env, s3, (he1.ext e2).ext e3, hs3, hp3.bind.imp (fun k s4 ρ4 H4 _ e4 hs4 hp4 => ?_) fun _ _ h => h⟩
  obtain ⟨z, hz, hp5⟩ := hp4.off
  have r4 := ((r1.ext e2).ext e3).ext e4
  unfold opSt at hz
  split at hz
  · split at hz
    · split at hz
      · rename_i hh
        cases hz
        cases r4 with
        | tup t q =>
          have rr := q.step l u
          exact .inl ⟨_, _, _, rfl, rfl, t.sq, hh.1, hh.2.1, by rw [(rr _).length]; exact lim hh.2.2, fun p hpn => hp5 _ _ (Ext.new ρ4 hpn) (hs4.new hpn) _ (Rep.newT hs4 hpn (rr _))⟩
      · cases hz
    · cases hz
  · split at hz
    · rename_i xs ex
      split at hz
      · rename_i hh
        obtain ⟨rfl, rfl, rfl⟩ := hh
        cases hz
        obtain ⟨l', vs, rfl, h1, q⟩ := lstOf_rep hs4 r4 ex
        exact .inr (.inl ⟨_, _, rfl, rfl, rfl, rfl, SqL.of h1, fun p hpn => hp5 _ _ (Ext.new ρ4 hpn) (hs4.new hpn) _ (Rep.newL hs4 hpn q.rev)⟩)
      · split at hz
        · split at hz
          · rename_i k' _ _ hh
            cases hz
            obtain ⟨l', vs, rfl, h1, q⟩ := lstOf_rep hs4 r4 ex
            have rr := q.pick l u k'
            exact .inr (.inr ⟨_, _, _, rfl, rfl, SqL.of h1, by omega, by rw [rr.length]; exact lim hh.2, fun p hpn => hp5 _ _ (Ext.new ρ4 hpn) (hs4.new hpn) _ (Rep.newL hs4 hpn rr)⟩)
          · cases hz
        · cases hz
    · cases hz
end
end Sx

/-! PxH: enumerate of a row or a text; ranges by twos. -/
namespace Sx
open PySem L2
/-- what enumerate tells: the items' number and the item, by f -/
def ItE (f g : Nat → Hp → V → Prop) (stop : Nat → Hp → Prop) : It :=
  ⟨fun i H => ∃ x, f i H x, fun i H v H' => ∃ T x, v = .ref T ∧ H T = none ∧ H' = upd H T (.tup [.int (i : Nat), x]) ∧ g i H x, stop⟩
section
open PySem.Spec PyProof.Rows
/-- an inner iterator: its draws in any state that stands for H -/
structure Inner (P : Program) (w : World) (K : PySem.W.Frag) (it : Addr) (f g : Nat → Hp → V → Prop) (stop : Nat → Hp → Prop) (St : Nat → Heap → Prop) : Prop where
  ob : ∀ i h, St i h → ∃ o, h.get? it = some o ∧ ∀ v, o.data ≠ .cell v
  at_ : ∀ i h h', St i h → (∀ o, h.get? it = some o → h'.get? it = some o) → St i h'
  item : ∀ (X : Cx), X.prog = P → X.w = w → X.K = K → X.calm = true → ∀ (i : Nat) (pins : List (Addr × Obj)) (s : Shared) (σ : L2.St) (H : Hp), Inv X pins σ H s → St i s.heap → (∃ x, f i H x) →
    ∃ (x : V) (n : Nat) (fp : List Addr) (Pd : Nat → Value → Prop) (S2 : Nat → Heap → Prop), g i H x ∧ Draws P w X.A.in1 it fp n Pd S2 ∧ S2 i s.heap ∧ i < n ∧ (∀ b ∈ fp, ∃ o, s.heap.get? b = some o ∧ o.cls ≠ .type "enumerate") ∧ (∀ y, Pd i y → RelV x y) ∧ ∀ h', S2 (i + 1) h' → St (i + 1) h'
  done : ∀ (X : Cx), X.prog = P → X.w = w → X.K = K → X.calm = true → ∀ (i : Nat) (pins : List (Addr × Obj)) (s : Shared) (σ : L2.St) (H : Hp), Inv X pins σ H s → St i s.heap → stop i H →
    ∃ (n : Nat) (fp : List Addr) (Pd : Nat → Value → Prop) (S2 : Nat → Heap → Prop), Draws P w X.A.in1 it fp n Pd S2 ∧ S2 n s.heap
theorem turn_enumI {P : Program} {w : World} {K : PySem.W.Frag} {elts : List Expr} {kk : Nat} {tpos : Pos} {e it : Addr} {f g : Nat → Hp → V → Prop} {stop : Nat → Hp → Prop} {St : Nat → Heap → Prop} (N : Inner P w K it f g stop St) :
    Turn P w K (.Tuple elts kk tpos) (ItE f g stop) [e, it] e (fun i h => (∃ old, IsEnum h e it ((i : Nat) : Int) old) ∧ St i h ∧ e ≠ it) where
  mem := by simp
  obj := fun i h st b hb => by
    obtain ⟨⟨old, he⟩, hs, _⟩ := st
    have e' : b = e ∨ b = it := by simpa using hb
    rcases e' with z | z
    · rw [z]; exact ⟨_, he, fun v q => nomatch q⟩
    · rw [z]; exact N.ob _ _ hs
  keep := fun i h h' st k => let ⟨⟨old, he⟩, hi, hne⟩ := st; ⟨⟨old, k e (by simp) _ he⟩, N.at_ i h h' hi fun o q => k it (by simp) o q, hne⟩
  item := by
    intro X hP hw hK hc i pins s σ H E I hf st hg
    obtain ⟨⟨old, he⟩, hit, hne⟩ := st
    obtain ⟨x, n, fp, Pd, S2, hx, D, hS, hlt, hfp, hPu, hS2⟩ := N.item X hP hw hK hc i pins s σ H I hit hg
    have hel : e < s.heap.objs.size := Heap.lt_size he
    have hil : it < s.heap.objs.size := by obtain ⟨_, q, _⟩ := N.ob _ _ hit; exact Heap.lt_size q
    have hef : e ∉ fp := fun z => by
      obtain ⟨o, ho, hoc⟩ := hfp _ z
      rw [he] at ho
      cases ho
      exact hoc rfl
    refine wpAny_pyNext_enum_itemD D he hS hlt hne hef fun y h' tk hy ho hS' hT hsz hk => ?_
    have ru := hPu y hy
    refine ⟨_, rfl, wpAny_letOwnedTupleGo_enum (s := { s with heap := h', toks := tk + 1 }) ho fun h'' he' sb => ?_⟩
    have hT2 : h''.get? s.heap.objs.size = some { cls := .type "tuple", data := .seq #[.int i tk, y] } := (sb.2 _ (Nat.ne_of_gt hel)).trans hT
    have new : ObjOk X.prog X.w (upd H s.heap.objs.size (.tup [.int (i : Nat), x])) h'' s.heap.objs.size (.tup [.int (i : Nat), x]) :=
      ⟨by show 2 ≤ sizeLine; decide, [.int i tk, y], .cons ⟨_, rfl⟩ (.cons ru .nil), ⟨_, hT2, rfl, _, rfl⟩⟩
    have I1 : Inv X pins σ (upd H s.heap.objs.size (.tup [.int (i : Nat), x])) { s with heap := h'', toks := tk + 1 } :=
      I.turnedNew (ch := [e, it]) (fun b ob hb q => (sb.2 b (fun z => hb (by simp [z]))).trans (hk b ob (fun z => hb (by simp [z])) (fun z => hb (by simp [z])) q)) hf (Nat.le_refl _) new
    refine ⟨.ref s.heap.objs.size, _, I1, rfl, ⟨_, x, rfl, I.hok.fresh (Nat.le_refl _), rfl, hx⟩, ⟨⟨y, ?_⟩, N.at_ _ _ _ (hS2 _ hS') fun o q => (sb.2 it (Ne.symm hne)).trans q, hne⟩, fun b hb => ?_⟩
    · have e1 : ((i + 1 : Nat) : Int) = (i : Int) + 1 := by omega
      rw [e1]; exact he'
    · have hb' : b < s.heap.objs.size := by
        have e' : b = e ∨ b = it := by simpa using hb
        rcases e' with z | z
        · rw [z]; exact hel
        · rw [z]; exact hil
      rw [upd_ne (Nat.ne_of_lt hb')]
      exact (hf b hb).1
  done := by
    intro X hP hw hK hc i pins s σ H E I hf st hg
    obtain ⟨⟨old, he⟩, hit, hne⟩ := st
    obtain ⟨n, fp, Pd, S2, D, hS⟩ := N.done X hP hw hK hc i pins s σ H I hit hg
    obtain ⟨f0, f1, f2, f3, f4, f5⟩ := hf it (by simp)
    exact wpAny_pyNext_enum_endD D he hS fun h' eb => ⟨rfl, I.turned (t' := s.toks) (fun b o hb q => eb b o hb q) f0 f1 f3 f4 f5⟩
  self := fun A i s Q E st h => let ⟨⟨_, he⟩, _⟩ := st; wpAny_pyIter_enum he h
theorem inner_tup {P : Program} {w : World} {K : PySem.W.Frag} (t it : Addr) (hne : t ≠ it) :
    Inner P w K it (fun i H x => ∃ xs, SqT K H t xs ∧ xs[i]? = some x) (fun i H x => ∀ xs, SqT K H t xs → xs[i]? = some x) (fun i H => ∃ xs : List V, SqT K H t xs ∧ xs.length = i) (fun i h => h.IsTupleIter it t i) where
  ob := fun i h st => by obtain ⟨o, ho, hc, hd⟩ := st; exact ⟨o, ho, fun v q => by rw [hd] at q; cases q⟩
  at_ := fun i h h' st k => st.at fun o q => k o q
  item := by
    intro X hP hw hK hc i pins s σ H I st hg
    subst hP hw hK
    obtain ⟨x, xs, hq, hx⟩ := hg
    obtain ⟨its, rv, p, hz⟩ := I.tuple hq
    obtain ⟨u, hu, ru⟩ := rv.get hx
    have hlt : i < its.length := by
      obtain ⟨h, _⟩ := List.getElem?_eq_some_iff.mp hu
      exact h
    have D := Draws.tuple (prog := X.prog) (w := X.w) (A := X.A.in1) (show X.A.in1.handled = none from I.ok.hd hc) it t hne its.toArray
    refine ⟨x, its.toArray.size, [it, t], _, _, fun ys hy => by rw [I.tuple_inj hy hq]; exact hx, D, ⟨st, p⟩, by simpa using hlt, fun b hb => ?_, fun y hy => ?_, fun h' q => q.1⟩
    · have e' : b = it ∨ b = t := by simpa using hb
      rcases e' with z | z
      · rw [z]; obtain ⟨o, ho, hcl, _⟩ := st; exact ⟨o, ho, by rw [hcl]; decide⟩
      · rw [z]; obtain ⟨o, ho, hcl, _⟩ := p; exact ⟨o, ho, by rw [hcl]; decide⟩
    · rw [show its.toArray[i]? = its[i]? by simp, hu] at hy
      cases hy
      exact ru
  done := by
    intro X hP hw hK hc i pins s σ H I st hg
    subst hP hw hK
    obtain ⟨xs, hq, hx⟩ := hg
    obtain ⟨its, rv, p, hz⟩ := I.tuple hq
    have D := Draws.tuple (prog := X.prog) (w := X.w) (A := X.A.in1) (show X.A.in1.handled = none from I.ok.hd hc) it t hne its.toArray
    refine ⟨its.toArray.size, [it, t], _, _, D, ?_, p⟩
    have : its.toArray.size = i := by
      have := rv.length
      simp
      omega
    rw [this]
    exact st
theorem inner_str {P : Program} {w : World} {K : PySem.W.Frag} (it : Addr) (z : Str) (t : Tok) :
    Inner P w K it (fun i _ x => ∃ c, z.cps[i]? = some c ∧ x = .str ⟨#[c]⟩) (fun i _ x => ∃ c, z.cps[i]? = some c ∧ x = .str ⟨#[c]⟩) (fun i _ => z.cps.size = i) (fun i h => h.IsStrIter it (strIterType z) z t i) where
  ob := fun i h st => by obtain ⟨o, ho, hc, hd⟩ := st; exact ⟨o, ho, fun v q => by rw [hd] at q; cases q⟩
  at_ := fun i h h' st k => by obtain ⟨o, ho, hc, hd⟩ := st; exact ⟨o, k o ho, hc, hd⟩
  item := by
    intro X hP hw hK hc i pins s σ H I st hg
    subst hP hw hK
    obtain ⟨x, c, hx, rfl⟩ := hg
    have hlt : i < z.cps.size := by
      obtain ⟨h, _⟩ := Array.getElem?_eq_some_iff.mp hx
      exact h
    have D := Draws.text (prog := X.prog) (w := X.w) (A := X.A.in1) (show X.A.in1.handled = none from I.ok.hd hc) it z t
    refine ⟨_, z.cps.size, [it], _, _, ⟨c, hx, rfl⟩, D, st, hlt, fun b hb => ?_, fun y hy => ?_, fun h' q => q⟩
    · obtain ⟨o, ho, hcl, _⟩ := st
      have e' : b = it := by simpa using hb
      rw [e']
      refine ⟨o, ho, ?_⟩
      rw [hcl]
      unfold strIterType
      split <;> decide
    · obtain ⟨c', u, hc', rfl⟩ := hy
      rw [hx] at hc'
      cases hc'
      exact ⟨_, rfl⟩
  done := by
    intro X hP hw hK hc i pins s σ H I st hg
    subst hP hw hK
    subst hg
    have D := Draws.text (prog := X.prog) (w := X.w) (A := X.A.in1) (show X.A.in1.handled = none from I.ok.hd hc) it z t
    exact ⟨_, _, _, _, D, st⟩
/-- enumerate(v): its two new cells -/
theorem sub_enum : isSubtype (.type "enumerate") (.type "enumerate") = pure true := by rw [isSubtype_type]; kernel_rfl
set_option maxHeartbeats 1000000 in
theorem meets_enum1 {v : Value} {o : Obj} {H : Heap → Prop} (B : Begins v o H) :
    Meets (Builtin.«enumerate.__new__» ⟨[.type "enumerate", v], []⟩) (fun _ R s => H s.heap ∧
      R (.ok (.ret (.ref (s.heap.push o).objs.size))) { s with heap := (s.heap.push o).push { cls := .type "enumerate", data := .fields #[.none, .bool false, .ref s.heap.objs.size, rawInt 0, .none, .none] } }) :=
  .of_wp fun prog w A R s h => by
    obtain ⟨hp, g, d, tk, os⟩ := s; obtain ⟨h1, h⟩ := h
    have hsub := sub_enum
    have q1 : ∀ {A' : Around} {E : Value → Shared → Prop} {Q : Value → Shared → Prop}, Q (.ref hp.objs.size) ⟨hp.push o, g, d, tk, os⟩ → wpAny (model prog w) A' (pyIter v) Q E ⟨hp, g, d, tk, os⟩ :=
      fun q => B.iter prog w _ _ ⟨hp, g, d, tk, os⟩ _ h1 q
    wp_walk using q1
    refine wpAny_stack_any fun st => wpAny_pure ?_
    split
    · rename_i c _ _ _ _ _
      cases (c == Value.type "enumerate")
      · wp_walk using q1
        exact ⟨_, rfl, h⟩
      · wp_walk using q1
        exact ⟨_, rfl, h⟩
    · wp_walk using q1
      exact ⟨_, rfl, h⟩
theorem enum_begin1 {prog : Program} {w : World} {A : Around} {E : Value → Shared → Prop} {s : Shared} {v : Value} {o : Obj} {H : Heap → Prop} {Q : Value → Shared → Prop} (B : Begins v o H) (h1 : H s.heap)
    (h : ∀ h', IsEnum h' (s.heap.objs.size + 1) s.heap.objs.size 0 .none → h'.get? s.heap.objs.size = some o → h'.objs.size = s.heap.objs.size + 2 →
      (∀ b o, s.heap.get? b = some o → h'.get? b = some o) → Q (.ref (s.heap.objs.size + 1)) { s with heap := h' }) :
    wpAny (model prog w) A (call (.type "enumerate") [v]) Q E s := by
  refine callType_new F.called_enumerate (by decide) (F.typeCall_enumerate_1 _) (F.newCall_enumerate_1 _) (fun obj => F.args_object_init_2 obj _) F.entry_enumerate_new
    (meets_enum1 B) ⟨h1, ?_⟩
  have hz : (s.heap.push o).objs.size = s.heap.objs.size + 1 := Heap.size_push ..
  show _ ∧ _
  rw [hz]
  have he : IsEnum ((s.heap.push o).push { cls := .type "enumerate", data := .fields #[.none, .bool false, .ref s.heap.objs.size, rawInt 0, .none, .none] }) (s.heap.objs.size + 1) s.heap.objs.size 0 .none := by
    have := Heap.get?_push_size (s.heap.push o) (o := { cls := .type "enumerate", data := .fields #[.none, .bool false, .ref s.heap.objs.size, rawInt 0, .none, .none] }) rfl
    rw [hz] at this; exact this
  refine ⟨⟨_, he, rfl⟩, h _ he (Heap.get?_push_of_some _ (Heap.get?_push_size _ B.free)) (by rw [Heap.size_push, hz]) fun b o x => Heap.get?_push_of_some _ (Heap.get?_push_of_some _ x)⟩
theorem pie_enumI {X : Cx} {pins : List (Addr × Obj)} {σ : L2.St} {H1 : Hp} {s1 : Shared} {R : It → Hp → Prop} {elts : List Expr} {kk : Nat} {tpos : Pos} {h' : Heap} {f g : Nat → Hp → V → Prop} {stop : Nat → Hp → Prop} {St : Nat → Heap → Prop}
    (I1 : Inv X pins σ H1 s1) (he : IsEnum h' (s1.heap.objs.size + 1) s1.heap.objs.size 0 .none) (hk : ∀ b o, s1.heap.get? b = some o → h'.get? b = some o) (N : Inner X.prog X.w X.K s1.heap.objs.size f g stop St) (hS : St 0 h') (q : R (ItE f g stop) H1) :
    PIE X pins σ (.Tuple elts kk tpos) R (.ref (s1.heap.objs.size + 1)) { s1 with heap := h' } := by
  have I2 : Inv X pins σ H1 { s1 with heap := h' } := I1.kept (t' := s1.toks) hk
  refine ⟨s1.heap.objs.size + 1, [s1.heap.objs.size + 1, s1.heap.objs.size], _, _, H1, rfl, I2, turn_enumI (e := s1.heap.objs.size + 1) N, ⟨⟨.none, he⟩, hS, Nat.succ_ne_self _⟩, fun b hb => ?_, q⟩
  have e' : b = s1.heap.objs.size + 1 ∨ b = s1.heap.objs.size := by simpa using hb
  have hle : s1.heap.objs.size ≤ b := by
    rcases e' with z | z
    · rw [z]; exact Nat.le_add_right _ _
    · rw [z]; exact Nat.le_refl _
  exact I1.fpOk hle (I1.hok.fresh hle)
abbrev ItET (K : PySem.W.Frag) (t : Addr) : It := ItE (fun i H x => ∃ xs, SqT K H t xs ∧ xs[i]? = some x) (fun i H x => ∀ xs, SqT K H t xs → xs[i]? = some x) (fun i H => ∃ xs : List V, SqT K H t xs ∧ xs.length = i)
abbrev ItES (z : Str) : It := ItE (fun i _ x => ∃ c, z.cps[i]? = some c ∧ x = .str ⟨#[c]⟩) (fun i _ x => ∃ c, z.cps[i]? = some c ∧ x = .str ⟨#[c]⟩) (fun i _ => z.cps.size = i)
/-- enumerate of a list, a tuple, a text -/
def tEnum (K : PySem.W.Frag) (ta : TA) : TI := fun σ H R => ta σ H fun vs H1 => (∃ a xs, vs = [.ref a] ∧ SqL K H1 a xs ∧ R (Ite K a) H1) ∨ (∃ a xs, vs = [.ref a] ∧ SqT K H1 a xs ∧ R (ItET K a) H1) ∨ ∃ z, vs = [.str z] ∧ R (ItES z) H1
theorem pi_enumA {X : Cx} {e : Expr} {ta : TA} {p pos tpos : Pos} {elts : List Expr} {kk : Nat} (hg : Gl X "enumerate") (hm : X.mg "enumerate" = none) (ha : PA X [e] ta) (hs : starEach [e] X.env = [(false, eval e X.env)] := by rfl) :
    PI X (.Tuple elts kk tpos) (.Call (.Name "enumerate" p) [e] [] pos) (tEnum X.K ta) := by
  refine ⟨fun pins s σ H R I h => ?_⟩
  refine Call_ (ld_blt I hg hm boot_enumerate (PyProof.Rows.callWith_type1 (thn (ha.run pos pins s σ H _ I h) fun us s1 ⟨vs, H1, I1, r1, q1⟩ => ?_) hs rfl))
  rcases q1 with ⟨a, xs, ex, hq, q⟩ | ⟨a, xs, ex, hq, q⟩ | ⟨z, ex, q⟩
  · subst ex
    cases r1 with
    | cons r rr =>
      cases rr
      cases r
      obtain ⟨its, rv, p', hz⟩ := I1.list hq
      refine call_enumerate_list p'.isList fun h' he hit hsz hk => wpAny_pyIter_enum he ?_
      have I2 : Inv X pins σ H1 { s1 with heap := h' } := I1.kept (t' := s1.toks) hk
      refine ⟨s1.heap.objs.size + 1, [s1.heap.objs.size + 1, s1.heap.objs.size], _, _, H1, rfl, I2, turn_enum a (s1.heap.objs.size + 1) s1.heap.objs.size, ⟨⟨.none, he⟩, hit, Nat.succ_ne_self _⟩, fun b hb => ?_, q⟩
      have e' : b = s1.heap.objs.size + 1 ∨ b = s1.heap.objs.size := by simpa using hb
      have hle : s1.heap.objs.size ≤ b := by
        rcases e' with z | z
        · rw [z]; exact Nat.le_add_right _ _
        · rw [z]; exact Nat.le_refl _
      exact I1.fpOk hle (I1.hok.fresh hle)
  · subst ex
    cases r1 with
    | cons r rr =>
      cases rr
      cases r
      obtain ⟨its, rv, p', hz⟩ := I1.tuple hq
      have hne : a ≠ s1.heap.objs.size := by
        obtain ⟨o, ho, _⟩ := p'
        exact Nat.ne_of_lt (Heap.lt_size ho)
      refine enum_begin1 (begins_tuple a its.toArray) p' fun h' he hit hsz hk => wpAny_pyIter_enum he ?_
      exact pie_enumI I1 he hk (inner_tup a s1.heap.objs.size hne) ⟨_, hit, rfl, rfl⟩ q
  · subst ex
    cases r1 with
    | cons r rr =>
      cases rr
      obtain ⟨t, rfl⟩ := r
      refine enum_begin1 (begins_text z t) trivial fun h' he hit hsz hk => wpAny_pyIter_enum he ?_
      exact pie_enumI I1 he hk (inner_str s1.heap.objs.size z t) ⟨_, hit, rfl, rfl⟩ q
end
/-- enumerate -/
def enumD (xs : List D) : List D := xs.mapIdx fun i d => .tup [.int (i : Nat), d]
def iEnum (g : AF) : IF := fun env s => (g env s).bind fun ds s1 => match ds with
  | [.tup xs] => .ok (enumD xs) s1
  | [.lst xs] => .ok (enumD xs) s1
  | [.str z] => .ok (enumD (signsOf z)) s1
  | _ => .no
theorem enumD_get {xs : List D} {i : Nat} {d : D} (h : (enumD xs)[i]? = some d) : ∃ a, xs[i]? = some a ∧ d = .tup [.int (i : Nat), a] := by
  unfold enumD at h
  rw [List.getElem?_mapIdx] at h
  obtain ⟨a, h1, h2⟩ := Option.map_eq_some_iff.mp h
  exact ⟨a, h1, h2.symm⟩
theorem enumD_len {xs : List D} : (enumD xs).length = xs.length := by simp [enumD]
section
variable {K : PySem.W.Frag} {t : Addr} {xs : List V} {z : Str}
theorem walk_enumT : L2.Walk (ItET K t) xs.length (fun H => SqT K H t xs) (YPair (fun i => some (.int (i : Nat))) (fun i => xs[i]?)) := by
  refine ⟨fun i _ hi q => ⟨xs[i], xs, q, by simp [hi]⟩, fun _ q => ⟨xs, q, rfl⟩, fun i H v H' _ q y => ?_⟩
  obtain ⟨T, x, h1, h2, h3, h4⟩ := y
  exact ⟨T, .int (i : Nat), x, h1, h2, h3, rfl, h4 xs q⟩
theorem walk_enumS : L2.Walk (ItES z) z.cps.size (fun _ => True) (YPair (fun i => some (.int (i : Nat))) (fun i => (z.cps[i]?).map fun c => V.str ⟨#[c]⟩)) := by
  refine ⟨fun i _ hi q => ⟨_, z.cps[i], by simp [hi], rfl⟩, fun _ q => rfl, fun i H v H' _ q y => ?_⟩
  obtain ⟨T, x, h1, h2, h3, c, h4, h5⟩ := y
  exact ⟨T, .int (i : Nat), x, h1, h2, h3, rfl, by simp only [h4, h5]; rfl⟩
end

section
variable {X : Cx} {G : SCtx} {W : WX} {pos : Pos} {e a b c tg : Expr} {f f1 f2 f3 : EF} {g1 : AF} {g : SF} {gt : GF} {i : IF} {bd : List Stmt}
theorem Reps.str_signs {K : PySem.W.Frag} {F ρ : List Addr} {H : Hp} {z : Str} {m : Nat} {c : Nat} (h : z.cps[m]? = some c) : Rep K F ρ H (.str ⟨#[c]⟩) (.str ⟨#[c]⟩) := .str _
theorem si_enum {p tpos : Pos} {elts : List Expr} {kk : Nat} (hg : Gl X "enumerate") (hm : X.mg "enumerate" = none) (ha : SA X G W [a] g1) (hs : starEach [a] X.env = [(false, eval a X.env)] := by rfl) :
    SI X G W (.Tuple elts kk tpos) (.Call (.Name "enumerate" p) [a] [] pos) (Sx.iEnum g1) := by
  refine pi_imp (pi_enumA hg hm ha hs) fun σ H R h => ?_
  obtain ⟨F, ρ, env, s, he, hs, hp⟩ := h
  refine tA.step he hs hp fun ds s1 ρ1 H1 vs _ he1 hs1 e1 r1 hp1 => ?_
  split at hp1
  · rename_i xs _
    cases r1 with
    | cons r t =>
      cases t
      cases r with
      | tup t1 q1 =>
        refine .inr (.inl ⟨_, _, rfl, t1.sq, hp1.here hs1 _ ?_⟩)
        refine ⟨_, _, by rw [enumD_len, ← q1.length]; exact walk_enumT, fun F' ρ H s c e _ => (t1.ext e).sq, fun F' m ρ H s x H' d c e hs hd y => ?_⟩
        obtain ⟨d2, h2, rfl⟩ := enumD_get hd
        obtain ⟨v2, h4, r4⟩ := q1.get h2
        exact ypair_rep (v1 := .int (m : Nat)) (d1 := .int (m : Nat)) hs y rfl h4 (.int _) ((r4.toF c).ext e)
  · rename_i xs _
    cases r1 with
    | cons r t =>
      cases t
      cases r with
      | lst t1 q1 =>
        refine .inl ⟨_, _, rfl, SqL.of t1.1, hp1.here hs1 _ ?_⟩
        refine ⟨_, _, by rw [enumD_len, ← q1.length]; exact walk_enum, fun F' ρ H s c e _ => (t1.ext e).sq, fun F' m ρ H s x H' d c e hs hd y => ?_⟩
        obtain ⟨d2, h2, rfl⟩ := enumD_get hd
        obtain ⟨v2, h4, r4⟩ := q1.get h2
        exact ypair_rep (v1 := .int (m : Nat)) (d1 := .int (m : Nat)) hs y rfl h4 (.int _) ((r4.toF c).ext e)
  · rename_i z _
    cases r1 with
    | cons r t =>
      cases t
      cases r with
      | str z =>
        refine .inr (.inr ⟨_, rfl, hp1.here hs1 _ ?_⟩)
        refine ⟨_, _, by rw [enumD_len, show (signsOf z).length = z.cps.size by simp [signsOf]]; exact walk_enumS, fun _ _ _ _ _ _ _ => trivial, fun F' m ρ H s x H' d c e hs hd y => ?_⟩
        obtain ⟨d2, h2, rfl⟩ := enumD_get hd
        unfold signsOf at h2
        rw [List.getElem?_map, Array.getElem?_toList] at h2
        obtain ⟨cc, h5, rfl⟩ := Option.map_eq_some_iff.mp h2
        exact ypair_rep (v1 := .int (m : Nat)) (d1 := .int (m : Nat)) (v2 := .str ⟨#[cc]⟩) hs y rfl (by simp only [h5]; rfl) (.int _) (.str _)
  · exact hp1.elim
/-! ### by twos -/
def rangeT (lo hi : Int) : List D := (List.range ((hi - lo + 1) / 2).toNat).map fun (k : Nat) => .int (lo + 2 * k)
def iRngT (f : AF) : IF := fun env s => (f env s).bind fun ds s1 => match ds with
  | [.int i, .int j, .int c] => if c = 2 ∧ rOk i ∧ rOk j then .ok (rangeT i j) s1 else .no
  | _ => .no
theorem rgc_two {i j : Int} (ha : -(2 ^ 62) ≤ i) (ha' : i < 2 ^ 62) (hb : -(2 ^ 62) ≤ j) (hb' : j < 2 ^ 62) : RgC i j 2 ((j - i + 1) / 2).toNat := by
  have hz : Builtin.Range.rangeSize i j 2 = (((j - i + 1) / 2).toNat : Int) := by
    unfold Builtin.Range.rangeSize
    rw [if_pos (by decide)]
    split <;> omega
  refine ⟨by decide, by decide, ?_, hz⟩
  unfold Builtin.Range.small
  rw [hz]
  simp only [Builtin.Range.rangeFitsLong, Bool.and_eq_true, Bool.or_eq_true, decide_eq_true_eq, beq_iff_eq, show (2 : Int) > 0 by decide, if_true]
  omega
theorem si_rngT {p : Pos} (hg : Gl X "range") (hm : X.mg "range" = none) (ha : SA X G W [a, b, c] g1)
    (hs : starEach [a, b, c] X.env = (false, eval a X.env) :: starEach [b, c] X.env := by rfl) (hpl : (backTo pos (starEach [b, c] X.env)).any (·.1) = false := by rfl) : SI X G W tg (.Call (.Name "range" p) [a, b, c] [] pos) (Sx.iRngT g1) := by
  refine pi_imp (pi_range3 hg hm ha hs hpl) fun σ H R h => ?_
  obtain ⟨F, ρ, env, s, he, hs, hp⟩ := h
  refine tA.step he hs hp fun ds s1 ρ1 H1 vs _ he1 hs1 e1 r1 hp1 => ?_
  split at hp1
  · rename_i i j k _
    split at hp1
    · rename_i hj
      obtain ⟨rfl, h1, h2⟩ := hj
      cases r1 with
      | cons r t =>
        cases t with
        | cons r' t =>
          cases t with
          | cons r'' t =>
            cases t
            cases r
            cases r'
            cases r''
            have q := rOk_of h1
            have q' := rOk_of h2
            refine ⟨i, j, 2, _, rfl, rgc_two q.1 q.2 q'.1 q'.2, hp1.here hs1 _ ?_⟩
            refine ⟨_, _, by rw [show (rangeT i j).length = ((j - i + 1) / 2).toNat by simp [rangeT]]; exact walk_rangeC, fun _ _ _ _ _ _ _ => trivial, fun F' m ρ1 H1 s x H' d c e hs hd y => ?_⟩
            obtain ⟨rfl, rfl⟩ := y
            unfold rangeT at hd
            rw [List.getElem?_map] at hd
            obtain ⟨k, h1, rfl⟩ := Option.map_eq_some_iff.mp hd
            have : k = m := by
              obtain ⟨h, e⟩ := List.getElem?_eq_some_iff.mp h1
              simp at e
              exact e.symm
            subst this
            refine ⟨Ext.refl _ _, hs, ?_⟩
            show Rep X.K F' ρ1 H' (V.int (i + (k : Nat) * (2 : Int))) _
            rw [show i + (k : Nat) * (2 : Int) = i + 2 * (k : Nat) by omega]
            exact .int _
    · exact hp1.elim
  · exact hp1.elim
end
end Sx

/-! PxI: list(range(..)), tuple(range(..)). -/
namespace Sx
open PySem L2
/-- list of a range: the list is never changed -/
def eLRg (f : EF) : EF := fun env s => (f env s).bind fun d s1 => match d with
  | .int n => if 0 ≤ n ∧ n ≤ 1000000 then .ok (.lst (rangeD 0 n)) s1 else .no
  | _ => .no
def eLRg2 (f g : EF) : EF := fun env s => (f env s).bind fun d s1 => (g env s1).bind fun e s2 => match d, e with
  | .int m, .int n => if 0 ≤ m ∧ m ≤ 1000000 ∧ 0 ≤ n ∧ n ≤ 1000000 then .ok (.lst (rangeD m n)) s2 else .no
  | _, _ => .no
def eTRg (f : EF) : EF := fun env s => (f env s).bind fun d s1 => match d with
  | .int n => if 0 ≤ n ∧ n ≤ 1000000 then .ok (.tup (rangeD 0 n)) s1 else .no
  | _ => .no
/-- .. a new list that may be changed -/
def eLRgN (f : EF) : EF := fun env s => (f env s).bind fun d s1 => match d with
  | .int n => if 0 ≤ n ∧ n ≤ 1000000 then .ok (.ref s1.length) (s1 ++ [.lst (rangeD 0 n)]) else .no
  | _ => .no
section
variable {X : Cx} {G : SCtx} {W : WX} {pos : Pos} {a b : Expr} {f g : EF}
theorem reps_rg {K : PySem.W.Frag} {F ρ : List Addr} {H : Hp} (m n : Int) : Reps K F ρ H (rgV m n) (rangeD m n) := by
  unfold rgV rangeD
  induction List.range (n - m).toNat with
  | nil => exact .nil
  | cons x xs ih => exact .cons (.int _) ih
theorem s_listRg {p q pos2 : Pos} (hc : X.calm = true) (hg : Gl X "list") (hm : X.mg "list" = none) (hg2 : Gl X "range") (hm2 : X.mg "range" = none) (ha : SE X G W a f)
    (na : starEach [a] X.env = (false, eval a X.env) :: starEach [] X.env := by rfl) (nb : starEach [.Call (.Name "range" p) [a] [] pos] X.env = (false, eval (.Call (.Name "range" p) [a] [] pos) X.env) :: starEach [] X.env := by rfl) :
    SE X G W (.Call (.Name "list" q) [.Call (.Name "range" p) [a] [] pos] [] pos2) (eLRg f) := by
  refine pe_imp (pe_listRg hc hg hm (prg_1 hg2 hm2 ha na) nb) fun σ H Q h => ?_
  obtain ⟨F, ρ, env, s, he, hs, hp⟩ := h
  refine tE.step he hs hp fun d s1 ρ1 H1 v _ he1 hs1 e1 r1 hp1 => ?_
  split at hp1
  · rename_i n _
    split at hp1
    · rename_i hn
      cases r1
      refine ⟨n, rfl, RgOk.of_le (by omega) (by omega) (by omega) (by omega), fun q hq => ?_⟩
      exact hp1 ρ1 _ (Ext.new ρ1 hq) (hs1.new hq) _ (Rep.newL hs1 hq (reps_rg 0 n))
    · exact hp1.elim
  · exact hp1.elim
theorem s_listRgN {p q pos2 : Pos} (hc : X.calm = true) (hg : Gl X "list") (hm : X.mg "list" = none) (hg2 : Gl X "range") (hm2 : X.mg "range" = none) (ha : SE X G W a f)
    (na : starEach [a] X.env = (false, eval a X.env) :: starEach [] X.env := by rfl) (nb : starEach [.Call (.Name "range" p) [a] [] pos] X.env = (false, eval (.Call (.Name "range" p) [a] [] pos) X.env) :: starEach [] X.env := by rfl) :
    SE X G W (.Call (.Name "list" q) [.Call (.Name "range" p) [a] [] pos] [] pos2) (eLRgN f) := by
  refine pe_imp (pe_listRg hc hg hm (prg_1 hg2 hm2 ha na) nb) fun σ H Q h => ?_
  obtain ⟨F, ρ, env, s, he, hs, hp⟩ := h
  refine tE.step he hs hp fun d s1 ρ1 H1 v _ he1 hs1 e1 r1 hp1 => ?_
  split at hp1
  · rename_i n _
    split at hp1
    · rename_i hn
      cases r1
      refine ⟨n, rfl, RgOk.of_le (by omega) (by omega) (by omega) (by omega), fun q hq => ?_⟩
      exact hp1 _ _ (Ext.alloc ρ1 hq) (hs1.newR hq (reps_rg 0 n)).1 _ (hs1.newR hq (reps_rg 0 n)).2
    · exact hp1.elim
  · exact hp1.elim
theorem s_tupRg {p q pos2 : Pos} (hc : X.calm = true) (hg : Gl X "tuple") (hm : X.mg "tuple" = none) (hg2 : Gl X "range") (hm2 : X.mg "range" = none) (ha : SE X G W a f)
    (na : starEach [a] X.env = (false, eval a X.env) :: starEach [] X.env := by rfl) (nb : starEach [.Call (.Name "range" p) [a] [] pos] X.env = (false, eval (.Call (.Name "range" p) [a] [] pos) X.env) :: starEach [] X.env := by rfl) :
    SE X G W (.Call (.Name "tuple" q) [.Call (.Name "range" p) [a] [] pos] [] pos2) (eTRg f) := by
  refine pe_imp (pe_tupRg hc hg hm (prg_1 hg2 hm2 ha na) nb) fun σ H Q h => ?_
  obtain ⟨F, ρ, env, s, he, hs, hp⟩ := h
  refine tE.step he hs hp fun d s1 ρ1 H1 v _ he1 hs1 e1 r1 hp1 => ?_
  split at hp1
  · rename_i n _
    split at hp1
    · rename_i hn
      cases r1
      refine ⟨n, rfl, RgOk.of_le (by omega) (by omega) (by omega) (by omega), fun q hq => ?_⟩
      exact hp1 ρ1 _ (Ext.new ρ1 hq) (hs1.new hq) _ (Rep.newT hs1 hq (reps_rg 0 n))
    · exact hp1.elim
  · exact hp1.elim
theorem s_listRg2 {p q pos2 : Pos} (hc : X.calm = true) (hg : Gl X "list") (hm : X.mg "list" = none) (hg2 : Gl X "range") (hm2 : X.mg "range" = none) (ha : SE X G W a f) (hb : SE X G W b g)
    (na : starEach [a, b] X.env = (false, eval a X.env) :: starEach [b] X.env := by rfl) (nb' : starEach [b] X.env = (false, eval b X.env) :: starEach [] X.env := by rfl) (hp : (backTo pos (starEach [b] X.env)).any (·.1) = false := by rfl)
    (nb : starEach [.Call (.Name "range" p) [a, b] [] pos] X.env = (false, eval (.Call (.Name "range" p) [a, b] [] pos) X.env) :: starEach [] X.env := by rfl) :
    SE X G W (.Call (.Name "list" q) [.Call (.Name "range" p) [a, b] [] pos] [] pos2) (eLRg2 f g) := by
  refine pe_imp (pe_listRg hc hg hm (prg_2 hg2 hm2 ha hb na nb' hp) nb) fun σ H Q h => ?_
  obtain ⟨F, ρ, env, s, he, hs, hp⟩ := h
  refine tE.step he hs hp fun d s1 ρ1 H1 v _ he1 hs1 e1 r1 hp1 => ?_
  refine tE.step he1 hs1 hp1 fun d2 s2 ρ2 H2 v2 _ he2 hs2 e2 r2 hp2 => ?_
  split at hp2
  · rename_i m n _ _
    split at hp2
    · rename_i hn
      have r1' := r1.ext e2
      cases r1'
      cases r2
      refine ⟨m, n, rfl, rfl, RgOk.of_le (by omega) (by omega) (by omega) (by omega), fun q hq => ?_⟩
      exact hp2 ρ2 _ (Ext.new ρ2 hq) (hs2.new hq) _ (Rep.newL hs2 hq (reps_rg m n))
    · exact hp2.elim
  · exact hp2.elim
end
end Sx

/-! PxX: own errors: raise X(), try .. except X. -/
namespace Sx
open PySem L2
/-- the c-th own error goes out -/
def sRaise (c : Nat) : SF := fun env s => .ex c env s
/-- try: g, except the c-th: h (h raises nothing) -/
def sTry (n c : Nat) (g h : SF) : SF := fun env s => match g env s with
  | .ex c' e s' => if c' = c then match h e s' with
      | .ex _ _ _ => .no
      | r => r
    else if c' < n then .ex c' e s' else .no
  | r => r
def eMulN (f1 f2 : EF) : EF := fun env s => (f1 env s).bind fun a s1 => (f2 env s1).bind fun b s2 => match a, b with
  | .lst xs, .int k => if -1000 ≤ k ∧ k ≤ 1000 ∧ xs.length ≤ 1000 then .ok (.ref s2.length) (s2 ++ [.lst (repD xs k)]) else .no
  | _, _ => .no
/-- what the written part says of an own error (below ValueError) at C -/
structure ExcAt (K : PySem.W.Frag) (mg : Str → Option Value) (x : Str) (C : Addr) : Prop where
  g : mg x = some (.ref C)
  x : PySem.W.excIn K C [.type "ValueError", .type "Exception", .type "BaseException", .type "object"] "ValueError.__new__" = true
  k : PySem.W.keepIn K (.ref C) = true
  b : PySem.W.subIn K (.ref C) (.type "BaseException") = some true
  t : PySem.W.typeIn K (.ref C) = some (.type "type")
  e : PySem.W.exmOne K (.ref C) (.ref C) = some true
theorem exm_ab {K : PySem.W.Frag} {S T : Addr} {v : Bool} (h1 : PySem.W.subIn K (.ref T) (.type "BaseException") = some true) (h2 : PySem.W.isClsIn K T = true) (h3 : PySem.W.typeIn K (.ref T) = some (.type "type")) (h4 : PySem.W.subIn K (.ref S) (.ref T) = some v) :
    PySem.W.exmOne K (.ref S) (.ref T) = some v := by
  have e1 : (PySem.W.subIn K (.ref T) (.type "BaseException") == some true) = true := by rw [h1] <;> rfl
  have e2 : ((PySem.W.clsIn K T).isSome && PySem.W.typeIn K (.ref T) == some (.type "type")) = true := by
    have h2' : (PySem.W.clsIn K T).isSome = true := h2
    rw [h2', h3] <;> rfl
  show (if (PySem.W.subIn K (.ref T) (.type "BaseException") == some true) = true then (if ((PySem.W.clsIn K T).isSome && PySem.W.typeIn K (.ref T) == some (.type "type")) = true then PySem.W.subIn K (.ref S) (.ref T) else none) else none) = some v
  rw [if_pos e1, if_pos e2]
  exact h4
section
open PySem.Spec PyProof.Rows
variable {X : Cx} {G : SCtx} {W : WX} {C : Addr} {bmB : List Value} {B newId initId : String}
/-- xs * n: a new list that may be changed -/
theorem s_mulN {a b : Expr} {pos : Pos} {f1 f2 : EF} (ha : SE X G W a f1) (hb : SE X G W b f2) : SE X G W (.BinOp a .Mult b pos) (eMulN f1 f2) := by
  refine pe_imp (pe_op op_rep ha hb) fun σ H Q h => ?_
  obtain ⟨F, ρ, env, s, he, hs, hp⟩ := h
  refine tE.step he hs hp fun d s1 ρ1 H1 v _ he1 hs1 e1 r1 hp1 => ?_
  refine tE.step he1 hs1 hp1 fun d' s2 ρ2 H2 v' _ he2 hs2 e2 r2 hp2 => ?_
  split at hp2
  · rename_i xs k _ _
    split at hp2
    · rename_i hh
      obtain ⟨h1, h2, h3⟩ := hh
      have r1' := r1.ext e2
      cases r2
      obtain ⟨l, vs, rfl, z1, z2⟩ := lstOf_rep hs2 r1' (xs := xs) rfl
      refine ⟨_, _, _, rfl, rfl, z1, by omega, by omega, ?_, fun p hpn => ?_⟩
      · rw [z2.length, sizeLine_eq]
        have : xs.length * k.toNat ≤ 1000 * 1000 := Nat.mul_le_mul h3 (by omega)
        omega
      · exact hp2 _ _ (Ext.alloc ρ2 hpn) (hs2.newR hpn (z2.rep _)).1 _ (hs2.newR hpn (z2.rep _)).2
    · exact hp2.elim
  · exact hp2.elim
/-- X() -/
theorem pmk_own0 {x : Str} {p pos : Pos} (F : ExcBaseFacts B newId initId bmB) (q : PySem.W.excIn X.K C bmB newId = true) (gC : X.mg x = some (.ref C)) (kC : PySem.W.keepIn X.K (.ref C) = true) (r : Raises X (.ref C)) (hg : Gl X x)
    (hdb : (x == ("__debug__" : Str)) = false := by decide) : PMk X (.Call (.Name x p) [] [] pos) (fun _ H Q => Q (.ref C) none H) := by
  intro pins s σ H Q I h
  refine wpAny_Call_Name_kw (ld_glob I hg gC ?_ hdb)
  refine PySem.W.callWith_K0 I.kIn kC ?_
  show wpAny _ _ (call (.ref C) []) _ _ _
  obtain ⟨bm, N, nm, qn, bs, hdct, sn, sub, ab, col, dd, k0, k1, k2, k3, k5, mN, hC, hN, hni, T⟩ := exc_obj I.kIn q
  refine wpAny_call_exc_subT F T hC hN hni (fun h' e hm => ?_) (by show 0 ≤ sizeLine; exact Nat.zero_le _)
  exact mk_of I hm r h (I.hok.gone hm.new)
theorem ss_raise {x : Str} {c : Nat} {p pos pos' : Pos} (hx : ExcAt X.K X.mg x (G.adr c)) (hc : X.calm = true) (tk : Takes X W) (hg : Gl X x := by rfl) (hdb : (x == ("__debug__" : Str)) = false := by decide) :
    SS X G W (.Raise (some (.Call (.Name x p) [] [] pos)) none pos') (sRaise c) := by
  refine ps_imp (ps_raise hc tk (pmk_own0 PySem.F.excBase_ValueError hx.x hx.g hx.k (raises_own hx.b hx.t) hg hdb)) fun D σ H h => ?_
  obtain ⟨F, ρ, env, s, he, hs, hp⟩ := h
  exact hp ρ H σ (Ext.refl _ _) hs he
theorem ss_try {x : Str} {c : Nat} {np pos pos' : Pos} {body suite : List Stmt} {b₀ : Stmt} {g h : SF} (n : Nat) (hx : ExcAt X.K X.mg x (G.adr c)) (ho : ∀ c', c' < n → c' ≠ c → PySem.W.exmOne X.K (.ref (G.adr c')) (.ref (G.adr c)) = some false)
    (hs : X.stack = X.env :: X.outer) (hf : X.env.frame = some X.env.locals) (tk : Takes X W)
    (hb : ∀ (W : WX) (pn : List (Addr × Obj)) (xe : Value → Shared → Prop), Takes (X.tr pn xe) W → PassesOwn (model X.prog X.w) X.A X.env xe → SB (X.tr pn xe) G W body g)
    (hsu : ∀ (a : Addr) (pn : List (Addr × Obj)), SB (X.suite a pn) G W0 (b₀ :: suite) h) (hg : Gl X x := by rfl) (hdb : (x == ("__debug__" : Str)) = false := by decide) :
    SS X G W (.Try body [.ExceptHandler (some (.Name x np)) none (b₀ :: suite) pos'] [] [] pos) (sTry n c g h) := by
  refine ps_imp (ps_try_only (c := .ref (G.adr c)) (tb := fun W => tS X.K G W g) (ts := fun _ _ _ => tS X.K G W0 h) (Wout := W) hs hf ⟨hg, hdb, Or.inl hx.g⟩ tk hb (fun a oe cls d pn _ _ => hsu a ((a, oe) :: pn))) fun D σ H hh => ?_
  obtain ⟨F, ρ, env, s, he, hs', hp⟩ := hh
  refine ⟨F, ρ, env, s, he, hs', ?_⟩
  simp only [sTry] at hp
  cases z : g env s with
  | nx e s1 => rw [z] at hp; exact hp
  | rt d s1 => rw [z] at hp; exact hp
  | bk e s1 => rw [z] at hp; exact hp
  | ct e s1 => rw [z] at hp; exact hp
  | no => rw [z] at hp; exact hp
  | ex c' e s1 =>
    rw [z] at hp
    simp only at hp
    intro ρ1 H1 σ1 e1 q1 he1
    by_cases hcc : c' = c
    · rw [if_pos hcc] at hp
      subst hcc
      refine ⟨true, hx.e, fun _ a ha => ⟨F, ρ1, e, s1, he1, q1, ?_⟩, fun k => by cases k⟩
      cases z2 : h e s1 with
      | ex => rw [z2] at hp; exact hp.elim
      | no => rw [z2] at hp; exact hp.elim
      | nx e2 s2 => rw [z2] at hp; exact PstS.ext e1 hp
      | rt e2 s2 => rw [z2] at hp; exact PstS.ext e1 hp
      | bk e2 s2 => rw [z2] at hp; exact PstS.ext e1 hp
      | ct e2 s2 => rw [z2] at hp; exact PstS.ext e1 hp
    · rw [if_neg hcc] at hp
      split at hp
      · rename_i hlt
        exact ⟨false, ho c' hlt hcc, fun k => (by cases k), fun _ => hp ρ1 H1 σ1 e1 q1 he1⟩
      · exact hp.elim
end
end Sx

/-! PxW: simp rows for cuts by a step, enumerate, ranges by twos. -/
namespace Sx
open PySem L2
section
variable {f : EF} {lo hi st : OF} {env : Env} {s : Sto} {g : AF}
def kSt4 (a : D) (lo hi : Option Int) : R (Option Int) → R D
  | .ok k s => R.of (opSt s a lo hi k) s
  | .ex c s => .ex c s
  | .no => .no
def kSt3 (a : D) (lo : Option Int) (st : OF) (env : Env) : R (Option Int) → R D
  | .ok hi s => kSt4 a lo hi (st env s)
  | .ex c s => .ex c s
  | .no => .no
def kSt2 (a : D) (hi st : OF) (env : Env) : R (Option Int) → R D
  | .ok lo s => kSt3 a lo st env (hi env s)
  | .ex c s => .ex c s
  | .no => .no
def kSt1 (lo hi st : OF) (env : Env) : R D → R D
  | .ok a s => kSt2 a hi st env (lo env s)
  | .ex c s => .ex c s
  | .no => .no
@[simp] theorem kSt4_0 {a : D} {lo hi k : Option Int} : kSt4 a lo hi (.ok k s) = R.of (opSt s a lo hi k) s := rfl
@[simp] theorem kSt3_0 {a : D} {lo hi : Option Int} : kSt3 a lo st env (.ok hi s) = kSt4 a lo hi (st env s) := rfl
@[simp] theorem kSt2_0 {a : D} {lo : Option Int} : kSt2 a hi st env (.ok lo s) = kSt3 a lo st env (hi env s) := rfl
@[simp] theorem kSt1_0 {a : D} : kSt1 lo hi st env (.ok a s) = kSt2 a hi st env (lo env s) := rfl
@[simp] theorem eSt_v : eSt f lo hi st env s = kSt1 lo hi st env (f env s) := by
  unfold eSt
  cases f env s with
  | ok a s1 =>
    show (lo env s1).bind _ = kSt2 a hi st env (lo env s1)
    cases lo env s1 with
    | ok l s2 =>
      show (hi env s2).bind _ = kSt3 a l st env (hi env s2)
      cases hi env s2 with
      | ok h s3 =>
        show (st env s3).bind _ = kSt4 a l h (st env s3)
        cases st env s3 <;> rfl
      | _ => rfl
    | _ => rfl
  | _ => rfl
def kEnum : R (List D) → R (List D)
  | .ok [.tup xs] s => .ok (enumD xs) s
  | .ok [.lst xs] s => .ok (enumD xs) s
  | .ok [.str z] s => .ok (enumD (signsOf z)) s
  | .ok _ _ => .no
  | .ex c s => .ex c s
  | .no => .no
@[simp] theorem kEnum_t {xs : List D} : kEnum (.ok [.tup xs] s) = .ok (enumD xs) s := rfl
@[simp] theorem kEnum_l {xs : List D} : kEnum (.ok [.lst xs] s) = .ok (enumD xs) s := rfl
@[simp] theorem kEnum_s {z : Str} : kEnum (.ok [.str z] s) = .ok (enumD (signsOf z)) s := rfl
@[simp] theorem iEnum_v : iEnum g env s = kEnum (g env s) := by
  unfold iEnum
  cases h : g env s with
  | ok ds s1 =>
    simp only [R.bind]
    split <;> first | rfl | skip
    unfold kEnum
    split <;> simp_all
  | _ => rfl
def kRngT : R (List D) → R (List D)
  | .ok [.int i, .int j, .int c] s => if c = 2 ∧ rOk i ∧ rOk j then .ok (rangeT i j) s else .no
  | .ok _ _ => .no
  | .ex c s => .ex c s
  | .no => .no
@[simp] theorem kRngT_0 {i j c : Int} : kRngT (.ok [.int i, .int j, .int c] s) = if c = 2 ∧ rOk i ∧ rOk j then .ok (rangeT i j) s else .no := rfl
@[simp] theorem iRngT_v : iRngT g env s = kRngT (g env s) := by
  unfold iRngT
  cases h : g env s with
  | ok ds s1 =>
    simp only [R.bind]
    split <;> first | rfl | skip
    unfold kRngT
    split <;> simp_all
  | _ => rfl
def kLRg : R D → R D
  | .ok (.int n) s => if 0 ≤ n ∧ n ≤ 1000000 then .ok (.lst (rangeD 0 n)) s else .no
  | .ok _ _ => .no
  | .ex c s => .ex c s
  | .no => .no
@[simp] theorem kLRg_0 {n : Int} : kLRg (.ok (.int n) s) = if 0 ≤ n ∧ n ≤ 1000000 then .ok (.lst (rangeD 0 n)) s else .no := rfl
@[simp] theorem eLRg_v : eLRg f env s = kLRg (f env s) := by
  unfold eLRg
  cases f env s with
  | ok d s1 => cases d <;> rfl
  | _ => rfl
def kTRg : R D → R D
  | .ok (.int n) s => if 0 ≤ n ∧ n ≤ 1000000 then .ok (.tup (rangeD 0 n)) s else .no
  | .ok _ _ => .no
  | .ex c s => .ex c s
  | .no => .no
@[simp] theorem kTRg_0 {n : Int} : kTRg (.ok (.int n) s) = if 0 ≤ n ∧ n ≤ 1000000 then .ok (.tup (rangeD 0 n)) s else .no := rfl
@[simp] theorem eTRg_v : eTRg f env s = kTRg (f env s) := by
  unfold eTRg
  cases f env s with
  | ok d s1 => cases d <;> rfl
  | _ => rfl
def kLRgN : R D → R D
  | .ok (.int n) s1 => if 0 ≤ n ∧ n ≤ 1000000 then .ok (.ref s1.length) (s1 ++ [.lst (rangeD 0 n)]) else .no
  | .ok _ _ => .no
  | .ex c s => .ex c s
  | .no => .no
@[simp] theorem kLRgN_0 {n : Int} : kLRgN (.ok (.int n) s) = if 0 ≤ n ∧ n ≤ 1000000 then .ok (.ref s.length) (s ++ [.lst (rangeD 0 n)]) else .no := rfl
@[simp] theorem eLRgN_v : eLRgN f env s = kLRgN (f env s) := by
  unfold eLRgN
  cases f env s with
  | ok d s1 => cases d <;> rfl
  | _ => rfl
def kLRg2 (a : D) : R D → R D
  | .ok (.int n) s => match a with
    | .int m => if 0 ≤ m ∧ m ≤ 1000000 ∧ 0 ≤ n ∧ n ≤ 1000000 then .ok (.lst (rangeD m n)) s else .no
    | _ => .no
  | .ok _ _ => .no
  | .ex c s => .ex c s
  | .no => .no
@[simp] theorem kLRg2_0 {m n : Int} : kLRg2 (.int m) (.ok (.int n) s) = if 0 ≤ m ∧ m ≤ 1000000 ∧ 0 ≤ n ∧ n ≤ 1000000 then .ok (.lst (rangeD m n)) s else .no := rfl
def kLRg1 (h : EF) (env : Env) : R D → R D
  | .ok a s => kLRg2 a (h env s)
  | .ex c s => .ex c s
  | .no => .no
@[simp] theorem kLRg1_0 {h : EF} {a : D} : kLRg1 h env (.ok a s) = kLRg2 a (h env s) := rfl
@[simp] theorem eLRg2_v {h : EF} : eLRg2 f h env s = kLRg1 h env (f env s) := by
  unfold eLRg2
  cases f env s with
  | ok d s1 =>
    show (h env s1).bind _ = kLRg2 d (h env s1)
    cases h env s1 with
    | ok e s2 => cases d <;> cases e <;> rfl
    | _ => rfl
  | _ => rfl
def kRng3 : R (List D) → R (List D)
  | .ok [.int i, .int j, .int c] s => if c = -1 ∧ rOk i ∧ rOk j then .ok (rangeB i j) s else .no
  | .ok _ _ => .no
  | .ex c s => .ex c s
  | .no => .no
@[simp] theorem kRng3_0 {i j c : Int} : kRng3 (.ok [.int i, .int j, .int c] s) = if c = -1 ∧ rOk i ∧ rOk j then .ok (rangeB i j) s else .no := rfl
@[simp] theorem iRng3_v : Sx.iRng3 g env s = kRng3 (g env s) := by
  unfold Sx.iRng3
  cases h : g env s with
  | ok ds s1 =>
    simp only [R.bind]
    split <;> first | rfl | skip
    unfold kRng3
    split <;> simp_all
  | _ => rfl
/-! own errors -/
@[simp] theorem sRaise_v {c : Nat} : sRaise c env s = .ex c env s := rfl
def kTryS : SR → SR
  | .ex _ _ _ => .no
  | r => r
@[simp] theorem kTryS_nx {e : Env} : kTryS (.nx e s) = .nx e s := rfl
@[simp] theorem kTryS_rt {d : D} : kTryS (.rt d s) = .rt d s := rfl
@[simp] theorem kTryS_bk {e : Env} : kTryS (.bk e s) = .bk e s := rfl
@[simp] theorem kTryS_ct {e : Env} : kTryS (.ct e s) = .ct e s := rfl
def kTry (n c : Nat) (h : SF) : SR → SR
  | .ex c' e s' => if c' = c then kTryS (h e s') else if c' < n then .ex c' e s' else .no
  | r => r
@[simp] theorem kTry_ex {n c c' : Nat} {h : SF} {e : Env} : kTry n c h (.ex c' e s) = if c' = c then kTryS (h e s) else if c' < n then .ex c' e s else .no := rfl
@[simp] theorem kTry_nx {n c : Nat} {h : SF} {e : Env} : kTry n c h (.nx e s) = .nx e s := rfl
@[simp] theorem kTry_rt {n c : Nat} {h : SF} {d : D} : kTry n c h (.rt d s) = .rt d s := rfl
@[simp] theorem kTry_bk {n c : Nat} {h : SF} {e : Env} : kTry n c h (.bk e s) = .bk e s := rfl
@[simp] theorem kTry_ct {n c : Nat} {h : SF} {e : Env} : kTry n c h (.ct e s) = .ct e s := rfl
@[simp] theorem sTry_v {n c : Nat} {g h : SF} : sTry n c g h env s = kTry n c h (g env s) := by
  unfold sTry
  cases g env s with
  | ex c' e s1 =>
    show (if c' = c then (match h e s1 with | .ex _ _ _ => SR.no | r => r) else _) = if c' = c then kTryS (h e s1) else _
    by_cases hc : c' = c
    · rw [if_pos hc, if_pos hc]
      cases h e s1 <;> rfl
    · rw [if_neg hc, if_neg hc]
  | _ => rfl
def kMulN2 (a : D) : R D → R D
  | .ok (.int k) s2 => match a with
    | .lst xs => if -1000 ≤ k ∧ k ≤ 1000 ∧ xs.length ≤ 1000 then .ok (.ref s2.length) (s2 ++ [.lst (repD xs k)]) else .no
    | _ => .no
  | .ok _ _ => .no
  | .ex c s => .ex c s
  | .no => .no
@[simp] theorem kMulN2_0 {xs : List D} {k : Int} : kMulN2 (.lst xs) (.ok (.int k) s) = if -1000 ≤ k ∧ k ≤ 1000 ∧ xs.length ≤ 1000 then .ok (.ref s.length) (s ++ [.lst (repD xs k)]) else .no := rfl
def kMulN1 (h : EF) (env : Env) : R D → R D
  | .ok a s => kMulN2 a (h env s)
  | .ex c s => .ex c s
  | .no => .no
@[simp] theorem kMulN1_0 {h : EF} {a : D} : kMulN1 h env (.ok a s) = kMulN2 a (h env s) := rfl
@[simp] theorem eMulN_v {h : EF} : eMulN f h env s = kMulN1 h env (f env s) := by
  unfold eMulN
  cases f env s with
  | ok d s1 =>
    show (h env s1).bind _ = kMulN2 d (h env s1)
    cases h env s1 with
    | ok e s2 => cases d <;> cases e <;> rfl
    | _ => rfl
  | _ => rfl
theorem opMul_tupi {xs : List D} {k : Int} (h0 : xs.isEmpty = false) (h1 : 2 ≤ k) (h2 : k ≤ 1000) (h3 : xs.length ≤ 1000) : opMul s (.tup xs) (.int k) = some (.tup (repD xs k)) := by
  show (if _ then _ else _) = _
  rw [if_pos ⟨h0, h1, h2, h3⟩]
theorem opMul_lsti {xs : List D} {k : Int} (h1 : -1000 ≤ k) (h2 : k ≤ 1000) (h3 : xs.length ≤ 1000) : opMul s (.lst xs) (.int k) = some (.lst (repD xs k)) := by
  show (if _ then _ else _) = _
  rw [if_pos ⟨h1, h2, h3⟩]
end
/-- every other one -/
def ev {α : Type} : List α → List α
  | [] => []
  | [a] => [a]
  | a :: _ :: r => a :: ev r
theorem range_map_succ (k : Nat) : List.range (k + 1) = 0 :: (List.range k).map (· + 1) := List.range_succ_eq_map
theorem pick_all {α : Type} : ∀ (xs : List α) (k : Nat), xs.length ≤ k → (List.range k).filterMap (fun m => xs[m]?) = xs
  | [], k, _ => by
    induction List.range k with
    | nil => rfl
    | cons a l ih => rw [List.filterMap_cons]; exact ih
  | x :: xs, 0, h => by simp at h
  | x :: xs, k + 1, h => by
    rw [range_map_succ, List.filterMap_cons, List.filterMap_map]
    show x :: _ = _
    congr 1
    exact pick_all xs k (by simpa using h)
theorem pick_ev {α : Type} : ∀ (xs : List α) (k : Nat), (xs.length + 1) / 2 ≤ k → (List.range k).filterMap (fun m => xs[2 * m]?) = ev xs
  | [], k, _ => by
    induction List.range k with
    | nil => rfl
    | cons a l ih => rw [List.filterMap_cons]; exact ih
  | [a], k, h => by
    cases k with
    | zero => simp at h
    | succ k =>
      rw [range_map_succ, List.filterMap_cons, List.filterMap_map]
      show a :: _ = [a]
      congr 1
      induction List.range k with
      | nil => rfl
      | cons a l ih => rw [List.filterMap_cons]; exact ih
  | a :: b :: xs, k, h => by
    cases k with
    | zero => simp at h; omega
    | succ k =>
      rw [range_map_succ, List.filterMap_cons, List.filterMap_map]
      show a :: _ = a :: ev xs
      congr 1
      rw [← pick_ev xs k (by simp at h; omega)]
      congr 1
theorem stepL_two {α : Type} (xs : List α) : stepL xs none none 2 = ev xs := by
  unfold stepL Builtin.Slice.slicePlaces Builtin.Slice.sliceAdjust
  simp only [show ¬ ((2 : Int) < 0) by decide, if_false, show (2 : Int) > 0 by decide, if_true]
  rw [← pick_ev xs _ (Nat.le_refl _)]
  have e : (if (0 : Int) < (xs.length : Int) then ((xs.length : Int) - 0 - 1) / 2 + 1 else 0).toNat = (xs.length + 1) / 2 := by
    split <;> omega
  rw [e]
  congr 1
  funext m
  congr 1
  omega
theorem stepL_one_two {α : Type} (xs : List α) : stepL xs (some 1) none 2 = ev (xs.drop 1) := by
  unfold stepL Builtin.Slice.slicePlaces Builtin.Slice.sliceAdjust
  simp only [show ¬ ((2 : Int) < 0) by decide, if_false, show (2 : Int) > 0 by decide, if_true, show ¬ ((1 : Int) < 0) by decide]
  cases xs with
  | nil => rfl
  | cons a xs =>
    have hm : min (1 : Int) ((a :: xs).length : Int) = 1 := by
      have : ((a :: xs).length : Int) = (xs.length : Int) + 1 := by simp
      omega
    rw [hm]
    show _ = ev xs
    rw [← pick_ev xs _ (Nat.le_refl _)]
    have e : (if (1 : Int) < ((a :: xs).length : Int) then (((a :: xs).length : Int) - 1 - 1) / 2 + 1 else 0).toNat = (xs.length + 1) / 2 := by
      have : ((a :: xs).length : Int) = (xs.length : Int) + 1 := by simp
      rw [this]
      split <;> omega
    rw [e]
    congr 1
    funext m
    rw [show ((1 : Int) + (m : Int) * 2).toNat = 2 * m + 1 by omega]
    rfl
theorem filterMap_cong {α β : Type} {f g : α → Option β} : ∀ {xs : List α}, (∀ x ∈ xs, f x = g x) → xs.filterMap f = xs.filterMap g
  | [], _ => rfl
  | x :: xs, h => by
    rw [List.filterMap_cons, List.filterMap_cons, h x List.mem_cons_self, filterMap_cong fun y hy => h y (List.mem_cons_of_mem _ hy)]
theorem stepL_rev {α : Type} (xs : List α) : stepL xs none none (-1) = xs.reverse := by
  unfold stepL Builtin.Slice.slicePlaces Builtin.Slice.sliceAdjust
  simp only [show ((-1 : Int) < 0) by decide, if_true, show ¬ (-1 : Int) > 0 by decide, if_false]
  have e : (if ((xs.length : Int) - 1) > -1 then ((xs.length : Int) - 1 - (-1) - 1) / (-(-1)) + 1 else 0).toNat = xs.length := by
    split
    · rw [show (-(-1) : Int) = 1 by decide, Int.ediv_one]; omega
    · omega
  rw [e]
  have h := pick_all xs.reverse xs.length (by simp)
  rw [← h]
  refine filterMap_cong ?_
  intro m hm
  have hm' : m < xs.length := by simpa using hm
  rw [List.getElem?_reverse hm']
  congr 1
  omega
theorem ev_len {α : Type} : ∀ (xs : List α), (ev xs).length = (xs.length + 1) / 2
  | [] => by simp [ev]
  | [a] => by simp [ev]
  | a :: b :: xs => by simp [ev, ev_len xs]; omega
theorem ev_mem {α : Type} {x : α} : ∀ {xs : List α}, x ∈ ev xs → x ∈ xs
  | [], h => by cases h
  | [a], h => h
  | a :: b :: xs, h => by
    rcases List.mem_cons.mp h with rfl | h
    · exact List.mem_cons_self
    · exact List.mem_cons_of_mem _ (List.mem_cons_of_mem _ (ev_mem h))
theorem opSt_two {s : Sto} {xs : List D} (h : xs.length ≤ 1000000) : opSt s (.tup xs) none none (some 2) = some (.tup (ev xs)) := by
  unfold opSt
  simp only
  rw [stepL_two, if_pos ⟨by decide, by decide, by rw [ev_len]; show _ ≤ 1000000; omega⟩]
theorem opSt_one_two {s : Sto} {xs : List D} (h : xs.length ≤ 1000000) : opSt s (.tup xs) (some 1) none (some 2) = some (.tup (ev (xs.drop 1))) := by
  unfold opSt
  simp only
  rw [stepL_one_two, if_pos ⟨by decide, by decide, by rw [ev_len, List.length_drop]; show _ ≤ 1000000; omega⟩]
theorem opSt_rev {s : Sto} {xs : List D} (h : xs.length ≤ 1000000) : opSt s (.tup xs) none none (some (-1)) = some (.tup xs.reverse) := by
  unfold opSt
  simp only
  rw [stepL_rev, if_pos ⟨by decide, by decide, by rw [List.length_reverse]; exact h⟩]
/-- loops over any row -/
theorem rangeT_len {lo hi : Int} : (rangeT lo hi).length = ((hi - lo + 1) / 2).toNat := by simp [rangeT]
theorem rangeT_get {lo hi : Int} {i : Nat} {d : D} (h : (rangeT lo hi)[i]? = some d) : i < ((hi - lo + 1) / 2).toNat ∧ d = .int (lo + 2 * i) := by
  unfold rangeT at h
  rw [List.getElem?_map] at h
  obtain ⟨k, h1, rfl⟩ := Option.map_eq_some_iff.mp h
  obtain ⟨h2, e⟩ := List.getElem?_eq_some_iff.mp h1
  simp at e h2
  exact ⟨by omega, by rw [← e]⟩
end Sx

/-! PxK: objects: fields, methods, making. -/
namespace Sx
open PySem L2
/-- the j-th field of an object of class c -/
def eFld (c j : Nat) (f : EF) : EF := fun env s => (f env s).bind fun d s1 => match d with
  | .ref n => match s1[n]? with
    | some (.ins c' fs) => if c' = c then match fs[j]? with
        | some x => .ok x s1
        | none => .no
      else .no
    | _ => .no
  | _ => .no
def putD (fs : List D) (j : Nat) (d : D) : Option (List D) := if j < fs.length then some (fs.set j d) else if j = fs.length then some (fs ++ [d]) else none
def putO (s : Sto) (c j : Nat) (o d : D) : Option Sto := match o with
  | .ref n => match s[n]? with
    | some (.ins c' fs) => if c' = c then (putD fs j d).map fun gs => s.set n (.ins c gs) else none
    | _ => none
  | _ => none
def sFldS (c j : Nat) (fo fv : EF) : SF := fun env s => SR.ofR (fv env s) env fun d s1 => SR.ofR (fo env s1) env fun o s2 => match putO s2 c j o d with
  | some s3 => .nx env s3
  | none => .no
/-- o.m(..), o of class c -/
def eMeth (c : Nat) (fn : FN) (fo : EF) (fa : AF) : EF := fun env s => (fo env s).bind fun o s1 => match o with
  | .ref n => match s1[n]? with
    | some (.ins c' _) => if c' = c then (fa env s1).bind fun ds s2 => fn (.ref n :: ds) s2 else .no
    | _ => .no
  | _ => .no
/-- C(..): what __init__ fn leaves -/
def eMake (c : Nat) (fn : FN) (fa : AF) : EF := fun env s => (fa env s).bind fun ds s1 => match fn (.ref s1.length :: ds) (s1 ++ [.ins c []]) with
  | .ok .non s2 => .ok (.ref s1.length) s2
  | _ => .no
section
variable {X : Cx} {G : SCtx} {W : WX} {pos pos' apos p : Pos} {o e v : Expr} {es : List Expr} {f fo fv : EF} {fa : AF} {x m : Str} {c j k l : Nat} {fn : FN}
theorem keys_lookup {ws : List (Str × V)} {ks : List Str} (h : ws.map (·.1) = ks) (nd : ks.Nodup) {j : Nat} {x : Str} (hx : ks[j]? = some x) : ∃ v, ws.lookup x = some v ∧ (ws.map (·.2))[j]? = some v := by
  subst h
  induction ws generalizing j with
  | nil => simp at hx
  | cons w ws ih =>
    cases j with
    | zero =>
      simp at hx
      subst hx
      exact ⟨w.2, by simp [List.lookup], by simp⟩
    | succ j =>
      simp only [List.map_cons, List.getElem?_cons_succ] at hx
      simp only [List.map_cons, List.nodup_cons] at nd
      obtain ⟨v, h1, h2⟩ := ih nd.2 hx
      refine ⟨v, ?_, by simpa using h2⟩
      have hne : (x == w.1) = false := by
        rw [beq_eq_false_iff_ne]
        intro z
        subst z
        exact nd.1 (List.mem_of_getElem? hx)
      obtain ⟨wk, wv⟩ := w
      simp only [List.lookup, hne]
      exact h1
theorem s_fld (he : SE X G W e f) (hc : Cls X.K (G.adr c)) (hn : NoAttr X.K (G.adr c) x) (nd : (G.fl c).Nodup) (hj : (G.fl c)[j]? = some x) (hb : attributeBase e x X.env (eval e X.env) = eval e X.env := by rfl) :
    SE X G W (.Attribute e x pos) (eFld c j f) := by
  refine pe_imp (pe_fld he hb) fun σ H Q h => ?_
  obtain ⟨F, ρ, env, s, he, hs, hp⟩ := h
  refine tE.step he hs hp fun d s1 ρ1 H1 v _ he1 hs1 e1 r1 hp1 => ?_
  split at hp1
  · rename_i n _
    split at hp1
    · rename_i c' fs hx
      split at hp1
      · rename_i hcc
        subst hcc
        split at hp1
        · rename_i y hy
          cases r1 with
          | ref hr =>
            obtain ⟨a, ha, dx, ws, e2, e3, rr⟩ := hs1.at hx
            rw [hr] at ha
            cases ha
            have hjl : j < fs.length := (List.getElem?_eq_some_iff.mp hy).1
            have hk : ((G.fl c').take fs.length)[j]? = some x := by rw [List.getElem?_take_of_lt hjl]; exact hj
            obtain ⟨v, h1, h2⟩ := keys_lookup e3 (nd.sublist (List.take_sublist _ _)) hk
            obtain ⟨v', h3, r3⟩ := rr.get hy
            rw [h2] at h3
            cases h3
            exact ⟨_, _, _, _, _, rfl, e2, hc, hn, h1, hp1 ρ1 H1 (Ext.refl _ _) hs1 _ r3⟩
        · exact hp1.elim
      · exact hp1.elim
    · exact hp1.elim
  · exact hp1.elim
theorem putF_at {ws : List (Str × V)} {ks : List Str} (h : ws.map (·.1) = ks) (nd : ks.Nodup) {j : Nat} {x : Str} {v : V} (hx : ks[j]? = some x) : (putF x v ws).map (·.1) = ks ∧ (putF x v ws).map (·.2) = (ws.map (·.2)).set j v := by
  subst h
  induction ws generalizing j with
  | nil => simp at hx
  | cons w ws ih =>
    obtain ⟨wk, wv⟩ := w
    cases j with
    | zero =>
      simp at hx
      subst hx
      simp [putF]
    | succ j =>
      simp only [List.map_cons, List.getElem?_cons_succ] at hx
      simp only [List.map_cons, List.nodup_cons] at nd
      have hne : ¬ wk = x := fun z => by
        subst z
        exact nd.1 (List.mem_of_getElem? hx)
      obtain ⟨h1, h2⟩ := ih nd.2 hx
      simp only [putF, if_neg hne, List.map_cons, h1, h2, List.set_cons_succ, and_self]
theorem putF_end {ws : List (Str × V)} {x : Str} {v : V} (h : x ∉ ws.map (·.1)) : putF x v ws = ws ++ [(x, v)] := by
  induction ws with
  | nil => rfl
  | cons w ws ih =>
    obtain ⟨wk, wv⟩ := w
    simp only [List.map_cons, List.mem_cons, not_or] at h
    have hne : ¬ wk = x := fun z => h.1 z.symm
    simp only [putF, if_neg hne, ih h.2, List.cons_append]
theorem ss_fld (ho : SE X G W o fo) (hv : SE X G W v fv) (hc : Cls X.K (G.adr c)) (hn : NoAttr X.K (G.adr c) x) (nd : (G.fl c).Nodup) (hl : (G.fl c).length < 900) (hj : (G.fl c)[j]? = some x) (hs : swapsWith v (some (.Attribute o x pos')) pos.line X.env = pure false := by rfl) :
    SS X G W (.Assign [.Attribute o x pos'] v pos) (sFldS c j fo fv) := by
  refine ps_imp (ps_fld ho hv hs) fun D σ H h => ?_
  obtain ⟨F, ρ, env, s, he, hs, hp⟩ := h
  refine tE.first he hs hp fun d s1 ρ1 H1 y he1 hs1 e1 r1 hp1 => ?_
  refine tE.first he1 hs1 hp1 fun od s2 ρ2 H2 z he2 hs2 e2 r2 hp2 => ?_
  unfold putO at hp2
  split at hp2
  · rename_i s3 hq
    split at hq
    · rename_i n
      split at hq
      · rename_i c' fs hx
        split at hq
        · rename_i hcc
          subst hcc
          obtain ⟨gs, hg, rfl⟩ := Option.map_eq_some_iff.mp hq
          cases r2 with
          | ref hr =>
            obtain ⟨a, ha, dx, ws, e3, e4, rr⟩ := hs2.at hx
            rw [hr] at ha
            cases ha
            have hm := List.mem_of_getElem? hr
            have hlen : ws.length = fs.length := by
              have := rr.length
              simpa using this
            have hlt : j < (G.fl c').length := (List.getElem?_eq_some_iff.mp hj).1
            have hfl : fs.length ≤ (G.fl c').length := by
              have := congrArg List.length e4
              simp at this
              omega
            refine ⟨_, _, _, _, rfl, e3, hc, hn, by omega, ?_⟩
            have r1' := r1.ext e2
            unfold putD at hg
            split at hg
            · rename_i hjl
              cases hg
              have hk : ((G.fl c').take fs.length)[j]? = some x := by rw [List.getElem?_take_of_lt hjl]; exact hj
              obtain ⟨k1, k2⟩ := putF_at (v := y) e4 (nd.sublist (List.take_sublist _ _)) hk
              refine hp2 ρ2 _ _ (Ext.put hm (nf e3)) (hs2.put hr ⟨dx, _, upd_same, by rw [k1, List.length_set], ?_⟩) (he2.ext (Ext.put hm (nf e3)))
              rw [k2]
              exact (rr.set r1' j).ext (Ext.put hm (nf e3))
            · split at hg
              · rename_i hjl
                cases hg
                subst hjl
                have hnot : x ∉ ws.map (·.1) := fun hmem => by
                  rw [e4] at hmem
                  obtain ⟨i, hi⟩ := List.getElem?_of_mem hmem
                  have hil : i < fs.length := by
                    have := (List.getElem?_eq_some_iff.mp hi).1
                    simp at this
                    omega
                  rw [List.getElem?_take_of_lt hil] at hi
                  have := (List.getElem?_inj (List.getElem?_eq_some_iff.mp hi).1 nd).mp (hi.trans hj.symm)
                  omega
                rw [putF_end hnot]
                refine hp2 ρ2 _ _ (Ext.put hm (nf e3)) (hs2.put hr ⟨dx, _, upd_same, ?_, ?_⟩) (he2.ext (Ext.put hm (nf e3)))
                · rw [List.map_append, e4, List.length_append]
                  simp only [List.map_cons, List.map_nil, List.length_cons, List.length_nil]
                  rw [List.take_succ, hj]
                  rfl
                · rw [List.map_append]
                  exact (rr.snoc r1').ext (Ext.put hm (nf e3))
              · cases hg
        · cases hq
      · cases hq
    · cases hq
  · exact hp2.elim
/-! ### methods -/
/-- o.m(e, ..), the wish by the slots -/
def tMethS (C : Addr) (m : Str) (sp : Sp) (E : L2.St → XK) (ta : TE) (t : TA) : TE := fun σ H Q => ta σ H fun x H1 => ∃ a dx fs, x = .ref a ∧ H1 a = some (.ins C dx fs) ∧ fs.lookup m = none ∧ t σ H1 fun vs H2 => sp (x :: vs) H2 Q (E σ)
open PySem.Spec PyProof.Rows in
theorem pe_methS {pl : Sem Bool} {CX : CXT} {C f : Addr} {fd : FuncData} {ps : List Str} {sp : Sp} {E : L2.St → XK} {ta : TE} {t : TA} (he : PE X o ta) (hc : Cls X.K C) (hm : Meth X.K C m f) (F : FnOk X.prog X.w X.K X.mg X.base CX k f fd ps sp) (hr : Room k X.A) (hb : Binds X.K fd ps []) (hx : ∀ σ, PassesAt CX X σ (E σ)) (ha : PA X (e :: es) t)
    (hst : starEach (e :: es) X.env = (false, eval e X.env) :: starEach es X.env := by rfl) (hpl : (backTo pos (starEach es X.env)).any (·.1) = false := by rfl)
    (ht : eval (.Call (.Attribute o m apos) (e :: es) [] pos) X.env = (do
      let ov ← eval o X.env
      standAt apos.atName
      let (f, first) ← holding [ov] (getMethod ov m pl)
      callWith pos f first (backTo pos (starEach (e :: es) X.env)) (backToKw pos (keywordEach [] X.env))) := by rfl) :
    PE X (.Call (.Attribute o m apos) (e :: es) [] pos) (Sx.tMethS C m sp E ta t) := by
  refine ⟨fun pins s σ H Q I h => ?_⟩
  refine PySem.W.methodCall_KW (pl := pl) (thn (he.run pins s σ H _ I h) fun u s1 ⟨x, H1, I1, rx, a, dx, fs, ex, ea, l, q⟩ => ?_) ht
  subst ex
  obtain rfl : u = Value.ref a := rx
  refine getmeth_ok I1 ea hc hm l ?_
  refine PySem.W.callWith_K (first := [.ref a]) (h₀ := X.base) I.ok.mod.kin hm.kp (thn (ha.run pos pins s1 σ H1 _ I1 q) fun us s2 ⟨vs, H2, I2, r, q2⟩ => ⟨I2.kIn, ?_⟩) hst hpl
  exact run_fnS (us := .ref a :: us) (vs := .ref a :: vs) F hr hb (hx σ) I2 (.cons rfl r) q2
open PySem.Spec PyProof.Rows in
theorem pe_methS0 {pl : Sem Bool} {CX : CXT} {C f : Addr} {fd : FuncData} {ps : List Str} {sp : Sp} {E : L2.St → XK} {ta : TE} (he : PE X o ta) (hc : Cls X.K C) (hm : Meth X.K C m f) (F : FnOk X.prog X.w X.K X.mg X.base CX k f fd ps sp) (hr : Room k X.A) (hb : Binds X.K fd ps []) (hx : ∀ σ, PassesAt CX X σ (E σ))
    (ht : eval (.Call (.Attribute o m apos) [] [] pos) X.env = (do
      let ov ← eval o X.env
      standAt apos.atName
      let (f, first) ← holding [ov] (getMethod ov m pl)
      callWith pos f first (backTo pos (starEach [] X.env)) (backToKw pos (keywordEach [] X.env))) := by rfl) :
    PE X (.Call (.Attribute o m apos) [] [] pos) (Sx.tMethS C m sp E ta L2.tNil) := by
  refine ⟨fun pins s σ H Q I h => ?_⟩
  refine PySem.W.methodCall_KW (pl := pl) (thn (he.run pins s σ H _ I h) fun u s1 ⟨x, H1, I1, rx, a, dx, fs, ex, ea, l, q⟩ => ?_) ht
  subst ex
  obtain rfl : u = Value.ref a := rx
  refine getmeth_ok I1 ea hc hm l ?_
  exact PySem.W.callWith_K0 (first := [.ref a]) I1.kIn hm.kp (run_fnS (us := [.ref a]) (vs := [.ref a]) F hr hb (hx σ) I1 (.cons rfl .nil) q)
/-- a method's meaning -/
def HasM (P : Program) (w : World) (K : PySem.W.Frag) (mg : Str → Option Value) (base : Heap) (G : SCtx) (k c : Nat) (m : Str) (fn : FN) : Prop := ∃ (f : Addr) (fd : FuncData) (ps : List Str), FnOk P w K mg base (L2.CX P w) k f fd ps (SpF K G fn) ∧ Meth K (G.adr c) m f ∧ Binds K fd ps []
theorem noKey {ws : List (Str × V)} {ks : List Str} {n : Nat} (h : ws.map (·.1) = ks.take n) (hm : m ∉ ks) : ws.lookup m = none := by
  have hn : m ∉ ws.map (·.1) := fun z => hm (by rw [h] at z; exact List.mem_of_mem_take z)
  clear h
  induction ws with
  | nil => rfl
  | cons w ws ih =>
    obtain ⟨wk, wv⟩ := w
    simp only [List.map_cons, List.mem_cons, not_or] at hn
    have hne : (m == wk) = false := by rw [beq_eq_false_iff_ne]; exact hn.1
    simp only [List.lookup, hne]
    exact ih hn.2
theorem s_meth {pl : Sem Bool} (ho : SE X G W o fo) (hc : Cls X.K (G.adr c)) (hm : m ∉ G.fl c) (h : HasM X.prog X.w X.K X.mg X.base G j c m fn) (hr : Room k X.A) (hj : j ≤ k) (tk : Takes X W) (ha : SA X G W (e :: es) fa)
    (hst : starEach (e :: es) X.env = (false, eval e X.env) :: starEach es X.env := by rfl) (hpl : (backTo pos (starEach es X.env)).any (·.1) = false := by rfl)
    (ht : eval (.Call (.Attribute o m apos) (e :: es) [] pos) X.env = (do
      let ov ← eval o X.env
      standAt apos.atName
      let (f, first) ← holding [ov] (getMethod ov m pl)
      callWith pos f first (backTo pos (starEach (e :: es) X.env)) (backToKw pos (keywordEach [] X.env))) := by rfl) :
    SE X G W (.Call (.Attribute o m apos) (e :: es) [] pos) (eMeth c fn fo fa) := by
  obtain ⟨f, fd, ps, h1, h2, h3⟩ := h
  refine pe_imp (pe_methS (E := WE W) ho hc h2 h1 (hr.mono hj) h3 (fun σ => passAt tk σ) ha hst hpl ht) fun σ H Q h => ?_
  obtain ⟨F, ρ, env, s, he, hs, hp⟩ := h
  refine tE.step he hs hp fun d s1 ρ1 H1 v _ he1 hs1 e1 r1 hp1 => ?_
  split at hp1
  · rename_i n _
    split at hp1
    · rename_i c' fs hx
      split at hp1
      · rename_i hcc
        subst hcc
        cases r1 with
        | ref hr =>
          obtain ⟨a, ha', dx, ws, e2, e3, rr⟩ := hs1.at hx
          rw [hr] at ha'
          cases ha'
          refine ⟨_, _, _, rfl, e2, noKey e3 hm, ?_⟩
          exact tA.step he1 hs1 hp1 fun ds s2 ρ2 H2 vs _ he2 hs2 e2' r2 hp2 => ⟨F, ρ2, _, s2, .cons ((Rep.ref hr).ext e2') r2, hs2, hp2⟩
      · exact hp1.elim
    · exact hp1.elim
  · exact hp1.elim
theorem s_meth0 {pl : Sem Bool} (ho : SE X G W o fo) (hc : Cls X.K (G.adr c)) (hm : m ∉ G.fl c) (h : HasM X.prog X.w X.K X.mg X.base G j c m fn) (hr : Room k X.A) (hj : j ≤ k) (tk : Takes X W)
    (ht : eval (.Call (.Attribute o m apos) [] [] pos) X.env = (do
      let ov ← eval o X.env
      standAt apos.atName
      let (f, first) ← holding [ov] (getMethod ov m pl)
      callWith pos f first (backTo pos (starEach [] X.env)) (backToKw pos (keywordEach [] X.env))) := by rfl) :
    SE X G W (.Call (.Attribute o m apos) [] [] pos) (eMeth c fn fo aNil) := by
  obtain ⟨f, fd, ps, h1, h2, h3⟩ := h
  refine pe_imp (pe_methS0 (E := WE W) ho hc h2 h1 (hr.mono hj) h3 (fun σ => passAt tk σ) ht) fun σ H Q h => ?_
  obtain ⟨F, ρ, env, s, he, hs, hp⟩ := h
  refine tE.step he hs hp fun d s1 ρ1 H1 v _ he1 hs1 e1 r1 hp1 => ?_
  split at hp1
  · rename_i n _
    split at hp1
    · rename_i c' fs hx
      split at hp1
      · rename_i hcc
        subst hcc
        cases r1 with
        | ref hr =>
          obtain ⟨a, ha', dx, ws, e2, e3, rr⟩ := hs1.at hx
          rw [hr] at ha'
          cases ha'
          refine ⟨_, _, _, rfl, e2, noKey e3 hm, ?_⟩
          exact ⟨F, ρ1, _, s1, .cons (.ref hr) .nil, hs1, hp1⟩
      · exact hp1.elim
    · exact hp1.elim
  · exact hp1.elim
/-! ### making -/
/-- what __init__ means -/
def HasI (P : Program) (w : World) (K : PySem.W.Frag) (mg : Str → Option Value) (base : Heap) (G : SCtx) (k c : Nat) (fn : FN) : Prop := ∃ (f : Addr) (fd : FuncData) (ps : List Str), FnOk P w K mg base (L2.CX P w) k f fd ps (SpF K G fn) ∧ Mk K (G.adr c) f ∧ Binds K fd ps []
theorem pass_no {X : Cx} : Passes (L2.CX X.prog X.w) X (fun _ _ _ => False) := fun pins σ H s e s' I z => passAt (W := fun _ _ _ _ => False) (takes0 (X := X)) σ pins H s e s' I z
theorem s_make (hg : Gl X x) (hm : X.mg x = some (.ref (G.adr c))) (h : HasI X.prog X.w X.K X.mg X.base G j c fn) (hr : Room (k + 1) X.A) (hj : j ≤ k) (ha : SA X G W (e :: es) fa) (hdb : (x == ("__debug__" : Str)) = false := by decide)
    (he : starEach (e :: es) X.env = (false, eval e X.env) :: starEach es X.env := by rfl) (hpl : (backTo pos (starEach es X.env)).any (·.1) = false := by rfl) :
    SE X G W (.Call (.Name x p) (e :: es) [] pos) (eMake c fn fa) := by
  obtain ⟨f, fd, ps, h1, h2, h3⟩ := h
  refine pe_imp (pe_make (E := fun _ _ _ => False) (ds := []) (dvs := []) h2 h1 (hr.mono (Nat.succ_le_succ hj)) hg hm h3 .nil pass_no ha hdb he hpl) fun σ H Q h => ?_
  obtain ⟨F, ρ, env, s, he, hs, hp⟩ := h
  refine tA.step he hs hp fun ds s1 ρ1 H1 vs _ he1 hs1 e1 r1 hp1 => ?_
  intro q dx hq hdx hne
  have hq2 : upd H1 dx (.own q) q = none := by rw [upd_ne (Ne.symm hne)]; exact hq
  have x1 : Ext ρ1 H1 ρ1 (upd H1 dx (.own q)) := Ext.new ρ1 hdx
  have x2 : Ext ρ1 (upd H1 dx (.own q)) (ρ1 ++ [q]) (upd (upd H1 dx (.own q)) q (.ins (G.adr c) dx [])) := Ext.alloc ρ1 hq2
  have sr : SRel X.K G F (ρ1 ++ [q]) (upd (upd H1 dx (.own q)) q (.ins (G.adr c) dx [])) (s1 ++ [.ins c []]) := (hs1.new hdx).alloc hq2 ⟨dx, [], upd_same, by simp, .nil⟩
  have rq : Rep X.K F (ρ1 ++ [q]) (upd (upd H1 dx (.own q)) q (.ins (G.adr c) dx [])) (.ref q) (.ref s1.length) := .ref (by rw [← hs1.len]; simp)
  refine ⟨F, ρ1 ++ [q], .ref s1.length :: ds, s1 ++ [.ins c []], ?_, sr, ?_⟩
  · rw [List.append_nil]
    exact .cons rq ((r1.ext x1).ext x2)
  · cases z : fn (.ref s1.length :: ds) (s1 ++ [.ins c []]) with
    | ex c' s2 => rw [z] at hp1; exact hp1.elim
    | no => rw [z] at hp1; exact hp1.elim
    | ok d s2 =>
      rw [z] at hp1
      cases d with
      | non =>
        intro ρ' H' e' sr' v rv
        cases rv
        exact ⟨rfl, hp1 ρ' H' ((x1.trans x2).trans e') sr' _ (rq.ext e')⟩
      | _ => exact hp1.elim
end
end Sx

/-! PxL: simp rows for objects. -/
namespace Sx
open PySem L2
section
variable {f g h : EF} {env : Env} {s : Sto} {fa : AF} {c j : Nat} {fn : FN}
def fldO (s : Sto) (c j : Nat) (d : D) : Option D := match d with
  | .ref n => match s[n]? with
    | some (.ins c' fs) => if c' = c then fs[j]? else none
    | _ => none
  | _ => none
theorem fldO_ref {n : Nat} {fs : List D} {x : D} (h : s[n]? = some (.ins c fs)) (hx : fs[j]? = some x) : fldO s c j (.ref n) = some x := by
  simp only [fldO]
  rw [h]
  simp only [if_true]
  exact hx
def kFld (c j : Nat) : R D → R D
  | .ok d s => R.of (fldO s c j d) s
  | .ex c s => .ex c s
  | .no => .no
@[simp] theorem kFld_0 {d : D} : kFld c j (.ok d s) = R.of (fldO s c j d) s := rfl
@[simp] theorem eFld_v : eFld c j f env s = kFld c j (f env s) := by
  unfold eFld
  cases f env s with
  | ok d s1 =>
    cases d with
    | ref n =>
      show (match s1[n]? with | some (.ins c' fs) => _ | _ => _) = R.of (fldO s1 c j (.ref n)) s1
      simp only [fldO]
      split
      · rename_i c' fs hx
        by_cases hc : c' = c
        · simp only [if_pos hc]
          cases fs[j]? <;> rfl
        · simp only [if_neg hc]
          rfl
      · rfl
    | _ => rfl
  | _ => rfl
def kPut (env : Env) : Option Sto → SR
  | some s3 => .nx env s3
  | none => .no
@[simp] theorem kPut_0 {s3 : Sto} : kPut env (some s3) = .nx env s3 := rfl
def kFldS2 (c j : Nat) (env : Env) (d : D) : R D → SR
  | .ok o s => kPut env (putO s c j o d)
  | .ex c s => .ex c env s
  | .no => .no
@[simp] theorem kFldS2_0 {o d : D} : kFldS2 c j env d (.ok o s) = kPut env (putO s c j o d) := rfl
def kFldS1 (c j : Nat) (fo : EF) (env : Env) : R D → SR
  | .ok d s => kFldS2 c j env d (fo env s)
  | .ex c s => .ex c env s
  | .no => .no
@[simp] theorem kFldS1_0 {d : D} : kFldS1 c j f env (.ok d s) = kFldS2 c j env d (f env s) := rfl
@[simp] theorem sFldS_v : sFldS c j f g env s = kFldS1 c j f env (g env s) := by
  unfold sFldS
  cases g env s with
  | ok d s1 =>
    show SR.ofR (f env s1) env _ = kFldS2 c j env d (f env s1)
    cases f env s1 with
    | ok o s2 =>
      show (match putO s2 c j o d with | some s3 => SR.nx env s3 | none => .no) = kPut env (putO s2 c j o d)
      cases putO s2 c j o d <;> rfl
    | _ => rfl
  | _ => rfl
theorem putO_ref {n : Nat} {fs : List D} {d : D} (h : s[n]? = some (.ins c fs)) (hj : j < fs.length) : putO s c j (.ref n) d = some (s.set n (.ins c (fs.set j d))) := by
  simp only [putO]
  rw [h]
  simp only [if_true, putD, if_pos hj]
  rfl
theorem putO_end {n : Nat} {fs : List D} {d : D} (h : s[n]? = some (.ins c fs)) (hj : j = fs.length) : putO s c j (.ref n) d = some (s.set n (.ins c (fs ++ [d]))) := by
  simp only [putO]
  rw [h]
  simp only [if_true, putD, if_neg (show ¬ j < fs.length by omega), if_pos hj]
  rfl
def insQ (s : Sto) (c : Nat) : D → Option Nat
  | .ref n => match s[n]? with
    | some (.ins c' _) => if c' = c then some n else none
    | _ => none
  | _ => none
theorem insQ_ref {n : Nat} {fs : List D} (h : s[n]? = some (.ins c fs)) : insQ s c (.ref n) = some n := by
  simp only [insQ]
  rw [h]
  simp
def kMeth3 (fn : FN) (n : Nat) : R (List D) → R D
  | .ok ds s => fn (.ref n :: ds) s
  | .ex c s => .ex c s
  | .no => .no
@[simp] theorem kMeth3_0 {n : Nat} {ds : List D} : kMeth3 fn n (.ok ds s) = fn (.ref n :: ds) s := rfl
def kMeth2 (fn : FN) (fa : AF) (env : Env) (s : Sto) : Option Nat → R D
  | some n => kMeth3 fn n (fa env s)
  | none => .no
@[simp] theorem kMeth2_0 {n : Nat} : kMeth2 fn fa env s (some n) = kMeth3 fn n (fa env s) := rfl
def kMeth1 (c : Nat) (fn : FN) (fa : AF) (env : Env) : R D → R D
  | .ok d s => kMeth2 fn fa env s (insQ s c d)
  | .ex c s => .ex c s
  | .no => .no
@[simp] theorem kMeth1_0 {d : D} : kMeth1 c fn fa env (.ok d s) = kMeth2 fn fa env s (insQ s c d) := rfl
@[simp] theorem eMeth_v : eMeth c fn f fa env s = kMeth1 c fn fa env (f env s) := by
  unfold eMeth
  cases f env s with
  | ok d s1 =>
    cases d with
    | ref n =>
      show (match s1[n]? with | some (.ins c' fs) => _ | _ => _) = kMeth2 fn fa env s1 (insQ s1 c (.ref n))
      simp only [insQ]
      split
      · rename_i c' fs hx
        by_cases hc : c' = c
        · simp only [if_pos hc, kMeth2_0]
          cases fa env s1 <;> rfl
        · simp only [if_neg hc]
          rfl
      · rfl
    | _ => rfl
  | _ => rfl
def kMake2 (n : Nat) : R D → R D
  | .ok .non s2 => .ok (.ref n) s2
  | _ => .no
@[simp] theorem kMake2_0 {n : Nat} : kMake2 n (.ok .non s) = .ok (.ref n) s := rfl
def kMake1 (c : Nat) (fn : FN) : R (List D) → R D
  | .ok ds s1 => kMake2 s1.length (fn (.ref s1.length :: ds) (s1 ++ [.ins c []]))
  | .ex c s => .ex c s
  | .no => .no
@[simp] theorem kMake1_0 {ds : List D} : kMake1 c fn (.ok ds s) = kMake2 s.length (fn (.ref s.length :: ds) (s ++ [.ins c []])) := rfl
@[simp] theorem eMake_v : eMake c fn fa env s = kMake1 c fn (fa env s) := by
  unfold eMake
  cases fa env s with
  | ok ds s1 =>
    show (match fn (.ref s1.length :: ds) (s1 ++ [.ins c []]) with | .ok .non s2 => _ | _ => _) = kMake2 s1.length (fn (.ref s1.length :: ds) (s1 ++ [.ins c []]))
    cases fn (.ref s1.length :: ds) (s1 ++ [.ins c []]) with
    | ok d s2 => cases d <;> rfl
    | _ => rfl
  | _ => rfl
end
end Sx

/-! PxQ: defs that let out only exceptions without a context (N); they serve everywhere. -/
namespace Sx
open PySem L2
section
variable {P : Program} {w : World} {K : PySem.W.Frag} {mg : Str → Option Value} {base : Heap} {G : SCtx} {k : Nat} {fa : Addr} {fd : FuncData} {ps : List Str} {sp : Sp} {x m : Str} {fn : FN} {c : Nat}
theorem cx_nz {outer : List PySem.Env} {H : Hp} {s s' : Shared} {E : XK} {u : Value} (h : L2N.CX P w outer H s E u s') : L2.CX P w outer H s E u s' := by
  obtain ⟨a, B, H', cls, d, e, fl, r⟩ := h
  exact ⟨a, B, H', cls, d, e, L2H.flyingZ_imp (fun o z => z.zc) fl, r⟩
theorem fn_nz (F : FnOk P w K mg base (L2N.CX P w) k fa fd ps sp) : FnOk P w K mg base (L2.CX P w) k fa fd ps sp :=
  ⟨F.len, fun A outer s H args us vs Q E hr h0 hb r h => codeAny_mono (F.run A outer s H args us vs Q E hr h0 hb r h) fun r s' q => by
    cases r with
    | error e => exact cx_nz q
    | ok fl => cases fl <;> exact q⟩
def HasN (P : Program) (w : World) (K : PySem.W.Frag) (mg : Str → Option Value) (base : Heap) (G : SCtx) (k : Nat) (x : Str) (fn : FN) : Prop := ∃ (f : Addr) (fd : FuncData) (ps : List Str), FnOk P w K mg base (L2N.CX P w) k f fd ps (SpF K G fn) ∧ mg x = some (.ref f) ∧ PySem.W.keepIn K (.ref f) = true ∧ Binds K fd ps []
theorem HasN.z (h : HasN P w K mg base G k x fn) : Has P w K mg base G k x fn := by
  obtain ⟨f, fd, ps, h1, h2⟩ := h
  exact ⟨f, fd, ps, fn_nz h1, h2⟩
def HasMN (P : Program) (w : World) (K : PySem.W.Frag) (mg : Str → Option Value) (base : Heap) (G : SCtx) (k c : Nat) (m : Str) (fn : FN) : Prop := ∃ (f : Addr) (fd : FuncData) (ps : List Str), FnOk P w K mg base (L2N.CX P w) k f fd ps (SpF K G fn) ∧ Meth K (G.adr c) m f ∧ Binds K fd ps []
theorem HasMN.z (h : HasMN P w K mg base G k c m fn) : HasM P w K mg base G k c m fn := by
  obtain ⟨f, fd, ps, h1, h2⟩ := h
  exact ⟨f, fd, ps, fn_nz h1, h2⟩
theorem takesN {N : List Str} {qual : Str} {sc : Scope} {f : Addr} {cdv : Value} {A : Around} {outer : List PySem.Env} {s : Shared} {H : Hp} {E : XK} : L2N.Takes (cxOf (L2N.CX P w) P w K mg base N qual sc f cdv A outer s H E) (fun cls d _ H => E cls d H) := L2N.takes_of rfl rfl rfl rfl
theorem passN {N : List Str} {qual : Str} {sc : Scope} {f : Addr} {cdv : Value} {A : Around} {outer : List PySem.Env} {s : Shared} {H : Hp} {E : XK} : PassesOwn (model P w) (cxOf (L2N.CX P w) P w K mg base N qual sc f cdv A outer s H E).A (cxOf (L2N.CX P w) P w K mg base N qual sc f cdv A outer s H E).env (cxOf (L2N.CX P w) P w K mg base N qual sc f cdv A outer s H E).xe := passes_of rfl
theorem takes0N {X : Cx} : L2N.Takes X (fun _ _ _ _ => False) := fun _ _ x => by
  obtain ⟨_, _, _, _, _, _, _, _, _, _, _, _, _, _, _, _, z⟩ := x
  exact z.elim
theorem fn_okN {qual : Str} {st : Stmt} {N : List Str} {b : SF} (Fu : Fun K x qual st fa fd) (S : FnScope N ps (defScope st))
    (hb : ∀ (cdv : Value) (A : Around) (outer : List PySem.Env) (s : Shared) (H : Hp) (E : XK), Room k (A.deeper (PyProof.Rows.envOfC qual (defScope st) s.heap.objs.size fa cdv)) →
      SB (cxOf (L2N.CX P w) P w K mg base N qual (defScope st) fa cdv A outer s H E) G (fun cls d _ H => E cls d H) (defBody st) b) :
    FnOk P w K mg base (L2N.CX P w) (k + 1) fa fd ps (SpF K G (fnOf ps.length N.length b)) := by
  obtain ⟨oc, od, kV, doc, pm, an, cdv, ct, osl, rfl, lk, hcd⟩ := Fu.ex
  refine fn_of lk hcd S (fun vs H Q E h => ?_) fun A outer s H vs Q E hr h => ⟨_, hb cdv A outer s H E hr, ?_⟩
  · obtain ⟨F, ρ, ds, s, r, hs, hp⟩ := h
    simp only [fnOf] at hp
    split at hp
    · rename_i hl
      rw [r.length, hl]
    · exact hp.elim
  · obtain ⟨F, ρ, ds, s, r, hs, hp⟩ := h
    simp only [fnOf] at hp
    split at hp
    · refine ⟨F, ρ, _, s, startE_rep r, hs, ?_⟩
      cases z : b (startE N.length ds) s with
      | nx e s' => rw [z] at hp; exact fun ρ' H' σ' a b _ => hp ρ' H' a b _ .non
      | rt d s' => rw [z] at hp; exact fun ρ' H' v a b r => hp ρ' H' a b v r
      | ex c e s' => rw [z] at hp; exact fun ρ' H' σ' a b _ => hp ρ' H' a b
      | bk e s' => rw [z] at hp; exact hp.elim
      | ct e s' => rw [z] at hp; exact hp.elim
      | no => rw [z] at hp; exact hp.elim
    · exact hp.elim
theorem has_okN {N : List Str} {b : SF} {st : Stmt} (d : DefAt K mg x st ps) (S : FnScope N ps (defScope st))
    (hb : ∀ (f : Addr) (cdv : Value) (A : Around) (outer : List PySem.Env) (s : Shared) (H : Hp) (E : XK), Room k (A.deeper (PyProof.Rows.envOfC x (defScope st) s.heap.objs.size f cdv)) →
      SB (cxOf (L2N.CX P w) P w K mg base N x (defScope st) f cdv A outer s H E) G (fun cls d _ H => E cls d H) (defBody st) b) :
    HasN P w K mg base G (k + 1) x (fnOf ps.length N.length b) := by
  obtain ⟨f, fd, h1, h2, h3⟩ := d
  exact ⟨f, fd, ps, fn_okN h1 S (fun cdv A outer s H E hr => hb f cdv A outer s H E hr), h2, h1.kp, h3⟩
/-- a method in the text -/
def MethAt (K : PySem.W.Frag) (C : Addr) (m qual : Str) (st : Stmt) (ps : List Str) : Prop := ∃ (f : Addr) (fd : FuncData), Fun K m qual st f fd ∧ Meth K C m f ∧ Binds K fd ps []
theorem has_okMN {N : List Str} {b : SF} {st : Stmt} {qual : Str} (d : MethAt K (G.adr c) m qual st ps) (S : FnScope N ps (defScope st))
    (hb : ∀ (f : Addr) (cdv : Value) (A : Around) (outer : List PySem.Env) (s : Shared) (H : Hp) (E : XK), Room k (A.deeper (PyProof.Rows.envOfC qual (defScope st) s.heap.objs.size f cdv)) →
      SB (cxOf (L2N.CX P w) P w K mg base N qual (defScope st) f cdv A outer s H E) G (fun cls d _ H => E cls d H) (defBody st) b) :
    HasMN P w K mg base G (k + 1) c m (fnOf ps.length N.length b) := by
  obtain ⟨f, fd, h1, h2, h3⟩ := d
  exact ⟨f, fd, ps, fn_okN h1 S (fun cdv A outer s H E hr => hb f cdv A outer s H E hr), h2, h3⟩
theorem has_okM {N : List Str} {b : SF} {st : Stmt} {qual : Str} (d : MethAt K (G.adr c) m qual st ps) (S : FnScope N ps (defScope st))
    (hb : ∀ (f : Addr) (cdv : Value) (A : Around) (outer : List PySem.Env) (s : Shared) (H : Hp) (E : XK), Room k (A.deeper (PyProof.Rows.envOfC qual (defScope st) s.heap.objs.size f cdv)) →
      SB (cxOf (L2.CX P w) P w K mg base N qual (defScope st) f cdv A outer s H E) G (fun cls d _ H => E cls d H) (defBody st) b) :
    HasM P w K mg base G (k + 1) c m (fnOf ps.length N.length b) := by
  obtain ⟨f, fd, h1, h2, h3⟩ := d
  exact ⟨f, fd, ps, fn_ok h1 S (fun cdv A outer s H E hr => hb f cdv A outer s H E hr), h2, h3⟩
def InitAt (K : PySem.W.Frag) (C : Addr) (qual : Str) (st : Stmt) (ps : List Str) : Prop := ∃ (f : Addr) (fd : FuncData), Fun K "__init__" qual st f fd ∧ Mk K C f ∧ Binds K fd ps []
theorem has_okI {N : List Str} {b : SF} {st : Stmt} {qual : Str} (d : InitAt K (G.adr c) qual st ps) (S : FnScope N ps (defScope st))
    (hb : ∀ (f : Addr) (cdv : Value) (A : Around) (outer : List PySem.Env) (s : Shared) (H : Hp) (E : XK), Room k (A.deeper (PyProof.Rows.envOfC qual (defScope st) s.heap.objs.size f cdv)) →
      SB (cxOf (L2.CX P w) P w K mg base N qual (defScope st) f cdv A outer s H E) G (fun cls d _ H => E cls d H) (defBody st) b) :
    HasI P w K mg base G (k + 1) c (fnOf ps.length N.length b) := by
  obtain ⟨f, fd, h1, h2, h3⟩ := d
  exact ⟨f, fd, ps, fn_ok h1 S (fun cdv A outer s H E hr => hb f cdv A outer s H E hr), h2, h3⟩
end
section
open PySem.Spec PyProof.Rows
variable {X : Cx} {G : SCtx} {W : WX} {C : Addr} {bmB : List Value} {B newId initId : String}
theorem pmk_own0N {x : Str} {p pos : Pos} (F : ExcBaseFacts B newId initId bmB) (q : PySem.W.excIn X.K C bmB newId = true) (gC : X.mg x = some (.ref C)) (kC : PySem.W.keepIn X.K (.ref C) = true) (r : Raises X (.ref C)) (hg : Gl X x)
    (hdb : (x == ("__debug__" : Str)) = false := by decide) : L2N.PMk X (.Call (.Name x p) [] [] pos) (fun _ H Q => Q (.ref C) none H) := by
  intro pins s σ H Q I h
  refine wpAny_Call_Name_kw (ld_glob I hg gC ?_ hdb)
  refine PySem.W.callWith_K0 I.kIn kC ?_
  show wpAny _ _ (call (.ref C) []) _ _ _
  obtain ⟨bm, N, nm, qn, bs, hdct, sn, sub, ab, col, dd, k0, k1, k2, k3, k5, mN, hC, hN, hni, T⟩ := exc_obj I.kIn q
  refine wpAny_call_exc_subT F T hC hN hni (fun h' e hm => ?_) (by show 0 ≤ sizeLine; exact Nat.zero_le _)
  exact L2N.mk_of I hm r h (I.hok.gone hm.new)
theorem ss_raiseN {x : Str} {c : Nat} {p pos pos' : Pos} (hx : ExcAt X.K X.mg x (G.adr c)) (hc : X.calm = true) (tk : L2N.Takes X W) (hg : Gl X x := by rfl) (hdb : (x == ("__debug__" : Str)) = false := by decide) :
    SS X G W (.Raise (some (.Call (.Name x p) [] [] pos)) none pos') (sRaise c) := by
  refine ps_imp (L2N.ps_raise hc tk (pmk_own0N PySem.F.excBase_ValueError hx.x hx.g hx.k (raises_own hx.b hx.t) hg hdb)) fun D σ H h => ?_
  obtain ⟨F, ρ, env, s, he, hs, hp⟩ := h
  exact hp ρ H σ (Ext.refl _ _) hs he
/-- in an except suite -/
theorem ss_raiseH {x : Str} {c : Nat} {p pos pos' : Pos} (hx : ExcAt X.K X.mg x (G.adr c)) (hc : L2H.HotC X) (tk : L2.Takes X W) (hg : Gl X x := by rfl) (hdb : (x == ("__debug__" : Str)) = false := by decide) :
    SS X G W (.Raise (some (.Call (.Name x p) [] [] pos)) none pos') (sRaise c) := by
  refine ps_imp (L2H.ps_raiseH hc tk (pmk_own0N PySem.F.excBase_ValueError hx.x hx.g hx.k (raises_own hx.b hx.t) hg hdb)) fun D σ H h => ?_
  obtain ⟨F, ρ, env, s, he, hs, hp⟩ := h
  exact hp ρ H σ (Ext.refl _ _) hs he
end
section
variable {X : Cx} {G : SCtx} {W : WX} {pos p apos : Pos} {e o : Expr} {es : List Expr} {g1 fa : AF} {fo : EF} {x m : Str} {fn : FN} {j k c : Nat}
theorem s_callN (h : HasN X.prog X.w X.K X.mg X.base G j x fn) (hr : Room k X.A) (hj : j ≤ k) (tk : L2N.Takes X W) (ha : SA X G W (e :: es) g1) (hg : Gl X x := by rfl)
    (hdb : (x == ("__debug__" : Str)) = false := by decide) (he : starEach (e :: es) X.env = (false, eval e X.env) :: starEach es X.env := by rfl) (hpl : (backTo pos (starEach es X.env)).any (·.1) = false := by rfl) :
    SE X G W (.Call (.Name x p) (e :: es) [] pos) (eCall fn g1) := by
  obtain ⟨f, fd, ps, h1, h2, h3, h4⟩ := h
  exact s_call (pe_callS h1 (hr.mono hj) hg h2 h3 h4 (fun σ => L2N.passAt tk σ) ha hdb he hpl)
theorem s_methN {pl : Sem Bool} (ho : SE X G W o fo) (hc : Cls X.K (G.adr c)) (hm : m ∉ G.fl c) (h : HasMN X.prog X.w X.K X.mg X.base G j c m fn) (hr : Room k X.A) (hj : j ≤ k) (tk : L2N.Takes X W) (ha : SA X G W (e :: es) fa)
    (hst : starEach (e :: es) X.env = (false, eval e X.env) :: starEach es X.env := by rfl) (hpl : (backTo pos (starEach es X.env)).any (·.1) = false := by rfl)
    (ht : eval (.Call (.Attribute o m apos) (e :: es) [] pos) X.env = (do
      let ov ← eval o X.env
      standAt apos.atName
      let (f, first) ← holding [ov] (getMethod ov m pl)
      callWith pos f first (backTo pos (starEach (e :: es) X.env)) (backToKw pos (keywordEach [] X.env))) := by rfl) :
    SE X G W (.Call (.Attribute o m apos) (e :: es) [] pos) (eMeth c fn fo fa) := by
  obtain ⟨f, fd, ps, h1, h2, h3⟩ := h
  refine pe_imp (pe_methS (E := WE W) ho hc h2 h1 (hr.mono hj) h3 (fun σ => L2N.passAt tk σ) ha hst hpl ht) fun σ H Q h => ?_
  obtain ⟨F, ρ, env, s, he, hs, hp⟩ := h
  refine tE.step he hs hp fun d s1 ρ1 H1 v _ he1 hs1 e1 r1 hp1 => ?_
  split at hp1
  · rename_i n _
    split at hp1
    · rename_i c' fs hx
      split at hp1
      · rename_i hcc
        subst hcc
        cases r1 with
        | ref hr =>
          obtain ⟨a, ha', dx, ws, e2, e3, rr⟩ := hs1.at hx
          rw [hr] at ha'
          cases ha'
          refine ⟨_, _, _, rfl, e2, noKey e3 hm, ?_⟩
          exact tA.step he1 hs1 hp1 fun ds s2 ρ2 H2 vs _ he2 hs2 e2' r2 hp2 => ⟨F, ρ2, _, s2, .cons ((Rep.ref hr).ext e2') r2, hs2, hp2⟩
      · exact hp1.elim
    · exact hp1.elim
  · exact hp1.elim
theorem s_methN0 {pl : Sem Bool} (ho : SE X G W o fo) (hc : Cls X.K (G.adr c)) (hm : m ∉ G.fl c) (h : HasMN X.prog X.w X.K X.mg X.base G j c m fn) (hr : Room k X.A) (hj : j ≤ k) (tk : L2N.Takes X W)
    (ht : eval (.Call (.Attribute o m apos) [] [] pos) X.env = (do
      let ov ← eval o X.env
      standAt apos.atName
      let (f, first) ← holding [ov] (getMethod ov m pl)
      callWith pos f first (backTo pos (starEach [] X.env)) (backToKw pos (keywordEach [] X.env))) := by rfl) :
    SE X G W (.Call (.Attribute o m apos) [] [] pos) (eMeth c fn fo aNil) := by
  obtain ⟨f, fd, ps, h1, h2, h3⟩ := h
  refine pe_imp (pe_methS0 (E := WE W) ho hc h2 h1 (hr.mono hj) h3 (fun σ => L2N.passAt tk σ) ht) fun σ H Q h => ?_
  obtain ⟨F, ρ, env, s, he, hs, hp⟩ := h
  refine tE.step he hs hp fun d s1 ρ1 H1 v _ he1 hs1 e1 r1 hp1 => ?_
  split at hp1
  · rename_i n _
    split at hp1
    · rename_i c' fs hx
      split at hp1
      · rename_i hcc
        subst hcc
        cases r1 with
        | ref hr =>
          obtain ⟨a, ha', dx, ws, e2, e3, rr⟩ := hs1.at hx
          rw [hr] at ha'
          cases ha'
          refine ⟨_, _, _, rfl, e2, noKey e3 hm, ?_⟩
          exact ⟨F, ρ1, _, s1, .cons (.ref hr) .nil, hs1, hp1⟩
      · exact hp1.elim
    · exact hp1.elim
  · exact hp1.elim
end
end Sx

/-! PxT: except suites that call and raise. -/
namespace Sx
open PySem L2
/-- try: g, except the c-th: h, which may raise -/
def sTryX (n c : Nat) (g h : SF) : SF := fun env s => match g env s with
  | .ex c' e s' => if c' = c then h e s' else if c' < n then .ex c' e s' else .no
  | r => r
section
variable {P : Program} {w : World} {K : PySem.W.Frag} {mg : Str → Option Value} {base : Heap} {G : SCtx} {k : Nat} {fa : Addr} {fd : FuncData} {ps : List Str} {sp : Sp} {x m : Str} {fn : FN} {c : Nat}
/-- a method's meaning where an exception is handled -/
def HasMH (P : Program) (w : World) (K : PySem.W.Frag) (mg : Str → Option Value) (base : Heap) (G : SCtx) (k c : Nat) (m : Str) (fn : FN) : Prop := ∃ (f : Addr) (fd : FuncData) (ps : List Str), L2H.FnH P w K mg base (L2.CX P w) k f fd ps (SpF K G fn) ∧ Meth K (G.adr c) m f ∧ Binds K fd ps []
theorem hotH {CX : CXT} {N : List Str} {qual : Str} {sc : Scope} {f : Addr} {cd : Value} {A : Around} {outer : List PySem.Env} {s : Shared} {H : Hp} {E : XK} {p : Addr × Obj} (h : L2H.Hot1 A p) : L2H.HotC (L2H.cxH CX P w K mg base N qual sc f cd A outer s H E p) := ⟨p, h, List.mem_singleton.mpr rfl⟩
theorem takesH {N : List Str} {qual : Str} {sc : Scope} {f : Addr} {cdv : Value} {A : Around} {outer : List PySem.Env} {s : Shared} {H : Hp} {E : XK} {p : Addr × Obj} : Takes (L2H.cxH (L2.CX P w) P w K mg base N qual sc f cdv A outer s H E p) (fun cls d _ H => E cls d H) := takes_of rfl rfl rfl rfl
theorem has_okMH {N : List Str} {b : SF} {st : Stmt} {qual : Str} (d : MethAt K (G.adr c) m qual st ps) (S : FnScope N ps (defScope st))
    (hb : ∀ (f : Addr) (cdv : Value) (A : Around) (outer : List PySem.Env) (s : Shared) (H : Hp) (E : XK) (p : Addr × Obj), L2H.Hot1 A p → L2H.RoomH k (A.deeper (PyProof.Rows.envOfC qual (defScope st) s.heap.objs.size f cdv)) →
      SB (L2H.cxH (L2.CX P w) P w K mg base N qual (defScope st) f cdv A outer s H E p) G (fun cls d _ H => E cls d H) (defBody st) b) :
    HasMH P w K mg base G (k + 1) c m (fnOf ps.length N.length b) := by
  obtain ⟨f, fd, Fu, h2, h3⟩ := d
  refine ⟨f, fd, ps, ?_, h2, h3⟩
  obtain ⟨oc, od, kV, doc, pm, an, cdv, ct, osl, rfl, lk, hcd⟩ := Fu.ex
  refine L2H.fn_ofH lk hcd S (fun vs H Q E h => ?_) fun A outer s H vs Q E p hot hr h => ⟨_, hb f cdv A outer s H E p hot hr, ?_⟩
  · obtain ⟨F, ρ, ds, s, r, hs, hp⟩ := h
    simp only [fnOf] at hp
    split at hp
    · rename_i hl
      rw [r.length, hl]
    · exact hp.elim
  · obtain ⟨F, ρ, ds, s, r, hs, hp⟩ := h
    simp only [fnOf] at hp
    split at hp
    · refine ⟨F, ρ, _, s, startE_rep r, hs, ?_⟩
      cases z : b (startE N.length ds) s with
      | nx e s' => rw [z] at hp; exact fun ρ' H' σ' a b _ => hp ρ' H' a b _ .non
      | rt d s' => rw [z] at hp; exact fun ρ' H' v a b r => hp ρ' H' a b v r
      | ex c e s' => rw [z] at hp; exact fun ρ' H' σ' a b _ => hp ρ' H' a b
      | bk e s' => rw [z] at hp; exact hp.elim
      | ct e s' => rw [z] at hp; exact hp.elim
      | no => rw [z] at hp; exact hp.elim
    · exact hp.elim
end
section
variable {X : Cx} {G : SCtx} {W : WX} {pos p apos : Pos} {e o : Expr} {es : List Expr} {g1 fa : AF} {fo : EF} {x m : Str} {fn : FN} {j k c : Nat}
theorem s_methH {pl : Sem Bool} (ho : SE X G W o fo) (hc : Cls X.K (G.adr c)) (hm : m ∉ G.fl c) (h : HasMH X.prog X.w X.K X.mg X.base G j c m fn) (hr : L2H.RoomH k X.A) (hj : j ≤ k) (hot : L2H.HotC X) (tk : L2.Takes X W) (ha : SA X G W (e :: es) fa)
    (hst : starEach (e :: es) X.env = (false, eval e X.env) :: starEach es X.env := by rfl) (hpl : (backTo pos (starEach es X.env)).any (·.1) = false := by rfl)
    (ht : eval (.Call (.Attribute o m apos) (e :: es) [] pos) X.env = (do
      let ov ← eval o X.env
      standAt apos.atName
      let (f, first) ← holding [ov] (getMethod ov m pl)
      callWith pos f first (backTo pos (starEach (e :: es) X.env)) (backToKw pos (keywordEach [] X.env))) := by rfl) :
    SE X G W (.Call (.Attribute o m apos) (e :: es) [] pos) (eMeth c fn fo fa) := by
  obtain ⟨f, fd, ps, h1, h2, h3⟩ := h
  refine pe_imp (L2H.pe_methH (E := WE W) ho hc h2 h1 (hr := ⟨by have := hr.dp; omega, by have := hr.un; omega⟩) hot h3 (fun σ => passAt tk σ) ha hst hpl ht) fun σ H Q h => ?_
  obtain ⟨F, ρ, env, s, he, hs, hp⟩ := h
  refine tE.step he hs hp fun d s1 ρ1 H1 v _ he1 hs1 e1 r1 hp1 => ?_
  split at hp1
  · rename_i n _
    split at hp1
    · rename_i c' fs hx
      split at hp1
      · rename_i hcc
        subst hcc
        cases r1 with
        | ref hr =>
          obtain ⟨a, ha', dx, ws, e2, e3, rr⟩ := hs1.at hx
          rw [hr] at ha'
          cases ha'
          refine ⟨_, _, _, rfl, e2, noKey e3 hm, ?_⟩
          exact tA.step he1 hs1 hp1 fun ds s2 ρ2 H2 vs _ he2 hs2 e2' r2 hp2 => ⟨F, ρ2, _, s2, .cons ((Rep.ref hr).ext e2') r2, hs2, hp2⟩
      · exact hp1.elim
    · exact hp1.elim
  · exact hp1.elim
theorem ss_tryX {np pos' : Pos} {body suite : List Stmt} {b₀ : Stmt} {g h : SF} (n : Nat) (hx : ExcAt X.K X.mg x (G.adr c)) (ho : ∀ c', c' < n → c' ≠ c → PySem.W.exmOne X.K (.ref (G.adr c')) (.ref (G.adr c)) = some false)
    (hs : X.stack = X.env :: X.outer) (hf : X.env.frame = some X.env.locals) (hpa : ∀ hd : Option Value, PassesOwnAt (model X.prog X.w) (X.A.mark hd) X.A X.env X.xe) (tk : L2.Takes X W)
    (hb : ∀ (W : WX) (pn : List (Addr × Obj)) (xe : Value → Shared → Prop), L2N.Takes (X.tr pn xe) W → PassesOwn (model X.prog X.w) X.A X.env xe → SB (X.tr pn xe) G W body g)
    (hsu : ∀ (a : Addr) (pn : List (Addr × Obj)), L2.Takes (L2H.suiteX X a pn) W → L2H.HotC (L2H.suiteX X a pn) → SB (L2H.suiteX X a pn) G W (b₀ :: suite) h) (hg : Gl X x := by rfl) (hdb : (x == ("__debug__" : Str)) = false := by decide) :
    SS X G W (.Try body [.ExceptHandler (some (.Name x np)) none (b₀ :: suite) pos'] [] [] pos) (sTryX n c g h) := by
  refine ps_imp (L2H.ps_try_onlyX (c := .ref (G.adr c)) (tb := fun W => tS X.K G W g) (ts := fun _ _ _ => tS X.K G W h) (Wout := W) hs hf ⟨hg, hdb, Or.inl hx.g⟩ hpa tk (fun W pn xe t1 _ po => hb W pn xe t1 po) (fun a oe cls d pn _ _ t1 hot => hsu a ((a, oe) :: pn) t1 hot)) fun D σ H hh => ?_
  obtain ⟨F, ρ, env, s, he, hs', hp⟩ := hh
  refine ⟨F, ρ, env, s, he, hs', ?_⟩
  simp only [sTryX] at hp
  cases z : g env s with
  | nx e s1 => rw [z] at hp; exact hp
  | rt d s1 => rw [z] at hp; exact hp
  | bk e s1 => rw [z] at hp; exact hp
  | ct e s1 => rw [z] at hp; exact hp
  | no => rw [z] at hp; exact hp
  | ex c' e s1 =>
    rw [z] at hp
    simp only at hp
    intro ρ1 H1 σ1 e1 q1 he1
    by_cases hcc : c' = c
    · rw [if_pos hcc] at hp
      subst hcc
      exact ⟨true, hx.e, fun _ a ha => ⟨F, ρ1, e, s1, he1, q1, PstS.ext e1 hp⟩, fun k => by cases k⟩
    · rw [if_neg hcc] at hp
      split at hp
      · rename_i hlt
        exact ⟨false, ho c' hlt hcc, fun k => (by cases k), fun _ => hp ρ1 H1 σ1 e1 q1 he1⟩
      · exact hp.elim
end
end Sx

/-! PxY: several except clauses; simp rows for sTryX, sTryM. -/
theorem L2H.RoomH.units {k : Nat} {A : PySem.Around} (r : L2H.RoomH k A) : A.units + 64 < PySem.cLine := by have := r.un; omega
namespace Sx
open PySem L2
/-- the clauses one after the other; they raise nothing -/
def tryC (n : Nat) : List (Nat × SF) → Nat → SF
  | [], c, e, s => if c < n then .ex c e s else .no
  | (c', h) :: r, c, e, s => if c = c' then kTryS (h e s) else if c < n then tryC n r c e s else .no
def sTryM (n : Nat) (g : SF) (cs : List (Nat × SF)) : SF := fun env s => match g env s with
  | .ex c e s' => tryC n cs c e s'
  | r => r
section
open PySem.Spec PyProof.Rows
variable {X : Cx} {G : SCtx} {W : WX} {n : Nat}
inductive ClOk (X : Cx) (G : SCtx) (n : Nat) : List ExceptHandler → List (Nat × SF) → Prop
  | nil : ClOk X G n [] []
  | cons {x : Str} {c : Nat} {np pos' : Pos} {suite : List Stmt} {b₀ : Stmt} {h : SF} {hds : List ExceptHandler} {l : List (Nat × SF)}
      (hx : ExcAt X.K X.mg x (G.adr c)) (ho : ∀ c', c' < n → c' ≠ c → PySem.W.exmOne X.K (.ref (G.adr c')) (.ref (G.adr c)) = some false)
      (hsu : ∀ (a : Addr) (pn : List (Addr × Obj)), SB (X.suite a pn) G W0 (b₀ :: suite) h) (hg : Gl X x) (hdb : (x == ("__debug__" : Str)) = false) (r : ClOk X G n hds l) :
      ClOk X G n (.ExceptHandler (some (.Name x np)) none (b₀ :: suite) pos' :: hds) ((c, h) :: l)
def clW (K : PySem.W.Frag) (G : SCtx) (l : List (Nat × SF)) : List (Value × (Addr → Value → Option Addr → TS)) := l.map fun p => (.ref (G.adr p.1), fun _ _ _ => tS K G W0 p.2)
theorem ClOk.hds {hds : List ExceptHandler} {l : List (Nat × SF)} (h : ClOk X G n hds l) : HdsOk X hds (clW X.K G l) := by
  induction h with
  | nil => exact .nil
  | cons hx ho hsu hg hdb r ih => exact .cons ⟨hg, hdb, Or.inl hx.g⟩ (fun a oe cls d pn _ _ => hsu a ((a, oe) :: pn)) ih
theorem clW_of {hds : List ExceptHandler} {l : List (Nat × SF)} (h : ClOk X G n hds l) {D : Ends} {F ρ ρ1 : List Addr} {H H1 : Hp} {σ1 : L2.St} {c' : Nat} {e : Env} {s1 : Sto}
    (e1 : Ext ρ H ρ1 H1) (q1 : SRel X.K G F ρ1 H1 s1) (he1 : EnvR X.K F ρ1 H1 σ1 e) (hp : PstS X.K G W F ρ H (tryC n l c' e s1) D) : wMany X.K W D (clW X.K G l) (.ref (G.adr c')) none σ1 H1 := by
  induction h with
  | nil =>
    simp only [tryC] at hp
    split at hp
    · exact hp ρ1 H1 σ1 e1 q1 he1
    · exact hp.elim
  | @cons x c np pos' suite b₀ h hds l hx ho hsu hg hdb r ih =>
    simp only [tryC] at hp
    by_cases hcc : c' = c
    · rw [if_pos hcc] at hp
      subst hcc
      refine ⟨true, hx.e, fun _ a ha => ⟨F, ρ1, e, s1, he1, q1, ?_⟩, fun k => by cases k⟩
      cases z2 : h e s1 with
      | ex => rw [z2] at hp; exact hp.elim
      | no => rw [z2] at hp; exact hp.elim
      | nx e2 s2 => rw [z2] at hp; show PstS X.K G W0 F ρ1 H1 (h e s1) D; rw [z2]; exact PstS.ext e1 hp
      | rt e2 s2 => rw [z2] at hp; show PstS X.K G W0 F ρ1 H1 (h e s1) D; rw [z2]; exact PstS.ext e1 hp
      | bk e2 s2 => rw [z2] at hp; show PstS X.K G W0 F ρ1 H1 (h e s1) D; rw [z2]; exact PstS.ext e1 hp
      | ct e2 s2 => rw [z2] at hp; show PstS X.K G W0 F ρ1 H1 (h e s1) D; rw [z2]; exact PstS.ext e1 hp
    · rw [if_neg hcc] at hp
      split at hp
      · rename_i hlt
        exact ⟨false, ho c' hlt hcc, fun k => (by cases k), fun _ => ih hp⟩
      · exact hp.elim
theorem ss_tryM {pos : Pos} {body : List Stmt} {h₀ : ExceptHandler} {hds : List ExceptHandler} {l : List (Nat × SF)} {g : SF}
    (hs : X.stack = X.env :: X.outer) (hf : X.env.frame = some X.env.locals) (tk : Takes X W)
    (hb : ∀ (W : WX) (pn : List (Addr × Obj)) (xe : Value → Shared → Prop), Takes (X.tr pn xe) W → PassesOwn (model X.prog X.w) X.A X.env xe → SB (X.tr pn xe) G W body g)
    (hc : ClOk X G n (h₀ :: hds) l) : SS X G W (.Try body (h₀ :: hds) [] [] pos) (sTryM n g l) := by
  refine ps_imp (ps_try_many (tb := fun W => tS X.K G W g) (Wout := W) hs hf tk hb hc.hds) fun D σ H hh => ?_
  obtain ⟨F, ρ, env, s, he, hs', hp⟩ := hh
  refine ⟨F, ρ, env, s, he, hs', ?_⟩
  simp only [sTryM] at hp
  cases z : g env s with
  | nx e s1 => rw [z] at hp; exact hp
  | rt d s1 => rw [z] at hp; exact hp
  | bk e s1 => rw [z] at hp; exact hp
  | ct e s1 => rw [z] at hp; exact hp
  | no => rw [z] at hp; exact hp
  | ex c' e s1 =>
    rw [z] at hp
    intro ρ1 H1 σ1 e1 q1 he1
    exact clW_of hc e1 q1 he1 hp
end
/-! ### simp rows -/
section
variable {env : Env} {s : Sto} {n c : Nat} {g h : SF}
def kTryX (n c : Nat) (h : SF) : SR → SR
  | .ex c' e s' => if c' = c then h e s' else if c' < n then .ex c' e s' else .no
  | r => r
@[simp] theorem kTryX_ex {c' : Nat} {e : Env} : kTryX n c h (.ex c' e s) = if c' = c then h e s else if c' < n then .ex c' e s else .no := rfl
@[simp] theorem kTryX_nx {e : Env} : kTryX n c h (.nx e s) = .nx e s := rfl
@[simp] theorem kTryX_rt {d : D} : kTryX n c h (.rt d s) = .rt d s := rfl
@[simp] theorem kTryX_bk {e : Env} : kTryX n c h (.bk e s) = .bk e s := rfl
@[simp] theorem kTryX_ct {e : Env} : kTryX n c h (.ct e s) = .ct e s := rfl
@[simp] theorem sTryX_v : sTryX n c g h env s = kTryX n c h (g env s) := by
  unfold sTryX kTryX
  cases g env s <;> rfl
def kTryM (n : Nat) (cs : List (Nat × SF)) : SR → SR
  | .ex c e s' => tryC n cs c e s'
  | r => r
@[simp] theorem kTryM_ex {cs : List (Nat × SF)} {c' : Nat} {e : Env} : kTryM n cs (.ex c' e s) = tryC n cs c' e s := rfl
@[simp] theorem kTryM_nx {cs : List (Nat × SF)} {e : Env} : kTryM n cs (.nx e s) = .nx e s := rfl
@[simp] theorem kTryM_rt {cs : List (Nat × SF)} {d : D} : kTryM n cs (.rt d s) = .rt d s := rfl
@[simp] theorem kTryM_bk {cs : List (Nat × SF)} {e : Env} : kTryM n cs (.bk e s) = .bk e s := rfl
@[simp] theorem kTryM_ct {cs : List (Nat × SF)} {e : Env} : kTryM n cs (.ct e s) = .ct e s := rfl
@[simp] theorem tryC_cons {cs : List (Nat × SF)} {c' : Nat} {e : Env} : tryC n ((c', h) :: cs) c e s = if c = c' then kTryS (h e s) else if c < n then tryC n cs c e s else .no := rfl
@[simp] theorem sTryM_v {cs : List (Nat × SF)} : sTryM n g cs env s = kTryM n cs (g env s) := by
  unfold sTryM kTryM
  cases g env s <;> rfl
end
end Sx

/-! PxJ: name = [..], the stores exchanged. -/
namespace Sx
open PySem L2
section
variable {X : Cx} {G : SCtx} {W : WX} {pos : Pos} {e a b c tg : Expr} {f f1 f2 f3 : EF} {gt : GF} {i : IF}
theorem ss_setLc (k : Nat) {y : Str} {py spos : Pos} {elt iter : Expr} {ifs : List Expr} {scope : Scope} {own : List (Str × Nat)} {t : TF} {gtt : TG} (hc : X.calm = true) (hN : X.N.Nodup) (hy : X.N[k]? = some y) (hyl : X.env.scope.names.lookup y = some .local)
    (hi : SI X G W tg iter i) (ok : BlkOk X.N X.env.scope scope own) (cg : CG X.K gt gtt (own.map (·.2)))
    (hg : ∀ (s : Shared) (H : Hp) (C : Addr) (cl : List (Str × Addr)) (fp : List Addr), PG (X.blk s H scope (compEnvC scope cl C X.env) fp) tg gtt)
    (ht : ∀ (s : Shared) (H : Hp) (C : Addr) (cl : List (Str × Addr)) (fp : List Addr), PTs (X.blk s H scope (compEnvC scope cl C X.env) fp) ifs (tTT X.K G W0 t))
    (he : ∀ (s : Shared) (H : Hp) (C : Addr) (cl : List (Str × Addr)) (fp : List Addr), SE (X.blk s H scope (compEnvC scope cl C X.env) fp) G W0 elt f)
    (hsw : swapsWith (.ListComp elt [⟨tg, iter, ifs, 0⟩] scope pos) (some (.Name y py)) spos.line X.env = pure true) (hs : ∀ x, foldedSetIterable iter X.env x = pure x := by intro _; rfl) :
    SS X G W (.Assign [.Name y py] (.ListComp elt [⟨tg, iter, ifs, 0⟩] scope pos) spos) (sAsg (eLc i gt t f (own.map (·.2))) (gVar k)) := by
  refine ps_imp (ps_setLc (te := tE X.K G W0 f) hc hN hy hyl hsw hi ok hg ht he hs) fun D σ H h => ?_
  obtain ⟨F, ρ, env, s, hen, hsr, hp⟩ := h
  obtain ⟨F, ρ, env, s, hen, hsr, hp⟩ := (tE.first hen hsr hp fun d s1 ρ1 H1 v he1 hs1 e1 r1 hp1 => hp1 ρ1 H1 _ (Ext.refl _ _) hs1 (he1.set k r1) : tE X.K G W (eLc i gt t f (own.map (·.2))) σ H fun x H1 => D.nx (σ.set k (some x)) H1)
  refine ⟨F, ρ, env, s, hen, hsr, hp.bind.imp (fun ds s1 ρ1 H1 _ e1 hs1 hp1 J hJ D0 hD => ?_) fun _ _ h => h⟩
  split at hp1
  · rename_i hl
    split at hp1
    · rename_i q hq
      refine lc_sound (Q := fun x H1 => gName k x σ H1 D.nx) cg (hen.ext e1) hs1 hJ hl hD hq fun ρ' H' vacc e hs' hv r => ?_
      exact hp1 ρ' H' e (hs'.subF fun a ha => List.mem_cons_of_mem _ ha) _ (Rep.ofD hs' (hs1.fresh hD).1 hv r)
    · exact hp1.elim
  · exact hp1.elim
theorem ss_setLcN (k : Nat) {y : Str} {py spos : Pos} {elt iter : Expr} {ifs : List Expr} {scope : Scope} {own : List (Str × Nat)} {t : TF} {gtt : TG} (hc : X.calm = true) (hN : X.N.Nodup) (hy : X.N[k]? = some y) (hyl : X.env.scope.names.lookup y = some .local)
    (hi : SI X G W tg iter i) (ok : BlkOk X.N X.env.scope scope own) (cg : CG X.K gt gtt (own.map (·.2)))
    (hg : ∀ (s : Shared) (H : Hp) (C : Addr) (cl : List (Str × Addr)) (fp : List Addr), PG (X.blk s H scope (compEnvC scope cl C X.env) fp) tg gtt)
    (ht : ∀ (s : Shared) (H : Hp) (C : Addr) (cl : List (Str × Addr)) (fp : List Addr), PTs (X.blk s H scope (compEnvC scope cl C X.env) fp) ifs (tTT X.K G W0 t))
    (he : ∀ (s : Shared) (H : Hp) (C : Addr) (cl : List (Str × Addr)) (fp : List Addr), SE (X.blk s H scope (compEnvC scope cl C X.env) fp) G W0 elt f)
    (hsw : swapsWith (.ListComp elt [⟨tg, iter, ifs, 0⟩] scope pos) (some (.Name y py)) spos.line X.env = pure true) (hs : ∀ x, foldedSetIterable iter X.env x = pure x := by intro _; rfl) :
    SS X G W (.Assign [.Name y py] (.ListComp elt [⟨tg, iter, ifs, 0⟩] scope pos) spos) (sAsg (eLcN i gt t f (own.map (·.2))) (gVar k)) := by
  refine ps_imp (ps_setLc (te := tE X.K G W0 f) hc hN hy hyl hsw hi ok hg ht he hs) fun D σ H h => ?_
  obtain ⟨F, ρ, env, s, hen, hsr, hp⟩ := h
  obtain ⟨F, ρ, env, s, hen, hsr, hp⟩ := (tE.first hen hsr hp fun d s1 ρ1 H1 v he1 hs1 e1 r1 hp1 => hp1 ρ1 H1 _ (Ext.refl _ _) hs1 (he1.set k r1) : tE X.K G W (eLcN i gt t f (own.map (·.2))) σ H fun x H1 => D.nx (σ.set k (some x)) H1)
  refine ⟨F, ρ, env, s, hen, hsr, hp.bind.imp (fun ds s1 ρ1 H1 _ e1 hs1 hp1 J hJ D0 hD => ?_) fun _ _ h => h⟩
  split at hp1
  · rename_i hl
    split at hp1
    · rename_i q hq
      refine lc_sound (Q := fun x H1 => gName k x σ H1 D.nx) cg (hen.ext e1) hs1 hJ hl hD hq fun ρ' H' vacc e hs' hv r => ?_
      have hn : D0 ∉ ρ' := fun z => hs'.dis _ z List.mem_cons_self
      have hF := (hs1.fresh hD).1
      have hs2 : SRel X.K G F ρ' H' q.2 := hs'.subF fun a ha => List.mem_cons_of_mem _ ha
      have e3 : Ext ρ1 H1 (ρ' ++ [D0]) H' := by
        obtain ⟨⟨⟨n, hn1, hn2⟩, k, m⟩, kf⟩ := e
        refine ⟨⟨⟨n ++ [D0], by rw [hn1]; simp, fun a ha => ?_⟩, k, m⟩, kf⟩
        rcases List.mem_append.mp ha with z | z
        · exact hn2 a z
        · simp at z; subst z; exact hD
      refine hp1 (ρ' ++ [D0]) H' e3 (hs'.grow hF hv r) _ (.ref ?_)
      rw [← hs2.len]; simp
    · exact hp1.elim
  · exact hp1.elim
end
end Sx

/-! PxR: constants of the module that are tuples; max of a list; sorted numbers; texts of numbers, joined; places and counts in texts. -/
namespace Sx
open PySem L2
/-- a name of the module for a tuple of constants -/
def TupG (K : PySem.W.Frag) (mg : Str → Option Value) (x : Str) (vs : List V) : Prop := ∃ (a : Addr) (o : Obj) (its : Array Value) (n : Nat), mg x = some (.ref a) ∧ K.lookup a = some o ∧ o.cls = .type "tuple" ∧ o.data = .seq its n ∧ its.size ≤ sizeLine ∧ Vals vs its.toList
section
variable {X : Cx} {G : SCtx} {W : WX} {pos p : Pos} {e a b c : Expr} {es : List Expr} {f f1 f2 f3 : EF} {g1 : AF} {x : Str}
theorem s_globT {vs : List V} {ds : List D} (h : TupG X.K X.mg x vs) (r : ∀ F ρ H, Reps X.K F ρ H vs ds) (hg : Gl X x := by rfl) (hd : (x == ("__debug__" : Str)) = false := by decide) : SE X G W (.Name x pos) (eC (.tup ds)) := by
  obtain ⟨a, o, its, n, h1, h2, h3, h4, h5, h6⟩ := h
  exact s_glob (v := .ref a) hg h1 rfl (fun F ρ H => .tup (.inr fun H' => .inr ⟨o, its, n, h2, h3, h4, h5, h6⟩) (r F ρ H)) hd
end
end Sx

/-! PxS: dicts with numbers and texts as keys; texts of numbers, joined; places and counts in texts; max of a list. -/
namespace Sx
open PySem L2
def keyD : D → Option Key
  | .int i => some (.inl i)
  | .str x => some (.inr x)
  | _ => none
def dicOf (s : Sto) : D → Option (List (Key × D))
  | .ref n => match s[n]? with
    | some (.dic kvs) => some kvs
    | _ => none
  | _ => none
def valD (kvs : List (Key × D)) (k : Key) : Option D := (kvs.find? fun kv => decide (kv.1 = k)).map (·.2)
def putDc (kvs : List (Key × D)) (k : Key) (v : D) : List (Key × D) :=
  if (kvs.any fun kv => decide (kv.1 = k)) = true then kvs.map (fun kv => if kv.1 = k then (kv.1, v) else kv) else kvs ++ [(k, v)]
def eNewD : EF := fun _ s => .ok (.ref s.length) (s ++ [.dic []])
def opDGet (s : Sto) (a b : D) : Option D := match dicOf s a, keyD b with
  | some kvs, some k => valD kvs k
  | _, _ => none
def opDIn (s : Sto) (a b : D) : Option D := match dicOf s b, keyD a with
  | some kvs, some k => some (.bl (valD kvs k).isSome)
  | _, _ => none
def opDNotIn (s : Sto) (a b : D) : Option D := match dicOf s b, keyD a with
  | some kvs, some k => some (.bl (!(valD kvs k).isSome))
  | _, _ => none
def setDc (s : Sto) (o i d : D) : Option Sto := match o with
  | .ref n => match dicOf s (.ref n), keyD i with
    | some kvs, some k => if kvs.length < LIM then some (s.set n (.dic (putDc kvs k d))) else none
    | _, _ => none
  | _ => none
def sDSet (fo fi fv : EF) : SF := fun env s => SR.ofR (fv env s) env fun d s1 => SR.ofR (fo env s1) env fun o s2 => SR.ofR (fi env s2) env fun i s3 => match setDc s3 o i d with
  | some s4 => .nx env s4
  | none => .no
def getDc (s : Sto) (o k x : D) : Option D := match dicOf s o, keyD k with
  | some kvs, some kk => some ((valD kvs kk).getD x)
  | _, _ => none
def eDGet2 (fo fk fx : EF) : EF := fun env s => (fo env s).bind fun o s1 => match dicOf s1 o with
  | some _ => (fk env s1).bind fun k s2 => (fx env s2).bind fun x s3 => R.of (getDc s3 o k x) s3
  | none => .no
def fLenD (s : Sto) (as : List D) : Option D := match as with
  | [a] => (dicOf s a).map fun kvs => .int kvs.length
  | _ => none
/-- lists of pairs -/
def pairsD : List D → Option (List (Key × D))
  | [] => some []
  | .tup [k, v] :: ds => match keyD k, pairsD ds with
    | some kk, some r => some ((kk, v) :: r)
    | _, _ => none
  | _ :: _ => none
def mergeDc (kvs more : List (Key × D)) : List (Key × D) := more.foldl (fun acc kv => putDc acc kv.1 kv.2) kvs
/-- dict([..pairs..]) -/
def eDict (g : AF) : EF := fun env s => (g env s).bind fun as s1 => match as with
  | [a] => match lstOf s1 a with
    | some xs => match pairsD xs with
      | some kvs => .ok (.ref s1.length) (s1 ++ [.dic (mergeDc [] kvs)])
      | none => .no
    | none => .no
  | _ => .no
section
variable {K : PySem.W.Frag} {G : SCtx} {F ρ : List Addr} {H : Hp} {s : Sto}
def DicR (K : PySem.W.Frag) (F ρ : List Addr) (H : Hp) (ws : List (Key × V)) (kvs : List (Key × D)) : Prop := ws.map (·.1) = kvs.map (·.1) ∧ Reps K F ρ H (ws.map (·.2)) (kvs.map (·.2))
theorem key_rep {v : V} {d : D} {k : Key} (r : Rep K F ρ H v d) (h : keyD d = some k) : v = L2.kV k := by
  cases r <;> simp only [keyD] at h <;> first | cases h; rfl | cases h
theorem dicOf_rep (hs : SRel K G F ρ H s) {v : V} {d : D} {kvs : List (Key × D)} (r : Rep K F ρ H v d) (h : dicOf s d = some kvs) : ∃ a n ws, v = .ref a ∧ d = .ref n ∧ ρ[n]? = some a ∧ s[n]? = some (.dic kvs) ∧ H a = some (.dK ws) ∧ DicR K F ρ H ws kvs := by
  unfold dicOf at h
  split at h
  · rename_i n
    split at h
    · rename_i kvs' hx
      cases h
      cases r with
      | ref hr =>
        obtain ⟨a, ha, ws, e1, e2, e3⟩ := hs.at hx
        rw [hr] at ha
        cases ha
        exact ⟨_, _, ws, rfl, rfl, hr, hx, e1, e2, e3⟩
    · cases h
  · cases h
theorem val_rep (k : Key) : ∀ {kvs : List (Key × D)} {ws : List (Key × V)}, DicR K F ρ H ws kvs → (∀ d, valD kvs k = some d → ∃ v, valV ws k = some v ∧ Rep K F ρ H v d) ∧ (valD kvs k = none → valV ws k = none)
  | [], [], _ => ⟨fun d h => (by cases h), fun _ => rfl⟩
  | [], w :: ws, h => by have := h.1; simp at this
  | p :: kvs, [], h => by have := h.1; simp at this
  | p :: kvs, w :: ws, h => by
    obtain ⟨h1, h2⟩ := h
    simp only [List.map_cons, List.cons.injEq] at h1
    cases h2 with
    | cons r t =>
      have ih := val_rep k (kvs := kvs) (ws := ws) ⟨h1.2, t⟩
      by_cases c : p.1 = k
      · have e1 : valD (p :: kvs) k = some p.2 := by simp [valD, List.find?_cons, c]
        have e2 : valV (w :: ws) k = some w.2 := by simp [valV, List.find?_cons, h1.1, c]
        rw [e1, e2]
        exact ⟨fun d h => (by cases h; exact ⟨_, rfl, r⟩), fun h => (by cases h)⟩
      · have e1 : valD (p :: kvs) k = valD kvs k := by simp [valD, List.find?_cons, c]
        have e2 : valV (w :: ws) k = valV ws k := by simp [valV, List.find?_cons, h1.1, c]
        rw [e1, e2]
        exact ih
theorem any_keys (k : Key) : ∀ {kvs : List (Key × D)} {ws : List (Key × V)}, ws.map (·.1) = kvs.map (·.1) → (ws.any fun kv => decide (kv.1 = k)) = (kvs.any fun kv => decide (kv.1 = k))
  | [], [], _ => rfl
  | [], w :: ws, h => by simp at h
  | p :: kvs, [], h => by simp at h
  | p :: kvs, w :: ws, h => by
    simp only [List.map_cons, List.cons.injEq] at h
    simp only [List.any_cons, h.1, any_keys k h.2]
theorem map_rep (k : Key) {v : V} {d : D} (r : Rep K F ρ H v d) : ∀ {kvs : List (Key × D)} {ws : List (Key × V)}, DicR K F ρ H ws kvs → DicR K F ρ H (ws.map fun kv => if kv.1 = k then (kv.1, v) else kv) (kvs.map fun kv => if kv.1 = k then (kv.1, d) else kv)
  | [], [], h => h
  | [], w :: ws, h => by have := h.1; simp at this
  | p :: kvs, [], h => by have := h.1; simp at this
  | p :: kvs, w :: ws, h => by
    obtain ⟨h1, h2⟩ := h
    simp only [List.map_cons, List.cons.injEq] at h1
    cases h2 with
    | cons r' t =>
      obtain ⟨i1, i2⟩ := map_rep k r (kvs := kvs) (ws := ws) ⟨h1.2, t⟩
      simp only [List.map_cons]
      by_cases c : p.1 = k
      · rw [if_pos c, if_pos (h1.1.trans c)]
        exact ⟨by simp only [List.map_cons, h1.1, i1], .cons r i2⟩
      · rw [if_neg c, if_neg (fun z => c (h1.1.symm.trans z))]
        exact ⟨by simp only [List.map_cons, h1.1, i1], .cons r' i2⟩
theorem DicR.put (k : Key) {v : V} {d : D} (r : Rep K F ρ H v d) {kvs : List (Key × D)} {ws : List (Key × V)} (h : DicR K F ρ H ws kvs) : DicR K F ρ H (putK ws k v) (putDc kvs k d) := by
  unfold putK putDc
  rw [any_keys k h.1]
  split
  · exact map_rep k r h
  · exact ⟨by simp only [List.map_append, h.1, List.map_cons, List.map_nil], by simp only [List.map_append, List.map_cons, List.map_nil]; exact h.2.append (.cons r .nil)⟩
theorem DicR.len {kvs : List (Key × D)} {ws : List (Key × V)} (h : DicR K F ρ H ws kvs) : ws.length = kvs.length := by
  have := congrArg List.length h.1
  simpa using this
end
section
variable {X : Cx} {G : SCtx} {W : WX} {pos pos' p apos : Pos} {a b c e : Expr} {f f1 f2 f3 : EF} {g1 : AF}
theorem s_dnew : SE X G W (.Dict [] [] pos) eNewD := by
  refine pe_imp pe_dnewK fun σ H Q h => ?_
  obtain ⟨F, ρ, env, s, he, hs, hp⟩ := h
  intro q hq
  refine hp (ρ ++ [q]) _ (Ext.alloc ρ hq) (hs.alloc hq ⟨[], upd_same, rfl, .nil⟩) _ (.ref ?_)
  rw [← hs.len]; simp
theorem s_dget (hu : X.A.units + 1 < cLine) (ha : SE X G W a f1) (hb : SE X G W b f2) (hn : NoSl b := by exact fun _ _ => rfl) : SE X G W (.Subscript a b pos) (eOp opDGet f1 f2) := by
  refine pe_imp (pe_dget hu ha hb hn) fun σ H Q h => ?_
  obtain ⟨F, ρ, env, s, he, hs, hp⟩ := h
  refine tE.step he hs hp fun d s1 ρ1 H1 v _ he1 hs1 e1 r1 hp1 => ?_
  refine tE.step he1 hs1 hp1 fun d' s2 ρ2 H2 v' _ he2 hs2 e2 r2 hp2 => ?_
  obtain ⟨z, hz, hp3⟩ := hp2.off
  unfold opDGet at hz
  split at hz
  · rename_i kvs k h1 h2
    obtain ⟨q, n, ws, rfl, rfl, h3, h4, h5, h6⟩ := dicOf_rep hs2 (r1.ext e2) h1
    obtain ⟨w, h7, h8⟩ := (val_rep k h6).1 z hz
    refine ⟨q, w, rfl, ?_, hp3.here hs2 _ h8⟩
    rw [key_rep r2 h2, ← h7]
    exact DGet.k h5
  · cases hz
theorem s_din (hu : X.A.units + 1 < cLine) (ha : SE X G W a f1) (hb : SE X G W b f2) (hm : behindInMarks .In b = false := by rfl) : SE X G W (.Compare a [.In] [b] pos) (eOp opDIn f1 f2) := by
  refine pe_imp (pe_cmp (pc_din hu ha hb) hm) fun σ H Q h => ?_
  obtain ⟨F, ρ, env, s, he, hs, hp⟩ := h
  refine tE.step he hs hp fun d s1 ρ1 H1 v _ he1 hs1 e1 r1 hp1 => ?_
  refine tE.step he1 hs1 hp1 fun d' s2 ρ2 H2 v' _ he2 hs2 e2 r2 hp2 => ?_
  obtain ⟨z, hz, hp3⟩ := hp2.off
  unfold opDIn at hz
  split at hz
  · rename_i kvs k h1 h2
    cases hz
    obtain ⟨q, n, ws, rfl, rfl, h3, h4, h5, h6⟩ := dicOf_rep hs2 r2 h1
    have hv := val_rep k h6
    refine ⟨q, valV ws k, rfl, ?_, ?_⟩
    · rw [key_rep (r1.ext e2) h2]; exact DGet.k h5
    · have e : (valV ws k).isSome = (valD kvs k).isSome := by
        cases hz : valD kvs k with
        | none => rw [hv.2 hz]; rfl
        | some d => obtain ⟨w, h7, _⟩ := hv.1 d hz; rw [h7]; rfl
      rw [e]
      exact hp3.here hs2 _ (.bl _)
  · cases hz
theorem s_dnotin (hu : X.A.units + 1 < cLine) (ha : SE X G W a f1) (hb : SE X G W b f2) (hm : behindInMarks .NotIn b = false := by rfl) : SE X G W (.Compare a [.NotIn] [b] pos) (eOp opDNotIn f1 f2) := by
  refine pe_imp (pe_cmp (pc_dnotin hu ha hb) hm) fun σ H Q h => ?_
  obtain ⟨F, ρ, env, s, he, hs, hp⟩ := h
  refine tE.step he hs hp fun d s1 ρ1 H1 v _ he1 hs1 e1 r1 hp1 => ?_
  refine tE.step he1 hs1 hp1 fun d' s2 ρ2 H2 v' _ he2 hs2 e2 r2 hp2 => ?_
  obtain ⟨z, hz, hp3⟩ := hp2.off
  unfold opDNotIn at hz
  split at hz
  · rename_i kvs k h1 h2
    cases hz
    obtain ⟨q, n, ws, rfl, rfl, h3, h4, h5, h6⟩ := dicOf_rep hs2 r2 h1
    have hv := val_rep k h6
    refine ⟨q, valV ws k, rfl, ?_, ?_⟩
    · rw [key_rep (r1.ext e2) h2]; exact DGet.k h5
    · have e : (valV ws k).isSome = (valD kvs k).isSome := by
        cases hz : valD kvs k with
        | none => rw [hv.2 hz]; rfl
        | some d => obtain ⟨w, h7, _⟩ := hv.1 d hz; rw [h7]; rfl
      rw [e]
      exact hp3.here hs2 _ (.bl _)
  · cases hz
theorem st_din (hu : X.A.units + 1 < cLine) (ha : SE X G W a f1) (hb : SE X G W b f2) (hm : behindInMarks .In b = false := by rfl) : ST X G W (.Compare a [.In] [b] pos) (tV (eOp opDIn f1 f2)) := by
  refine pt_imp (pt_cmp (pc_din hu ha hb) hm) fun σ H Q h => ?_
  obtain ⟨F, ρ, env, s, he, hs, hp⟩ := h
  have hp' : Pst X.K G F ρ H ((f1 env s).bind fun a s1 => (f2 env s1).bind fun b s2 => (R.of (opDIn s2 a b) s2).bind fun d s1 => match d with | .bl b => R.ok b s1 | _ => .no) (fun b _ ρ' H' => Q b H') (eW G W σ) := by
    have e : (tV (eOp opDIn f1 f2)) env s = ((f1 env s).bind fun a s1 => (f2 env s1).bind fun b s2 => (R.of (opDIn s2 a b) s2).bind fun d s1 => match d with | .bl b => R.ok b s1 | _ => .no) := by
      simp only [tV, eOp]
      cases f1 env s with
      | ok a s1 => simp only [R.bind]; cases f2 env s1 <;> rfl
      | ex => rfl
      | no => rfl
    rw [← e]; exact hp
  refine tE.step he hs hp' fun d s1 ρ1 H1 v _ he1 hs1 e1 r1 hp1 => ?_
  refine tE.step he1 hs1 hp1 fun d' s2 ρ2 H2 v' _ he2 hs2 e2 r2 hp2 => ?_
  cases hz : opDIn s2 d d' with
  | none => rw [hz] at hp2; exact hp2.elim
  | some z =>
    rw [hz] at hp2
    unfold opDIn at hz
    split at hz
    · rename_i kvs k h1 h2
      cases hz
      obtain ⟨q, n, ws, rfl, rfl, h3, h4, h5, h6⟩ := dicOf_rep hs2 r2 h1
      have hv := val_rep k h6
      refine ⟨q, valV ws k, rfl, ?_, ?_⟩
      · rw [key_rep (r1.ext e2) h2]; exact DGet.k h5
      · have e : (valV ws k).isSome = (valD kvs k).isSome := by
          cases hz : valD kvs k with
          | none => rw [hv.2 hz]; rfl
          | some d => obtain ⟨w, h7, _⟩ := hv.1 d hz; rw [h7]; rfl
        rw [e]
        exact ⟨_, rfl, hp2.here hs2⟩
    · cases hz
theorem st_dnotin (hu : X.A.units + 1 < cLine) (ha : SE X G W a f1) (hb : SE X G W b f2) (hm : behindInMarks .NotIn b = false := by rfl) : ST X G W (.Compare a [.NotIn] [b] pos) (tV (eOp opDNotIn f1 f2)) := by
  refine pt_imp (pt_cmp (pc_dnotin hu ha hb) hm) fun σ H Q h => ?_
  obtain ⟨F, ρ, env, s, he, hs, hp⟩ := h
  have hp' : Pst X.K G F ρ H ((f1 env s).bind fun a s1 => (f2 env s1).bind fun b s2 => (R.of (opDNotIn s2 a b) s2).bind fun d s1 => match d with | .bl b => R.ok b s1 | _ => .no) (fun b _ ρ' H' => Q b H') (eW G W σ) := by
    have e : (tV (eOp opDNotIn f1 f2)) env s = ((f1 env s).bind fun a s1 => (f2 env s1).bind fun b s2 => (R.of (opDNotIn s2 a b) s2).bind fun d s1 => match d with | .bl b => R.ok b s1 | _ => .no) := by
      simp only [tV, eOp]
      cases f1 env s with
      | ok a s1 => simp only [R.bind]; cases f2 env s1 <;> rfl
      | ex => rfl
      | no => rfl
    rw [← e]; exact hp
  refine tE.step he hs hp' fun d s1 ρ1 H1 v _ he1 hs1 e1 r1 hp1 => ?_
  refine tE.step he1 hs1 hp1 fun d' s2 ρ2 H2 v' _ he2 hs2 e2 r2 hp2 => ?_
  cases hz : opDNotIn s2 d d' with
  | none => rw [hz] at hp2; exact hp2.elim
  | some z =>
    rw [hz] at hp2
    unfold opDNotIn at hz
    split at hz
    · rename_i kvs k h1 h2
      cases hz
      obtain ⟨q, n, ws, rfl, rfl, h3, h4, h5, h6⟩ := dicOf_rep hs2 r2 h1
      have hv := val_rep k h6
      refine ⟨q, valV ws k, rfl, ?_, ?_⟩
      · rw [key_rep (r1.ext e2) h2]; exact DGet.k h5
      · have e : (valV ws k).isSome = (valD kvs k).isSome := by
          cases hz : valD kvs k with
          | none => rw [hv.2 hz]; rfl
          | some d => obtain ⟨w, h7, _⟩ := hv.1 d hz; rw [h7]; rfl
        rw [e]
        exact ⟨_, rfl, hp2.here hs2⟩
    · cases hz
theorem ss_dput (hu : X.A.units + 1 < cLine) (ha : SE X G W a f1) (hb : SE X G W b f2) (hc : SE X G W c f3) (hsw : swapsWith c (some (.Subscript a b pos')) pos.line X.env = pure false := by rfl) : SS X G W (.Assign [.Subscript a b pos'] c pos) (sDSet f1 f2 f3) := by
  refine ps_imp (ps_dput hu ha hb hc hsw) fun D σ H h => ?_
  obtain ⟨F, ρ, env, s, he, hs, hp⟩ := h
  refine tE.first he hs hp fun d s1 ρ1 H1 v he1 hs1 e1 r1 hp1 => ?_
  refine tE.first he1 hs1 hp1 fun o s2 ρ2 H2 x he2 hs2 e2 r2 hp2 => ?_
  refine tE.first he2 hs2 hp2 fun i s3 ρ3 H3 y he3 hs3 e3 r3 hp3 => ?_
  split at hp3
  · rename_i s4 hz
    unfold setDc at hz
    split at hz
    · rename_i n
      split at hz
      · rename_i kvs k h1 h2
        split at hz
        · rename_i hl
          cases hz
          obtain ⟨q, n', ws, rfl, en, h3, h4, h5, h6⟩ := dicOf_rep hs3 (r2.ext e3) h1
          cases en
          have hm := List.mem_of_getElem? h3
          have r1' := (r1.ext e2).ext e3
          refine ⟨q, upd H3 q (.dK (putK ws k v)), rfl, ?_, ?_⟩
          · rw [key_rep r3 h2]
            exact DPut.k h5 (by rw [h6.len, sizeLine_eq]; simp only [LIM] at hl; omega)
          · have h7 := h6.put k r1'
            exact hp3 ρ3 _ σ (Ext.put hm (nf h5)) (hs3.put h3 ⟨_, upd_same, h7.1, h7.2.ext (Ext.put hm (nf h5))⟩) (he3.ext (Ext.put hm (nf h5)))
        · cases hz
      · cases hz
    · cases hz
  · exact hp3.elim
theorem s_dget2 (hu : X.A.units + 1 < cLine) (ho : SE X G W a f1) (hk : SE X G W b f2) (hx : SE X G W c f3) (m : M2 X a "get" apos b c pos) : SE X G W (.Call (.Attribute a "get" apos) [b, c] [] pos) (eDGet2 f1 f2 f3) := by
  refine pe_imp (pe_dget2 hu ho hk hx m) fun σ H Q h => ?_
  obtain ⟨F, ρ, env, s, he, hs, hp⟩ := h
  refine tE.step he hs hp fun d s1 ρ1 H1 v _ he1 hs1 e1 r1 hp1 => ?_
  split at hp1
  · rename_i kvs0 h0
    obtain ⟨q, n, ws, rfl, rfl, h3, h4, h5, h6⟩ := dicOf_rep hs1 r1 h0
    refine ⟨q, rfl, .inl ⟨ws, .inl h5⟩, ?_⟩
    refine tE.step he1 hs1 hp1 fun k s2 ρ2 H2 y _ he2 hs2 e2 r2 hp2 => ?_
    refine tE.step he2 hs2 hp2 fun x s3 ρ3 H3 z _ he3 hs3 e3 r3 hp3 => ?_
    obtain ⟨w, hw, hp4⟩ := hp3.off
    unfold getDc at hw
    split at hw
    · rename_i kvs kk h7 h8
      cases hw
      obtain ⟨q', n', ws', eq', en', h3', h4', h5', h6'⟩ := dicOf_rep hs3 ((r1.ext e2).ext e3) h7
      cases eq'
      have hv := val_rep kk h6'
      refine ⟨valV ws' kk, ?_, ?_⟩
      · rw [key_rep (r2.ext e3) h8]; exact DGet.k h5'
      · cases hz : valD kvs kk with
        | none => rw [hv.2 hz]; rw [hz] at hp4; exact hp4.here hs3 _ r3
        | some d => obtain ⟨w, h9, h10⟩ := hv.1 d hz; rw [h9]; rw [hz] at hp4; exact hp4.here hs3 _ h10
    · cases hw
  · exact hp1.elim
theorem sim_lenD {K : PySem.W.Frag} : SimN K (fun xs H Q => ∃ a kvs, xs = [V.ref a] ∧ H a = some (.dK kvs) ∧ Q (.int kvs.length) H) fLenD := by
  intro G F ρ H s vs ds d Q hs r h k
  unfold fLenD at h
  split at h
  · rename_i a
    obtain ⟨kvs, h1, rfl⟩ := Option.map_eq_some_iff.mp h
    cases r with
    | cons r1 t =>
      cases t
      obtain ⟨q, n, ws, rfl, rfl, h3, h4, h5, h6⟩ := dicOf_rep hs r1 h1
      refine ⟨q, ws, rfl, h5, ?_⟩
      rw [h6.len]
      exact k H _ (Ext.refl _ _) hs (.int _)
  · cases h
end
end Sx

/-! PxU: texts (numbers as texts, joined, counts, places, stripped), sorted numbers, the greatest, places and counts in lists, dict of pairs, is True. -/
namespace Sx
open PySem L2
def fStr (_ : Sto) (as : List D) : Option D := match as with
  | [.int i] => if i.natAbs.log2 < 1920 then some (.str (toString i)) else none
  | _ => none
def allStr : List D → Option (List Str)
  | [] => some []
  | .str x :: ds => (allStr ds).map (x :: ·)
  | _ :: _ => none
/-- methods of texts -/
def eTM (g : Sto → D → List D → Option D) (fo : EF) (fa : AF) : EF := fun env s => (fo env s).bind fun o s1 => match o with
  | .str z => (fa env s1).bind fun as s2 => R.of (g s2 (.str z) as) s2
  | _ => .no
def gJoin (s : Sto) (o : D) (as : List D) : Option D := match o, as with
  | .str a, [d] => match rowOf s d with
    | some xs => match allStr xs with
      | some ys => if (ys.map (·.length)).sum + ys.length * a.length ≤ 16777216 then some (.str (Txt.join a ys)) else none
      | none => none
    | none => none
  | _, _ => none
def gCount (_ : Sto) (o : D) (as : List D) : Option D := match o, as with
  | .str a, [.str b] => some (.int (Txt.count a b))
  | _, _ => none
def gStripC (_ : Sto) (o : D) (as : List D) : Option D := match o, as with
  | .str a, [.str b] => if a.length ≤ LIM then some (.str (Txt.stripChars a b)) else none
  | _, _ => none
def gIndexS (_ : Sto) (o : D) (as : List D) : Option D := match o, as with
  | .str a, [.str b] => (Txt.index0 a b).map fun (k : Nat) => .int (k : Int)
  | _, _ => none
/-- sorted -/
def insI (x : Int) : List Int → List Int
  | [] => [x]
  | y :: ys => if x ≤ y then x :: y :: ys else y :: insI x ys
def sortI : List Int → List Int
  | [] => []
  | x :: xs => insI x (sortI xs)
def fSorted (s : Sto) (as : List D) : Option (List D) := match as with
  | [a] => match lstOf s a with
    | some xs => (allInt xs).map fun ns => (sortI ns).map .int
    | none => none
  | _ => none
def allKI : List (Key × D) → Option (List Int)
  | [] => some []
  | (.inl i, _) :: r => (allKI r).map (i :: ·)
  | (.inr _, _) :: _ => none
def fSortedD (s : Sto) (as : List D) : Option (List D) := match as with
  | [a] => match dicOf s a with
    | some kvs => match allKI kvs with
      | some ns => if ns.length < 64 then some ((sortI ns).map .int) else none
      | none => none
    | none => none
  | _ => none
def maxI : List Int → Option Int
  | [] => none
  | x :: xs => match maxI xs with
    | none => some x
    | some m => some (if m ≤ x then x else m)
def fMaxL (s : Sto) (as : List D) : Option D := match as with
  | [a] => match lstOf s a with
    | some xs => match allInt xs with
      | some ns => (maxI ns).map .int
      | none => none
    | none => none
  | _ => none
def idxF (d : D) : List D → Nat → Option Nat
  | [], _ => none
  | x :: xs, j => if flatEq x d then some j else idxF d xs (j + 1)
def mIndex (s : Sto) (o : D) (as : List D) : Option (D × Sto) := match as with
  | [d] => match lstOf s o with
    | some xs => if isFlat d && xs.all isFlat then (idxF d xs 0).map fun j => (.int (j : Nat), s) else none
    | none => none
  | _ => none
def mCount (s : Sto) (o : D) (as : List D) : Option (D × Sto) := match as with
  | [.int k] => match lstOf s o with
    | some xs => (allInt xs).map fun ns => (.int (ns.count k : Nat), s)
    | none => none
  | _ => none
def opIsB (_ : Sto) (a b : D) : Option D := match a, b with
  | .bl x, .bl y => some (.bl (decide (x = y)))
  | _, _ => none
/-! ### sorted -/
theorem insI_perm (x : Int) : ∀ xs : List Int, (insI x xs).Perm (x :: xs)
  | [] => .refl _
  | y :: ys => by
    unfold insI
    split
    · exact .refl _
    · exact ((insI_perm x ys).cons y).trans (.swap x y ys)
theorem sortI_perm : ∀ xs : List Int, (sortI xs).Perm xs
  | [] => .refl _
  | x :: xs => (insI_perm x (sortI xs)).trans ((sortI_perm xs).cons x)
theorem insI_sorted (x : Int) : ∀ {xs : List Int}, xs.Pairwise (· ≤ ·) → (insI x xs).Pairwise (· ≤ ·)
  | [], _ => by simp [insI]
  | y :: ys, h => by
    rw [List.pairwise_cons] at h
    unfold insI
    split
    · rename_i c
      refine List.pairwise_cons.mpr ⟨fun z hz => ?_, List.pairwise_cons.mpr h⟩
      rcases List.mem_cons.mp hz with rfl | hz
      · exact c
      · exact Int.le_trans c (h.1 z hz)
    · rename_i c
      refine List.pairwise_cons.mpr ⟨fun z hz => ?_, insI_sorted x h.2⟩
      rcases List.mem_cons.mp ((insI_perm x ys).mem_iff.mp hz) with rfl | hz
      · omega
      · exact h.1 z hz
theorem sortI_sorted : ∀ xs : List Int, (sortI xs).Pairwise (· ≤ ·)
  | [] => .nil
  | x :: xs => insI_sorted x (sortI_sorted xs)
theorem sorted_eq : ∀ {xs ys : List Int}, xs.Perm ys → xs.Pairwise (· ≤ ·) → ys.Pairwise (· ≤ ·) → xs = ys
  | [], ys, p, _, _ => (List.Perm.nil_eq p)
  | x :: xs, [], p, _, _ => by have := p.length_eq; simp at this
  | x :: xs, y :: ys, p, hx, hy => by
    rw [List.pairwise_cons] at hx hy
    have e : x = y := by
      have h1 : x ∈ y :: ys := p.mem_iff.mp List.mem_cons_self
      have h2 : y ∈ x :: xs := p.mem_iff.mpr List.mem_cons_self
      rcases List.mem_cons.mp h1 with h | h
      · exact h
      · rcases List.mem_cons.mp h2 with h' | h'
        · exact h'.symm
        · have a := hx.1 y h'
          have b := hy.1 x h
          omega
    subst e
    rw [sorted_eq (List.Perm.cons_inv p) hx.2 hy.2]
theorem maxI_ok : ∀ {ns : List Int} {m : Int}, maxI ns = some m → m ∈ ns ∧ ∀ y ∈ ns, y ≤ m
  | x :: xs, m, h => by
    unfold maxI at h
    split at h
    · rename_i q
      cases h
      have : xs = [] := by
        cases xs with
        | nil => rfl
        | cons y ys => unfold maxI at q; split at q <;> cases q
      subst this
      exact ⟨List.mem_cons_self, fun y hy => by simp at hy; omega⟩
    · rename_i k q
      obtain ⟨h1, h2⟩ := maxI_ok q
      split at h
      · cases h
        refine ⟨List.mem_cons_self, fun y hy => ?_⟩
        rcases List.mem_cons.mp hy with rfl | hy
        · exact Int.le_refl _
        · have := h2 y hy; omega
      · cases h
        refine ⟨List.mem_cons_of_mem _ h1, fun y hy => ?_⟩
        rcases List.mem_cons.mp hy with rfl | hy
        · omega
        · exact h2 y hy
section
variable {K : PySem.W.Frag}
theorem sim_str : SimN K (fun xs H Q => ∃ i, xs = [V.int i] ∧ i.natAbs.log2 < 1920 ∧ Q (.str (toString i)) H) fStr := by
  intro G F ρ H s vs ds d Q hs r h k
  unfold fStr at h
  split at h
  · rename_i i
    split at h
    · rename_i hl
      cases h
      cases r with
      | cons r1 t =>
        cases t
        cases r1
        exact ⟨i, rfl, hl, k H _ (Ext.refl _ _) hs (.str _)⟩
    · cases h
  · cases h
theorem strs_rep {F ρ : List Addr} {H : Hp} : ∀ {ds : List D} {vs : List V} {ys : List Str}, Reps K F ρ H vs ds → allStr ds = some ys → vs = ys.map V.str
  | [], _, ys, r, h => by cases r; cases h; rfl
  | d :: ds, _, ys, r, h => by
    cases r with
    | cons r1 t =>
      cases d <;> simp only [allStr] at h <;> try cases h
      rename_i x
      obtain ⟨zs, h1, rfl⟩ := Option.map_eq_some_iff.mp h
      cases r1
      rw [strs_rep t h1]
      rfl
def SimT (K : PySem.W.Frag) (r : V → List V → Hp → VK → Prop) (g : Sto → D → List D → Option D) : Prop := ∀ (G : SCtx) (F ρ : List Addr) (H : Hp) (s : Sto) (z : Str) (vs : List V) (ds : List D) (q : D) (Q : VK), SRel K G F ρ H s → Reps K F ρ H vs ds → g s (.str z) ds = some q →
  (∀ v, Rep K F ρ H v q → Q v H) → r (.str z) vs H Q
theorem sim_join : SimT K (fun x xs H Q => ∃ a p, ∃ ys : List Str, x = .str a ∧ xs = [.ref p] ∧ (SqL K H p (ys.map V.str) ∨ SqT K H p (ys.map V.str)) ∧ (ys.map (·.length)).sum + ys.length * a.length ≤ 16777216 ∧ Q (.str (Txt.join a ys)) H) gJoin := by
  intro G F ρ H s z vs ds q Q hs r h k
  unfold gJoin at h
  split at h
  · rename_i a d ez
    cases ez
    split at h
    · rename_i xs hx
      split at h
      · rename_i ys hy
        split at h
        · rename_i hl
          cases h
          cases r with
          | cons r1 t =>
            cases t
            obtain ⟨p, ws, rfl, h1, h2⟩ := rowOf_rep hs r1 hx
            rw [strs_rep h2 hy] at h1
            exact ⟨_, p, ys, rfl, rfl, h1, hl, k _ (.str _)⟩
        · cases h
      · cases h
    · cases h
  · cases h
theorem sim_count : SimT K (fun x xs H Q => ∃ a b, x = .str a ∧ xs = [.str b] ∧ Q (.int (Txt.count a b)) H) gCount := by
  intro G F ρ H s z vs ds q Q hs r h k
  unfold gCount at h
  split at h
  · rename_i a b ez
    cases ez
    cases h
    cases r with
    | cons r1 t =>
      cases t
      cases r1
      exact ⟨_, b, rfl, rfl, k _ (.int _)⟩
  · cases h
theorem sim_stripC : SimT K (fun x xs H Q => ∃ a b, x = .str a ∧ xs = [.str b] ∧ a.length ≤ sizeLine ∧ Q (.str (Txt.stripChars a b)) H) gStripC := by
  intro G F ρ H s z vs ds q Q hs r h k
  unfold gStripC at h
  split at h
  · rename_i a b ez
    cases ez
    split at h
    · rename_i hl
      cases h
      cases r with
      | cons r1 t =>
        cases t
        cases r1
        exact ⟨_, b, rfl, rfl, lim hl, k _ (.str _)⟩
    · cases h
  · cases h
theorem sim_sorted : SimN K (rSortedI K) (fun s as => (fSorted s as).map .lst) := by
  intro G F ρ H s vs ds d Q hs r h k
  have h : (fSorted s ds).map D.lst = some d := h
  cases hz : fSorted s ds with
  | none => rw [hz] at h; cases h
  | some es =>
    rw [hz] at h
    cases h
    unfold fSorted at hz
    split at hz
    · rename_i a
      split at hz
      · rename_i xs hx
        obtain ⟨ns, hn, rfl⟩ := Option.map_eq_some_iff.mp hz
        cases r with
        | cons r1 t =>
          cases t
          obtain ⟨q, ws, rfl, h1, h2⟩ := lstOf_rep hs r1 hx
          rw [ints_rep h2 hn] at h1
          refine ⟨q, ns, rfl, SqL.of h1, fun ns' p hp hsrt hnone => ?_⟩
          have e : ns' = sortI ns := sorted_eq (hp.trans (sortI_perm ns).symm) hsrt (sortI_sorted ns)
          subst e
          have rr : Reps K F ρ H ((sortI ns).map V.int) ((sortI ns).map .int) := by
            generalize sortI ns = L
            induction L with
            | nil => exact .nil
            | cons x xs ih => exact .cons (.int x) ih
          exact k _ _ (Ext.new ρ hnone) (hs.new hnone) (Rep.newL hs hnone rr)
      · cases hz
    · cases hz
theorem sim_sortedN : SimNN K (rSortedI K) fSorted := by
  intro G F ρ H s vs ds es Q hs r h k
  unfold fSorted at h
  split at h
  · rename_i a
    split at h
    · rename_i xs hx
      obtain ⟨ns, hn, rfl⟩ := Option.map_eq_some_iff.mp h
      cases r with
      | cons r1 t =>
        cases t
        obtain ⟨q, ws, rfl, h1, h2⟩ := lstOf_rep hs r1 hx
        rw [ints_rep h2 hn] at h1
        refine ⟨q, ns, rfl, SqL.of h1, fun ns' p hp hsrt hnone => ?_⟩
        have e : ns' = sortI ns := sorted_eq (hp.trans (sortI_perm ns).symm) hsrt (sortI_sorted ns)
        subst e
        have rr : Reps K F ρ H ((sortI ns).map V.int) ((sortI ns).map .int) := by
          generalize sortI ns = L
          induction L with
          | nil => exact .nil
          | cons x xs ih => exact .cons (.int x) ih
        exact k _ _ _ (Ext.alloc ρ hnone) (hs.newR hnone rr).1 (hs.newR hnone rr).2
    · cases h
  · cases h
theorem allKI_keys : ∀ {kvs : List (Key × D)} {ns : List Int}, allKI kvs = some ns → kvs.map (·.1) = ns.map Sum.inl
  | [], ns, h => by cases h; rfl
  | (.inl i, d) :: r, ns, h => by
    simp only [allKI] at h
    obtain ⟨ms, h1, rfl⟩ := Option.map_eq_some_iff.mp h
    simp only [List.map_cons, allKI_keys h1]
  | (.inr i, d) :: r, ns, h => by simp [allKI] at h
theorem sim_sortedD : SimN K (fun xs H Q => ∃ (a : Addr) (kvs : List (Key × V)) (ks : List Int), xs = [V.ref a] ∧ Rd H a (.dK kvs) ∧ kvs.map (·.1) = ks.map Sum.inl ∧ ks.length < 64 ∧
    ∀ (ys : List Int) (p : Addr), ys.Perm ks → ys.Pairwise (· ≤ ·) → H p = none → Q (.ref p) (upd H p (.lst (ys.map V.int)))) (fun s as => (fSortedD s as).map .lst) := by
  intro G F ρ H s vs ds d Q hs r h k
  obtain ⟨es, h, rfl⟩ := Option.map_eq_some_iff.mp h
  simp only [fSortedD] at h
  split at h
  · rename_i a
    split at h
    · rename_i kvs hx
      split at h
      · rename_i ns hn
        split at h
        · rename_i hl
          cases h
          cases r with
          | cons r1 t =>
            cases t
            obtain ⟨q, n, ws, rfl, rfl, h3, h4, h5, h6⟩ := dicOf_rep hs r1 hx
            refine ⟨q, ws, ns, rfl, .inl h5, h6.1.trans (allKI_keys hn), hl, fun ns' p hp hsrt hnone => ?_⟩
            have e : ns' = sortI ns := sorted_eq (hp.trans (sortI_perm ns).symm) hsrt (sortI_sorted ns)
            subst e
            have rr : Reps K F ρ H ((sortI ns).map V.int) ((sortI ns).map .int) := by
              generalize sortI ns = L
              induction L with
              | nil => exact .nil
              | cons x xs ih => exact .cons (.int x) ih
            exact k _ _ (Ext.new ρ hnone) (hs.new hnone) (Rep.newL hs hnone rr)
        · cases h
      · cases h
    · cases h
  · cases h
theorem sim_maxL : SimN K (rMax K) fMaxL := by
  intro G F ρ H s vs ds d Q hs r h k
  unfold fMaxL at h
  split at h
  · rename_i a
    split at h
    · rename_i xs hx
      split at h
      · rename_i ns hn
        obtain ⟨m, hm, rfl⟩ := Option.map_eq_some_iff.mp h
        cases r with
        | cons r1 t =>
          cases t
          obtain ⟨q, ws, rfl, h1, h2⟩ := lstOf_rep hs r1 hx
          rw [ints_rep h2 hn] at h1
          obtain ⟨m1, m2⟩ := maxI_ok hm
          refine ⟨q, ns, rfl, SqL.of h1, List.length_pos_of_mem m1, fun m' a b => ?_⟩
          have e : m' = m := Int.le_antisymm (m2 m' a) (b m m1)
          subst e
          exact k H _ (Ext.refl _ _) hs (.int _)
      · cases h
    · cases h
  · cases h
theorem idxF_at {d : D} : ∀ {xs : List D} {j n : Nat}, idxF d xs j = some n → ∃ i, n = j + i ∧ (∃ x, xs[i]? = some x ∧ flatEq x d = true) ∧ ∀ m x, m < i → xs[m]? = some x → flatEq x d = false
  | x :: xs, j, n, h => by
    unfold idxF at h
    split at h
    · rename_i c
      cases h
      exact ⟨0, rfl, ⟨x, rfl, c⟩, fun m y hm => absurd hm (Nat.not_lt_zero _)⟩
    · rename_i c
      obtain ⟨i, h1, ⟨y, h2, h3⟩, h4⟩ := idxF_at h
      refine ⟨i + 1, by omega, ⟨y, by simpa using h2, h3⟩, fun m z hm hz => ?_⟩
      cases m with
      | zero =>
        simp at hz
        subst hz
        exact Bool.not_eq_true _ ▸ c
      | succ m => exact h4 m z (by omega) (by simpa using hz)
theorem flatAt {xs : List D} (h : xs.all isFlat = true) {i : Nat} {x : D} (hx : xs[i]? = some x) : isFlat x = true := List.all_eq_true.mp h x (List.mem_of_getElem? hx)
theorem sim_mIndex : SimM K (rIndex K) mIndex := by
  intro G F ρ H s x vs o ds q Q hs rx r h k
  unfold mIndex at h
  split at h
  · rename_i d
    split at h
    · rename_i xs hx
      split at h
      · rename_i hf
        simp only [Bool.and_eq_true] at hf
        obtain ⟨n, hn, rfl⟩ := Option.map_eq_some_iff.mp h
        cases r with
        | cons r1 t =>
          cases t
          obtain ⟨a, ws, rfl, h1, h2⟩ := lstOf_rep hs rx hx
          obtain ⟨i, rfl, ⟨y, h3, h4⟩, h5⟩ := idxF_at hn
          obtain ⟨w, h6, h7⟩ := h2.get h3
          rename_i v
          refine ⟨a, ws, v, i, w, rfl, rfl, SqL.of h1, flat_rep r1 hf.1, flats_rep h2 hf.2, h6, ?_, fun m z hm hz => ?_, ?_⟩
          · rw [flatEq_rep h7 r1 (flatAt hf.2 h3) hf.1]; exact h4
          · have hlt : m < xs.length := by rw [← h2.length]; exact (List.getElem?_eq_some_iff.mp hz).1
            have hxm : xs[m]? = some xs[m] := List.getElem?_eq_getElem hlt
            obtain ⟨w', h8, h9⟩ := h2.get hxm
            rw [hz] at h8
            cases h8
            rw [flatEq_rep h9 r1 (flatAt hf.2 hxm) hf.1]
            exact h5 m _ hm hxm
          · rw [Nat.zero_add] at k
            exact k H _ (Ext.refl _ _) hs (.int _)
      · cases h
    · cases h
  · cases h
theorem sim_mCount : SimM K (rCntI K) mCount := by
  intro G F ρ H s x vs o ds q Q hs rx r h k
  unfold mCount at h
  split at h
  · rename_i kk
    split at h
    · rename_i xs hx
      obtain ⟨ns, hn, rfl⟩ := Option.map_eq_some_iff.mp h
      cases r with
      | cons r1 t =>
        cases t
        cases r1
        obtain ⟨a, ws, rfl, h1, h2⟩ := lstOf_rep hs rx hx
        rw [ints_rep h2 hn] at h1
        exact ⟨a, ns, kk, rfl, rfl, SqL.of h1, k H _ (Ext.refl _ _) hs (.int _)⟩
    · cases h
  · cases h
theorem sim_isB : Sim2 K rIsB opIsB := by
  intro G F ρ H s x y a b d Q hs rx ry h k
  unfold opIsB at h
  split at h
  · cases h
    cases rx
    cases ry
    exact ⟨_, _, rfl, rfl, k H _ (Ext.refl _ _) hs (.bl _)⟩
  · cases h
end
section
variable {X : Cx} {G : SCtx} {W : WX} {pos p apos : Pos} {e : Expr} {f1 : EF} {g1 : AF}
theorem s_tm {r : V → List V → Hp → VK → Prop} {g : Sto → D → List D → Option D} (h : PE X e (tBM X.K "str" r (tE X.K G W f1) (tA X.K G W g1))) (hg : SimT X.K r g) : SE X G W e (eTM g f1 g1) := by
  refine pe_imp h fun σ H Q h => ?_
  obtain ⟨F, ρ, env, s, he, hs, hp⟩ := h
  refine tE.step he hs hp fun d s1 ρ1 H1 v _ he1 hs1 e1 r1 hp1 => ?_
  split at hp1
  · rename_i z _
    cases r1
    refine ⟨rfl, tA.step he1 hs1 hp1 fun ds s2 ρ2 H2 vs _ he2 hs2 e2 r2 hp2 => ?_⟩
    obtain ⟨w, hw, hp3⟩ := hp2.off
    exact hg G F ρ2 H2 s2 z vs ds w Q hs2 r2 hw fun v r => hp3.here hs2 v r
  · exact hp1.elim
theorem s_tmS {r : L2.St → V → List V → Hp → VK → Prop} {r0 : V → List V → Hp → VK → Prop} {g : Sto → D → List D → Option D} (h : PE X e (tBMS X.K "str" r (tE X.K G W f1) (tA X.K G W g1))) (hr : ∀ σ x vs H Q, r0 x vs H Q → r σ x vs H Q) (hg : SimT X.K r0 g) : SE X G W e (eTM g f1 g1) := by
  refine pe_imp h fun σ H Q h => ?_
  obtain ⟨F, ρ, env, s, he, hs, hp⟩ := h
  refine tE.step he hs hp fun d s1 ρ1 H1 v _ he1 hs1 e1 r1 hp1 => ?_
  split at hp1
  · rename_i z _
    cases r1
    refine ⟨rfl, tA.step he1 hs1 hp1 fun ds s2 ρ2 H2 vs _ he2 hs2 e2 r2 hp2 => ?_⟩
    obtain ⟨w, hw, hp3⟩ := hp2.off
    exact hr σ _ _ _ _ (hg G F ρ2 H2 s2 z vs ds w Q hs2 r2 hw fun v r => hp3.here hs2 v r)
  · exact hp1.elim
def rIdx0 : V → List V → Hp → VK → Prop := fun x xs H Q => ∃ (a b : Str) (k : Nat), x = .str a ∧ xs = [.str b] ∧ Txt.index0 a b = some k ∧ Q (.int (k : Nat)) H
theorem rIdx0_of {W : WX} (σ : L2.St) (x : V) (vs : List V) (H : Hp) (Q : VK) (h : rIdx0 x vs H Q) : rIndexX W σ x vs H Q := by
  obtain ⟨a, b, k, rfl, rfl, h1, q⟩ := h
  exact ⟨a, b, rfl, rfl, fun k' h2 => by rw [h1] at h2; cases h2; exact q, fun h2 => by rw [h1] at h2; cases h2⟩
theorem sim_indexS {K : PySem.W.Frag} : SimT K rIdx0 gIndexS := by
  intro G F ρ H s z vs ds q Q hs r h k
  unfold gIndexS at h
  split at h
  · rename_i a b ez
    cases ez
    obtain ⟨n, hn, rfl⟩ := Option.map_eq_some_iff.mp h
    cases r with
    | cons r1 t =>
      cases t
      cases r1
      exact ⟨_, b, n, rfl, rfl, hn, k _ (.int _)⟩
  · cases h
theorem pairs_rep {K : PySem.W.Frag} {F ρ : List Addr} {H : Hp} : ∀ {ds : List D} {vs : List V} {kvs : List (Key × D)}, Reps K F ρ H vs ds → pairsD ds = some kvs →
    ∃ (ps : List Addr) (ws : List (Key × V)), vs = ps.map V.ref ∧ Paired (fun p kv => SqT K H p [L2.kV kv.1, kv.2]) ps ws ∧ DicR K F ρ H ws kvs
  | [], _, kvs, r, h => by
    cases r; cases h
    exact ⟨[], [], rfl, .nil, rfl, .nil⟩
  | d :: ds, _, kvs, r, h => by
    cases r with
    | cons r1 t =>
      cases d with
      | tup xs =>
        match xs, h with
        | [k, v], h =>
          simp only [pairsD] at h
          split at h
          · rename_i kk rr h1 h2
            cases h
            obtain ⟨ps, ws, rfl, h3, h4⟩ := pairs_rep t h2
            cases r1 with
            | tup t1 q1 =>
              cases q1 with
              | cons a1 a2 =>
                cases a2 with
                | cons b1 b2 =>
                  cases b2
                  rename_i ad v1 v2
                  have e := key_rep a1 h1
                  subst e
                  exact ⟨ad :: ps, (kk, v2) :: ws, rfl, .cons t1.sq h3, by simp only [List.map_cons, h4.1], .cons b1 h4.2⟩
          · cases h
        | [], h => simp [pairsD] at h
        | [_], h => simp [pairsD] at h
        | _ :: _ :: _ :: _, h => simp [pairsD] at h
      | _ => simp [pairsD] at h
theorem DicR.merge {K : PySem.W.Frag} {F ρ : List Addr} {H : Hp} : ∀ {more : List (Key × D)} {mw : List (Key × V)} {kvs : List (Key × D)} {ws : List (Key × V)}, DicR K F ρ H mw more → DicR K F ρ H ws kvs → DicR K F ρ H (mergeK ws mw) (mergeDc kvs more)
  | [], [], _, _, _, h => h
  | [], _ :: _, _, _, h, _ => by have := h.1; simp at this
  | _ :: _, [], _, _, h, _ => by have := h.1; simp at this
  | p :: more, w :: mw, kvs, ws, h, h0 => by
    obtain ⟨h1, h2⟩ := h
    simp only [List.map_cons, List.cons.injEq] at h1
    cases h2 with
    | cons r t =>
      have := DicR.merge (more := more) (mw := mw) ⟨h1.2, t⟩ (h0.put p.1 r)
      unfold mergeK mergeDc at this ⊢
      simp only [List.foldl_cons, h1.1]
      exact this
theorem s_dict {e : Expr} (h : PE X e (tCB (fun xs H Q => ∃ (a : Addr) (ps : List Addr) (kvs : List (Key × V)), xs = [V.ref a] ∧ SqL X.K H a (ps.map V.ref) ∧ Paired (fun p kv => SqT X.K H p [L2.kV kv.1, kv.2]) ps kvs ∧
    ∀ p, H p = none → Q (.ref p) (upd H p (.dK (mergeK [] kvs)))) (tA X.K G W g1))) : SE X G W e (eDict g1) := by
  refine pe_imp h fun σ H Q h => ?_
  obtain ⟨F, ρ, env, s, he, hs, hp⟩ := h
  refine tA.step he hs hp fun ds s1 ρ1 H1 vs _ he1 hs1 e1 r1 hp1 => ?_
  split at hp1
  · rename_i a
    split at hp1
    · rename_i xs hx
      split at hp1
      · rename_i kvs hk
        cases r1 with
        | cons r2 t =>
          cases t
          obtain ⟨q, ws, rfl, h1, h2⟩ := lstOf_rep hs1 r2 hx
          obtain ⟨ps, mw, rfl, h3, h4⟩ := pairs_rep h2 hk
          refine ⟨q, ps, mw, rfl, SqL.of h1, h3, fun p hnone => ?_⟩
          have h5 : DicR X.K F ρ1 H1 (mergeK [] mw) (mergeDc [] kvs) := h4.merge ⟨rfl, .nil⟩
          refine hp1 (ρ1 ++ [p]) _ (Ext.alloc ρ1 hnone) (hs1.alloc hnone ⟨_, upd_same, h5.1, h5.2.ext (Ext.alloc ρ1 hnone)⟩) _ (.ref ?_)
          rw [← hs1.len]; simp
      · exact hp1.elim
    · exact hp1.elim
  · exact hp1.elim
end
end Sx

/-! PxN: rows of whole numbers, equality of rows, comprehensions over mapped lists. -/
namespace Sx
open PySem L2
theorem pds_int (s : Sto) : ∀ xs : List Int, pds s (xs.map .int) = some (xs.map .int)
  | [] => rfl
  | x :: xs => by
    show (match pd s (.int x), pds s (xs.map .int) with | some p, some ps => some (p :: ps) | _, _ => none) = _
    rw [pds_int s xs]
    rfl
theorem canLayAll_int : ∀ xs : List Int, PyData.canLayAll0 (xs.map .int) = true
  | [] => by simp only [List.map_nil, PyData.canLayAll0]
  | x :: xs => by simp only [List.map_cons, PyData.canLayAll0, PyData.canLay0, canLayAll_int xs, Bool.and_self]
theorem eqvAll_int : ∀ xs ys : List Int, PyData.eqvAll (xs.map .int) (ys.map .int) = decide (xs = ys)
  | [], [] => by simp [PyData.eqvAll]
  | [], y :: ys => by simp [PyData.eqvAll]
  | x :: xs, [] => by simp [PyData.eqvAll]
  | x :: xs, y :: ys => by
    simp only [List.map_cons, PyData.eqvAll, PyData.eqv, eqvAll_int xs ys, List.cons.injEq]
    by_cases h1 : x = y <;> by_cases h2 : xs = ys <;> simp [h1, h2]
theorem depthAll_int : ∀ xs : List Int, PyData.depthAll (xs.map .int) ≤ 1
  | [] => by simp [PyData.depthAll]
  | x :: xs => by
    have := depthAll_int xs
    simp only [List.map_cons, PyData.depthAll, PyData.depth]
    omega
theorem shaped_int (xs : List Int) : SeqAt.shaped (.tuple (xs.map .int)) = true ∧ SeqAt.shaped (.list (xs.map .int)) = true := by
  have h := depthAll_int xs
  constructor
  all_goals
    unfold SeqAt.shaped
    simp only [PyData.canLay0, canLayAll_int, PyData.depth, Bool.true_and]
    exact decide_eq_true (by omega)
theorem pd_tup_int (s : Sto) (xs : List Int) : pdR s (.tup (xs.map .int)) = some (.tuple (xs.map .int)) := by
  show (pds s (xs.map .int)).map PyData.tuple = _
  rw [pds_int]
  rfl
theorem pd_lst_int (s : Sto) (xs : List Int) : pdR s (.lst (xs.map .int)) = some (.list (xs.map .int)) := by
  show (pds s (xs.map .int)).map PyData.list = _
  rw [pds_int]
  rfl
theorem eqV_tup_int {s : Sto} (xs ys : List Int) : eqV? s (.tup (xs.map .int)) (.tup (ys.map .int)) = some (decide (xs = ys)) := by
  show (match pdR s (.tup (xs.map .int)), pdR s (.tup (ys.map .int)) with | some p, some q => if SeqAt.shaped p && SeqAt.shaped q then some (PyData.eqv p q) else none | _, _ => none) = _
  rw [pd_tup_int, pd_tup_int]
  simp only [(shaped_int xs).1, (shaped_int ys).1, Bool.and_self, if_true, PyData.eqv, eqvAll_int]
theorem eqV_lst_int {s : Sto} (xs ys : List Int) : eqV? s (.lst (xs.map .int)) (.lst (ys.map .int)) = some (decide (xs = ys)) := by
  show (match pdR s (.lst (xs.map .int)), pdR s (.lst (ys.map .int)) with | some p, some q => if SeqAt.shaped p && SeqAt.shaped q then some (PyData.eqv p q) else none | _, _ => none) = _
  rw [pd_lst_int, pd_lst_int]
  simp only [(shaped_int xs).2, (shaped_int ys).2, Bool.and_self, if_true, PyData.eqv, eqvAll_int]
theorem opEq_ti {s : Sto} (xs ys : List Int) : opEq s (.tup (xs.map .int)) (.tup (ys.map .int)) = some (.bl (decide (xs = ys))) := by
  unfold opEq; rw [eqV_tup_int]; rfl
theorem opNe_ti {s : Sto} (xs ys : List Int) : opNe s (.tup (xs.map .int)) (.tup (ys.map .int)) = some (.bl (!decide (xs = ys))) := by
  unfold opNe; rw [eqV_tup_int]; rfl
theorem opEq_li {s : Sto} (xs ys : List Int) : opEq s (.lst (xs.map .int)) (.lst (ys.map .int)) = some (.bl (decide (xs = ys))) := by
  unfold opEq; rw [eqV_lst_int]; rfl
theorem opNe_li {s : Sto} (xs ys : List Int) : opNe s (.lst (xs.map .int)) (.lst (ys.map .int)) = some (.bl (!decide (xs = ys))) := by
  unfold opNe; rw [eqV_lst_int]; rfl
theorem atI_nat {α : Type} {xs : List α} {k : Nat} {i : Int} {v : α} (h : xs[k]? = some v) (hi : i = (k : Int)) : atI xs i = some v := by
  subst hi
  obtain ⟨hl, e⟩ := List.getElem?_eq_some_iff.mp h
  rw [atI_get0 (by omega) (by omega)]
  simp [e]
theorem opIx_tup {s : Sto} {xs : List D} {k : Nat} {i : Int} {v : D} (h : xs[k]? = some v) (hi : i = (k : Int)) : opIx s (.tup xs) (.int i) = some v := atI_nat h hi
theorem opIx_lst {s : Sto} {xs : List D} {k : Nat} {i : Int} {v : D} (h : xs[k]? = some v) (hi : i = (k : Int)) : opIx s (.lst xs) (.int i) = some v := atI_nat h hi
theorem opIx_ti {s : Sto} {xs : List Int} {k : Nat} {i v : Int} (h : xs[k]? = some v) (hi : i = (k : Int)) : opIx s (.tup (xs.map .int)) (.int i) = some (.int v) := opIx_tup (by rw [List.getElem?_map, h]; rfl) hi
theorem plainDs_int (n : Nat) : ∀ xs : List Int, plainDs n (xs.map .int) = true
  | [] => rfl
  | x :: xs => by simp [plainDs, plainD, plainDs_int n xs]
theorem plain_ti {n : Nat} {xs : List Int} (h : xs.length ≤ 1000000) : plainD (n + 1) (.tup (xs.map .int)) = true := by
  simp only [plainD, plainDs_int, Bool.and_true]
  exact decide_eq_true (by simpa using h)
theorem lcL_filterM {α : Type} {gt : GF} {t : TF} {f : EF} {env : Env} {s : Sto} {P F : α → D} {p : α → Bool} : ∀ {l : List α}, (∀ a ∈ l, ∃ r, gt (P a) env s = some r ∧ t r.1 r.2 = .ok (p a) s ∧ (p a = true → f r.1 s = .ok (F a) s)) → lcL gt t f env (l.map P) s = some ((l.filter p).map F, s)
  | [], _ => rfl
  | d :: ds, h => by
    obtain ⟨r, h1, h2, h3⟩ := h d List.mem_cons_self
    rw [List.map_cons]
    simp only [lcL]
    rw [h1]
    simp only
    rw [h2]
    have ih := lcL_filterM (l := ds) fun x hx => h x (List.mem_cons_of_mem _ hx)
    cases hp : p d with
    | true =>
      simp only
      rw [h3 hp]
      simp only
      rw [ih, List.filter_cons_of_pos hp]
      rfl
    | false =>
      simp only
      rw [ih, List.filter_cons_of_neg (by simp [hp])]
theorem lcL_mapM {α : Type} {gt : GF} {t : TF} {f : EF} {env : Env} {s : Sto} {P F : α → D} {l : List α} (h : ∀ a ∈ l, ∃ r, gt (P a) env s = some r ∧ t r.1 r.2 = .ok true s ∧ f r.1 s = .ok (F a) s) : lcL gt t f env (l.map P) s = some (l.map F, s) := by
  have := lcL_filterM (gt := gt) (t := t) (f := f) (env := env) (s := s) (P := P) (F := F) (p := fun _ => true) (l := l) fun a ha => by
    obtain ⟨r, h1, h2, h3⟩ := h a ha
    exact ⟨r, h1, h2, fun _ => h3⟩
  rw [this]
  congr 2
  rw [List.filter_eq_self.mpr fun _ _ => rfl]
/-- a comprehension that draws: the store by the turn -/
theorem lcL_draw {α : Type} {gt : GF} {f : EF} {env : Env} {P : α → D} {F : Nat → α → D} {S : Nat → Sto} : ∀ {l : List α} {n : Nat}, (∀ i a, a ∈ l → n ≤ i → i < n + l.length → ∃ r, gt (P a) env (S i) = some (r, S i) ∧ f r (S i) = .ok (F i a) (S (i + 1))) →
    ∃ ys, ys.length = l.length ∧ lcL gt tTrue f env (l.map P) (S n) = some (ys, S (n + l.length)) ∧ ∀ k (y : D), ys[k]? = some y → ∃ a, l[k]? = some a ∧ y = F (n + k) a
  | [], n, _ => ⟨[], rfl, rfl, fun k y h => by simp at h⟩
  | a :: l, n, h => by
    obtain ⟨r, h1, h2⟩ := h n a List.mem_cons_self (Nat.le_refl _) (by simp)
    obtain ⟨ys, hl, he, hy⟩ := lcL_draw (l := l) (n := n + 1) fun i b hb h1 h2 => h i b (List.mem_cons_of_mem _ hb) (by omega) (by simp; omega)
    refine ⟨F n a :: ys, by simp [hl], ?_, fun k y hk => ?_⟩
    · rw [List.map_cons]
      simp only [lcL]
      rw [h1]
      simp only [tTrue]
      rw [h2]
      simp only
      rw [he]
      simp only [List.length_cons]
      rw [show n + 1 + l.length = n + (l.length + 1) by omega]
    · cases k with
      | zero => exact ⟨a, rfl, by simpa using hk.symm⟩
      | succ k =>
        obtain ⟨b, hb, e⟩ := hy k y (by simpa using hk)
        exact ⟨b, by simpa using hb, by rw [e]; congr 1; omega⟩
theorem cutD_to {xs : List D} {m : Nat} {i : Int} (hi : i = (m : Int)) : cutD xs none (some i) = xs.take m := by
  subst hi
  unfold cutD
  rw [HT.sIx_none, HT.sIx_nat, List.drop_zero, Nat.sub_zero]
  by_cases h : m ≤ xs.length
  · rw [Nat.min_eq_left h]
  · rw [Nat.min_eq_right (by omega), List.take_of_length_le (Nat.le_refl _), List.take_of_length_le (by omega)]
theorem cutD_from {xs : List D} {m : Nat} {i : Int} (hi : i = (m : Int)) : cutD xs (some i) none = xs.drop m := by
  subst hi
  unfold cutD
  rw [HT.sIx_none, HT.sIx_nat]
  by_cases h : m ≤ xs.length
  · rw [Nat.min_eq_left h, List.take_of_length_le (by simp)]
  · rw [Nat.min_eq_right (by omega), List.drop_of_length_le (Nat.le_refl _), List.drop_of_length_le (by omega)]; simp
end Sx

/-! PxP: pure things (numbers, truths, texts, None, tuples and lists of such), loops that check. -/
namespace Sx
open PySem L2
mutual
def pureL (L : Nat) : Nat → D → Bool
  | _, .non => true
  | _, .bl _ => true
  | _, .int _ => true
  | _, .str z => PyData.strOk z && decide (z.length ≤ 1000)
  | 0, .tup _ => false
  | 0, .lst _ => false
  | n + 1, .tup xs => decide (xs.length ≤ L) && pureLs L n xs
  | n + 1, .lst xs => decide (xs.length ≤ L) && pureLs L n xs
  | _, .ref _ => false
  | _, .scr _ => false
  | _, .ntp _ => false
def pureLs (L : Nat) : Nat → List D → Bool
  | _, [] => true
  | n, d :: ds => pureL L n d && pureLs L n ds
end
variable {L : Nat}
theorem pureLs_mem {n : Nat} : ∀ {xs : List D}, pureLs L n xs = true ↔ ∀ x ∈ xs, pureL L n x = true
  | [] => by simp [pureLs]
  | y :: ys => by simp [pureLs, pureLs_mem (xs := ys)]
theorem pure_tup {n : Nat} {xs : List D} (h : xs.length ≤ L) (hx : ∀ x ∈ xs, pureL L n x = true) : pureL L (n + 1) (.tup xs) = true := by
  simp only [pureL, Bool.and_eq_true]
  exact ⟨decide_eq_true h, pureLs_mem.mpr hx⟩
theorem pure_lst {n : Nat} {xs : List D} (h : xs.length ≤ L) (hx : ∀ x ∈ xs, pureL L n x = true) : pureL L (n + 1) (.lst xs) = true := by
  simp only [pureL, Bool.and_eq_true]
  exact ⟨decide_eq_true h, pureLs_mem.mpr hx⟩
theorem pure_tup_inv {n : Nat} {xs : List D} (h : pureL L n (.tup xs) = true) : xs.length ≤ L ∧ ∀ x ∈ xs, pureL L (n - 1) x = true := by
  cases n with
  | zero => simp [pureL] at h
  | succ n =>
    simp only [pureL, Bool.and_eq_true] at h
    exact ⟨of_decide_eq_true h.1, pureLs_mem.mp h.2⟩
theorem pure_lst_inv {n : Nat} {xs : List D} (h : pureL L n (.lst xs) = true) : xs.length ≤ L ∧ ∀ x ∈ xs, pureL L (n - 1) x = true := by
  cases n with
  | zero => simp [pureL] at h
  | succ n =>
    simp only [pureL, Bool.and_eq_true] at h
    exact ⟨of_decide_eq_true h.1, pureLs_mem.mp h.2⟩
mutual
theorem pure_up : ∀ (n m : Nat) (d : D), n ≤ m → pureL L n d = true → pureL L m d = true
  | n, m, .non, _, _ => by cases m <;> rfl
  | n, m, .bl _, _, _ => by cases m <;> rfl
  | n, m, .int _, _, _ => by cases m <;> rfl
  | n, m, .str _, _, h => by cases n <;> cases m <;> simpa [pureL] using h
  | 0, _, .tup _, _, h => by simp [pureL] at h
  | 0, _, .lst _, _, h => by simp [pureL] at h
  | n + 1, 0, _, h, _ => by omega
  | n + 1, m + 1, .tup xs, hm, h => by
    simp only [pureL, Bool.and_eq_true] at h ⊢
    exact ⟨h.1, pures_up n m xs (by omega) h.2⟩
  | n + 1, m + 1, .lst xs, hm, h => by
    simp only [pureL, Bool.and_eq_true] at h ⊢
    exact ⟨h.1, pures_up n m xs (by omega) h.2⟩
  | n, _, .ref _, _, h => by cases n <;> simp [pureL] at h
  | n, _, .scr _, _, h => by cases n <;> simp [pureL] at h
  | n, _, .ntp _, _, h => by cases n <;> simp [pureL] at h
theorem pures_up : ∀ (n m : Nat) (xs : List D), n ≤ m → pureLs L n xs = true → pureLs L m xs = true
  | _, _, [], _, _ => by simp [pureLs]
  | n, m, x :: xs, hm, h => by
    simp only [pureLs, Bool.and_eq_true] at h ⊢
    exact ⟨pure_up n m x hm h.1, pures_up n m xs hm h.2⟩
end
mutual
theorem pd_pure (s : Sto) : ∀ (n : Nat) (d : D), pureL L n d = true → ∃ p, pd s d = some p ∧ PyData.canLay0 p = true ∧ PyData.depth p ≤ n
  | n, .non, _ => ⟨.none, rfl, by simp [PyData.canLay0], by simp [PyData.depth]⟩
  | n, .bl b, _ => ⟨.bool b, rfl, by simp [PyData.canLay0], by simp [PyData.depth]⟩
  | n, .int b, _ => ⟨.int b, rfl, by simp [PyData.canLay0], by simp [PyData.depth]⟩
  | n, .str z, h => ⟨.str z, rfl, by
      have : PyData.strOk z = true := by cases n <;> (simp only [pureL, Bool.and_eq_true] at h; exact h.1)
      simpa [PyData.canLay0] using this, by simp [PyData.depth]⟩
  | 0, .tup _, h => by simp [pureL] at h
  | 0, .lst _, h => by simp [pureL] at h
  | n + 1, .tup xs, h => by
    simp only [pureL, Bool.and_eq_true] at h
    obtain ⟨ps, h1, h2, h3⟩ := pds_pure s n xs h.2
    refine ⟨.tuple ps, ?_, by simpa [PyData.canLay0] using h2, by simp only [PyData.depth]; omega⟩
    show (pds s xs).map PyData.tuple = _
    rw [h1]
    rfl
  | n + 1, .lst xs, h => by
    simp only [pureL, Bool.and_eq_true] at h
    obtain ⟨ps, h1, h2, h3⟩ := pds_pure s n xs h.2
    refine ⟨.list ps, ?_, by simpa [PyData.canLay0] using h2, by simp only [PyData.depth]; omega⟩
    show (pds s xs).map PyData.list = _
    rw [h1]
    rfl
  | n, .ref _, h => by cases n <;> simp [pureL] at h
  | n, .scr _, h => by cases n <;> simp [pureL] at h
  | n, .ntp _, h => by cases n <;> simp [pureL] at h
theorem pds_pure (s : Sto) : ∀ (n : Nat) (xs : List D), pureLs L n xs = true → ∃ ps, pds s xs = some ps ∧ PyData.canLayAll0 ps = true ∧ PyData.depthAll ps ≤ n
  | n, [], _ => ⟨[], rfl, by simp [PyData.canLayAll0], by simp [PyData.depthAll]⟩
  | n, x :: xs, h => by
    simp only [pureLs, Bool.and_eq_true] at h
    obtain ⟨p, h1, h2, h3⟩ := pd_pure s n x h.1
    obtain ⟨ps, h4, h5, h6⟩ := pds_pure s n xs h.2
    refine ⟨p :: ps, ?_, by simp [PyData.canLayAll0, h2, h5], by simp only [PyData.depthAll]; omega⟩
    simp only [pds]
    rw [h1, h4]
end
abbrev pureD : Nat → D → Bool := pureL 1000
mutual
theorem pure_wide {L M : Nat} (hm : L ≤ M) : ∀ (n : Nat) (d : D), pureL L n d = true → pureL M n d = true
  | n, .non, _ => by cases n <;> rfl
  | n, .bl _, _ => by cases n <;> rfl
  | n, .int _, _ => by cases n <;> rfl
  | n, .str _, h => by cases n <;> simpa [pureL] using h
  | 0, .tup _, h => by simp [pureL] at h
  | 0, .lst _, h => by simp [pureL] at h
  | n + 1, .tup xs, h => by
    simp only [pureL, Bool.and_eq_true, decide_eq_true_eq] at h ⊢
    exact ⟨Nat.le_trans h.1 hm, pures_wide hm n xs h.2⟩
  | n + 1, .lst xs, h => by
    simp only [pureL, Bool.and_eq_true, decide_eq_true_eq] at h ⊢
    exact ⟨Nat.le_trans h.1 hm, pures_wide hm n xs h.2⟩
  | n, .ref _, h => by cases n <;> simp [pureL] at h
  | n, .scr _, h => by cases n <;> simp [pureL] at h
  | n, .ntp _, h => by cases n <;> simp [pureL] at h
theorem pures_wide {L M : Nat} (hm : L ≤ M) : ∀ (n : Nat) (xs : List D), pureLs L n xs = true → pureLs M n xs = true
  | _, [], _ => by simp [pureLs]
  | n, x :: xs, h => by
    simp only [pureLs, Bool.and_eq_true] at h ⊢
    exact ⟨pure_wide hm n x h.1, pures_wide hm n xs h.2⟩
end
/-- what is no row at all -/
theorem pure_cases {n : Nat} {d : D} (h : pureL L n d = true) : (∃ xs, d = .tup xs) ∨ ∀ xs, d ≠ .tup xs := by
  cases d with
  | tup xs => exact .inl ⟨xs, rfl⟩
  | _ => exact .inr fun xs h => by cases h
theorem pureShaped {p : PyData} {n : Nat} (h : PyData.canLay0 p = true) (h2 : PyData.depth p ≤ n) (hn : n ≤ 64) : SeqAt.shaped p = true := by
  unfold SeqAt.shaped
  rw [h, Bool.true_and]
  exact decide_eq_true (by omega)
theorem pds_nil {s : Sto} {xs : List D} : pds s xs = some [] → xs = [] := by
  cases xs with
  | nil => intro _; rfl
  | cons x xs =>
    intro h
    simp only [pds] at h
    split at h
    · cases h
    · cases h
theorem opEq_empty {s : Sto} {n : Nat} {xs : List D} (h : pureL L n (.tup xs) = true) (hn : n ≤ 60) : opEq s (.tup xs) (.tup []) = some (.bl xs.isEmpty) := by
  obtain ⟨p, h1, h2, h3⟩ := pd_pure s n _ h
  have hp : ∃ ps, pds s xs = some ps ∧ p = .tuple ps := by
    have : (pds s xs).map PyData.tuple = some p := h1
    obtain ⟨ps, a, b⟩ := Option.map_eq_some_iff.mp this
    exact ⟨ps, a, b.symm⟩
  obtain ⟨ps, hps, rfl⟩ := hp
  have e1 : pdR s (.tup xs) = some (.tuple ps) := h1
  have e2 : pdR s (.tup []) = some (.tuple []) := rfl
  unfold opEq
  show (match pdR s (.tup xs), pdR s (.tup []) with | some p, some q => if SeqAt.shaped p && SeqAt.shaped q then some (PyData.eqv p q) else none | _, _ => none).map D.bl = _
  rw [e1, e2]
  have s1 := pureShaped h2 h3 (by omega)
  have s2 : SeqAt.shaped (.tuple []) = true := by decide
  simp only [s1, s2, Bool.and_self, if_true, Option.map_some]
  congr 2
  cases xs with
  | nil =>
    have : ps = [] := by
      have : some [] = some ps := hps
      exact (Option.some.inj this).symm
    subst this
    simp [PyData.eqv, PyData.eqvAll]
  | cons x xs =>
    cases ps with
    | nil => exact absurd (pds_nil hps) (by simp)
    | cons p ps => simp [PyData.eqv, PyData.eqvAll]
/-- a loop that checks: it goes on where p holds, else it tells false -/
theorem forL_chk {gt : GF} {b : SF} {s : Sto} (I : Env → Prop) (p : D → Bool) : ∀ {ds : List D}, (∀ d ∈ ds, ∀ env, I env → ∃ r, gt d env s = some r ∧ (p d = true → ∃ e1, b r.1 r.2 = .nx e1 s ∧ I e1) ∧ (p d = false → b r.1 r.2 = .rt (.bl false) s)) → ∀ env, I env →
    (ds.all p = true → ∃ e1, forL gt b ds env s = .nx e1 s ∧ I e1) ∧ (ds.all p = false → forL gt b ds env s = .rt (.bl false) s)
  | [], _, env, h => ⟨fun _ => ⟨env, rfl, h⟩, fun h => by cases h⟩
  | d :: ds, step, env, h => by
    obtain ⟨r, h1, h2, h3⟩ := step d List.mem_cons_self env h
    rw [forL_cons, h1, kFor_some]
    cases hp : p d with
    | true =>
      obtain ⟨e1, h4, h5⟩ := h2 hp
      obtain ⟨h6, h7⟩ := forL_chk I p (ds := ds) (fun d hd => step d (List.mem_cons_of_mem _ hd)) e1 h5
      rw [h4, kTurn_nx, List.all_cons, hp, Bool.true_and]
      exact ⟨h6, h7⟩
    | false =>
      rw [h3 hp, List.all_cons, hp, Bool.false_and]
      exact ⟨fun h => (by cases h), fun _ => rfl⟩
theorem allBl_map {α : Type} (p : α → Bool) : ∀ l : List α, allBl (l.map fun a => .bl (p a)) = some (l.map p)
  | [] => rfl
  | a :: l => by
    show (allBl (l.map fun a => .bl (p a))).map _ = _
    rw [allBl_map p l]
    rfl
theorem fAll_map {α : Type} {s : Sto} (p : α → Bool) (l : List α) : fAll s [.lst (l.map fun a => .bl (p a))] = some (.bl (l.all p)) := by
  show (allBl _).map _ = _
  rw [allBl_map]
  simp
/-- one of some, as a list of the store -/
theorem one_r {ns : List Int} {n k : Nat} {xs : List D} {rest : Sto} (hn : n < 900000) (hx : xs ≠ []) (hk : rest[k]? = some (.lst xs)) : ∃ d, d ∈ xs ∧ oneS [.scr ns, .ref 0, .ref (k + 1)] (tw n :: rest) = .ok d (tw (n + 1) :: rest) := by
  have hl : 0 < (xs.length : Int) := by
    have := List.length_pos_iff.mpr hx
    omega
  have h0 := drawv_nn (ns := ns) (n := n) hl
  have h1 := drawv_lt (ns := ns) (n := n) hl
  refine ⟨xs[(drawv ns n xs.length).toNat]'(by omega), List.getElem_mem _, ?_⟩
  unfold oneS
  rw [fnOf_3]
  have e1 : fLen (tw n :: rest) [.ref (k + 1)] = some (.int xs.length) := fLen_ref (by simpa using hk)
  have e : opIx (tw (n + 1) :: rest) (.ref (k + 1)) (.int (drawv ns n xs.length)) = some (xs[(drawv ns n xs.length).toNat]'(by omega)) := by
    show (match rowOf (tw (n + 1) :: rest) (D.ref (k + 1)) with | some xs => atI xs _ | none => none) = _
    have : rowOf (tw (n + 1) :: rest) (D.ref (k + 1)) = some xs := by
      simp only [rowOf]
      rw [show (tw (n + 1) :: rest)[k + 1]? = some (.lst xs) by simpa using hk]
    rw [this]
    exact atI_get0 h0 h1
  simp [draw_v hn hl, e, e1]
/-- a comprehension that may draw: what holds between its turns, what holds of what is told -/
theorem lcL_inv {gt : GF} {t : TF} {f : EF} {env : Env} (J : Nat → Sto → Prop) (R : D → Prop) : ∀ {ds : List D} {n : Nat} {s : Sto},
    (∀ i d s, ds[i]? = some d → J (n + i) s → ∃ r, gt d env s = some r ∧ ∃ b s2, t r.1 r.2 = .ok b s2 ∧ (b = true → ∃ y s3, f r.1 s2 = .ok y s3 ∧ R y ∧ J (n + i + 1) s3) ∧ (b = false → J (n + i + 1) s2)) → J n s →
    ∃ ys s', lcL gt t f env ds s = some (ys, s') ∧ ys.length ≤ ds.length ∧ (∀ y ∈ ys, R y) ∧ J (n + ds.length) s'
  | [], n, s, _, h => ⟨[], s, rfl, Nat.le_refl _, fun y h => (by cases h), h⟩
  | d :: ds, n, s, step, h => by
    obtain ⟨r, h1, b, s2, h2, h3, h4⟩ := step 0 d s rfl h
    have rest : ∀ s3, J (n + 0 + 1) s3 → ∃ ys s', lcL gt t f env ds s3 = some (ys, s') ∧ ys.length ≤ ds.length ∧ (∀ y ∈ ys, R y) ∧ J (n + (d :: ds).length) s' := fun s3 hJ => by
      obtain ⟨ys, s', a, b, c, e⟩ := lcL_inv J R (ds := ds) (n := n + 1) (s := s3) (fun i d' s' hd hJ' => by
        have := step (i + 1) d' s' (by simpa using hd) (by rw [show n + (i + 1) = n + 1 + i by omega]; exact hJ')
        rw [show n + (i + 1) = n + 1 + i by omega] at this
        exact this) hJ
      refine ⟨ys, s', a, b, c, ?_⟩
      rw [List.length_cons, show n + (ds.length + 1) = n + 1 + ds.length by omega]
      exact e
    simp only [lcL]
    rw [h1]
    simp only
    rw [h2]
    cases b with
    | true =>
      obtain ⟨y, s3, h5, h6, h7⟩ := h3 rfl
      obtain ⟨ys, s', a, b, c, e⟩ := rest s3 h7
      simp only
      rw [h5]
      simp only
      rw [a]
      refine ⟨y :: ys, s', rfl, by simpa using b, fun z hz => ?_, e⟩
      rcases List.mem_cons.mp hz with rfl | hz
      · exact h6
      · exact c z hz
    | false =>
      obtain ⟨ys, s', a, b, c, e⟩ := rest s2 (h4 rfl)
      simp only
      exact ⟨ys, s', a, Nat.le_succ_of_le b, c, e⟩
end Sx

/-! PxO: tuples of which it is known that they have no dict; their methods. -/
namespace Sx
open PySem L2 PySem.Spec PyProof.Rows
/-- a noted tuple as any other -/
def unN : D → D
  | .ntp xs => .tup xs
  | d => d
def eUp (f : EF) : EF := fun env s => (f env s).bind fun d s1 => .ok (unN d) s1
def eTupN (g : AF) : EF := fun env s => (g env s).bind fun ds s1 => if ds.length ≤ LIM then .ok (.ntp ds) s1 else .no
def fTupleN (s : Sto) (as : List D) : Option D := match as with
  | [a] => (lstOf s a).map .ntp
  | _ => none
def eNM (g : List D → List D → Option D) (fo : EF) (fa : AF) : EF := fun env s => (fo env s).bind fun o s1 => match o with
  | .ntp xs => (fa env s1).bind fun as s2 => R.of (g xs as) s2
  | _ => .no
def nIndex (xs : List D) (as : List D) : Option D := match as with
  | [d] => if isFlat d && xs.all isFlat then (idxF d xs 0).map fun j => .int (j : Nat) else none
  | _ => none
theorem Rep.up {K : PySem.W.Frag} {F ρ : List Addr} {H : Hp} {v : V} {d : D} (r : Rep K F ρ H v d) : Rep K F ρ H v (unN d) := by
  cases r with
  | ntp t q =>
    obtain ⟨⟨o, ho, _⟩, f, x⟩ := t
    exact .tup (.inl ⟨.inr ⟨o, ho⟩, f, x⟩) q
  | non => exact .non
  | bl b => exact .bl b
  | int i => exact .int i
  | str x => exact .str x
  | tup t q => exact .tup t q
  | lst t q => exact .lst t q
  | ref q => exact .ref q
  | scr t => exact .scr t
section
variable {X : Cx} {G : SCtx} {W : WX} {pos apos cpos : Pos} {e o : Expr} {es : List Expr} {f fo : EF} {g1 fa : AF}
theorem s_up (h : SE X G W e f) : SE X G W e (eUp f) := by
  refine pe_imp h fun σ H Q h => ?_
  obtain ⟨F, ρ, env, s, he, hs, hp⟩ := h
  exact tE.step he hs hp fun d s1 ρ1 H1 v _ he1 hs1 e1 r1 hp1 => hp1.here hs1 v r1.up
/-- a display, its object known -/
theorem pe_tupF {k : Nat} {t : TA} (h : PA X es t) : PE X (.Tuple es k pos) (fun σ H Q => t σ H fun xs H1 => xs.length ≤ sizeLine ∧ ∀ p ob, H1 p = none → ob.dict = none → Q (.ref p) (upd H1 p (.frz ob (.tup xs)))) := by
  constructor
  intro pins s σ H Q I hq
  apply wpAny_Tuple_spliced
  refine thn (h.run pos pins s σ H _ I hq) fun us s1 hh => ?_
  obtain ⟨xs, H1, I1, r, hz, q⟩ := hh
  have hfr := I1.hok.fresh (Nat.le_refl s1.heap.objs.size)
  refine ⟨by rw [← r.length]; exact hz, V.ref s1.heap.objs.size, _, Inv.laid I1 (o := .frz { cls := .type "tuple", dict := none, data := .seq us.toArray } (.tup xs)) (t' := s1.toks) (fun b u z => Heap.get?_push_of_some _ z) (Nat.le_refl _) ⟨Heap.get?_push_size _ rfl, hz, us, r, _, Heap.get?_push_size _ rfl, rfl, _, rfl⟩, by rfl, q _ _ hfr rfl⟩
theorem Rep.newNt {K : PySem.W.Frag} {F ρ : List Addr} {H : Hp} {s : Sto} (hs : SRel K G F ρ H s) {p : Addr} {ob : Obj} (hp : H p = none) (hd : ob.dict = none) {vs : List V} {ds : List D} (r : Reps K F ρ H vs ds) : Rep K F ρ (upd H p (.frz ob (.tup vs))) (.ref p) (.ntp ds) :=
  .ntp ⟨⟨ob, upd_same, hd⟩, (hs.fresh hp).1, (hs.fresh hp).2⟩ (r.ext (Ext.new ρ hp))
theorem s_tupN {k : Nat} (h : SA X G W es g1) : SE X G W (.Tuple es k pos) (eTupN g1) := by
  refine pe_imp (pe_tupF h) fun σ H Q h => ?_
  obtain ⟨F, ρ, env, s, he, hs, hp⟩ := h
  refine tA.step he hs hp fun ds s1 ρ1 H1 vs _ he1 hs1 e1 r1 hp1 => ?_
  split at hp1
  · rename_i hl
    exact ⟨by rw [r1.length]; exact lim hl, fun p ob hpn hd => hp1 _ _ (Ext.new ρ1 hpn) (hs1.new hpn) _ (Rep.newNt hs1 hpn hd r1)⟩
  · exact hp1.elim
/-- tuple(xs) of a list -/
def rTupF (K : PySem.W.Frag) : List V → Hp → VK → Prop := fun xs H Q => ∃ p ys, xs = [V.ref p] ∧ SqL K H p ys ∧ ∀ l ob, H l = none → ob.dict = none → Q (.ref l) (upd H l (.frz ob (.tup ys)))
theorem cr_tupF : CallR X (.type "tuple") (rTupF X.K) := by
  intro pins s σ H xs us Q I r h
  obtain ⟨p, ys, rfl, hq, q⟩ := h
  obtain ⟨u, rfl, rx⟩ := vals1 r
  cases rx
  obtain ⟨its, r', plist, hz⟩ := I.list hq
  have hlen := r'.length
  refine call_tuple_list plist.isList (fun h' kp => ?_) (by simp only [List.size_toArray]; omega)
  have J := Inv.kept I (t' := s.toks) kp
  have J2 := Inv.laid J (a := h'.objs.size) (o := .frz { cls := .type "tuple", dict := none, data := .seq its.toArray } (.tup ys)) (h' := h'.push { cls := .type "tuple", data := .seq its.toArray }) (t' := s.toks) (fun b z w => Heap.get?_push_of_some _ w) (Nat.le_refl _)
    ⟨Heap.get?_push_size _ rfl, hz, its, r', IsTup.new _ _⟩
  exact ⟨.ref h'.objs.size, _, J2, rfl, q _ _ (J.hok.fresh (Nat.le_refl _)) rfl⟩
theorem sim_tupleN {K : PySem.W.Frag} : SimN K (rTupF K) fTupleN := by
  intro G F ρ H s vs ds d Q hs r h k
  unfold fTupleN at h
  split at h
  · rename_i a
    obtain ⟨xs, hx, rfl⟩ := Option.map_eq_some_iff.mp h
    cases r with
    | cons r1 t =>
      cases t
      obtain ⟨q, ws, rfl, h1, h2⟩ := lstOf_rep hs r1 hx
      exact ⟨q, ws, rfl, SqL.of h1, fun l ob hn hd => k _ _ (Ext.new ρ hn) (hs.new hn) (Rep.newNt hs hn hd h2)⟩
  · cases h
/-- t.m(e, ..) of such a tuple -/
theorem pe_ntm {id : String} {name : Str} {r : V → List V → Hp → VK → Prop} {to : TE} {t : TA} (slot : Slot "tuple" name id) (hty : typeOf (.builtin id) = pure (.type "method_descriptor")) (hm : MtR X id r) (ho : PE X o to) (ha : PA X (e :: es) t)
    (hbase : attributeBase o name X.env (eval o X.env) = eval o X.env := by rfl)
    (hfew : ((backTo cpos (starEach (e :: es) X.env)).all (fun x => !x.1) && (backToKw cpos (keywordEach [] X.env)).all (fun x => x.1.isSome) && decide ((e :: es).length + ([] : List Keyword).length + (if ([] : List Keyword).isEmpty then 0 else 1) < 30)) = true := by rfl)
    (hline : (apos.endLine == cpos.line) = true := by rfl) (hs : starEach (e :: es) X.env = (false, eval e X.env) :: starEach es X.env := by rfl) (hplain : (backTo cpos (starEach es X.env)).any (·.1) = false := by rfl) :
    PE X (.Call (.Attribute o name apos) (e :: es) [] cpos) (fun σ H Q => to σ H fun x H1 => (∃ a ob vs, x = V.ref a ∧ H1 a = some (.frz ob (.tup vs)) ∧ ob.dict = none) ∧ t σ H1 fun xs H2 => r x xs H2 Q) := by
  constructor
  intro pins s σ H Q I h
  refine wpAny_Call_method_late hbase hfew hline rfl (thn (ho.run pins s σ H _ I h) fun v s1 hh => ?_)
  obtain ⟨x, H1, I1, r1, ⟨a, ob, vs, rfl, h1, h2⟩, q1⟩ := hh
  cases r1
  obtain ⟨g1, hz, its, hv, ob2, g2, hc, _⟩ := I1.hok a _ h1
  rw [g1] at g2
  cases g2
  refine ⟨"tuple", id, PySem.F.plainAttrs_tuple, slot, hty, ⟨ob, g1, hc⟩, fun b z => ?_, ?_⟩
  · cases z
    exact ⟨ob, g1, h2⟩
  · have hA := ha.run cpos pins s1 σ H1 _ I1 q1
    rw [hs] at hA ⊢
    refine Calls.callWith_builtin (by show (false || (backTo cpos (starEach es X.env)).any (·.1)) = false; rw [hplain]; rfl) (Calls.evalArgs_plain (thn hA fun us s2 hh => ?_))
    obtain ⟨vs2, H2, I2, r2, q2⟩ := hh
    exact hm pins s2 σ H2 (V.ref a) vs2 (Value.ref a) us Q I2 rfl r2 q2
def rIdxT (K : PySem.W.Frag) : V → List V → Hp → VK → Prop := fun x xs H Q => ∃ (a : Addr) (ys : List V) (y : V) (j : Nat) (z : V), x = V.ref a ∧ xs = [y] ∧ SqT K H a ys ∧ flatV y = true ∧ ys.all flatV = true ∧ ys[j]? = some z ∧ eqV z y = true ∧
  (∀ (m : Nat) (z' : V), m < j → ys[m]? = some z' → eqV z' y = false) ∧ Q (.int (j : Nat)) H
theorem mt_idxT : MtR X "tuple.index" (rIdxT X.K) := by
  intro pins s σ H x xs v us Q I rx rs h
  obtain ⟨p, ys, y, j, z, rfl, rfl, hq, fy, fys, hz, he, hno, q⟩ := h
  cases rx
  obtain ⟨w, rfl, rw0⟩ := vals1 rs
  obtain ⟨its, r, ptup, hsz⟩ := I.tuple hq
  obtain ⟨⟨cls, dd, dt, sl⟩, hget, hc, n, hd⟩ := ptup
  simp only at hc hd
  subst hc hd
  obtain ⟨u, hu, ru⟩ := r.get hz
  obtain ⟨hjl, hje⟩ := List.getElem?_eq_some_iff.mp hu
  have hlen := r.length
  have hjs : j < its.toArray.size := by simpa using hjl
  refine call_meets PySem.F.slot_tuple_index ⟨_, hget, rfl⟩ PySem.F.entry_tuple_index (PySem.F.args_tuple_index_2 _ _) (TI.tuple_indexAt p its.toArray n dd sl w (eqU y) j hjs ?_ ?_) ⟨hget, fun u' hu' => mem_eqAt rw0 fy r fys u' (by simpa using hu'), ⟨.int (j : Nat), H, I.tok _, ⟨_, rfl⟩, q⟩⟩
  · have e1 : its.toArray[j] = u := by simpa using hje
    rw [e1, eqU_of ru (List.all_eq_true.mp fys z (List.mem_of_getElem? hz))]
    exact he
  · intro m hm hmj
    have hml : m < its.length := by simpa using hm
    have hmy : m < ys.length := by omega
    have hy' := List.getElem?_eq_getElem hmy
    obtain ⟨u2, hu2, ru2⟩ := r.get hy'
    obtain ⟨_, hme⟩ := List.getElem?_eq_some_iff.mp hu2
    have e1 : its.toArray[m] = u2 := by simpa using hme
    rw [e1, eqU_of ru2 (List.all_eq_true.mp fys _ (List.getElem_mem hmy))]
    exact hno m _ hmj hy'
theorem s_nidx (h : PE X e (fun σ H Q => tE X.K G W fo σ H fun x H1 => (∃ a ob vs, x = V.ref a ∧ H1 a = some (.frz ob (.tup vs)) ∧ ob.dict = none) ∧ tA X.K G W fa σ H1 fun xs H2 => rIdxT X.K x xs H2 Q)) : SE X G W e (eNM nIndex fo fa) := by
  refine pe_imp h fun σ H Q h => ?_
  obtain ⟨F, ρ, env, s, he, hs, hp⟩ := h
  refine tE.step he hs hp fun d s1 ρ1 H1 v _ he1 hs1 e1 r1 hp1 => ?_
  split at hp1
  · rename_i xs _
    cases r1 with
    | ntp t q =>
      obtain ⟨⟨ob, ho, hd⟩, f, x⟩ := t
      refine ⟨⟨_, ob, _, rfl, ho, hd⟩, tA.step he1 hs1 hp1 fun ds s2 ρ2 H2 vs _ he2 hs2 e2 r2 hp2 => ?_⟩
      obtain ⟨w, hw, hp3⟩ := hp2.off
      unfold nIndex at hw
      split at hw
      · rename_i d1
        split at hw
        · rename_i hf
          simp only [Bool.and_eq_true] at hf
          obtain ⟨n, hn, rfl⟩ := Option.map_eq_some_iff.mp hw
          cases r2 with
          | cons r3 t3 =>
            cases t3
            have q2 := Reps.ext e2 q
            obtain ⟨i, rfl, ⟨y, h3, h4⟩, h5⟩ := idxF_at hn
            obtain ⟨w, h6, h7⟩ := q2.get h3
            refine ⟨_, _, _, i, w, rfl, rfl, .inl (.inr ⟨ob, e2.keep _ _ ho x⟩), flat_rep r3 hf.1, flats_rep q2 hf.2, h6, ?_, fun m z hm hz => ?_, ?_⟩
            · rw [flatEq_rep h7 r3 (flatAt hf.2 h3) hf.1]; exact h4
            · have hlt : m < xs.length := by rw [← q2.length]; exact (List.getElem?_eq_some_iff.mp hz).1
              have hxm := List.getElem?_eq_getElem hlt
              obtain ⟨w', h8, h9⟩ := q2.get hxm
              rw [hz] at h8
              cases h8
              rw [flatEq_rep h9 r3 (flatAt hf.2 hxm) hf.1]
              exact h5 m _ hm hxm
            · rw [Nat.zero_add] at hp3
              exact hp3.here hs2 _ (.int _)
        · cases hw
      · cases hw
  · exact hp1.elim
end
/-! ### rows for the simplifier -/
section
variable {s s' : Sto} {env : Env} {f fo : EF} {g fa : AF}
@[simp] theorem unN_ntp {xs : List D} : unN (.ntp xs) = .tup xs := rfl
@[simp] theorem unN_int {i : Int} : unN (.int i) = .int i := rfl
def kUp : R D → R D
  | .ok d s => .ok (unN d) s
  | .ex c s => .ex c s
  | .no => .no
@[simp] theorem kUp_0 {d : D} : kUp (.ok d s) = .ok (unN d) s := rfl
@[simp] theorem kUp_1 {c : Nat} : kUp (.ex c s) = .ex c s := rfl
@[simp] theorem eUp_v : eUp f env s = kUp (f env s) := by unfold eUp; cases f env s <;> rfl
def kTupN : R (List D) → R D
  | .ok ds s => if ds.length ≤ LIM then .ok (.ntp ds) s else .no
  | .ex c s => .ex c s
  | .no => .no
@[simp] theorem kTupN_0 {ds : List D} : kTupN (.ok ds s) = if ds.length ≤ LIM then .ok (.ntp ds) s else .no := rfl
@[simp] theorem eTupN_v : eTupN g env s = kTupN (g env s) := by unfold eTupN; cases g env s <;> rfl
def kNM2 (h : List D → List D → Option D) (xs : List D) : R (List D) → R D
  | .ok as s => R.of (h xs as) s
  | .ex c s => .ex c s
  | .no => .no
@[simp] theorem kNM2_0 {h : List D → List D → Option D} {xs as : List D} : kNM2 h xs (.ok as s) = R.of (h xs as) s := rfl
def kNM1 (h : List D → List D → Option D) (fa : AF) (env : Env) : R D → R D
  | .ok d s => match d with
    | .ntp xs => kNM2 h xs (fa env s)
    | _ => .no
  | .ex c s => .ex c s
  | .no => .no
@[simp] theorem kNM1_0 {h : List D → List D → Option D} {xs : List D} : kNM1 h fa env (.ok (.ntp xs) s) = kNM2 h xs (fa env s) := rfl
@[simp] theorem eNM_v {h : List D → List D → Option D} : eNM h fo fa env s = kNM1 h fa env (fo env s) := by
  unfold eNM
  cases fo env s with
  | no => rfl
  | ex c s1 => rfl
  | ok d s1 =>
    cases d with
    | ntp xs =>
      show (fa env s1).bind _ = kNM2 h xs (fa env s1)
      cases fa env s1 <;> rfl
    | _ => rfl
theorem fTupleN_ref {n : Nat} {xs : List D} (h : s[n]? = some (.lst xs)) : fTupleN s [.ref n] = some (.ntp xs) := by simp only [fTupleN, lstOf]; rw [h]; rfl
theorem fTupleN_lst {xs : List D} : fTupleN s [.lst xs] = some (.ntp xs) := rfl
@[simp] theorem isNone_ntp {b : List D} : isNone (.ntp b) = false := rfl
theorem flatEq_ii {x y : Int} : flatEq (.int x) (.int y) = decide (x = y) := by show (x == y) = _; simp [BEq.beq]
theorem isFlat_ints : ∀ ws : List Int, (ws.map D.int).all isFlat = true
  | [] => rfl
  | w :: ws => by simp [isFlat, isFlat_ints ws]
/-- the place of a whole number in a row -/
def ixI (x : Int) : List Int → Nat → Option Nat
  | [], _ => none
  | y :: ys, j => if y = x then some j else ixI x ys (j + 1)
theorem idxF_ints (x : Int) : ∀ (ws : List Int) (j : Nat), idxF (.int x) (ws.map .int) j = ixI x ws j
  | [], j => rfl
  | w :: ws, j => by
    simp only [List.map_cons, idxF, ixI, flatEq_ii, idxF_ints x ws (j + 1), decide_eq_true_eq]
theorem nIndex_ints {ws : List Int} {x : Int} : nIndex (ws.map .int) [.int x] = (ixI x ws 0).map fun j => .int (j : Nat) := by
  show (if isFlat (.int x) && (ws.map D.int).all isFlat then (idxF (.int x) (ws.map .int) 0).map (fun j => D.int (j : Nat)) else none) = _
  rw [isFlat_ints, idxF_ints]
  rfl
theorem ixI_mem {x : Int} : ∀ {ws : List Int} {j : Nat}, x ∈ ws → ∃ k : Nat, ixI x ws j = some (j + k) ∧ ws[k]? = some x
  | [], j, h => by cases h
  | w :: ws, j, h => by
    unfold ixI
    by_cases c : w = x
    · subst c
      exact ⟨0, by simp, rfl⟩
    · rw [if_neg c]
      obtain ⟨k, h1, h2⟩ := ixI_mem (ws := ws) (j := j + 1) (by rcases List.mem_cons.mp h with e | e; exact absurd e.symm c; exact e)
      exact ⟨k + 1, by rw [h1, show j + 1 + k = j + (k + 1) by omega], h2⟩
theorem ixI_in {x : Int} : ∀ {ws : List Int} {j k : Nat}, ixI x ws j = some k → x ∈ ws
  | w :: ws, j, k, h => by
    unfold ixI at h
    split at h
    · rename_i c; subst c; exact List.mem_cons_self
    · exact List.mem_cons_of_mem _ (ixI_in h)
theorem opIn_tii {x : Int} {ws : List Int} : opIn s (.int x) (.tup (ws.map .int)) = some (.bl (decide (x ∈ ws))) := by
  show (if isFlat (.int x) && (ws.map D.int).all isFlat then some (D.bl ((ws.map D.int).any fun y => flatEq y (.int x))) else none) = _
  rw [isFlat_ints]
  show some (D.bl _) = _
  congr 2
  rw [List.any_map]
  induction ws with
  | nil => rfl
  | cons w ws ih =>
    rw [List.any_cons, ih]
    simp only [Function.comp, flatEq_ii, List.mem_cons]
    by_cases c : w = x
    · subst c; simp
    · have c' : ¬ x = w := fun z => c z.symm
      simp [c, c']
theorem allInt_map (ys : List Int) : allInt (ys.map .int) = some ys := by
  induction ys with
  | nil => rfl
  | cons y ys ih => show (allInt (ys.map .int)).map _ = _; rw [ih]; rfl
theorem fSum_ti {ws : List Int} : fSum s [.tup (ws.map .int)] = some (.int ws.sum) := by
  show (allInt (ws.map .int)).map _ = _
  rw [allInt_map]; rfl
theorem fSum_li {ws : List Int} : fSum s [.lst (ws.map .int)] = some (.int ws.sum) := by
  show (allInt (ws.map .int)).map _ = _
  rw [allInt_map]; rfl
end
end Sx

/-! PxZ: walks over a list that stands in the store: what is read is what stands there at each turn. -/
namespace Sx
open PySem L2
def lvAt (s : Sto) (n N i : Nat) : Option D := match s[n]? with
  | some (.lst ys) => if ys.length = N then ys[i]? else none
  | _ => none
def lvOk (s : Sto) (n N : Nat) : Bool := match s[n]? with
  | some (.lst ys) => decide (ys.length = N)
  | _ => false
def liV (f : EF) : Env → Sto → R (Nat × Nat) := fun env s => (f env s).bind fun d s1 => match d with
  | .ref n => match s1[n]? with
    | some (.lst xs) => .ok (n, xs.length) s1
    | _ => .no
  | _ => .no
def forV (g : GF) (b : SF) (n N : Nat) : Nat → SF
  | 0 => fun env s => if lvOk s n N then .nx env s else .no
  | k + 1 => fun env s => match lvAt s n N (N - (k + 1)) with
    | none => .no
    | some d => SR.ofG (g d env s) fun e s1 => match b e s1 with
      | .nx e s2 => forV g b n N k e s2
      | .ct e s2 => forV g b n N k e s2
      | .bk e s2 => .nx e s2
      | .rt d s2 => .rt d s2
      | .ex c e s2 => .ex c e s2
      | .no => .no
def sForV (f : EF) (g : GF) (b : SF) : SF := fun env s => SR.ofR (liV f env s) env fun nN s1 => forV g b nN.1 nN.2 nN.2 env s1
def lcV (g : GF) (t : TF) (f : EF) (env : Env) (n N : Nat) : Nat → Sto → Option (List D × Sto)
  | 0, s => if lvOk s n N then some ([], s) else none
  | k + 1, s => match lvAt s n N (N - (k + 1)) with
    | none => none
    | some d => match g d env s with
      | some r => match t r.1 r.2 with
        | .ok true s2 => match f r.1 s2 with
          | .ok x s3 => match lcV g t f env n N k s3 with
            | some q => some (x :: q.1, q.2)
            | none => none
          | _ => none
        | .ok false s2 => lcV g t f env n N k s2
        | _ => none
      | none => none
def eLcV (i : EF) (g : GF) (t : TF) (f : EF) (vs : List Nat) : EF := fun env s => (liV i env s).bind fun nN s1 => if nN.2 ≤ LIM then
  match lcV g t f (wipeE env vs) nN.1 nN.2 nN.2 s1 with
    | some q => .ok (.lst q.1) q.2
    | none => .no
  else .no
def tIV (K : PySem.W.Frag) (G : SCtx) (W : WX) (f : EF) : TI := fun σ H R => ∃ F ρ env s, EnvR K F ρ H σ env ∧ SRel K G F ρ H s ∧
  Pst K G F ρ H (liV f env s) (fun nN s' ρ' H' => ∀ a, ρ'[nN.1]? = some a → R (Itl K a) H') (eW G W σ)
abbrev SIV (X : Cx) (G : SCtx) (W : WX) (tg e : Expr) (f : EF) : Prop := PI X tg e (tIV X.K G W f)
section
variable {K : PySem.W.Frag} {G : SCtx} {F ρ ρ1 : List Addr} {H H1 : Hp} {s : Sto} {n N i : Nat} {a : Addr}
theorem walk_listM : L2.Walk (Itl K a) N (fun H => ∃ xs, SqL K H a xs ∧ xs.length = N) (fun i H x H' => H' = H ∧ ∀ xs, SqL K H a xs → xs[i]? = some x) :=
  ⟨fun i _ hi q => by obtain ⟨xs, q, hl⟩ := q; exact ⟨xs, xs[i]'(by omega), q, by simp [show i < xs.length by omega]⟩, fun _ q => by obtain ⟨xs, q, hl⟩ := q; exact ⟨xs, q, by omega⟩, fun _ _ _ _ _ q y => y⟩
theorem ext_get (e : Ext ρ H ρ1 H1) (h : ρ[n]? = some a) : ρ1[n]? = some a := by
  obtain ⟨⟨⟨m, hm, _⟩, _⟩, _⟩ := e
  rw [hm, List.getElem?_append_left (List.getElem?_eq_some_iff.mp h).1]
  exact h
theorem lv_gd (hs : SRel K G F ρ H s) (ha : ρ[n]? = some a) (ho : lvOk s n N = true) : ∃ xs, SqL K H a xs ∧ xs.length = N := by
  unfold lvOk at ho
  split at ho
  · rename_i ys hy
    obtain ⟨vs, hv, r⟩ := hs.obs n a _ ha hy
    exact ⟨vs, SqL.of hv, by rw [r.length]; exact of_decide_eq_true ho⟩
  · cases ho
theorem lv_ok {d : D} (h : lvAt s n N i = some d) : lvOk s n N = true := by
  unfold lvAt at h
  unfold lvOk
  split at h
  · split at h
    · rename_i hl
      exact decide_eq_true hl
    · cases h
  · cases h
theorem lv_rep {d : D} {x : V} (hs : SRel K G F ρ H s) (ha : ρ[n]? = some a) (h : lvAt s n N i = some d) (hx : ∀ xs, SqL K H a xs → xs[i]? = some x) : Rep K F ρ H x d := by
  unfold lvAt at h
  split at h
  · rename_i ys hy
    split at h
    · obtain ⟨vs, hv, r⟩ := hs.obs n a _ ha hy
      obtain ⟨v, h1, h2⟩ := r.get h
      have := hx vs (SqL.of hv)
      rw [h1] at this
      cases this
      exact h2
    · cases h
  · cases h
end
section
variable {X : Cx} {G : SCtx} {W : WX} {pos : Pos} {e a b tg : Expr} {f i : EF} {gt : GF} {g : SF} {bd : List Stmt}
theorem si_ref (h : SE X G W e f) : SIV X G W tg e f := by
  refine pi_imp (pi_list h) fun σ H R h => ?_
  obtain ⟨F, ρ, env, s, he, hs, hp⟩ := h
  refine tE.step he hs hp fun d s1 ρ1 H1 v hf he1 hs1 e1 r1 hp1 => ?_
  cases d with
  | ref n =>
    simp only at hp1
    split at hp1
    · rename_i xs hx
      cases r1 with
      | ref q =>
        obtain ⟨vs, hv, r⟩ := hs1.obs n _ _ q hx
        exact ⟨_, rfl, ⟨vs, SqL.of hv⟩, hp1.here hs1 _ q⟩
    · exact hp1.elim
  | _ => exact hp1.elim
theorem ss_forV (hpo : PassesOwn (model X.prog X.w) X.A X.env X.xe) (hc : X.calm = true) (hi : SIV X G W tg e f) (hg : SG X G tg gt) (hb : SB X G W bd g)
    (hs : ∀ x, foldedSetIterable e X.env x = pure x := by intro _; rfl) : SS X G W (.For tg e bd [] pos) (sForV f gt g) := by
  refine ps_imp (ps_for hpo hc hi hg hb hs) fun D σ H h => ?_
  obtain ⟨F, ρ0, env0, s0, he0, hs0, hp0⟩ := h
  refine ⟨F, ρ0, env0, s0, he0, hs0, (hp0.ofR he0).imp (fun nN s1 ρ1 H1 _ e1 q1 hp1 a0 ha0 => ?_) fun _ _ h => h⟩
  obtain ⟨n, N⟩ := nN
  simp only at hp1 ha0
  have gd : ∀ i ρ H env s, Ext ρ1 H1 ρ H → SRel X.K G F ρ H s → i ≤ N → PstS X.K G W F ρ H (forV gt g n N (N - i) env s) D → ∃ xs, SqL X.K H a0 xs ∧ xs.length = N := fun i ρ H env s e q hi hp => by
    refine lv_gd q (ext_get e ha0) ?_
    cases z : N - i with
    | zero =>
      rw [z] at hp
      simp only [forV] at hp
      split at hp
      · assumption
      · exact hp.elim
    | succ k =>
      rw [z] at hp
      simp only [forV] at hp
      split at hp
      · exact hp.elim
      · rename_i d hd
        exact lv_ok hd
  refine for_it walk_listM (fun i σ H => ∃ ρ env s, Ext ρ1 H1 ρ H ∧ EnvR X.K F ρ H σ env ∧ SRel X.K G F ρ H s ∧ PstS X.K G W F ρ H (forV gt g n N (N - i) env s) D)
    ⟨ρ1, env0, s1, Ext.refl _ _, he0.ext e1, q1, hp1⟩ (fun i σ H hi ⟨ρ, env, s, e, _, q, hp⟩ => gd i ρ H env s e q hi hp) ?_ ?_
  · rintro i x σ H H' hi ⟨ρ, env, s, e, he, q, hp⟩ hY
    obtain ⟨rfl, hY⟩ := hY
    rw [show N - i = (N - (i + 1)) + 1 by omega] at hp
    simp only [forV] at hp
    rw [show N - (N - (i + 1) + 1) = i by omega] at hp
    cases hd : lvAt s n N i with
    | none => rw [hd] at hp; exact hp.elim
    | some d =>
      rw [hd] at hp
      have r2 := lv_rep q (ext_get e ha0) hd hY
      refine ⟨F, ρ, env, s, d, he, q, r2, ?_⟩
      simp only at hp
      cases z : gt d env s with
      | none => rw [z] at hp; exact hp.elim
      | some r =>
        rw [z] at hp
        intro ρ3 H3 σ3 e3 q3 he3
        refine ⟨F, ρ3, r.1, r.2, he3, q3, ?_⟩
        have hp3 := PstS.ext e3 hp
        simp only [SR.ofG] at hp3
        have e13 : Ext ρ1 H1 ρ3 H3 := e.trans e3
        cases zg : g r.1 r.2 with
        | nx e4 s4 => rw [zg] at hp3; exact fun ρ' H' σ' ee a b => ⟨ρ', e4, s4, e13.trans ee, b, a, PstS.ext ee hp3⟩
        | ct e4 s4 => rw [zg] at hp3; exact fun ρ' H' σ' ee a b => ⟨ρ', e4, s4, e13.trans ee, b, a, PstS.ext ee hp3⟩
        | bk e4 s4 => rw [zg] at hp3; exact hp3
        | rt d s4 => rw [zg] at hp3; exact hp3
        | ex c e4 s4 => rw [zg] at hp3; exact hp3
        | no => rw [zg] at hp3; exact hp3
  · rintro σ H ⟨ρ, env, s, e, he, q, hp⟩
    rw [Nat.sub_self] at hp
    simp only [forV] at hp
    split at hp
    · exact hp ρ H σ (Ext.refl _ _) q he
    · exact hp.elim
theorem lc_soundV {t : TF} {gtt : TG} {vs : List Nat} {K : PySem.W.Frag} {F ρ1 : List Addr} {H1 : Hp} {s1 : Sto} {σ : L2.St} {env : Env} {n N : Nat} {a0 : Addr} {Q : VK} {D0 : Addr} {q0 : List D × Sto} (cg : CG K gt gtt vs) (he : EnvR K F ρ1 H1 σ env) (hs : SRel K G F ρ1 H1 s1)
    (ha0 : ρ1[n]? = some a0) (hl : N ≤ LIM) (hD : H1 D0 = none) (hq : lcV gt t f (wipeE env vs) n N N s1 = some q0)
    (hQ : ∀ ρ' H' vacc, Ext ρ1 H1 ρ' H' → SRel K G (D0 :: F) ρ' H' q0.2 → H' D0 = some (.lst vacc) → Reps K (D0 :: F) ρ' H' vacc q0.1 → Q (.ref D0) H') :
    ∃ W : Nat → Nat → Hp → Prop, (∃ m, W 0 m (upd H1 D0 (.lst []))) ∧ ∀ i m H, W i m H →
      ((Itl K a0).stop i H ∧ Q (.ref D0) H) ∨ ((Itl K a0).go i H ∧ ∃ Nx : Hp → Prop, (∀ H', Nx H' → ∃ m', m' < m ∧ W (i + 1) m' H') ∧ ∀ x H', (Itl K a0).yld i H x H' → gtt x (L2.wipe σ vs) H' fun σ2 H2 => L2.wipe σ2 vs = L2.wipe σ vs ∧ tTT K G W0 t σ2 H2 fun b H3 =>
        if b = true then tE K G W0 f σ2 H3 fun y H4 => ∃ acc, H4 D0 = some (.lst acc) ∧ acc.length < sizeLine ∧ Nx (upd H4 D0 (.lst (acc ++ [y]))) else Nx H3) := by
  have cF : ∀ a ∈ D0 :: F, a ∈ F ∨ H1 a = none := fun a ha => by
    rcases List.mem_cons.mp ha with q | q
    · subst q; exact .inr hD
    · exact .inl q
  refine lc_it (walk_listM (N := N)) (fun i H => ∃ ρ s vacc dacc q, Ext ρ1 H1 ρ H ∧ SRel K G (D0 :: F) ρ H s ∧ EnvR K (D0 :: F) ρ H (L2.wipe σ vs) (wipeE env vs) ∧ H D0 = some (.lst vacc) ∧ Reps K (D0 :: F) ρ H vacc dacc ∧ dacc.length ≤ i ∧ i ≤ N ∧
    lcV gt t f (wipeE env vs) n N (N - i) s = some q ∧ q0 = (dacc ++ q.1, q.2)) ?_ (fun i H hi ⟨ρ, s, _, _, q, e, hs2, _, _, _, _, _, hlc, _⟩ => ?_) ?_ ?_
  · exact ⟨ρ1, s1, [], [], q0, Ext.new ρ1 hD, hs.addF hD, ((he.wipe vs).toF cF).ext (Ext.new ρ1 hD), upd_same, .nil, Nat.le_refl _, Nat.zero_le _, hq, rfl⟩
  · refine lv_gd hs2 (ext_get e ha0) ?_
    cases z : N - i with
    | zero =>
      rw [z] at hlc
      simp only [lcV] at hlc
      split at hlc
      · assumption
      · cases hlc
    | succ k =>
      rw [z] at hlc
      simp only [lcV] at hlc
      split at hlc
      · cases hlc
      · rename_i d hd
        exact lv_ok hd
  · rintro i x H H' hi ⟨ρ, s, vacc, dacc, q, e, hs, hen, hv, hr, hln, hiN, hlc, hq0⟩ hY
    obtain ⟨rfl, hY⟩ := hY
    rw [show N - i = (N - (i + 1)) + 1 by omega] at hlc
    simp only [lcV] at hlc
    rw [show N - (N - (i + 1) + 1) = i by omega] at hlc
    cases hd : lvAt s n N i with
    | none => rw [hd] at hlc; cases hlc
    | some d =>
      rw [hd] at hlc
      simp only at hlc
      have r2 := lv_rep hs (ext_get e ha0) hd hY
      split at hlc
      · rename_i r hr1
        have hD0 : D0 ∈ D0 :: F := List.mem_cons_self
        have nD : ∀ {ρ H s}, SRel K G (D0 :: F) ρ H s → D0 ∉ ρ := fun h z => h.dis _ z hD0
        refine cg.run G (D0 :: F) ρ H' s _ (wipeE env vs) x d _ hen hs r2 r hr1 (cg.same _ _ _ _ hr1) fun σ' he' hw' => ?_
        refine ⟨hw'.trans (wipe_wipe fun _ h => h), D0 :: F, ρ, r.1, r.2, he', by rw [cg.same _ _ _ _ hr1]; exact hs, ?_⟩
        cases ht : t r.1 r.2 with
        | ex => simp [ht] at hlc
        | no => simp [ht] at hlc
        | ok b s2 =>
          simp only [ht] at hlc
          intro ρ3 H3 e3 q3
          have hv3 : H3 D0 = some (.lst vacc) := e3.keep _ _ hv (nD hs)
          cases b with
          | false => exact iteF ⟨ρ3, s2, vacc, dacc, q, e.trans e3, q3, hen.ext e3, hv3, hr.ext e3, Nat.le_succ_of_le hln, by omega, hlc, hq0⟩
          | true =>
            refine iteT ⟨D0 :: F, ρ3, r.1, s2, he'.ext e3, q3, ?_⟩
            cases hf : f r.1 s2 with
            | ex => simp [hf] at hlc
            | no => simp [hf] at hlc
            | ok y s3 =>
              simp only [hf] at hlc
              split at hlc
              · rename_i q' hq'
                cases hlc
                intro ρ4 H4 e4 q4 v r4
                have hv4 : H4 D0 = some (.lst vacc) := e4.keep _ _ hv3 (nD q3)
                refine ⟨vacc, hv4, ?_, ?_⟩
                · rw [hr.length]
                  have : LIM = 1000000 := rfl
                  have := sizeLine_eq
                  omega
                · refine ⟨ρ4, s3, vacc ++ [v], dacc ++ [y], q', Ext.updF hD ((e.trans e3).trans e4), q4.updF hD0, EnvR.updF hD0 (hen.ext (e3.trans e4)), upd_same,
                    Reps.updF hD0 ((hr.ext (e3.trans e4)).snoc r4), by simp; omega, by omega, hq', ?_⟩
                  rw [hq0]
                  simp
              · cases hlc
      · cases hlc
  · rintro H ⟨ρ, s, vacc, dacc, q, e, hs, hen, hv, hr, hln, hiN, hlc, hq0⟩
    rw [Nat.sub_self] at hlc
    simp only [lcV] at hlc
    split at hlc
    · cases hlc
      subst hq0
      exact hQ ρ H vacc e hs hv (by simpa using hr)
    · cases hlc
theorem s_lcV {elt iter : Expr} {ifs : List Expr} {scope : Scope} {own : List (Str × Nat)} {t : TF} {gtt : TG} (hc : X.calm = true) (hN : X.N.Nodup) (hi : SIV X G W tg iter i) (ok : BlkOk X.N X.env.scope scope own) (cg : CG X.K gt gtt (own.map (·.2)))
    (hg : ∀ (s : Shared) (H : Hp) (C : Addr) (cl : List (Str × Addr)) (fp : List Addr), PG (X.blk s H scope (compEnvC scope cl C X.env) fp) tg gtt)
    (ht : ∀ (s : Shared) (H : Hp) (C : Addr) (cl : List (Str × Addr)) (fp : List Addr), PTs (X.blk s H scope (compEnvC scope cl C X.env) fp) ifs (tTT X.K G W0 t))
    (he : ∀ (s : Shared) (H : Hp) (C : Addr) (cl : List (Str × Addr)) (fp : List Addr), SE (X.blk s H scope (compEnvC scope cl C X.env) fp) G W0 elt f) (hs : ∀ x, foldedSetIterable iter X.env x = pure x := by intro _; rfl) :
    SE X G W (.ListComp elt [⟨tg, iter, ifs, 0⟩] scope pos) (eLcV i gt t f (own.map (·.2))) := by
  refine pe_imp (pe_lc (te := tE X.K G W0 f) hc hN hi ok hg ht he hs) fun σ H Q h => ?_
  obtain ⟨F, ρ, env, s, hen, hsr, hp⟩ := h
  refine ⟨F, ρ, env, s, hen, hsr, hp.bind.imp (fun nN s1 ρ1 H1 _ e1 hs1 hp1 a0 ha0 D0 hD => ?_) fun _ _ h => h⟩
  split at hp1
  · rename_i hl
    split at hp1
    · rename_i q hq
      refine lc_soundV cg (hen.ext e1) hs1 ha0 hl hD hq fun ρ' H' vacc e hs' hv r => ?_
      exact hp1 ρ' H' e (hs'.subF fun a ha => List.mem_cons_of_mem _ ha) _ (Rep.ofD hs' (hs1.fresh hD).1 hv r)
    · exact hp1.elim
  · exact hp1.elim
theorem ss_setLcV (k : Nat) {y : Str} {py spos : Pos} {elt iter : Expr} {ifs : List Expr} {scope : Scope} {own : List (Str × Nat)} {t : TF} {gtt : TG} (hc : X.calm = true) (hN : X.N.Nodup) (hy : X.N[k]? = some y) (hyl : X.env.scope.names.lookup y = some .local)
    (hi : SIV X G W tg iter i) (ok : BlkOk X.N X.env.scope scope own) (cg : CG X.K gt gtt (own.map (·.2)))
    (hg : ∀ (s : Shared) (H : Hp) (C : Addr) (cl : List (Str × Addr)) (fp : List Addr), PG (X.blk s H scope (compEnvC scope cl C X.env) fp) tg gtt)
    (ht : ∀ (s : Shared) (H : Hp) (C : Addr) (cl : List (Str × Addr)) (fp : List Addr), PTs (X.blk s H scope (compEnvC scope cl C X.env) fp) ifs (tTT X.K G W0 t))
    (he : ∀ (s : Shared) (H : Hp) (C : Addr) (cl : List (Str × Addr)) (fp : List Addr), SE (X.blk s H scope (compEnvC scope cl C X.env) fp) G W0 elt f)
    (hsw : swapsWith (.ListComp elt [⟨tg, iter, ifs, 0⟩] scope pos) (some (.Name y py)) spos.line X.env = pure true) (hs : ∀ x, foldedSetIterable iter X.env x = pure x := by intro _; rfl) :
    SS X G W (.Assign [.Name y py] (.ListComp elt [⟨tg, iter, ifs, 0⟩] scope pos) spos) (sAsg (eLcV i gt t f (own.map (·.2))) (gVar k)) := by
  refine ps_imp (ps_setLc (te := tE X.K G W0 f) hc hN hy hyl hsw hi ok hg ht he hs) fun D σ H h => ?_
  obtain ⟨F, ρ, env, s, hen, hsr, hp⟩ := h
  obtain ⟨F, ρ, env, s, hen, hsr, hp⟩ := (tE.first hen hsr hp fun d s1 ρ1 H1 v he1 hs1 e1 r1 hp1 => hp1 ρ1 H1 _ (Ext.refl _ _) hs1 (he1.set k r1) : tE X.K G W (eLcV i gt t f (own.map (·.2))) σ H fun x H1 => D.nx (σ.set k (some x)) H1)
  refine ⟨F, ρ, env, s, hen, hsr, hp.bind.imp (fun nN s1 ρ1 H1 _ e1 hs1 hp1 a0 ha0 D0 hD => ?_) fun _ _ h => h⟩
  split at hp1
  · rename_i hl
    split at hp1
    · rename_i q hq
      refine lc_soundV (Q := fun x H1 => gName k x σ H1 D.nx) cg (hen.ext e1) hs1 ha0 hl hD hq fun ρ' H' vacc e hs' hv r => ?_
      exact hp1 ρ' H' e (hs'.subF fun a ha => List.mem_cons_of_mem _ ha) _ (Rep.ofD hs' (hs1.fresh hD).1 hv r)
    · exact hp1.elim
  · exact hp1.elim
end
/-! ### rows -/
section
variable {s : Sto} {env : Env} {f : EF} {gt : GF} {b : SF} {t : TF} {n N : Nat}
def kLiV : R D → R (Nat × Nat)
  | .ok d s1 => match d with
    | .ref n => match s1[n]? with
      | some (.lst xs) => .ok (n, xs.length) s1
      | _ => .no
    | _ => .no
  | .ex c s => .ex c s
  | .no => .no
theorem liV_v : liV f env s = kLiV (f env s) := by
  unfold liV
  cases f env s with
  | ok d s1 =>
    cases d with
    | ref n => rfl
    | _ => rfl
  | _ => rfl
theorem lvOk_l {xs : List D} (h : s[n]? = some (.lst xs)) : lvOk s n xs.length = true := by
  unfold lvOk
  rw [h]
  simp
theorem kLiV_ref {xs : List D} (h : s[n]? = some (.lst xs)) : kLiV (.ok (.ref n) s) = .ok (n, xs.length) s := by
  show (match s[n]? with | some (.lst xs) => _ | _ => _) = _
  rw [h]
/-- a walk in which the list stays as it is -/
theorem forV_L {xs : List D} : ∀ (k : Nat) (env : Env) (s : Sto), k ≤ xs.length → s[n]? = some (.lst xs) → (∀ d env s, s[n]? = some (.lst xs) → d ∈ xs → (∀ r, gt d env s = some r → ∀ e1 s1, (b r.1 r.2 = .nx e1 s1 ∨ b r.1 r.2 = .ct e1 s1) → s1[n]? = some (.lst xs))) →
    forV gt b n xs.length k env s = forL gt b (xs.drop (xs.length - k)) env s
  | 0, env, s, hk, h, hb => by
    rw [Nat.sub_zero, List.drop_length]
    simp only [forV, forL, lvOk_l h, if_true]
  | k + 1, env, s, hk, h, hb => by
    have hlt : xs.length - (k + 1) < xs.length := by omega
    rw [List.drop_eq_getElem_cons hlt, show xs.length - (k + 1) + 1 = xs.length - k by omega]
    have e : lvAt s n xs.length (xs.length - (k + 1)) = some xs[xs.length - (k + 1)] := by
      unfold lvAt
      rw [h]
      simp [hlt]
    simp only [forV, forL, e]
    cases z : gt xs[xs.length - (k + 1)] env s with
    | none => rfl
    | some r =>
      simp only [SR.ofG]
      have hh := hb _ env s h (List.getElem_mem hlt) r z
      cases y : b r.1 r.2 with
      | nx e1 s1 => exact forV_L k e1 s1 (by omega) (hh e1 s1 (.inl y)) hb
      | ct e1 s1 => exact forV_L k e1 s1 (by omega) (hh e1 s1 (.inr y)) hb
      | _ => rfl
/-- a comprehension that leaves the store as it is -/
theorem lcV_L {xs : List D} {fe : EF} (h : s[n]? = some (.lst xs)) (hp : ∀ d ∈ xs, ∀ r, gt d env s = some r → (∀ b s2, t r.1 r.2 = .ok b s2 → s2 = s) ∧ (∀ y s2, fe r.1 s = .ok y s2 → s2 = s)) : ∀ k, k ≤ xs.length →
    lcV gt t fe env n xs.length k s = lcL gt t fe env (xs.drop (xs.length - k)) s
  | 0, hk => by
    rw [Nat.sub_zero, List.drop_length]
    simp only [lcV, lcL, lvOk_l h, if_true]
  | k + 1, hk => by
    have hlt : xs.length - (k + 1) < xs.length := by omega
    rw [List.drop_eq_getElem_cons hlt, show xs.length - (k + 1) + 1 = xs.length - k by omega]
    have e : lvAt s n xs.length (xs.length - (k + 1)) = some xs[xs.length - (k + 1)] := by
      unfold lvAt
      rw [h]
      simp [hlt]
    simp only [lcV, lcL, e]
    cases z : gt xs[xs.length - (k + 1)] env s with
    | none => rfl
    | some r =>
      simp only
      obtain ⟨h1, h2⟩ := hp _ (List.getElem_mem hlt) r z
      cases y : t r.1 r.2 with
      | ok b s2 =>
        have e1 := h1 b s2 y
        rw [e1]
        cases b with
        | false => exact lcV_L h hp k (by omega)
        | true =>
          simp only
          cases w : fe r.1 s with
          | ok x s3 =>
            have e2 := h2 x s3 w
            rw [e2]
            simp only
            rw [lcV_L h hp k (by omega)] <;> (try (cases lcL gt t fe env (xs.drop (xs.length - k)) s <;> rfl))
          | _ => rfl
      | _ => rfl
theorem eLcV_L {xs : List D} {i fe : EF} {vs : List Nat} {s1 : Sto} (hi : i env s = .ok (.ref n) s1) (h : s1[n]? = some (.lst xs)) (hp : ∀ d ∈ xs, ∀ r, gt d (wipeE env vs) s1 = some r → (∀ b s2, t r.1 r.2 = .ok b s2 → s2 = s1) ∧ (∀ y s2, fe r.1 s1 = .ok y s2 → s2 = s1)) :
    eLcV i gt t fe vs env s = if xs.length ≤ LIM then lcR (lcL gt t fe (wipeE env vs) xs s1) else .no := by
  have e := lcV_L (env := wipeE env vs) h hp xs.length (Nat.le_refl _)
  rw [Nat.sub_self, List.drop_zero] at e
  unfold eLcV
  rw [liV_v, hi, kLiV_ref h]
  simp only [R.bind, e]
  split
  · cases lcL gt t fe (wipeE env vs) xs s1 <;> rfl
  · rfl
end
/-! ### xs.count(x), all flat -/
def mCountF (s : Sto) (o : D) (as : List D) : Option (D × Sto) := match as with
  | [d] => match lstOf s o with
    | some xs => if isFlat d && xs.all isFlat then some (.int ((xs.countP fun y => flatEq y d : Nat) : Int), s) else none
    | none => none
  | _ => none
open PySem.Spec PyProof.Rows in
def rCntF (K : PySem.W.Frag) : V → List V → Hp → VK → Prop := fun x xs H Q => ∃ (a : Addr) (ys : List V) (y : V), x = .ref a ∧ xs = [y] ∧ SqL K H a ys ∧ flatV y = true ∧ ys.all flatV = true ∧ Q (.int ((ys.countP fun z => eqV z y : Nat) : Int)) H
theorem countU {y : V} : ∀ {ys : List V} {us : List Value}, Vals ys us → ys.all flatV = true → us.countP (eqU y) = ys.countP fun z => eqV z y
  | _, _, .nil, _ => rfl
  | _, _, .cons r t, h => by
    simp only [List.all_cons, Bool.and_eq_true] at h
    rw [List.countP_cons, List.countP_cons, countU t h.2, eqU_of r h.1]
section
open PySem.Spec PyProof.Rows
theorem mt_lcountF {X : Cx} : MtR X "list.count" (rCntF X.K) := by
  intro pins s σ H x xs v us Q I rx rxs h
  obtain ⟨p, ys, y, rfl, rfl, hs, fy, fys, q⟩ := h
  cases rx
  obtain ⟨u, rfl, ru⟩ := rxs.one
  obtain ⟨its, rv, ⟨⟨cls, dd, data, sl⟩, n, ho, hc, hdn, hd⟩, hlen⟩ := I.list hs
  simp only at hc hd
  subst hc hd
  refine call_meets PySem.F.slot_list_count ⟨_, ho, rfl⟩ PySem.F.entry_list_count (PySem.F.args_list_count_2 _ _)
    (SeqAt.list_countAt p its.toArray n dd sl u (eqU y)) ⟨ho, fun u' hu' => mem_eqAt ru fy rv fys u' (by simpa using hu'), ?_⟩
  have ec : its.toArray.toList.countP (eqU y) = ys.countP fun z => eqV z y := by
    rw [← countU rv fys]
  refine ⟨.int ((ys.countP fun z => eqV z y : Nat) : Int), H, I.tok _, ⟨s.toks, ?_⟩, q⟩
  show Value.int ((its.toArray.toList.countP (eqU y) : Nat) : Int) s.toks = _
  rw [ec]
end
theorem countD {K : PySem.W.Frag} {F ρ : List Addr} {H : Hp} {v : V} {d : D} (r : Rep K F ρ H v d) (h : isFlat d = true) : ∀ {ws : List V} {xs : List D}, Reps K F ρ H ws xs → xs.all isFlat = true → (ws.countP fun z => eqV z v) = xs.countP fun y => flatEq y d
  | _, _, .nil, _ => rfl
  | _, _, .cons r1 t, h1 => by
    simp only [List.all_cons, Bool.and_eq_true] at h1
    rw [List.countP_cons, List.countP_cons, countD r h t h1.2, flatEq_rep r1 r h1.1 h]
theorem sim_mCountF {K : PySem.W.Frag} : SimM K (rCntF K) mCountF := by
  intro G F ρ H s x vs o ds q Q hs rx r h k
  unfold mCountF at h
  split at h
  · rename_i d
    split at h
    · rename_i xs hx
      split at h
      · rename_i hf
        simp only [Bool.and_eq_true] at hf
        cases h
        cases r with
        | cons r1 t =>
          cases t
          obtain ⟨a, ws, rfl, h1, h2⟩ := lstOf_rep hs rx hx
          refine ⟨a, ws, _, rfl, rfl, SqL.of h1, flat_rep r1 hf.1, flats_rep h2 hf.2, ?_⟩
          rw [countD r1 hf.1 h2 hf.2]
          exact k H _ (Ext.refl _ _) hs (.int _)
      · cases h
    · cases h
  · cases h
/-! ### x is not True -/
def opNotB (_ : Sto) (a b : D) : Option D := match a, b with
  | .bl x, .bl y => some (.bl (!decide (x = y)))
  | _, _ => none
theorem sim_notB {K : PySem.W.Frag} : Sim2 K rNotB opNotB := by
  intro G F ρ H s x y a b d Q hs rx ry h k
  unfold opNotB at h
  split at h
  · cases h
    cases rx
    cases ry
    exact ⟨_, _, rfl, rfl, k H _ (Ext.refl _ _) hs (.bl _)⟩
  · cases h
end Sx

/-! PxZa: sorted(xs), xs a list of tuples of whole numbers. -/
namespace Sx
open PySem L2
def insR (x : List Int) : List (List Int) → List (List Int)
  | [] => [x]
  | y :: ys => if x ≤ y then x :: y :: ys else y :: insR x ys
def sortR : List (List Int) → List (List Int)
  | [] => []
  | x :: xs => insR x (sortR xs)
def rowI : D → Option (List Int)
  | .tup xs => allInt xs
  | _ => none
def rowsI : List D → Option (List (List Int))
  | [] => some []
  | d :: ds => match rowI d, rowsI ds with
    | some r, some rs => some (r :: rs)
    | _, _ => none
def fSortedR (s : Sto) (as : List D) : Option (List D) := match as with
  | [a] => match lstOf s a with
    | some xs => match rowsI xs with
      | some rs => if rs.length ≤ 1 ∨ rs.all (fun r => !r.isEmpty) = true then some ((sortR rs).map fun r => .tup (r.map .int)) else none
      | none => none
    | none => none
  | _ => none
/-! ### the order of rows -/
theorem row_total (a b : List Int) : (decide (a ≤ b) || decide (b ≤ a)) = true := by
  rcases List.le_total a b with h | h
  · simp [h]
  · simp [h]
theorem insR_perm (x : List Int) : ∀ ys, (insR x ys).Perm (x :: ys)
  | [] => List.Perm.refl _
  | y :: ys => by
    unfold insR
    split
    · exact List.Perm.refl _
    · exact ((insR_perm x ys).cons y).trans (List.Perm.swap x y ys)
theorem sortR_perm : ∀ xs, (sortR xs).Perm xs
  | [] => List.Perm.refl _
  | x :: xs => (insR_perm x (sortR xs)).trans ((sortR_perm xs).cons x)
theorem insR_sorted {x : List Int} : ∀ {ys : List (List Int)}, ys.Pairwise (· ≤ ·) → (insR x ys).Pairwise (· ≤ ·)
  | [], _ => by simp [insR]
  | y :: ys, h => by
    unfold insR
    have h1 := List.pairwise_cons.mp h
    split
    · rename_i c
      refine List.pairwise_cons.mpr ⟨fun z hz => ?_, h⟩
      rcases List.mem_cons.mp hz with rfl | hz
      · exact c
      · exact List.le_trans c (h1.1 z hz)
    · rename_i c
      refine List.pairwise_cons.mpr ⟨fun z hz => ?_, insR_sorted h1.2⟩
      rcases List.mem_cons.mp ((insR_perm x ys).mem_iff.mp hz) with rfl | hz
      · rcases List.le_total y z with q | q
        · exact q
        · exact absurd q c
      · exact h1.1 z hz
theorem sortR_sorted : ∀ xs, (sortR xs).Pairwise (· ≤ ·)
  | [] => List.Pairwise.nil
  | x :: xs => insR_sorted (sortR_sorted xs)
theorem sorted_unique : ∀ {xs ys : List (List Int)}, xs.Perm ys → xs.Pairwise (· ≤ ·) → ys.Pairwise (· ≤ ·) → xs = ys
  | [], ys, h, _, _ => h.nil_eq
  | x :: xs, [], h, _, _ => absurd h.length_eq (by simp)
  | x :: xs, y :: ys, h, h1, h2 => by
    have a := List.pairwise_cons.mp h1
    have b := List.pairwise_cons.mp h2
    have e : x = y := by
      have hx : x ∈ y :: ys := h.mem_iff.mp List.mem_cons_self
      have hy : y ∈ x :: xs := h.mem_iff.mpr List.mem_cons_self
      rcases List.mem_cons.mp hx with e | hx
      · exact e
      · rcases List.mem_cons.mp hy with e | hy
        · exact e.symm
        · exact List.le_antisymm (a.1 y hy) (b.1 x hx)
    subst e
    rw [sorted_unique h.cons_inv a.2 b.2]
theorem merge_sortR (rs : List (List Int)) : rs.mergeSort (fun a b => decide (a ≤ b)) = sortR rs := by
  refine sorted_unique ((List.mergeSort_perm rs _).trans (sortR_perm rs).symm) ?_ (sortR_sorted rs)
  have h := List.pairwise_mergeSort (le := fun a b : List Int => decide (a ≤ b)) (fun a b c h1 h2 => decide_eq_true (List.le_trans (of_decide_eq_true h1) (of_decide_eq_true h2))) (fun a b => by
    rcases List.le_total a b with h | h
    · simp [h]
    · simp [h]) rs
  exact h.imp fun q => of_decide_eq_true q
/-! ### the machine -/
open PySem.Spec PyProof.Rows in
def rSortR (K : PySem.W.Frag) : List V → Hp → VK → Prop := fun vs H Q => ∃ (a : Addr) (bs : List (List Int × V)), vs = [V.ref a] ∧ SqL K H a (bs.map (·.2)) ∧ (∀ b ∈ bs, Dp K H b.2 (.tuple (b.1.map .int))) ∧ (bs.length ≤ 1 ∨ ∀ b ∈ bs, b.1 ≠ []) ∧
  ∀ (p : Addr) (cs : List (List Int × V)), cs.Perm bs → cs.map (·.1) = sortR (bs.map (·.1)) → H p = none → Q (.ref p) (upd H p (.lst (cs.map (·.2))))
section
open PySem.Spec PyProof.Rows
theorem alike_ints : ∀ xs ys : List Int, PySem.W.alikeAll (xs.map PyData.int) (ys.map PyData.int) = true
  | [], _ => by simp [PySem.W.alikeAll]
  | x :: xs, [] => by simp [PySem.W.alikeAll]
  | x :: xs, y :: ys => by simp [PySem.W.alikeAll, PySem.W.alike, alike_ints xs ys]
theorem each_vals {P : Value → (List Int × V) → Prop} : ∀ {bs : List (List Int × V)} {us : List Value}, Vals (bs.map (·.2)) us → (∀ b ∈ bs, ∀ v, RelV b.2 v → P v b) → PySem.W.EachIs P us bs
  | [], _, h, _ => by cases h; exact .nil
  | b :: bs, _, h, k => by
    cases h with
    | cons r t => exact .cons (k b List.mem_cons_self _ r) (each_vals t fun x hx => k x (List.mem_cons_of_mem _ hx))
theorem vals_each : ∀ {us : List Value} {bs : List (List Int × V)}, PySem.W.EachIs (fun v b => RelV b.2 v) us bs → Vals (bs.map (·.2)) us
  | _, _, .nil => .nil
  | _, _, .cons r t => .cons r (vals_each t)
theorem dataLe_tups {β : Type} (x : β → List Int) : PySem.W.dataLe false (fun b => .tuple ((x b).map .int)) = fun p q => decide (x p ≤ x q) := by
  rw [← PySem.W.dataLe_rows x]
  funext p q
  unfold PySem.W.dataLe
  simp only [PySem.W.keyToks]
theorem depth_tup (xs : List Int) : (PyData.tuple (xs.map .int)).depth ≤ 2 := by
  have := depthAll_int xs
  simp only [PyData.depth]
  omega
theorem cr_sortR {X : Cx} (hu : X.A.units + 64 < cLine) : CallR X (.builtin "sorted") (rSortR X.K) := by
  intro pins s σ H vs us Q I r h
  obtain ⟨a, bs, rfl, hs, hd, hk, q⟩ := h
  obtain ⟨its, rv, hl, hz⟩ := I.list hs
  rw [Vals.ref1 r]
  have hlen := rv.length
  rw [List.length_map] at hlen hz
  rcases hk with h1 | hne
  · refine Srt.sorted_any hl.isList (by omega) (fun h2 => absurd h2 (by omega)) fun out ho => ?_
    have e : out = its := by
      match its, hlen with
      | [], _ => exact ho.eq_nil
      | [x], _ => exact ho.eq_singleton
      | x :: y :: zs, hh => simp at hh; omega
    subst e
    obtain ⟨ep, he'⟩ := PyProof.Rows.sortedAll_at s.heap out out.toArray
    have es : bs.map (·.1) = sortR (bs.map (·.1)) := by
      match bs, h1 with
      | [], _ => rfl
      | [b], _ => rfl
      | b :: c :: ds, hh => simp at hh
    exact ⟨.ref _, upd H (s.heap.objs.size + 1) (.lst (bs.map (·.2))), I.laid (t' := s.toks) (fun _ _ => PyProof.Rows.sortedAll_old) (Nat.le_succ _) ⟨by rw [List.length_map]; exact hz, out, ep, rv, he'⟩, rfl, q _ bs (List.Perm.refl _) es (I.hok.fresh (Nat.le_succ _))⟩
  · refine PySem.W.sorted_data (R := fun v b => RelV b.2 v) (enc := fun b : List Int × V => PyData.tuple (b.1.map .int)) hl.isList (each_vals rv fun b _ v r => r) (each_vals rv fun b hb v r => Dp.reads I _ _ _ (hd b hb) r) ?_ ?_ hz ?_ ?_
    · intro d hd1 e he1
      obtain ⟨b, _, rfl⟩ := List.mem_map.mp hd1
      obtain ⟨c, _, rfl⟩ := List.mem_map.mp he1
      simp only [PySem.W.alike]
      exact alike_ints _ _
    · left
      intro d hd1
      obtain ⟨b, hb, rfl⟩ := List.mem_map.mp hd1
      have := hne b hb
      cases hc : b.1 with
      | nil => exact absurd hc this
      | cons x xs => exact ⟨.int x, xs.map .int, rfl⟩
    · intro b hb
      have := depth_tup b.1
      omega
    · intro out ho eo
      obtain ⟨ep, he'⟩ := PyProof.Rows.sortedAll_at s.heap its out.toArray
      have hp := List.mergeSort_perm bs (PySem.W.dataLe false fun b : List Int × V => PyData.tuple (b.1.map .int))
      have em : (bs.mergeSort (PySem.W.dataLe false fun b : List Int × V => PyData.tuple (b.1.map .int))).map (·.1) = sortR (bs.map (·.1)) := by
        rw [← merge_sortR, dataLe_tups]
        exact List.map_mergeSort fun a _ b _ => rfl
      generalize bs.mergeSort (PySem.W.dataLe false fun b : List Int × V => PyData.tuple (b.1.map .int)) = cs at *
      exact ⟨.ref _, upd H (s.heap.objs.size + 1) (.lst (cs.map (·.2))), I.laid (t' := s.toks) (fun _ _ => PyProof.Rows.sortedAll_old) (Nat.le_succ _) ⟨by rw [List.length_map, hp.length_eq]; exact hz, out, ep, vals_each eo, he'⟩, rfl, q _ cs hp em (I.hok.fresh (Nat.le_succ _))⟩
end
/-! ### plain -/
theorem rowI_eq {d : D} {r : List Int} (h : rowI d = some r) : d = .tup (r.map .int) := by
  have key : ∀ {xs : List D} {r : List Int}, allInt xs = some r → xs = r.map .int := by
    intro xs
    induction xs with
    | nil => intro r h; cases h; rfl
    | cons x xs ih =>
      intro r h
      cases x with
      | int i =>
        obtain ⟨r', h1, rfl⟩ := Option.map_eq_some_iff.mp h
        rw [ih h1]
        rfl
      | _ => cases h
  cases d with
  | tup xs => rw [key h]
  | _ => cases h
theorem rowsI_eq : ∀ {ds : List D} {rs : List (List Int)}, rowsI ds = some rs → ds = rs.map fun r => .tup (r.map .int)
  | [], rs, h => by cases h; rfl
  | d :: ds, rs, h => by
    unfold rowsI at h
    split at h
    · rename_i r rs' h1 h2
      cases h
      rw [List.map_cons, ← rowsI_eq h2, rowI_eq h1]
    · cases h
theorem reps_pairs {K : PySem.W.Frag} {F ρ : List Addr} {H : Hp} : ∀ {vs : List V} {rs : List (List Int)}, Reps K F ρ H vs (rs.map fun r => .tup (r.map .int)) → ∃ bs : List (List Int × V), bs.map (·.1) = rs ∧ bs.map (·.2) = vs ∧ ∀ b ∈ bs, Rep K F ρ H b.2 (.tup (b.1.map .int))
  | [], [], _ => ⟨[], rfl, rfl, fun b h => by cases h⟩
  | [], _ :: _, h => by cases h
  | _ :: _, [], h => by cases h
  | v :: vs, r :: rs, h => by
    cases h with
    | cons r1 t =>
      obtain ⟨bs, h1, h2, h3⟩ := reps_pairs t
      refine ⟨(r, v) :: bs, by rw [List.map_cons, h1], by rw [List.map_cons, h2], fun b hb => ?_⟩
      rcases List.mem_cons.mp hb with rfl | hb
      · exact r1
      · exact h3 b hb
theorem pairs_reps {K : PySem.W.Frag} {F ρ : List Addr} {H : Hp} : ∀ {bs : List (List Int × V)}, (∀ b ∈ bs, Rep K F ρ H b.2 (.tup (b.1.map .int))) → Reps K F ρ H (bs.map (·.2)) ((bs.map (·.1)).map fun r => .tup (r.map .int))
  | [], _ => .nil
  | b :: bs, h => .cons (h b List.mem_cons_self) (pairs_reps fun x hx => h x (List.mem_cons_of_mem _ hx))
theorem sim_sortR {K : PySem.W.Frag} : SimN K (rSortR K) (fun s as => (fSortedR s as).map .lst) := by
  intro G F ρ H s vs ds d Q hs r h k
  obtain ⟨zs, h', rfl⟩ := Option.map_eq_some_iff.mp (show (fSortedR s ds).map D.lst = some d from h)
  clear h
  have h := h'
  clear h'
  unfold fSortedR at h
  split at h
  · rename_i a
    split at h
    · rename_i xs hx
      split at h
      · rename_i rs hrs
        split at h
        · rename_i hc
          cases h
          cases r with
          | cons r1 t =>
            cases t
            obtain ⟨q, ws, rfl, h1, h2⟩ := lstOf_rep hs r1 hx
            have ex := rowsI_eq hrs
            subst ex
            obtain ⟨bs, b1, b2, b3⟩ := reps_pairs h2
            refine ⟨q, bs, rfl, by rw [b2]; exact SqL.of h1, fun b hb => DpR_of hs (b3 b hb) (pd_tup_int s b.1), ?_, fun p cs hp hm hn => ?_⟩
            · rcases hc with hc | hc
              · left
                rw [← b1, List.length_map] at hc
                exact hc
              · right
                intro b hb e
                have hm : b.1 ∈ rs := by rw [← b1]; exact List.mem_map.mpr ⟨b, hb, rfl⟩
                have := List.all_eq_true.mp hc b.1 hm
                rw [e] at this
                cases this
            · have hr := pairs_reps (fun b hb => b3 b (hp.mem_iff.mp hb))
              rw [hm, b1] at hr
              exact k _ _ (Ext.new ρ hn) (hs.new hn) (Rep.newL hs hn hr)
        · cases h
      · cases h
    · cases h
  · cases h
end Sx

/-! PxZb: sorted(t), t a tuple of whole numbers. -/
namespace Sx
open PySem L2
section
open PySem.Spec PyProof.Rows
variable {prog : Program} {w : World} {A : Around} {E : Value → Shared → Prop} {s : Shared}
theorem collect_tupS {l : Addr} {vs : List Value} {Q : List Value → Shared → Prop} (hl : IsTup s.heap l vs.toArray)
    (h : Q vs { s with heap := (s.heap.push (seqObj "list" #[] 0)).update s.heap.objs.size (Obj.mapSeq (· ++ vs.toArray)) }) (hsz : vs.length ≤ sizeLine) :
    wpAny (model prog w) A (collect (.ref l)) Q E s := by
  obtain ⟨o, ho, hc, n, hd⟩ := id hl
  unfold collect
  refine wpAny_bind (wpAny_runValue (codeAny_builtin entry_proto_collect' ?_))
  show wpAny _ _ (do again (.builtin "list.__iadd__" ⟨[← newList [], .ref l], []⟩)) _ _ s
  refine wpAny_bind (wpAny_newList (wpAny_pure ⟨Code.quiet_builtin _ (by decide +kernel), codeAny_builtin entry_list_iadd' ?_⟩))
  show wpAny _ _ (Builtin.List.listExtendWith (.ref s.heap.objs.size) (.ref l) (.ref s.heap.objs.size)) _ _ { s with heap := s.heap.push (seqObj "list" #[] 0) }
  unfold Builtin.List.listExtendWith
  have ho' : (s.heap.push (seqObj "list" #[] 0)).get? l = some o := Heap.get?_push_of_some _ ho
  refine wpAny_bind (wpAny_typeOf (T := "tuple") ⟨o, ho', hc⟩ ?_)
  have ht : (Value.type "tuple" == Value.type "tuple") = true := by rfl
  rw [if_pos (by rw [ht]; simp)]
  refine wpAny_bind (listItems_at ho' hd ?_)
  refine wpAny_bind (listItems_at (xs := #[]) (n := 0) (Heap.get?_push_size _ rfl) rfl ?_)
  rw [if_neg (by simp)]
  refine wpAny_bind (listUpdate_at (xs := #[]) (n := 0) (Heap.get?_push_size _ rfl) rfl ?_ (Nat.zero_le _) (by show (#[] ++ vs.toArray).size ≤ sizeLine + 1; simp only [Array.size_append, List.size_toArray, List.length_nil]; omega))
  refine wpAny_pure ?_
  show wpAny (model prog w) A (do
      let o ← load s.heap.objs.size
      match o.data with
      | .seq xs _ => pure xs.toList
      | _ => unsupported "internal:collect") Q E { s with heap := (s.heap.push (seqObj "list" #[] 0)).update s.heap.objs.size (Obj.mapSeq (· ++ vs.toArray)) }
  refine wpAny_bind (wpAny_load (get?_update_seq (Heap.get?_push_size _ rfl) _) ?_)
  show wpAny _ _ (pure ((#[] : Array Value) ++ vs.toArray).toList) Q E _
  rw [show ((#[] : Array Value) ++ vs.toArray).toList = vs by simp]
  exact wpAny_pure h
open SrtO in
theorem sorted_ordT {l : Addr} {vs : List Value} {ltv : Value → Value → Bool} {Q : Value → Shared → Prop} (O : Swo ltv) (hl : IsTup s.heap l vs.toArray) (hz : vs.length ≤ sizeLine)
    (hS : 2 ≤ vs.length → ∀ (h₁ : Heap) (a : Addr), h₁.get? a = some (seqObj "list" vs.toArray 0) → (∀ b o, s.heap.get? b = some o → b ≠ a ∧ h₁.get? b = some o) → SortableO prog w A.in1.in1 { s with heap := h₁ } a vs ltv)
    (h : ∀ out : List Value, Srtd ltv out → Stb ltv out vs → Q (.ref (s.heap.objs.size + 1)) { s with heap := sortedAll s.heap vs out.toArray }) :
    wpAny (model prog w) A (call (.builtin "sorted") [.ref l]) Q E s := by
  refine Calls.call_function_entry kind_sorted plain_sorted entry_sorted (args_sorted1 _) ?_
  unfold Builtin.«sorted»
  refine wpAny_bind (m := checkCount "sorted" 1 1 _) (wpAny_pure ?_)
  refine wpAny_bind (collect_tupS hl ?_ hz)
  refine wpAny_bind (wpAny_newList ?_ hz)
  have hsz : ((s.heap.push (seqObj "list" #[] 0)).update s.heap.objs.size (Obj.mapSeq (· ++ vs.toArray))).objs.size = s.heap.objs.size + 1 := by
    rw [Heap.size_update, size_push']
  have hoL : (((s.heap.push (seqObj "list" #[] 0)).update s.heap.objs.size (Obj.mapSeq (· ++ vs.toArray))).push (seqObj "list" vs.toArray 0)).get? (s.heap.objs.size + 1) = some (seqObj "list" vs.toArray 0) := by
    rw [← hsz]; exact Heap.get?_push_size _ rfl
  have keep : ∀ b o, s.heap.get? b = some o → b ≠ s.heap.objs.size + 1 ∧ (((s.heap.push (seqObj "list" #[] 0)).update s.heap.objs.size (Obj.mapSeq (· ++ vs.toArray))).push (seqObj "list" vs.toArray 0)).get? b = some o := fun b o q => by
    have hlt : b < s.heap.objs.size := Heap.lt_size q
    refine ⟨Nat.ne_of_lt (Nat.lt_succ_of_lt hlt), Heap.get?_push_of_some _ ?_⟩
    rw [Heap.get?_update_ne _ _ _ _ (Nat.ne_of_lt hlt)]
    exact Heap.get?_push_of_some _ q
  show wpAny _ _ _ _ _ { s with heap := ((s.heap.push (seqObj "list" #[] 0)).update s.heap.objs.size (Obj.mapSeq (· ++ vs.toArray))).push (seqObj "list" vs.toArray 0) }
  rw [hsz]
  refine wpAny_bind (wpAny_holding (wpAny_call_entry slot_list_sort ⟨_, hoL, rfl⟩ entry_list_sort (list_sort_ord O hoL hz (fun h2 => hS h2 _ _ hoL keep) fun out hs hb => ⟨_, rfl, ?_⟩) (args_list_sort _)))
  exact wpAny_pure ⟨_, rfl, h out hs hb⟩
def rSortedTI (K : PySem.W.Frag) : List V → Hp → VK → Prop := fun vs H Q => ∃ (a : Addr) (ns : List Int), vs = [V.ref a] ∧ SqT K H a (ns.map V.int) ∧ ∀ (ms : List Int) (p : Addr), ms.Perm ns → ms.Pairwise (· ≤ ·) → H p = none → Q (.ref p) (upd H p (.lst (ms.map V.int)))
theorem cr_sortedTI {X : Cx} : CallR X (.builtin "sorted") (rSortedTI X.K) := by
  intro pins s σ H vs us Q I r h
  obtain ⟨a, ns, rfl, hs, q⟩ := h
  obtain ⟨its, rv, hl, hz⟩ := I.tuple hs
  rw [Vals.ref1 r]
  have hi := rv.ints
  refine sorted_ordT SrtO.swo_int hl (by rw [← rv.length]; exact hz) (fun h2 h₁ a' _ _ => SrtO.ints_sortable hi h2) fun out h1 h2 => ?_
  obtain ⟨k1, k2, k3⟩ := SrtO.ints_out hi h1 h2
  obtain ⟨ep, he'⟩ := PyProof.Rows.sortedAll_at s.heap its out.toArray
  have hlen : ((out.map SrtO.iv).map V.int).length ≤ sizeLine := by
    rw [List.length_map, k2.length_eq]
    rw [List.length_map] at hz
    exact hz
  exact ⟨.ref _, upd H (s.heap.objs.size + 1) (.lst ((out.map SrtO.iv).map V.int)), I.laid (t' := s.toks) (fun _ _ => PyProof.Rows.sortedAll_old) (Nat.le_succ _) ⟨hlen, out, ep, vals_of_ints k1, he'⟩, rfl, q _ _ k2 k3 (I.hok.fresh (Nat.le_succ _))⟩
end
def fSortedT (_ : Sto) (as : List D) : Option (List D) := match as with
  | [.tup xs] => (allInt xs).map fun ns => (sortI ns).map .int
  | _ => none
theorem sim_sortedT {K : PySem.W.Frag} : SimN K (rSortedTI K) (fun s as => (fSortedT s as).map .lst) := by
  intro G F ρ H s vs ds d Q hs r h k
  obtain ⟨zs, h', rfl⟩ := Option.map_eq_some_iff.mp (show (fSortedT s ds).map D.lst = some d from h)
  clear h
  unfold fSortedT at h'
  split at h'
  · rename_i xs
    obtain ⟨ns, hn, rfl⟩ := Option.map_eq_some_iff.mp h'
    cases r with
    | cons r1 t =>
      cases t
      cases r1 with
      | tup t q =>
        have h1 := t.sq
        rw [ints_rep q hn] at h1
        refine ⟨_, ns, rfl, h1, fun ns' p hp hsrt hnone => ?_⟩
        have e : ns' = sortI ns := sorted_eq (hp.trans (sortI_perm ns).symm) hsrt (sortI_sorted ns)
        subst e
        have rr : Reps K F ρ H ((sortI ns).map V.int) ((sortI ns).map .int) := by
          generalize sortI ns = L
          induction L with
          | nil => exact .nil
          | cons x xs ih => exact .cons (.int x) ih
        exact k _ _ (Ext.new ρ hnone) (hs.new hnone) (Rep.newL hs hnone rr)
  · cases h'
end Sx

set_option maxHeartbeats 4000000
/-! PxZc: t * 1 (the same tuple), t * 0 (an empty one). -/
namespace Sx
open PySem L2
section
open PySem.Spec PyProof.Rows
theorem tuple_mul1 (l : Addr) (items : Array Value) (n : Nat) (dd : Option Addr) (sl : Array (Option Value)) (x : Int) (u : Tok) (c0 : (decide (x < -(2 ^ 63)) || decide (x ≥ 2 ^ 63)) = false) (c1 : (items.isEmpty || x == 1) = true) :
    Meets (Builtin.«tuple.__mul__» ⟨[.ref l, .int x u], []⟩) (fun _ R s => s.heap.get? l = some { cls := .type "tuple", dict := dd, data := .seq items n, slots := sl } ∧
      R (.ok (.ret (Value.ref l))) s) :=
  .of_wp fun prog w A R s h => by
    obtain ⟨hp, g, d, tk, os⟩ := s
    obtain ⟨hl, h⟩ := h
    have f1 := AutoSeq1.idx_int
    wp_walk using wpAny_loadPart' hl
    repeat (first
      | (refine wpAny_ite_false (decide_eq_false (by rw [c0]; exact Bool.false_ne_true)) ?_; wp_walk using wpAny_loadPart' hl)
      | (refine wpAny_ite_true (decide_eq_true c1) ?_; wp_walk using wpAny_loadPart' hl))
    exact ⟨_, rfl, h⟩
theorem tuple_mul0 (l : Addr) (items : Array Value) (n : Nat) (dd : Option Addr) (sl : Array (Option Value)) (x : Int) (u : Tok) (c0 : (decide (x < -(2 ^ 63)) || decide (x ≥ 2 ^ 63)) = false) (c1 : (items.isEmpty || x == 1) = false) (c2 : (decide (x ≤ 0) || items.isEmpty) = true) :
    Meets (Builtin.«tuple.__mul__» ⟨[.ref l, .int x u], []⟩) (fun _ R s => s.heap.get? l = some { cls := .type "tuple", dict := dd, data := .seq items n, slots := sl } ∧
      R (.ok (.ret (Value.ref s.heap.objs.size))) { s with heap := s.heap.push { cls := Value.type "tuple", data := Data.seq #[] }, toks := s.toks }) :=
  .of_wp fun prog w A R s h => by
    obtain ⟨hp, g, d, tk, os⟩ := s
    obtain ⟨hl, h⟩ := h
    have f1 := AutoSeq1.idx_int
    wp_walk using wpAny_loadPart' hl
    repeat (first
      | (refine wpAny_ite_false (decide_eq_false (by rw [c0]; exact Bool.false_ne_true)) ?_; wp_walk using wpAny_loadPart' hl)
      | (refine wpAny_ite_false (decide_eq_false (by rw [c1]; exact Bool.false_ne_true)) ?_; wp_walk using wpAny_loadPart' hl)
      | (refine wpAny_ite_true (decide_eq_true c2) ?_; wp_walk using wpAny_loadPart' hl))
    exact ⟨_, rfl, h⟩
def rRep01 (K : PySem.W.Frag) : R2 := fun x y H Q => ∃ l k xs, x = .ref l ∧ y = .int k ∧ SqT K H l xs ∧ -1000 ≤ k ∧ k ≤ 1 ∧
  (((k = 1 ∨ xs = []) ∧ Q (.ref l) H) ∨ (k ≤ 0 ∧ xs ≠ [] ∧ ∀ p, H p = none → Q (.ref p) (upd H p (.tup []))))
theorem op_rep01 {X : Cx} : OpR X (binaryOp .Mult) (rRep01 X.K) := by
  intro pins s σ H x y v u Q I rx ry h
  obtain ⟨l, k, xs, rfl, rfl, hT, h1, h2, hq⟩ := h
  cases rx
  obtain ⟨t, rfl⟩ := ry
  obtain ⟨its, r, ⟨⟨cls, dd, data, sl⟩, ho, hc, n, hd⟩, hs⟩ := I.tuple hT
  simp only at hc hd
  subst hc hd
  have hle : its.length = xs.length := r.length.symm
  have c0 : (decide (k < -(2 ^ 63)) || decide (k ≥ 2 ^ 63)) = false := by
    rw [decide_eq_false (by omega), decide_eq_false (by omega)] <;> rfl
  rcases hq with ⟨hk, q⟩ | ⟨hk, hne, q⟩
  · have c1 : (its.toArray.isEmpty || k == 1) = true := by
      rcases hk with rfl | rfl
      · simp
      · have : its = [] := List.eq_nil_of_length_eq_zero (by simpa using hle)
        subst this
        rfl
    refine wpAny_binaryOp_repeat_ref (T := "tuple") (U := "int") (by decide) ⟨_, ho, rfl⟩ (fun s' => typeIs_int s' k t) noFill_tuple_mul F.fills_int_mul F.slot_int_rmul repeat_tuple F.slot_int_index.lookup
      (call_meets F.slot_int_rmul (typeIs_int s k t) F.entry_int_rmul (F.args_int_rmul_2 _ _) (int_rmul_tuple k t l its.toArray n dd sl)
        ⟨ho, rfl, ⟨_, ho, rfl⟩, call_meets F.slot_tuple_mul ⟨_, ho, rfl⟩ F.entry_tuple_mul (F.args_tuple_mul_2 _ _) (tuple_mul1 l its.toArray n dd sl k t c0 c1) ⟨ho, ?_⟩⟩)
    exact ⟨.ref l, H, I, rfl, q⟩
  · have hi : its.toArray.isEmpty = false := by
      cases its with
      | nil => exact absurd (List.eq_nil_of_length_eq_zero (by simpa using hle.symm)) hne
      | cons a b => rfl
    have c1 : (its.toArray.isEmpty || k == 1) = false := by
      rw [hi, Bool.false_or]
      exact beq_eq_false_iff_ne.mpr (by omega)
    have c2 : (decide (k ≤ 0) || its.toArray.isEmpty) = true := by
      rw [decide_eq_true hk]
      rfl
    refine wpAny_binaryOp_repeat_ref (T := "tuple") (U := "int") (by decide) ⟨_, ho, rfl⟩ (fun s' => typeIs_int s' k t) noFill_tuple_mul F.fills_int_mul F.slot_int_rmul repeat_tuple F.slot_int_index.lookup
      (call_meets F.slot_int_rmul (typeIs_int s k t) F.entry_int_rmul (F.args_int_rmul_2 _ _) (int_rmul_tuple k t l its.toArray n dd sl)
        ⟨ho, rfl, ⟨_, ho, rfl⟩, call_meets F.slot_tuple_mul ⟨_, ho, rfl⟩ F.entry_tuple_mul (F.args_tuple_mul_2 _ _) (tuple_mul0 l its.toArray n dd sl k t c0 c1 c2) ⟨ho, ?_⟩⟩)
    refine ⟨.ref s.heap.objs.size, _, I.laid (t' := s.toks) (o := .tup []) (fun b ob q => Heap.get?_push_of_some _ q) (Nat.le_refl _) ?_, rfl, q _ (I.hok.fresh (Nat.le_refl _))⟩
    exact ⟨by simp, [], .nil, IsTup.new _ _⟩
end
/-! t * k for k below 2 -/
def opMul01 (_ : Sto) (a b : D) : Option D := match a, b with
  | .tup xs, .int k => if -1000 ≤ k ∧ k ≤ 1 then (if k = 1 ∨ xs.isEmpty = true then some (.tup xs) else some (.tup [])) else none
  | _, _ => none
theorem sim_mul01 {K : PySem.W.Frag} : Sim2 K (rRep01 K) opMul01 := by
  intro G F ρ H s x y a b d Q hs rx ry h k
  unfold opMul01 at h
  split at h
  · rename_i xs kk
    split at h
    · rename_i hk
      cases ry
      cases rx with
      | tup t q =>
        have hlen := q.length
        split at h
        · rename_i hc
          cases h
          refine ⟨_, kk, _, rfl, rfl, t.sq, hk.1, hk.2, .inl ⟨?_, k H _ (Ext.refl _ _) hs (.tup t q)⟩⟩
          rcases hc with hc | hc
          · exact .inl hc
          · right
            have : xs = [] := by simpa using hc
            subst this
            exact List.eq_nil_of_length_eq_zero (by simpa using hlen)
        · rename_i hc
          cases h
          have h1 : ¬ kk = 1 := fun z => hc (.inl z)
          have h2 : xs ≠ [] := fun z => hc (.inr (by rw [z]; rfl))
          refine ⟨_, kk, _, rfl, rfl, t.sq, hk.1, hk.2, .inr ⟨by omega, fun z => h2 (List.eq_nil_of_length_eq_zero (by rw [← hlen, z]; rfl)), fun p hpn => ?_⟩⟩
          exact k _ _ (Ext.new ρ hpn) (hs.new hpn) (Rep.newT hs hpn .nil)
    · cases h
  · cases h
end Sx

/-! PxZd: noted tuples put together, how often a flat thing stands in one, the place of a deep thing in a list. -/
namespace Sx
open PySem L2 PySem.Spec PyProof.Rows
def opCatN (_ : Sto) (a b : D) : Option D := match a, b with
  | .ntp xs, .ntp ys => if xs.length + ys.length ≤ LIM then some (.ntp (xs ++ ys)) else none
  | _, _ => none
def rCatN : R2 := fun x y H Q => ∃ (a b : Addr) (oa ob : Obj) (xs ys : List V), x = V.ref a ∧ y = V.ref b ∧ H a = some (.frz oa (.tup xs)) ∧ H b = some (.frz ob (.tup ys)) ∧ xs.length + ys.length ≤ sizeLine ∧
  (xs = [] → Q (.ref b) H) ∧ (xs ≠ [] → ys = [] → Q (.ref a) H) ∧ (xs ≠ [] → ys ≠ [] → ∀ p o, H p = none → o.dict = none → Q (.ref p) (upd H p (.frz o (.tup (xs ++ ys)))))
section
variable {X : Cx}
theorem op_catN : OpR X (binaryOp .Add) rCatN := by
  intro pins s σ H x y v u Q I rx ry h
  obtain ⟨a, b, oa, ob, xs, ys, rfl, rfl, ha, hb, hz, q0, q1, q2⟩ := h
  cases rx
  cases ry
  obtain ⟨its, r1, p1, _⟩ := I.tuple (.inl (.inr ⟨oa, ha⟩))
  obtain ⟨its2, r2, p2, _⟩ := I.tuple (.inl (.inr ⟨ob, hb⟩))
  by_cases hx : xs = []
  · subst hx
    cases r1
    exact cat_tup0 p1 p2 ⟨.ref b, H, I, rfl, q0 rfl⟩
  · refine HT.cat_tup p1 p2 (fun z => hx (r1.nil_iff.mp z)) (fun z => ⟨.ref a, H, I, rfl, q1 hx (r2.nil_iff.mp z)⟩) (fun z => ?_) (by rw [← r1.length, ← r2.length]; exact hz)
    refine ⟨.ref s.heap.objs.size, _, I.laid (t' := s.toks) (o := .frz { cls := .type "tuple", dict := none, data := .seq (its ++ its2).toArray } (.tup (xs ++ ys))) (fun b ob q => Heap.get?_push_of_some _ q) (Nat.le_refl _) ?_, rfl, q2 hx (fun w => z (r2.nil_iff.mpr w)) _ _ (I.hok.fresh (Nat.le_refl _)) rfl⟩
    exact ⟨Heap.get?_push_size _ rfl, by rw [List.length_append]; exact hz, _, r1.append r2, IsTup.new _ _⟩
end
theorem sim_catN {K : PySem.W.Frag} : Sim2 K rCatN opCatN := by
  intro G F ρ H s x y a b d Q hs rx ry hz k
  unfold opCatN at hz
  split at hz
  · rename_i xs ys
    split at hz
    · rename_i hl
      cases hz
      cases rx with
      | ntp t1 q1 =>
        cases ry with
        | ntp t2 q2 =>
          obtain ⟨⟨oa, ha, da⟩, fa, xa⟩ := id t1
          obtain ⟨⟨ob, hb, db⟩, fb, xb⟩ := id t2
          refine ⟨_, _, oa, ob, _, _, rfl, rfl, ha, hb, by rw [q1.length, q2.length]; exact lim hl, fun e => ?_, fun _ e => ?_, fun _ _ p o hp hd => ?_⟩
          · subst e
            cases q1
            exact k H _ (Ext.refl ρ H) hs (.ntp t2 q2)
          · subst e
            cases q2
            rw [List.append_nil] at k
            exact k H _ (Ext.refl ρ H) hs (.ntp t1 q1)
          · exact k _ _ (Ext.new ρ hp) (hs.new hp) (Rep.newNt hs hp hd (q1.append q2))
    · cases hz
  · cases hz
/-! ### t.count(x) -/
def rCntT (K : PySem.W.Frag) : V → List V → Hp → VK → Prop := fun x xs H Q => ∃ (a : Addr) (ys : List V) (y : V), x = V.ref a ∧ xs = [y] ∧ SqT K H a ys ∧ flatV y = true ∧ ys.all flatV = true ∧ Q (.int ((ys.countP fun z => eqV z y : Nat) : Int)) H
theorem mt_cntT {X : Cx} : MtR X "tuple.count" (rCntT X.K) := by
  intro pins s σ H x xs v us Q I rx rs h
  obtain ⟨p, ys, y, rfl, rfl, hq, fy, fys, q⟩ := h
  cases rx
  obtain ⟨w, rfl, rw0⟩ := vals1 rs
  obtain ⟨its, r, ptup, hsz⟩ := I.tuple hq
  obtain ⟨⟨cls, dd, dt, sl⟩, hget, hc, n, hd⟩ := ptup
  simp only at hc hd
  subst hc hd
  refine call_meets PySem.F.slot_tuple_count ⟨_, hget, rfl⟩ PySem.F.entry_tuple_count (PySem.F.args_tuple_count_2 _ _) (SeqAt.tuple_countAt p its.toArray n dd sl w (eqU y)) ⟨hget, fun u' hu' => mem_eqAt rw0 fy r fys u' (by simpa using hu'), ?_⟩
  have ec : its.toArray.toList.countP (eqU y) = ys.countP fun z => eqV z y := by
    rw [← countU r fys]
  refine ⟨.int ((ys.countP fun z => eqV z y : Nat) : Int), H, I.tok _, ⟨s.toks, ?_⟩, q⟩
  show Value.int ((its.toArray.toList.countP (eqU y) : Nat) : Int) s.toks = _
  rw [ec]
def nCount (xs : List D) (as : List D) : Option D := match as with
  | [d] => if isFlat d && xs.all isFlat then some (.int ((xs.countP fun y => flatEq y d : Nat) : Int)) else none
  | _ => none
section
variable {X : Cx} {G : SCtx} {W : WX} {pos apos cpos : Pos} {e o : Expr} {es : List Expr} {f fo : EF} {g1 fa : AF}
theorem s_ncnt (h : PE X e (fun σ H Q => tE X.K G W fo σ H fun x H1 => (∃ a ob vs, x = V.ref a ∧ H1 a = some (.frz ob (.tup vs)) ∧ ob.dict = none) ∧ tA X.K G W fa σ H1 fun xs H2 => rCntT X.K x xs H2 Q)) : SE X G W e (eNM nCount fo fa) := by
  refine pe_imp h fun σ H Q h => ?_
  obtain ⟨F, ρ, env, s, he, hs, hp⟩ := h
  refine tE.step he hs hp fun d s1 ρ1 H1 v _ he1 hs1 e1 r1 hp1 => ?_
  split at hp1
  · rename_i xs _
    cases r1 with
    | ntp t q =>
      obtain ⟨⟨ob, ho, hd⟩, f, x⟩ := t
      refine ⟨⟨_, ob, _, rfl, ho, hd⟩, tA.step he1 hs1 hp1 fun ds s2 ρ2 H2 vs _ he2 hs2 e2 r2 hp2 => ?_⟩
      obtain ⟨w, hw, hp3⟩ := hp2.off
      unfold nCount at hw
      split at hw
      · rename_i d1
        split at hw
        · rename_i hf
          simp only [Bool.and_eq_true] at hf
          cases hw
          cases r2 with
          | cons r3 t3 =>
            cases t3
            have q2 := Reps.ext e2 q
            refine ⟨_, _, _, rfl, rfl, .inl (.inr ⟨ob, e2.keep _ _ ho x⟩), flat_rep r3 hf.1, flats_rep q2 hf.2, ?_⟩
            rw [countD r3 hf.1 q2 hf.2]
            exact hp3.here hs2 _ (.int _)
        · cases hw
      · cases hw
  · exact hp1.elim
end
theorem units65 {k : Nat} {A : PySem.Around} (r : L2.Room k A) : A.units + 65 < PySem.cLine := by have := r.un; omega
/-! ### xs.index(x), deep -/
def findD (d : PyData) : List PyData → Nat → Option Nat
  | [], _ => none
  | p :: ps, j => if PyData.eqv p d then some j else findD d ps (j + 1)
theorem findD_at {d : PyData} : ∀ {ps : List PyData} {j n : Nat}, findD d ps j = some n → ∃ i z, n = j + i ∧ ps[i]? = some z ∧ PyData.eqv z d = true ∧ ∀ (m : Nat) (z' : PyData), m < i → ps[m]? = some z' → PyData.eqv z' d = false
  | p :: ps, j, n, h => by
    unfold findD at h
    split at h
    · rename_i c
      cases h
      exact ⟨0, p, rfl, rfl, c, fun m z' hm => absurd hm (Nat.not_lt_zero _)⟩
    · rename_i c
      obtain ⟨i, z, h1, h2, h3, h4⟩ := findD_at h
      refine ⟨i + 1, z, by omega, h2, h3, fun m z' hm hz => ?_⟩
      cases m with
      | zero => cases hz; simpa using c
      | succ m => exact h4 m z' (by omega) hz
def mIndexD (s : Sto) (o : D) (as : List D) : Option (D × Sto) := match as with
  | [d] => match lstOf s o with
    | some xs => match pds s xs, pdR s d with
      | some ps, some p => if SeqAt.shaped (.list ps) && SeqAt.shaped p then (findD p ps 0).map fun j => (.int (j : Nat), s) else none
      | _, _ => none
    | none => none
  | _ => none
theorem sim_mIndexD {K : PySem.W.Frag} : SimM K (rIndexD K) mIndexD := by
  intro G F ρ H s x vs o ds q Q hs rx r h k
  unfold mIndexD at h
  split at h
  · rename_i d
    split at h
    · rename_i xs hx
      split at h
      · rename_i ps p e1 e2
        split at h
        · rename_i hf
          simp only [Bool.and_eq_true] at hf
          obtain ⟨n, hn, rfl⟩ := Option.map_eq_some_iff.mp h
          obtain ⟨i, z, rfl, h2, h3, h4⟩ := findD_at hn
          cases r with
          | cons r1 t =>
            cases t
            obtain ⟨a, ws, rfl, h5, h6⟩ := lstOf_rep hs rx hx
            refine ⟨a, _, p, ps, i, z, rfl, rfl, .lst (SqL.of h5) (DpAll_of hs xs h6 e1), DpR_of hs r1 e2, hf.1, hf.2, h2, h3, h4, ?_⟩
            rw [Nat.zero_add] at k
            exact k H _ (Ext.refl _ _) hs (.int _)
        · cases h
      · cases h
    · cases h
  · cases h
end Sx

/-! PxZe: sorted(d), d a dict whose keys are whole numbers, however many. -/
namespace Sx
open PySem L2
section
open PySem.Spec PyProof.Rows
def rSortedDW : List V → Hp → VK → Prop := fun vs H Q => ∃ (a : Addr) (kvs : List (Key × V)) (ns : List Int), vs = [V.ref a] ∧ Rd H a (.dK kvs) ∧ kvs.map (·.1) = ns.map Sum.inl ∧ ns.length ≤ LIM ∧
  ∀ (ms : List Int) (p : Addr), ms.Perm ns → ms.Pairwise (· ≤ ·) → H p = none → Q (.ref p) (upd H p (.lst (ms.map V.int)))
theorem intsKeys {vs : List (Key × Value)} {acc : List Value} {ns : List Int} (hk : vs.map (·.1) = ns.map Sum.inl) (hl : acc.length = vs.length)
    (h : ∀ (j : Nat) (v : Value), acc[j]? = some v → ∃ k x, vs[j]? = some (k, x) ∧ keyIs k v = true) : IntsAre acc ns := by
  have hn : acc.length = ns.length := by
    have := congrArg List.length hk
    simp only [List.length_map] at this
    omega
  refine ints_each hn fun j v e => ?_
  obtain ⟨k, x, h1, h2⟩ := h j v e
  have h3 : (vs.map (·.1))[j]? = some k := by simp [h1]
  rw [hk, List.getElem?_map] at h3
  obtain ⟨y, h4, rfl⟩ := Option.map_eq_some_iff.mp h3
  rcases keyIs_shape h2 with ⟨i, t, q1, q2⟩ | ⟨z, t, q1, q2⟩
  · cases q1; exact ⟨y, t, h4, q2⟩
  · cases q1
open SrtO in
theorem cr_sortedDW {X : Cx} (hcalm : X.calm = true) : CallR X (.builtin "sorted") rSortedDW := by
  intro pins s σ H vs us Q I r h
  obtain ⟨a, kvs, ns, rfl, hd, hks, hlim, q⟩ := h
  rw [Vals.ref1 r]
  obtain ⟨z, lo, ws, rel, dd⟩ := dk_rd I.hok hd
  obtain ⟨ep, hat⟩ := dd.dictAt
  have hkeys : ws.map (·.1) = ns.map Sum.inl := rel.keys.symm.trans hks
  have hwl : ws.length = ns.length := by simpa using congrArg List.length hkeys
  have hbig := lim hlim
  refine Calls.call_function_entry kind_sorted plain_sorted entry_sorted (args_sorted1 _) (show wpAny _ _ (Builtin.«sorted» _) _ _ _ from ?_)
  unfold Builtin.«sorted»
  refine wpAny_bind (m := checkCount "sorted" 1 1 _) (wpAny_pure (wpAny_bind (PySem.W.kdu_collect (A := X.A.in1) (PySem.W.kdl_dict (knd := mixKind X.prog X.w) (kvs := ws) (ep := ep) lo) (I.ok.hd hcalm) hat (by omega) fun g tk acc hk hacc => ?_)))
  have hal : acc.toList.length = ns.length := by rw [Array.length_toList, hacc.1, hwl]
  have hi : IntsAre acc.toList ns := intsKeys hkeys (by omega) fun j v e => hacc.2 j v (by rw [← Array.getElem?_toList]; exact e)
  have J : Inv X pins σ H { s with heap := g, toks := tk } := I.kept hk
  refine wpAny_bind (wpAny_newList (show wpAny _ _ _ _ _ { s with heap := g.push (seqObj "list" acc.toList.toArray 0), toks := tk } from ?_) (by omega))
  have hoL : (g.push (seqObj "list" acc.toList.toArray 0)).get? g.objs.size = some (seqObj "list" acc.toList.toArray 0) := Heap.get?_push_size _ rfl
  refine wpAny_bind (wpAny_holding (wpAny_call_entry slot_list_sort ⟨_, hoL, rfl⟩ entry_list_sort (list_sort_ord (s := { s with heap := g.push (seqObj "list" acc.toList.toArray 0), toks := tk }) swo_int hoL (by omega) (fun h2 => ints_sortable hi h2) fun out h1 h2 => ⟨_, rfl, ?_⟩) (args_list_sort _)))
  obtain ⟨k1, k2, k3⟩ := ints_out hi h1 h2
  obtain ⟨e', he'⟩ := sortedHeap_at (vs := acc.toList) (out := out.toArray) hoL
  have hlen : ((out.map iv).map V.int).length ≤ sizeLine := by
    rw [List.length_map, k2.length_eq]
    omega
  refine wpAny_pure ⟨_, rfl, .ref g.objs.size, upd H g.objs.size (.lst ((out.map iv).map V.int)), J.laid (t' := tk) (fun b u e => ?_) (Nat.le_refl _) ⟨hlen, out, e', vals_of_ints k1, he'⟩, rfl, q _ _ k2 k3 (J.hok.fresh (Nat.le_refl _))⟩
  have hb : b < g.objs.size := Heap.lt_size e
  rw [sortedHeap_old (Nat.ne_of_lt (Heap.lt_size e)) (by rw [size_push']; exact Nat.lt_succ_of_lt hb)]
  exact Heap.get?_push_of_some _ e
end
def fSortedDW (s : Sto) (as : List D) : Option (List D) := match as with
  | [a] => match dicOf s a with
    | some kvs => match allKI kvs with
      | some ns => if ns.length ≤ LIM then some ((sortI ns).map .int) else none
      | none => none
    | none => none
  | _ => none
theorem sim_sortedDW {K : PySem.W.Frag} : SimN K rSortedDW (fun s as => (fSortedDW s as).map .lst) := by
  intro G F ρ H s vs ds d Q hs r h k
  obtain ⟨es, h', rfl⟩ := Option.map_eq_some_iff.mp (show (fSortedDW s ds).map D.lst = some d from h)
  clear h
  unfold fSortedDW at h'
  split at h'
  · rename_i a
    split at h'
    · rename_i kvs hx
      split at h'
      · rename_i ns hn
        split at h'
        · rename_i hl
          cases h'
          cases r with
          | cons r1 t =>
            cases t
            obtain ⟨q, n, ws, rfl, rfl, h3, h4, h5, h6⟩ := dicOf_rep hs r1 hx
            refine ⟨q, ws, ns, rfl, .inl h5, h6.1.trans (allKI_keys hn), hl, fun ms p hp hsrt hnone => ?_⟩
            have e : ms = sortI ns := sorted_eq (hp.trans (sortI_perm ns).symm) hsrt (sortI_sorted ns)
            subst e
            have rr : Reps K F ρ H ((sortI ns).map V.int) ((sortI ns).map .int) := by
              generalize sortI ns = L
              induction L with
              | nil => exact .nil
              | cons x xs ih => exact .cons (.int x) ih
            exact k _ _ (Ext.new ρ hnone) (hs.new hnone) (Rep.newL hs hnone rr)
        · cases h'
      · cases h'
    · cases h'
  · cases h'
end Sx

/-! PxZf: two dicts of whole numbers that hold the same, whatever the order. -/
namespace Sx
open PySem L2
def sameP (ls : List (Key × D)) (p : Key × D) : Bool := match p.2, valD ls p.1 with
  | .int i, some (.int j) => decide (i = j)
  | _, _ => false
def opNeDic (s : Sto) (a b : D) : Option D := match dicOf s a, dicOf s b with
  | some ks, some ls => if ks.length = ls.length ∧ ks.all (sameP ls) = true then some (.bl false) else none
  | _, _ => none
theorem dicR_mem {K : PySem.W.Frag} {F ρ : List Addr} {H : Hp} : ∀ {kvs : List (Key × D)} {ws : List (Key × V)}, DicR K F ρ H ws kvs → ∀ w ∈ ws, ∃ d, (w.1, d) ∈ kvs ∧ Rep K F ρ H w.2 d
  | [], [], _, w, hw => by cases hw
  | [], w :: ws, h, _, _ => by have := h.1; simp at this
  | p :: kvs, [], h, _, _ => by have := h.1; simp at this
  | p :: kvs, w :: ws, h, x, hx => by
    obtain ⟨h1, h2⟩ := h
    simp only [List.map_cons, List.cons.injEq] at h1
    cases h2 with
    | cons r t =>
      rcases List.mem_cons.mp hx with rfl | hx
      · exact ⟨p.2, by rw [h1.1]; exact List.mem_cons_self, r⟩
      · obtain ⟨d, h3, h4⟩ := dicR_mem (kvs := kvs) (ws := ws) ⟨h1.2, t⟩ x hx
        exact ⟨d, List.mem_cons_of_mem _ h3, h4⟩
theorem sim_neDic {K : PySem.W.Frag} : Sim2 K rNeDA opNeDic := by
  intro G F ρ H s x y a b d Q hs rx ry hz k
  unfold opNeDic at hz
  split at hz
  · rename_i ks ls h1 h2
    split at hz
    · rename_i hc
      cases hz
      obtain ⟨p, n, ws, rfl, rfl, r1, r2, r3, r4⟩ := dicOf_rep hs rx h1
      obtain ⟨q, m, us, rfl, rfl, q1, q2, q3, q4⟩ := dicOf_rep hs ry h2
      refine ⟨p, q, ws, us, rfl, rfl, r3, q3, ?_, fun w hw => ?_, k H _ (Ext.refl ρ H) hs (.bl _)⟩
      · have e1 := congrArg List.length r4.1
        have e2 := congrArg List.length q4.1
        simp only [List.length_map] at e1 e2
        rw [e1, e2]
        exact hc.1
      · obtain ⟨d, hd, rd⟩ := dicR_mem r4 w hw
        have hp := List.all_eq_true.mp hc.2 _ hd
        unfold sameP at hp
        split at hp
        · rename_i i j e1 e2
          simp only at e1 e2
          subst e1
          have hij : i = j := of_decide_eq_true hp
          subst hij
          obtain ⟨v, hv, rv⟩ := (val_rep w.1 q4).1 _ e2
          obtain ⟨w1, w2⟩ := w
          simp only at *
          cases rd
          cases rv
          exact ⟨hv, rfl⟩
        · cases hp
    · cases hz
  · cases hz
theorem units0 {k : Nat} {A : PySem.Around} (r : L2.Room k A) : A.units < PySem.cLine := by have := r.un; omega
end Sx

/-! PxZg: a text so many times, a list made longer by another one, a number taken out of a list. -/
namespace Sx
open PySem L2
def opMulS (_ : Sto) (a b : D) : Option D := match a, b with
  | .str x, .int k => if 0 ≤ k ∧ k ≤ 1000 ∧ x.length ≤ 1000 then some (.str (Txt.mul x k)) else none
  | _, _ => none
def rMulS : R2 := fun x y H Q => ∃ i j, x = .str i ∧ y = .int j ∧ 0 ≤ j ∧ j ≤ 1000 ∧ i.length ≤ 1000 ∧ Q (.str (Txt.mul i j)) H
section
variable {X : Cx}
theorem op_mulS : OpR X (binaryOp .Mult) rMulS := by
  intro pins s σ H x y v u Q I rx ry h
  obtain ⟨i, j, rfl, rfl, h0, h1, h2, q⟩ := h
  obtain ⟨t, rfl⟩ := rx
  obtain ⟨t', rfl⟩ := ry
  exact SB.mul (PyProof.Rows.mulOk_of 1000 1000 h2 (by omega) (by omega) (by decide) (by decide)) fun t' k => ⟨.str (Txt.mul i j), H, I.tok _, ⟨_, rfl⟩, q⟩
end
theorem sim_mulS {K : PySem.W.Frag} : Sim2 K rMulS opMulS := by
  intro G F ρ H s x y a b d Q hs rx ry hz k
  unfold opMulS at hz
  split at hz
  · rename_i i j
    split at hz
    · rename_i hc
      cases hz
      cases rx
      cases ry
      exact ⟨_, _, rfl, rfl, hc.1, hc.2.1, hc.2.2, k H _ (Ext.refl ρ H) hs (.str _)⟩
    · cases hz
  · cases hz
def mExtend (s : Sto) (o : D) (as : List D) : Option (D × Sto) := match o, as with
  | .ref n, [d] => match s[n]? with
    | some (.lst xs) => match lstOf s d with
      | some ys => if xs.length + ys.length ≤ LIM then some (.non, s.set n (.lst (xs ++ ys))) else none
      | none => none
    | _ => none
  | _, _ => none
theorem sim_extend {K : PySem.W.Frag} : SimM K rExtend mExtend := by
  intro G F ρ H s x vs o ds q Q hs rx rv hq k
  unfold mExtend at hq
  split at hq
  · split at hq
    · rename_i n d _ xs hx
      split at hq
      · rename_i ys hy
        split at hq
        · rename_i hl
          cases hq
          cases rx with
          | ref hr =>
            cases rv with
            | cons r t =>
              cases t
              obtain ⟨a, ha, ws, hv, rr⟩ := hs.at hx
              rw [hr] at ha
              cases ha
              have hm := List.mem_of_getElem? hr
              obtain ⟨b, zs, rfl, e1, r1⟩ := lstOf_rep hs r hy
              refine ⟨_, b, ws, zs, rfl, rfl, hv, e1, by rw [rr.length, r1.length]; exact Nat.le_trans hl (by decide), ?_⟩
              exact k _ _ (Ext.put hm (nf hv)) (hs.put hr ⟨_, upd_same, (rr.append r1).ext (Ext.put hm (nf hv))⟩) .non
        · cases hq
      · cases hq
    · cases hq
  · cases hq
theorem erase_at {k : Int} : ∀ {ns : List Int}, k ∈ ns → ∃ j : Nat, ns[j]? = some k ∧ (∀ m : Nat, m < j → ns[m]? ≠ some k) ∧ ns.erase k = ns.eraseIdx j
  | [], h => by cases h
  | n :: ns, h => by
    by_cases c : n = k
    · subst c
      exact ⟨0, rfl, fun m hm => absurd hm (by omega), by simp⟩
    · have h2 : k ∈ ns := by
        rcases List.mem_cons.mp h with e | e
        · exact absurd e.symm c
        · exact e
      obtain ⟨j, h3, h4, h5⟩ := erase_at h2
      refine ⟨j + 1, h3, fun m hm => ?_, ?_⟩
      · cases m with
        | zero => simp [c]
        | succ m => exact h4 m (by omega)
      · rw [List.erase_cons_tail (by simpa using c), h5]
        rfl
def mRemove (s : Sto) (o : D) (as : List D) : Option (D × Sto) := match o, as with
  | .ref n, [.int k] => match s[n]? with
    | some (.lst xs) => match allInt xs with
      | some ns => if k ∈ ns then some (.non, s.set n (.lst ((ns.erase k).map .int))) else none
      | none => none
    | _ => none
  | _, _ => none
theorem reps_int {K : PySem.W.Frag} {F ρ : List Addr} {H : Hp} : ∀ ns : List Int, Reps K F ρ H (ns.map V.int) (ns.map D.int)
  | [] => .nil
  | n :: ns => .cons (.int n) (reps_int ns)
theorem sim_remove {K : PySem.W.Frag} : SimM K rRemI mRemove := by
  intro G F ρ H s x vs o ds q Q hs rx rv hq k
  unfold mRemove at hq
  split at hq
  · rename_i n i
    split at hq
    · rename_i xs hx
      split at hq
      · rename_i ns hn
        split at hq
        · rename_i hi
          cases hq
          cases rx with
          | ref hr =>
            cases rv with
            | cons r t =>
              cases t
              cases r
              obtain ⟨a, ha, ws, hv, rr⟩ := hs.at hx
              rw [hr] at ha
              cases ha
              have hm := List.mem_of_getElem? hr
              have e := ints_rep rr hn
              subst e
              obtain ⟨j, h3, h4, h5⟩ := erase_at hi
              refine ⟨_, ns, i, j, rfl, rfl, hv, h3, h4, ?_⟩
              rw [h5] at k
              exact k _ _ (Ext.put hm (nf hv)) (hs.put hr ⟨_, upd_same, reps_int _⟩) .non
        · cases hq
      · cases hq
    · cases hq
  · cases hq
end Sx

/-! PxZh: a list of a text's signs. -/
namespace Sx
open PySem L2 PySem.Spec PyProof.Rows
def fListS (_ : Sto) (as : List D) : Option D := match as with
  | [.str z] => if z.length ≤ LIM then some (.lst (signsOf z)) else none
  | _ => none
def sgV (z : Str) : List V := z.cps.toList.map fun c => V.str ⟨#[c]⟩
def kLstS (x : V) (H : Hp) (Q : VK) : Prop := ∃ z : Str, x = .str z ∧ z.length ≤ sizeLine ∧ ∀ q, H q = none → Q (.ref q) (upd H q (.lst (sgV z)))
section
variable {X : Cx}
theorem rl_listS (hc : X.calm = true) (pins : List (Addr × Obj)) (s : Shared) (σ : L2.St) (H : Hp) (x : V) (v : Value) (Q : VK) (I : Inv X pins σ H s) (r : RelV x v) (h : kLstS x H Q) :
    wpAny (model X.prog X.w) X.A (call (.type "list") [v]) (EP X pins σ Q) X.xe s := by
  obtain ⟨z, rfl, hz, q⟩ := h
  obtain ⟨t, rfl⟩ := r
  refine PySem.call_list_str (I.ok.hd hc) z t (fun h' tk acc c' hk e hi => ?_) hz
  refine ⟨.ref s.heap.objs.size, upd H s.heap.objs.size (.lst (sgV z)), I.laid hk (Nat.le_refl _) ⟨by unfold sgV; rw [List.length_map, Array.length_toList]; exact hz, acc.toList, c', ?_, by rw [Array.toArray_toList]; exact e⟩, rfl, q _ (I.hok.fresh (Nat.le_refl _))⟩
  refine vals_of_idx _ _ (by unfold sgV; rw [List.length_map, Array.length_toList, Array.length_toList]; exact hi.1) fun j u hj => ?_
  obtain ⟨c, t', hc, rfl⟩ := hi.2 j u (by rw [← Array.getElem?_toList]; exact hj)
  refine ⟨.str ⟨#[c]⟩, ?_, ⟨_, rfl⟩⟩
  unfold sgV
  rw [List.getElem?_map, Array.getElem?_toList, hc]
  rfl
end
theorem reps_sg {K : PySem.W.Frag} {F ρ : List Addr} {H : Hp} : ∀ l : List Nat, Reps K F ρ H (l.map fun c => V.str ⟨#[c]⟩) (l.map fun c => D.str ⟨#[c]⟩)
  | [] => .nil
  | c :: l => .cons (.str _) (reps_sg l)
theorem sim_listS {K : PySem.W.Frag} : SimN K (r1 kLstS) fListS := by
  intro G F ρ H s vs ds d Q hs r hz hq
  unfold fListS at hz
  split at hz
  · rename_i z
    split at hz
    · rename_i hl
      cases hz
      cases r with
      | cons r1 t =>
        cases t
        cases r1
        exact ⟨z, rfl, Nat.le_trans hl (by decide), fun q hn => hq _ _ (Ext.new ρ hn) (hs.new hn) (Rep.newL hs hn (reps_sg _))⟩
    · cases hz
  · cases hz
end Sx

/-! PxZi: tuple(d), d a dict whose keys are whole numbers. -/
namespace Sx
open PySem L2
section
open PySem.Spec PyProof.Rows
def rTupDW : List V → Hp → VK → Prop := fun vs H Q => ∃ (a : Addr) (kvs : List (Key × V)) (ns : List Int), vs = [V.ref a] ∧ Rd H a (.dK kvs) ∧ kvs.map (·.1) = ns.map Sum.inl ∧ ns.length ≤ LIM ∧
  ∀ (p : Addr), H p = none → Q (.ref p) (upd H p (.tup (ns.map V.int)))
theorem cr_tupDW {X : Cx} (hcalm : X.calm = true) : CallR X (.type "tuple") rTupDW := by
  intro pins s σ H vs us Q I r h
  obtain ⟨a, kvs, ns, rfl, hd, hks, hlim, q⟩ := h
  rw [Vals.ref1 r]
  obtain ⟨z, lo, ws, rel, dd⟩ := dk_rd I.hok hd
  obtain ⟨ep, hat⟩ := dd.dictAt
  have hkeys : ws.map (·.1) = ns.map Sum.inl := rel.keys.symm.trans hks
  have hwl : ws.length = ns.length := by simpa using congrArg List.length hkeys
  have hbig := lim hlim
  have hTI : s.TypeIs (.ref a) "dict" := by
    obtain ⟨o, es, h1, h2, _⟩ := hat
    exact ⟨o, h1, h2.1⟩
  have code : codeAny (model X.prog X.w) X.A.in1 (.call (.builtin "tuple.__new__") ⟨[.type "tuple", .ref a], []⟩) (wants (fun obj s1 => s1.TypeIs obj "tuple" ∧ EP X pins σ Q obj s1) X.xe) s := by
    refine codeAny_of_tree ?_
    show wpAny _ X.A.in1.in1 (do checkBuiltinCall "tuple.__new__" ⟨[.type "tuple", .ref a], []⟩; again (.builtin "tuple.__new__" ⟨[.type "tuple", .ref a], []⟩)) _ _ s
    refine wpAny_bind (wpAny_of_eq (F.newCall_tuple_1 _) (wpAny_pure ⟨plainId_quiet F.plain_tuple_new _, codeAny_builtin F.entry_tuple_new ?_⟩))
    rw [Around.under_plainId F.plain_tuple_new _]
    have hsub := sub_tuple_self
    have hinit := init_tuple_lookup
    have hmh := madeHere_tuple
    have hsz : ws.length ≤ sizeLine := by omega
    have hh2 : X.A.in1.in1.handled = none := I.ok.hd hcalm
    have src := PySem.W.kdl_dict (prog := X.prog) (w := X.w) (knd := mixKind X.prog X.w) (kvs := ws) (ep := ep) lo
    wp_walk using wpAny_typeOf hTI, PySem.W.kdu_collect (A := X.A.in1.in1) src hh2 hat hsz
    intro g tk acc hk hacc
    show wpAny _ _ (Builtin.Tuple.tupleExact acc.toList.toArray >>= fun v => ret v) _ _ _
    have hal : acc.toList.length = ns.length := by rw [Array.length_toList, hacc.1, hwl]
    have hi : IntsAre acc.toList ns := intsKeys hkeys (by omega) fun j v e => hacc.2 j v (by rw [← Array.getElem?_toList]; exact e)
    have J : Inv X pins σ H { s with heap := g, toks := tk } := I.kept hk
    unfold Builtin.Tuple.tupleExact
    refine wpAny_bind (wpAny_newObj_type ?_ (by show acc.toList.toArray.size ≤ sizeLine; simp only [List.size_toArray]; omega))
    refine wpAny_pure ?_
    refine ⟨⟨_, Heap.get?_push_size _ rfl, rfl⟩, .ref g.objs.size, upd H g.objs.size (.tup (ns.map V.int)), J.laid (t' := tk) (fun b o e => Heap.get?_push_of_some _ e) (Nat.le_refl _) (show ObjOk X.prog X.w _ _ _ (.tup (ns.map V.int)) from ⟨by rw [List.length_map]; omega, acc.toList, vals_of_ints hi, IsTup.new _ _⟩), rfl, q _ (J.hok.fresh (Nat.le_refl _))⟩
  refine callType_codes (Q₁ := fun obj s₁ => s₁.TypeIs obj "tuple" ∧ EP X pins σ Q obj s₁) F.called_tuple (F.typeCall_tuple_1 _) F.entry_object_init code fun obj s₁ h₁ => ?_
  exact ⟨h₁.1, F.args_object_init_2 obj _, object_init_meets F.called_tuple.init.lookup F.called_tuple.made (by decide) X.prog X.w X.A.in1 _ s₁ ⟨h₁.1, rfl, h₁.2⟩⟩
end
def fTupD (s : Sto) (as : List D) : Option D := match as with
  | [a] => match dicOf s a with
    | some kvs => match allKI kvs with
      | some ns => if ns.length ≤ LIM then some (.tup (ns.map .int)) else none
      | none => none
    | none => none
  | _ => none
theorem sim_tupD {K : PySem.W.Frag} : SimN K rTupDW fTupD := by
  intro G F ρ H s vs ds d Q hs r h' k
  unfold fTupD at h'
  split at h'
  · rename_i a
    split at h'
    · rename_i kvs hx
      split at h'
      · rename_i ns hn
        split at h'
        · rename_i hl
          cases h'
          cases r with
          | cons r1 t =>
            cases t
            obtain ⟨q, n, ws, rfl, rfl, h3, h4, h5, h6⟩ := dicOf_rep hs r1 hx
            refine ⟨q, ws, ns, rfl, .inl h5, h6.1.trans (allKI_keys hn), hl, fun p hnone => ?_⟩
            have rr : Reps K F ρ H (ns.map V.int) (ns.map .int) := by
              generalize ns = L
              induction L with
              | nil => exact .nil
              | cons x xs ih => exact .cons (.int x) ih
            exact k _ _ (Ext.new ρ hnone) (hs.new hnone) (Rep.newT hs hnone rr)
        · cases h'
      · cases h'
    · cases h'
  · cases h'
/-- sorted(t), t a tuple of whole numbers, as a list that is changed -/
theorem sim_sortedTN {K : PySem.W.Frag} : SimNN K (rSortedTI K) fSortedT := by
  intro G F ρ H s vs ds es Q hs r h' k
  unfold fSortedT at h'
  split at h'
  · rename_i xs
    obtain ⟨ns, hn, rfl⟩ := Option.map_eq_some_iff.mp h'
    cases r with
    | cons r1 t =>
      cases t
      cases r1 with
      | tup t q =>
        have h1 := t.sq
        rw [ints_rep q hn] at h1
        refine ⟨_, ns, rfl, h1, fun ns' p hp hsrt hnone => ?_⟩
        have e : ns' = sortI ns := sorted_eq (hp.trans (sortI_perm ns).symm) hsrt (sortI_sorted ns)
        subst e
        have rr : Reps K F ρ H ((sortI ns).map V.int) ((sortI ns).map .int) := by
          generalize sortI ns = L
          induction L with
          | nil => exact .nil
          | cons x xs ih => exact .cons (.int x) ih
        exact k _ _ _ (Ext.alloc ρ hnone) (hs.newR hnone rr).1 (hs.newR hnone rr).2
  · cases h'
end Sx

/-! PxZj: zip of two sources, each a tuple, a list or a range that goes down. -/
namespace Sx
open PySem L2
section
open PySem.Spec PyProof.Rows
/-- an inner iterator with its own cells fp -/
structure InnerF (P : Program) (w : World) (K : PySem.W.Frag) (it : Addr) (fp : List Addr) (f g : Nat → Hp → V → Prop) (stop : Nat → Hp → Prop) (St : Nat → Heap → Prop) : Prop where
  mem : it ∈ fp
  ob : ∀ i h, St i h → ∃ o, h.get? it = some o ∧ ∀ v, o.data ≠ .cell v
  at_ : ∀ i h h', St i h → (∀ o, h.get? it = some o → h'.get? it = some o) → St i h'
  item : ∀ (X : Cx), X.prog = P → X.w = w → X.K = K → X.calm = true → ∀ (i : Nat) (pins : List (Addr × Obj)) (s : Shared) (σ : L2.St) (H : Hp), Inv X pins σ H s → St i s.heap → (∃ x, f i H x) →
    ∃ (x : V) (n : Nat) (Pd : Nat → Value → Prop) (S2 : Nat → Heap → Prop), g i H x ∧ Draws P w X.A.in1 it fp n Pd S2 ∧ S2 i s.heap ∧ i < n ∧ (∀ y, Pd i y → RelV x y) ∧ ∀ h', S2 (i + 1) h' → St (i + 1) h'
  done : ∀ (X : Cx), X.prog = P → X.w = w → X.K = K → X.calm = true → ∀ (i : Nat) (pins : List (Addr × Obj)) (s : Shared) (σ : L2.St) (H : Hp), Inv X pins σ H s → St i s.heap → stop i H →
    ∃ (Pd : Nat → Value → Prop) (S2 : Nat → Heap → Prop), Draws P w X.A.in1 it fp i Pd S2 ∧ S2 i s.heap
def ItZ2 (f1 g1 : Nat → Hp → V → Prop) (p1 : Nat → Hp → Prop) (f2 g2 : Nat → Hp → V → Prop) (p2 : Nat → Hp → Prop) : It :=
  ⟨fun i H => (∃ x, f1 i H x) ∧ ∃ y, f2 i H y, fun i H v H' => ∃ T x y, v = .ref T ∧ H T = none ∧ H' = upd H T (.tup [x, y]) ∧ g1 i H x ∧ g2 i H y,
    fun i H => (p1 i H ∧ ((∃ y, f2 i H y) ∨ p2 i H)) ∨ ((∃ x, f1 i H x) ∧ p2 i H)⟩
theorem turn_zipI {P : Program} {w : World} {K : PySem.W.Frag} {elts : List Expr} {kk : Nat} {tpos : Pos} {z TI TO i1 i2 : Addr} {fp1 fp2 : List Addr} {f1 g1 f2 g2 : Nat → Hp → V → Prop} {p1 p2 : Nat → Hp → Prop} {St1 St2 : Nat → Heap → Prop}
    (S : ZipSep2 z TI TO i1 i2 fp1 fp2) (N1 : InnerF P w K i1 fp1 f1 g1 p1 St1) (N2 : InnerF P w K i2 fp2 f2 g2 p2 St2) :
    Turn P w K (.Tuple elts kk tpos) (ItZ2 f1 g1 p1 f2 g2 p2) [z, TI, TO, i1, i2] z (fun i h => IsZip h z TI TO .none ∧ IsTupOf2 h TI (.ref i1) (.ref i2) ∧ (∃ x y, IsTupOf2 h TO x y) ∧ St1 i h ∧ St2 i h) where
  mem := by simp
  obj := fun i h st c hc => by
    obtain ⟨hz, hTI, ⟨x, y, hTO⟩, h1, h2⟩ := st
    have e' : c = z ∨ c = TI ∨ c = TO ∨ c = i1 ∨ c = i2 := by simpa using hc
    rcases e' with q | q | q | q | q
    · rw [q]; exact ⟨_, hz, fun v q => nomatch q⟩
    · rw [q]; exact ⟨_, hTI, fun v q => nomatch q⟩
    · rw [q]; exact ⟨_, hTO, fun v q => nomatch q⟩
    · rw [q]; exact N1.ob _ _ h1
    · rw [q]; exact N2.ob _ _ h2
  keep := fun i h h' st k => by
    obtain ⟨hz, hTI, ⟨x, y, hTO⟩, h1, h2⟩ := st
    exact ⟨k z (by simp) _ hz, k TI (by simp) _ hTI, ⟨x, y, k TO (by simp) _ hTO⟩, N1.at_ _ _ _ h1 fun o q => k i1 (by simp) o q, N2.at_ _ _ _ h2 fun o q => k i2 (by simp) o q⟩
  item := by
    intro X hP hw hK hc i pins s σ H E I hf st hg
    obtain ⟨hz, hTI, ⟨x0, y0, hTO⟩, h1, h2⟩ := st
    obtain ⟨x, n1, Pd1, S1, hx, D1, st1, lt1, ru1, nx1⟩ := N1.item X hP hw hK hc i pins s σ H I h1 hg.1
    obtain ⟨y, n2, Pd2, S2, hy, D2, st2, lt2, ru2, nx2⟩ := N2.item X hP hw hK hc i pins s σ H I h2 hg.2
    have hzl : z < s.heap.objs.size := Heap.lt_size hz
    subst hP hw
    refine wpAny_pyNext_zipD2_item S D1 D2 hz hTI hTO st1 st2 lt1 lt2 fun u1 u2 h' tk q1 q2 z' TO' h1' h2' hT hsz hk => ?_
    refine ⟨_, rfl, wpAny_letOwnedTupleGo_zip (s := { s with heap := h', toks := tk }) z' fun h'' z'' sb => ?_⟩
    have hT2 : h''.get? s.heap.objs.size = some { cls := .type "tuple", data := .seq #[u1, u2] } := (sb.2 _ (Nat.ne_of_gt hzl)).trans hT
    have new : ObjOk X.prog X.w (upd H s.heap.objs.size (.tup [x, y])) h'' s.heap.objs.size (.tup [x, y]) :=
      ⟨by show 2 ≤ sizeLine; decide, [u1, u2], .cons (ru1 _ q1) (.cons (ru2 _ q2) .nil), ⟨_, hT2, rfl, _, rfl⟩⟩
    have I1 : Inv X pins σ (upd H s.heap.objs.size (.tup [x, y])) { s with heap := h'', toks := tk } :=
      I.turnedNew (ch := [z, TI, TO, i1, i2]) (fun c o hb q => (sb.2 c (fun q' => hb (by simp [q']))).trans (hk c o (fun q' => hb (by simp [q'])) (fun q' => hb (by simp [q'])) (fun q' => hb (by simp [q'])) (fun q' => hb (by simp [q'])) q)) hf (Nat.le_refl _) new
    have zi1 : i1 ≠ z := fun e => S.zf1 (by rw [← e]; exact S.mem1)
    have zi2 : i2 ≠ z := fun e => S.zf2 (by rw [← e]; exact S.mem2)
    refine ⟨.ref s.heap.objs.size, _, I1, rfl, ⟨_, x, y, rfl, I.hok.fresh (Nat.le_refl _), rfl, hx, hy⟩, ⟨z'', ?_, ⟨u1, u2, ?_⟩, ?_, ?_⟩, fun c hcm => ?_⟩
    · exact (sb.2 _ S.TIz).trans (hk _ _ S.TIz S.TITO S.TIi1 S.TIi2 hTI)
    · exact (sb.2 _ S.TOz).trans TO'
    · exact N1.at_ _ _ _ (nx1 _ h1') fun o q => (sb.2 _ zi1).trans q
    · exact N2.at_ _ _ _ (nx2 _ h2') fun o q => (sb.2 _ zi2).trans q
    · have hlt : c < s.heap.objs.size := by
        have e' : c = z ∨ c = TI ∨ c = TO ∨ c = i1 ∨ c = i2 := by simpa using hcm
        rcases e' with q | q | q | q | q
        · rw [q]; exact hzl
        · rw [q]; exact Heap.lt_size hTI
        · rw [q]; exact Heap.lt_size hTO
        · rw [q]; obtain ⟨_, e1, _⟩ := N1.ob _ _ h1; exact Heap.lt_size e1
        · rw [q]; obtain ⟨_, e2, _⟩ := N2.ob _ _ h2; exact Heap.lt_size e2
      rw [upd_ne (Nat.ne_of_lt hlt)]
      exact (hf c hcm).1
  done := by
    intro X hP hw hK hc i pins s σ H E I hf st hg
    obtain ⟨hz, hTI, ⟨x0, y0, hTO⟩, h1, h2⟩ := st
    have go : ∀ {n1 n2 : Nat} {Pd1 Pd2 : Nat → Value → Prop} {S1 S2 : Nat → Heap → Prop}, Draws P w X.A.in1 i1 fp1 n1 Pd1 S1 → Draws P w X.A.in1 i2 fp2 n2 Pd2 S2 → S1 i s.heap → S2 i s.heap → i ≤ n1 → i ≤ n2 → (i = n1 ∨ i = n2) →
        wpAny (model P w) X.A (pyNext (.ref z)) (fun r s1 => r = none ∧ Inv X pins σ H s1) E s := fun D1 D2 a1 a2 l1 l2 he => by
      subst hP hw
      exact wpAny_pyNext_zipD2_end S D1 D2 hz hTI hTO a1 a2 l1 l2 he fun h' tk hk => ⟨rfl, I.turnedL (ch := [z, TI, TO, i1, i2]) (fun c o hb q =>
        hk c o (fun q' => hb (by simp [q'])) (fun q' => hb (by simp [q'])) (fun q' => hb (by simp [q'])) (fun q' => hb (by simp [q'])) q) hf⟩
    rcases hg with ⟨e1, e2 | e2⟩ | ⟨e1, e2⟩
    · obtain ⟨Pd1, S1, D1, a1⟩ := N1.done X hP hw hK hc i pins s σ H I h1 e1
      obtain ⟨y, n2, Pd2, S2, hy, D2, a2, lt2, _, _⟩ := N2.item X hP hw hK hc i pins s σ H I h2 e2
      exact go D1 D2 a1 a2 (Nat.le_refl _) (Nat.le_of_lt lt2) (.inl rfl)
    · obtain ⟨Pd1, S1, D1, a1⟩ := N1.done X hP hw hK hc i pins s σ H I h1 e1
      obtain ⟨Pd2, S2, D2, a2⟩ := N2.done X hP hw hK hc i pins s σ H I h2 e2
      exact go D1 D2 a1 a2 (Nat.le_refl _) (Nat.le_refl _) (.inl rfl)
    · obtain ⟨x, n1, Pd1, S1, hx, D1, a1, lt1, _, _⟩ := N1.item X hP hw hK hc i pins s σ H I h1 e1
      obtain ⟨Pd2, S2, D2, a2⟩ := N2.done X hP hw hK hc i pins s σ H I h2 e2
      exact go D1 D2 a1 a2 (Nat.le_of_lt lt1) (Nat.le_refl _) (.inr rfl)
  self := fun A i s Q E st h => wpAny_pyIter_zip st.1 h
/-! ### the three kinds -/
theorem innerF_tup {P : Program} {w : World} {K : PySem.W.Frag} (t it : Addr) (hne : t ≠ it) :
    InnerF P w K it [it, t] (fun i H x => ∃ xs, SqT K H t xs ∧ xs[i]? = some x) (fun i H x => ∀ xs, SqT K H t xs → xs[i]? = some x) (fun i H => ∃ xs : List V, SqT K H t xs ∧ xs.length = i) (fun i h => h.IsTupleIter it t i) where
  mem := by simp
  ob := fun i h st => by obtain ⟨o, ho, hc, hd⟩ := st; exact ⟨o, ho, fun v q => by rw [hd] at q; cases q⟩
  at_ := fun i h h' st k => st.at fun o q => k o q
  item := by
    intro X hP hw hK hc i pins s σ H I st hg
    subst hP hw hK
    obtain ⟨x, xs, hq, hx⟩ := hg
    obtain ⟨its, rv, p, hz⟩ := I.tuple hq
    obtain ⟨u, hu, ru⟩ := rv.get hx
    have hlt : i < its.length := (List.getElem?_eq_some_iff.mp hu).1
    have D := Draws.tuple (prog := X.prog) (w := X.w) (A := X.A.in1) (show X.A.in1.handled = none from I.ok.hd hc) it t hne its.toArray
    refine ⟨x, its.toArray.size, _, _, fun ys hy => by rw [I.tuple_inj hy hq]; exact hx, D, ⟨st, p⟩, by simpa using hlt, fun y hy => ?_, fun h' q => q.1⟩
    rw [show its.toArray[i]? = its[i]? by simp, hu] at hy
    cases hy
    exact ru
  done := by
    intro X hP hw hK hc i pins s σ H I st hg
    subst hP hw hK
    obtain ⟨xs, hq, hx⟩ := hg
    obtain ⟨its, rv, p, hz⟩ := I.tuple hq
    have D := Draws.tuple (prog := X.prog) (w := X.w) (A := X.A.in1) (show X.A.in1.handled = none from I.ok.hd hc) it t hne its.toArray
    have e : its.toArray.size = i := by
      have := rv.length
      simp
      omega
    rw [e] at D
    exact ⟨_, _, D, st, p⟩
theorem innerF_list {P : Program} {w : World} {K : PySem.W.Frag} (t it : Addr) (hne : t ≠ it) :
    InnerF P w K it [it, t] (fun i H x => ∃ xs, SqL K H t xs ∧ xs[i]? = some x) (fun i H x => ∀ xs, SqL K H t xs → xs[i]? = some x) (fun i H => ∃ xs : List V, SqL K H t xs ∧ xs.length = i) (fun i h => h.IsListIter it t i) where
  mem := by simp
  ob := fun i h st => by obtain ⟨o, ho, hc, hd⟩ := st; exact ⟨o, ho, fun v q => by rw [hd] at q; cases q⟩
  at_ := fun i h h' st k => st.at fun o q => k o q
  item := by
    intro X hP hw hK hc i pins s σ H I st hg
    subst hP hw hK
    obtain ⟨x, xs, hq, hx⟩ := hg
    obtain ⟨its, rv, p, hz⟩ := I.list hq
    obtain ⟨u, hu, ru⟩ := rv.get hx
    have hlt : i < its.length := (List.getElem?_eq_some_iff.mp hu).1
    have D := Draws.list (prog := X.prog) (w := X.w) (A := X.A.in1) (show X.A.in1.handled = none from I.ok.hd hc) it t hne its.toArray
    refine ⟨x, its.toArray.size, _, _, fun ys hy => by rw [I.list_inj hy hq]; exact hx, D, ⟨st, p.isList⟩, by simpa using hlt, fun y hy => ?_, fun h' q => q.1⟩
    rw [show its.toArray[i]? = its[i]? by simp, hu] at hy
    cases hy
    exact ru
  done := by
    intro X hP hw hK hc i pins s σ H I st hg
    subst hP hw hK
    obtain ⟨xs, hq, hx⟩ := hg
    obtain ⟨its, rv, p, hz⟩ := I.list hq
    have D := Draws.list (prog := X.prog) (w := X.w) (A := X.A.in1) (show X.A.in1.handled = none from I.ok.hd hc) it t hne its.toArray
    have e : its.toArray.size = i := by
      have := rv.length
      simp
      omega
    rw [e] at D
    exact ⟨_, _, D, st, p.isList⟩
theorem draws_range {prog : Program} {w : World} {A : Around} (hh : A.handled = none) (it : Addr) (lo c : Int) (n : Nat) :
    Draws prog w A it [it] n (fun i v => ∃ t, v = .int (lo + (i : Nat) * c) t) (fun i h => IsRangeIter h it (lo + (i : Nat) * c) ((n : Int) - (i : Nat)) c) where
  live := fun _ _ st => ⟨_, st⟩
  frame := fun _ _ _ st hk => hk it (by simp) _ st
  item := fun i s Q E hi st hQ => by
    unfold Builtin.SmallTypes.nextOf
    refine wpAny_bind (CpRep.range_item st (by omega) fun h' hit' hs' => wpAny_pure ?_)
    refine hQ _ h' (s.toks + 1) ⟨_, rfl⟩ ?_ hs'
    have e1 : lo + ((i + 1 : Nat) : Int) * c = lo + (i : Nat) * c + c := by push_cast; rw [Int.add_mul, Int.one_mul, Int.add_assoc]
    have e2 : (n : Int) - ((i + 1 : Nat) : Int) = (n : Int) - (i : Nat) - 1 := by push_cast; omega
    show IsRangeIter h' it _ _ _
    rw [e1, e2]
    exact hit'
  done := fun s Q E st hE => by
    unfold Builtin.SmallTypes.nextOf
    refine wpAny_bind (CpRep.range_end hh st (by omega) fun e h' he hb => ?_)
    obtain ⟨a, o, vs, rfl, h1, h2, _⟩ := he
    exact hE h' a hb ⟨o, h1, h2⟩
theorem innerF_range {P : Program} {w : World} {K : PySem.W.Frag} (it : Addr) (lo c : Int) (n : Nat) :
    InnerF P w K it [it] (fun i _ x => i < n ∧ x = .int (lo + (i : Nat) * c)) (fun i _ x => i < n ∧ x = .int (lo + (i : Nat) * c)) (fun i _ => n = i) (fun i h => IsRangeIter h it (lo + (i : Nat) * c) ((n : Int) - (i : Nat)) c) where
  mem := by simp
  ob := fun i h st => ⟨_, st, fun v q => nomatch q⟩
  at_ := fun i h h' st k => k _ st
  item := by
    intro X hP hw hK hc i pins s σ H I st hg
    subst hP hw hK
    obtain ⟨x, hx, rfl⟩ := hg
    exact ⟨_, n, _, _, ⟨hx, rfl⟩, draws_range (show X.A.in1.handled = none from I.ok.hd hc) it lo c n, st, hx, fun y ⟨t, e⟩ => ⟨t, e⟩, fun h' q => q⟩
  done := by
    intro X hP hw hK hc i pins s σ H I st hg
    subst hP hw hK
    have hg' : n = i := hg
    subst hg'
    exact ⟨_, _, draws_range (show X.A.in1.handled = none from I.ok.hd hc) it lo c n, st⟩
theorem begins_range (r : Addr) (a b c : Int) (t u v : Tok) (hsm : Builtin.Range.small a b c = true) : Begins (.ref r) { cls := .type "range_iterator", data := .fields #[rawInt a, rawInt (Builtin.Range.rangeSize a b c), rawInt c] } fun h => IsRange h r a b c t u v where
  iter := fun prog w A E s Q hl h => wpAny_pyIter_range hl hsm h
  keeps := fun h h' x hk => hk _ _ x
  free := rfl
/-- v is a thing that zip takes -/
def ZSrc (P : Program) (w : World) (K : PySem.W.Frag) (H : Hp) (v : V) (f g : Nat → Hp → V → Prop) (stop : Nat → Hp → Prop) : Prop :=
  ∀ (X : Cx) (pins : List (Addr × Obj)) (σ : L2.St) (s : Shared), X.prog = P → X.w = w → X.K = K → Inv X pins σ H s → ∀ u, RelV v u →
    ∃ (o : Obj) (Hh : Heap → Prop) (bs : List Addr), Begins u o Hh ∧ Hh s.heap ∧ (∀ b ∈ bs, b < s.heap.objs.size) ∧
      ∀ it, s.heap.objs.size ≤ it → ∃ St, InnerF P w K it (it :: bs) f g stop St ∧ ∀ h' : Heap, h'.get? it = some o → St 0 h'
theorem zsrc_tup {P : Program} {w : World} {K : PySem.W.Frag} {H : Hp} {a : Addr} {xs : List V} (q : SqT K H a xs) :
    ZSrc P w K H (.ref a) (fun i H x => ∃ xs, SqT K H a xs ∧ xs[i]? = some x) (fun i H x => ∀ xs, SqT K H a xs → xs[i]? = some x) (fun i H => ∃ xs : List V, SqT K H a xs ∧ xs.length = i) := by
  intro X pins σ s hP hw hK I u r
  subst hP hw hK
  obtain rfl : u = Value.ref a := r
  obtain ⟨its, rv, p, hz⟩ := I.tuple q
  obtain ⟨o, ho, _⟩ := id p
  refine ⟨_, _, [a], begins_tuple a its.toArray, p, fun b hb => ?_, fun it hit => ⟨_, innerF_tup a it (Nat.ne_of_lt (Nat.lt_of_lt_of_le (Heap.lt_size ho) hit)), fun h' e => ⟨_, e, rfl, rfl⟩⟩⟩
  have e : b = a := by simpa using hb
  rw [e]; exact Heap.lt_size ho
theorem zsrc_list {P : Program} {w : World} {K : PySem.W.Frag} {H : Hp} {a : Addr} {xs : List V} (q : SqL K H a xs) :
    ZSrc P w K H (.ref a) (fun i H x => ∃ xs, SqL K H a xs ∧ xs[i]? = some x) (fun i H x => ∀ xs, SqL K H a xs → xs[i]? = some x) (fun i H => ∃ xs : List V, SqL K H a xs ∧ xs.length = i) := by
  intro X pins σ s hP hw hK I u r
  subst hP hw hK
  obtain rfl : u = Value.ref a := r
  obtain ⟨its, rv, p, hz⟩ := I.list q
  refine ⟨_, _, [a], begins_list a its.toArray, p.isList, fun b hb => ?_, fun it hit => ⟨_, innerF_list a it (Nat.ne_of_lt (Nat.lt_of_lt_of_le p.lt hit)), fun h' e => ⟨_, e, rfl, rfl⟩⟩⟩
  have e : b = a := by simpa using hb
  rw [e]; exact p.lt
def rngAt (p : Addr) (i j c : Int) : HO := .ext fun h => ∃ t u v, IsRange h p i j c t u v
theorem zsrc_range {P : Program} {w : World} {K : PySem.W.Frag} {H : Hp} {a : Addr} {i j c : Int} {n : Nat} (q : H a = some (rngAt a i j c)) (hr : RgC i j c n) :
    ZSrc P w K H (.ref a) (fun k _ x => k < n ∧ x = .int (i + (k : Nat) * c)) (fun k _ x => k < n ∧ x = .int (i + (k : Nat) * c)) (fun k _ => n = k) := by
  intro X pins σ s hP hw hK I u r
  subst hP hw hK
  obtain rfl : u = Value.ref a := r
  obtain ⟨⟨t, u, v, ho⟩, _⟩ := I.hok _ _ q
  refine ⟨_, (fun h => IsRange h a i j c t u v), [], begins_range a i j c t u v hr.2.2.1, ho, (fun b hb => nomatch hb), fun it hit => ⟨_, innerF_range it i c n, fun h' e => ?_⟩⟩
  show IsRangeIter h' it _ _ _
  have e1 : i + ((0 : Nat) : Int) * c = i := by simp
  have e2 : (n : Int) - ((0 : Nat) : Int) = Builtin.Range.rangeSize i j c := by rw [hr.2.2.2]; simp
  rw [e1, e2]
  exact e
/-- range(a, b, c), the thing itself -/
def tRngO (ta : TA) : TE := fun σ H Q => ta σ H fun vs H1 => ∃ (i j c : Int) (n : Nat), vs = [.int i, .int j, .int c] ∧ RgC i j c n ∧ ∀ p, H1 p = none → Q (.ref p) (upd H1 p (rngAt p i j c))
theorem pe_rngO {X : Cx} {a b c : Expr} {ta : TA} {p pos : Pos} (hg : Gl X "range") (hm : X.mg "range" = none) (ha : PA X [a, b, c] ta)
    (hs : starEach [a, b, c] X.env = (false, eval a X.env) :: starEach [b, c] X.env := by rfl) (hpl : (backTo pos (starEach [b, c] X.env)).any (·.1) = false := by rfl) :
    PE X (.Call (.Name "range" p) [a, b, c] [] pos) (tRngO ta) := by
  refine ⟨fun pins s σ H Q I h => ?_⟩
  refine Call_ (ld_blt I hg hm boot_range (PyProof.Rows.callWith_type1 (thn (ha.run pos pins s σ H _ I h) fun us s1 ⟨vs, H1, I1, r1, q1⟩ => ?_) hs hpl))
  obtain ⟨i, j, k, n, e, ⟨c0, c1, c2, c3⟩, q⟩ := q1
  subst e
  cases r1 with
  | cons r rr =>
    cases rr with
    | cons r' rr =>
      cases rr with
      | cons r'' rr =>
        cases rr
        obtain ⟨t, rfl⟩ := r
        obtain ⟨t', rfl⟩ := r'
        obtain ⟨t'', rfl⟩ := r''
        refine call_range_3 c0 ?_ (.inl (PyProof.noPylong_small c1))
        refine ⟨.ref s1.heap.objs.size, _, I1.laid (t' := s1.toks) (o := rngAt s1.heap.objs.size i j k) (fun b o e => Heap.get?_push_of_some _ e) (Nat.le_refl _) ?_, rfl, q _ (I1.hok.fresh (Nat.le_refl _))⟩
        have hn : IsRange (s1.heap.push { cls := .type "range", data := .fields #[.int i t, .int j t', .int k t''] }) s1.heap.objs.size i j k t t' t'' := Heap.get?_push_size _ rfl
        exact ⟨⟨t, t', t'', hn⟩, ⟨_, hn⟩, fun h1 h2 ⟨x, y, z, e⟩ k => ⟨x, y, z, k _ e⟩⟩
theorem zipsep_at (n : Nat) {b1 b2 : List Addr} (l1 : ∀ b ∈ b1, b < n) (l2 : ∀ b ∈ b2, b < n) : ZipSep2 (n + 4) (n + 2) (n + 3) n (n + 1) (n :: b1) ((n + 1) :: b2) := by
  have ne : ∀ a b : Nat, a ≠ b → n + a ≠ n + b := fun a b h e => h (Nat.add_left_cancel e)
  have fr : ∀ {bs : List Addr}, (∀ b ∈ bs, b < n) → ∀ k, n + k ∉ bs := fun hb k q => absurd (hb _ q) (Nat.not_lt.mpr (Nat.le_add_right n k))
  have mc : ∀ {bs : List Addr} {k j : Nat}, (∀ b ∈ bs, b < n) → k ≠ j → n + k ∉ (n + j) :: bs := fun hb hk q => (List.mem_cons.mp q).elim (ne _ _ hk) (fr hb _)
  exact ⟨ne _ _ (by decide), ne _ _ (by decide), ne _ _ (by decide), ne 2 0 (by decide), by simp, mc (j := 0) l1 (by decide), mc (j := 0) l1 (by decide), ne _ _ (by decide), by simp, mc l2 (by decide), mc l2 (by decide), mc (k := 0) l2 (by decide), mc (j := 0) l1 (by decide)⟩
def tZip2 (P : Program) (w : World) (K : PySem.W.Frag) (ta : TA) : TI := fun σ H R => ta σ H fun vs H1 => ∃ v1 v2 f1 g1 p1 f2 g2 p2, vs = [v1, v2] ∧ ZSrc P w K H1 v1 f1 g1 p1 ∧ ZSrc P w K H1 v2 f2 g2 p2 ∧ R (ItZ2 f1 g1 p1 f2 g2 p2) H1
theorem pi_zip2 {X : Cx} {e e2 : Expr} {ta : TA} {p pos tpos : Pos} {elts : List Expr} {kk : Nat} (hg : Gl X "zip") (hm : X.mg "zip" = none) (ha : PA X [e, e2] ta)
    (hs : starEach [e, e2] X.env = (false, eval e X.env) :: starEach [e2] X.env := by rfl) (hpl : (backTo pos (starEach [e2] X.env)).any (·.1) = false := by rfl) :
    PI X (.Tuple elts kk tpos) (.Call (.Name "zip" p) [e, e2] [] pos) (tZip2 X.prog X.w X.K ta) := by
  refine ⟨fun pins s σ H R I h => ?_⟩
  refine Call_ (ld_blt I hg hm PyProof.Rows.boot_zip (PyProof.Rows.callWith_type1 (thn (ha.run pos pins s σ H _ I h) fun us s1 ⟨vs, H1, I1, r1, q1⟩ => ?_) hs hpl))
  obtain ⟨v1, v2, f1, g1, p1, f2, g2, p2, ex, z1, z2, q⟩ := q1
  subst ex
  cases r1 with
  | cons r rr =>
    cases rr with
    | cons r' rr =>
      cases rr
      obtain ⟨o1, h1, b1, B1, y1, l1, n1⟩ := z1 X pins σ s1 rfl rfl rfl I1 _ r
      obtain ⟨o2, h2, b2, B2, y2, l2, n2⟩ := z2 X pins σ s1 rfl rfl rfl I1 _ r'
      obtain ⟨St1, N1, a1⟩ := n1 s1.heap.objs.size (Nat.le_refl _)
      obtain ⟨St2, N2, a2⟩ := n2 (s1.heap.objs.size + 1) (Nat.le_add_right _ _)
      have S := zipsep_at s1.heap.objs.size l1 l2
      refine zip_begins2 B1 B2 y1 y2 fun h' hz hTI hTO g1' g2' hsz hk => wpAny_pyIter_zip hz ?_
      have I2 : Inv X pins σ H1 { s1 with heap := h' } := I1.kept (t' := s1.toks) hk
      refine ⟨s1.heap.objs.size + 4, [s1.heap.objs.size + 4, s1.heap.objs.size + 2, s1.heap.objs.size + 3, s1.heap.objs.size, s1.heap.objs.size + 1], _, _, H1, rfl, I2, turn_zipI S N1 N2, ⟨hz, hTI, ⟨_, _, hTO⟩, a1 _ g1', a2 _ g2'⟩, fun c hcm => ?_, q⟩
      have e' : c = s1.heap.objs.size + 4 ∨ c = s1.heap.objs.size + 2 ∨ c = s1.heap.objs.size + 3 ∨ c = s1.heap.objs.size ∨ c = s1.heap.objs.size + 1 := by simpa using hcm
      have hle : s1.heap.objs.size ≤ c := by
        rcases e' with z | z | z | z | z
        · rw [z]; exact Nat.le_add_right _ _
        · rw [z]; exact Nat.le_add_right _ _
        · rw [z]; exact Nat.le_add_right _ _
        · rw [z]; exact Nat.le_refl _
        · rw [z]; exact Nat.le_add_right _ _
      exact I1.fpOk hle (I1.hok.fresh hle)
/-- a source that tells the row xs while Gd stands -/
structure ZRow (f g : Nat → Hp → V → Prop) (stop : Nat → Hp → Prop) (n : Nat) (at_ : Nat → Option V) (Gd : Hp → Prop) : Prop where
  some_ : ∀ i H, i < n → Gd H → ∃ x, f i H x
  end_ : ∀ H, Gd H → stop n H
  is_ : ∀ i H x, i < n → Gd H → g i H x → at_ i = some x
theorem walk_zip2 {f1 g1 f2 g2 : Nat → Hp → V → Prop} {p1 p2 : Nat → Hp → Prop} {n1 n2 n : Nat} {a1 a2 : Nat → Option V} {Gd1 Gd2 : Hp → Prop} (h1 : ZRow f1 g1 p1 n1 a1 Gd1) (h2 : ZRow f2 g2 p2 n2 a2 Gd2) (hn : n = min n1 n2) :
    L2.Walk (ItZ2 f1 g1 p1 f2 g2 p2) n (fun H => Gd1 H ∧ Gd2 H) (YPair a1 a2) := by
  subst hn
  refine ⟨fun i H hi q => ⟨h1.some_ i H (by omega) q.1, h2.some_ i H (by omega) q.2⟩, fun H q => ?_, fun i H v H' hi q y => ?_⟩
  · by_cases hl : n1 ≤ n2
    · rw [Nat.min_eq_left hl]
      rcases Nat.lt_or_eq_of_le hl with hl | rfl
      · exact .inl ⟨h1.end_ H q.1, .inl (h2.some_ _ H hl q.2)⟩
      · exact .inl ⟨h1.end_ H q.1, .inr (h2.end_ H q.2)⟩
    · rw [Nat.min_eq_right (by omega)]
      exact .inr ⟨h1.some_ _ H (by omega) q.1, h2.end_ H q.2⟩
  · obtain ⟨T, x, y, e1, e2, e3, k1, k2⟩ := y
    exact ⟨T, x, y, e1, e2, e3, h1.is_ i H x (by omega) q.1 k1, h2.is_ i H y (by omega) q.2 k2⟩
end
def zRow : D → Option (List D)
  | .tup xs => some xs
  | .lst xs => some xs
  | _ => none
def zipD (xs ys : List D) : List D := List.zipWith (fun a b => .tup [a, b]) xs ys
/-- pairs of two rows of any kind -/
def iZip2 (g : AF) : IF := fun env s => (g env s).bind fun ds s1 => match ds with
  | [a, b] => match zRow a, zRow b with
    | some xs, some ys => .ok (zipD xs ys) s1
    | _, _ => .no
  | _ => .no
/-- zip(range(i, j, -1), row) -/
def iZipR (g : AF) (f : EF) : IF := fun env s => (g env s).bind fun ds s1 => match ds with
  | [.int i, .int j, .int c] => if c = -1 ∧ rOk i ∧ rOk j then (f env s1).bind fun b s2 => match zRow b with
      | some ys => .ok (zipD (rangeB i j) ys) s2
      | none => .no
    else .no
  | _ => .no
section
open PySem.Spec PyProof.Rows
variable {K : PySem.W.Frag} {F ρ : List Addr} {H : Hp} {v : V} {d : D} {xs : List D}
theorem Pst.moved {G : SCtx} {ρ1 : List Addr} {H1 : Hp} {α : Type} {r : R α} {N : α → Sto → List Addr → Hp → Prop} {E : Nat → Hp → Prop} (h : Pst K G F ρ H r N E) (e : Ext ρ H ρ1 H1) : Pst K G F ρ1 H1 r N E := by
  cases r with
  | ok a s' => exact fun ρ' H' e' q => h ρ' H' (e.trans e') q
  | ex c s' => exact fun ρ' H' e' q => h ρ' H' (e.trans e') q
  | _ => exact h
/-- a row that zip takes -/
theorem zrow_of {P : Program} {w : World} (r : Rep K F ρ H v d) (h : zRow d = some xs) : ∃ (vs : List V) (f g : Nat → Hp → V → Prop) (p : Nat → Hp → Prop) (Gd : Hp → Prop), ZSrc P w K H v f g p ∧ ZRow f g p vs.length (fun i => vs[i]?) Gd ∧ Reps K F ρ H vs xs ∧ ∀ ρ1 H1, Ext ρ H ρ1 H1 → Gd H1 := by
  cases r with
  | tup t q =>
    cases h
    refine ⟨_, _, _, _, fun H => SqT K H _ _, zsrc_tup t.sq, ⟨fun i H hi q => ⟨_, _, q, List.getElem?_eq_getElem hi⟩, fun H q => ⟨_, q, rfl⟩, fun i H x hi q y => y _ q⟩, q, fun ρ1 H1 e => (t.ext e).sq⟩
  | lst t q =>
    cases h
    refine ⟨_, _, _, _, fun H => SqL K H _ _, zsrc_list (SqL.of t.1), ⟨fun i H hi q => ⟨_, _, q, List.getElem?_eq_getElem hi⟩, fun H q => ⟨_, q, rfl⟩, fun i H x hi q y => y _ q⟩, q, fun ρ1 H1 e => (t.ext e).sq⟩
  | _ => cases h
theorem zrow_range {lo c : Int} {n : Nat} : ZRow (fun k _ x => k < n ∧ x = .int (lo + (k : Nat) * c)) (fun k _ x => k < n ∧ x = .int (lo + (k : Nat) * c)) (fun k _ => n = k) n (fun k => some (.int (lo + (k : Nat) * c))) (fun _ => True) :=
  ⟨fun i H hi _ => ⟨_, hi, rfl⟩, fun H _ => rfl, fun i H x hi _ y => by rw [y.2]⟩
end
section
variable {X : Cx} {G : SCtx} {W : WX} {pos : Pos} {e a b c tg : Expr} {f f1 f2 f3 : EF} {g1 : AF}
theorem si_zip2 {p tpos : Pos} {elts : List Expr} {kk : Nat} (hg : Gl X "zip") (hm : X.mg "zip" = none) (ha : SA X G W [a, b] g1)
    (hs : starEach [a, b] X.env = (false, eval a X.env) :: starEach [b] X.env := by rfl) (hpl : (backTo pos (starEach [b] X.env)).any (·.1) = false := by rfl) :
    SI X G W (.Tuple elts kk tpos) (.Call (.Name "zip" p) [a, b] [] pos) (Sx.iZip2 g1) := by
  refine pi_imp (pi_zip2 hg hm ha hs hpl) fun σ H R h => ?_
  obtain ⟨F, ρ, env, s, he, hs, hp⟩ := h
  refine tA.step he hs hp fun ds s1 ρ1 H1 vs _ he1 hs1 e1 r1 hp1 => ?_
  split at hp1
  · rename_i d1 d2
    split at hp1
    · rename_i xs ys hx hy
      cases r1 with
      | cons r t =>
        cases t with
        | cons r' t =>
          cases t
          obtain ⟨vs1, f1, g1', p1, Gd1, z1, w1, q1, k1⟩ := zrow_of (P := X.prog) (w := X.w) r hx
          obtain ⟨vs2, f2, g2', p2, Gd2, z2, w2, q2, k2⟩ := zrow_of (P := X.prog) (w := X.w) r' hy
          refine ⟨_, _, f1, g1', p1, f2, g2', p2, rfl, z1, z2, hp1.here hs1 _ ?_⟩
          refine ⟨_, _, walk_zip2 w1 w2 (by rw [q1.length, q2.length, zipD, List.length_zipWith]), fun F' ρ H s c e _ => ⟨k1 _ _ e, k2 _ _ e⟩, fun F' m ρ H s x H' d c e hs hd y => ?_⟩
          obtain ⟨d1, d2, h1, h2, rfl⟩ := zipW_get hd
          obtain ⟨v1, h3, r3⟩ := q1.get h1
          obtain ⟨v2, h4, r4⟩ := q2.get h2
          exact ypair_rep hs y h3 h4 ((r3.toF c).ext e) ((r4.toF c).ext e)
    · exact hp1.elim
  · exact hp1.elim
theorem si_zipR {p q tpos : Pos} {elts : List Expr} {kk : Nat} {a' b' c' : Expr} {rp : Pos} (hg : Gl X "zip") (hm : X.mg "zip" = none) (hg2 : Gl X "range") (hm2 : X.mg "range" = none) (ha : SA X G W [a', b', c'] g1) (hb : SE X G W b f)
    (hs2 : starEach [a', b', c'] X.env = (false, eval a' X.env) :: starEach [b', c'] X.env := by rfl) (hpl2 : (backTo rp (starEach [b', c'] X.env)).any (·.1) = false := by rfl)
    (hs : starEach [.Call (.Name "range" q) [a', b', c'] [] rp, b] X.env = (false, eval (.Call (.Name "range" q) [a', b', c'] [] rp) X.env) :: starEach [b] X.env := by rfl) (hpl : (backTo pos (starEach [b] X.env)).any (·.1) = false := by rfl)
    (hsb : starEach [b] X.env = (false, eval b X.env) :: starEach [] X.env := by rfl) :
    SI X G W (.Tuple elts kk tpos) (.Call (.Name "zip" p) [.Call (.Name "range" q) [a', b', c'] [] rp, b] [] pos) (Sx.iZipR g1 f) := by
  refine pi_imp (pi_zip2 hg hm (pa_cons (pe_rngO hg2 hm2 ha hs2 hpl2) (pa_cons hb pa_nil hsb) hs) hs hpl) fun σ H R h => ?_
  obtain ⟨F, ρ, env, s, he, hs, hp⟩ := h
  refine tA.step he hs hp fun ds s1 ρ1 H1 vs _ he1 hs1 e1 r1 hp1 => ?_
  split at hp1
  · rename_i i j k _
    split at hp1
    · rename_i hj
      obtain ⟨rfl, h1, h2⟩ := hj
      cases r1 with
      | cons r t =>
        cases t with
        | cons r' t =>
          cases t with
          | cons r'' t =>
            cases t
            cases r
            cases r'
            cases r''
            have q := rOk_of h1
            have q' := rOk_of h2
            have hr := RgC.neg q.1 q.2 q'.1 q'.2
            refine ⟨i, j, -1, _, rfl, hr, fun p0 hp0 => ?_⟩
            refine tE.step (he1.ext (Ext.new ρ1 hp0)) (hs1.new hp0) (hp1.moved (Ext.new ρ1 hp0)) fun d s2 ρ2 H2 v _ he2 hs2 e2 r2 hp2 => ?_
            split at hp2
            · rename_i ys hy
              obtain ⟨vs2, f2, g2', p2, Gd2, z2, w2, q2, k2⟩ := zrow_of (P := X.prog) (w := X.w) r2 hy
              have hro : H2 p0 = some (rngAt p0 i j (-1)) := e2.keep p0 _ upd_same (by have := hs1.fresh hp0; first | exact this.1 | exact this.2)
              refine ⟨_, _, _, _, _, f2, g2', p2, rfl, zsrc_range hro hr, z2, hp2.here hs2 _ ?_⟩
              refine ⟨_, _, walk_zip2 zrow_range w2 (by rw [q2.length, zipD, List.length_zipWith, show (rangeB i j).length = (i - j).toNat by simp [rangeB]]), fun F' ρ H s c e _ => ⟨trivial, k2 _ _ e⟩, fun F' m ρ H s x H' d c e hs hd y => ?_⟩
              obtain ⟨d1, d2, h1, h2, rfl⟩ := zipW_get hd
              obtain ⟨v2, h4, r4⟩ := q2.get h2
              have hd1 : d1 = .int (i + (m : Nat) * (-1 : Int)) := by
                unfold rangeB at h1
                rw [List.getElem?_map] at h1
                obtain ⟨k, h7, rfl⟩ := Option.map_eq_some_iff.mp h1
                have ek : k = m := by
                  obtain ⟨h, e⟩ := List.getElem?_eq_some_iff.mp h7
                  simp at e
                  exact e.symm
                subst ek
                rw [show i + (k : Nat) * (-1 : Int) = i - (k : Nat) by omega]
              rw [hd1]
              exact ypair_rep hs y rfl h4 (.int _) ((r4.toF c).ext e)
            · exact hp2.elim
    · exact hp1.elim
  · exact hp1.elim
end

/-! ### a def called with changed lists that it only reads -/
mutual
def noLst : D → Bool
  | .ref _ => false
  | .scr _ => false
  | .ntp _ => false
  | .lst _ => false
  | .tup xs => noLsts xs
  | _ => true
def noLsts : List D → Bool
  | [] => true
  | d :: ds => noLst d && noLsts ds
end
def frzL (s : Sto) : List D → Option (List D)
  | [] => some []
  | d :: ds => match frz s d, frzL s ds with
    | some e, some es => some (e :: es)
    | _, _ => none
/-- a def on a store of its own, its lists as they stand; it gives back no list -/
def isoF (f : FN) : FN := fun ds s => match frzL s ds with
  | some es => match f es [] with
    | .ok d _ => if noLst d then .ok d s else .no
    | .ex c _ => .ex c s
    | .no => .no
  | none => .no
section
variable {K : PySem.W.Frag} {G : SCtx} {F ρ ρ1 : List Addr} {H : Hp} {s : Sto}
theorem frzL_rep (hs : SRel K G F ρ H s) : ∀ {ds es : List D} {vs : List V}, Reps K F ρ H vs ds → frzL s ds = some es → Reps K F [] H vs es
  | [], _, _, r, h => by
    cases r
    cases h
    exact .nil
  | d :: ds, es, _, r, h => by
    cases r with
    | cons r t =>
      unfold frzL at h
      split at h
      · rename_i e es' h1 h2
        cases h
        refine .cons ?_ (frzL_rep hs t h2)
        have sub : ∀ a ∈ F, a ∈ F ++ ρ ∨ H a = none := fun a ha => .inl (List.mem_append_left _ ha)
        unfold frz at h1
        split at h1
        · split at h1
          · rename_i xs hx
            split at h1
            · rename_i hnr
              cases h1
              obtain ⟨a, vs', ev, g1, r1⟩ := lstOf_rep hs r (xs := xs) (by simp only [lstOf]; rw [hx])
              cases ev
              cases r with
              | ref hr => exact .lst ⟨g1, hs.dis _ (List.mem_of_getElem? hr), by simp⟩ (Reps.toF sub (r1.inn hnr))
            · cases h1
          · cases h1
        · split at h1
          · rename_i hnr
            cases h1
            exact Rep.toF sub (r.inn hnr)
          · cases h1
      · cases h
mutual
theorem Rep.back (hr : ∀ a ∈ ρ, ∀ vs, ¬ Rd H a (.tup vs)) : ∀ {d : D} {v : V}, noLst d = true → Rep K F ρ1 H v d → Rep K F ρ H v d
  | .non, _, _, h => by cases h; exact .non
  | .bl b, _, _, h => by cases h; exact .bl b
  | .int i, _, _, h => by cases h; exact .int i
  | .str x, _, _, h => by cases h; exact .str x
  | .tup ds, _, n, h => by
    cases h with
    | tup t r =>
      refine .tup ?_ (Reps.back hr (by simpa [noLst] using n) r)
      rcases t with ⟨t, f, x⟩ | t
      · exact .inl ⟨t, f, fun z => hr _ z _ t⟩
      · exact .inr t
  | .lst ds, _, n, h => by simp [noLst] at n
  | .ref m, _, n, h => by simp [noLst] at n
  | .scr m, _, n, h => by simp [noLst] at n
  | .ntp ds, _, n, h => by simp [noLst] at n
theorem Reps.back (hr : ∀ a ∈ ρ, ∀ vs, ¬ Rd H a (.tup vs)) : ∀ {ds : List D} {vs : List V}, noLsts ds = true → Reps K F ρ1 H vs ds → Reps K F ρ H vs ds
  | [], _, _, h => by cases h; exact .nil
  | d :: ds, _, n, h => by
    simp only [noLsts, Bool.and_eq_true] at n
    cases h with
    | cons r t => exact .cons (Rep.back hr n.1 r) (Reps.back hr n.2 t)
end
theorem SRel.noTup (hs : SRel K G F ρ H s) : ∀ a ∈ ρ, ∀ vs, ¬ Rd H a (.tup vs) := by
  intro a ha vs h
  obtain ⟨n, hn, e⟩ := List.getElem_of_mem ha
  have hn2 : ρ[n]? = some a := by rw [List.getElem?_eq_getElem hn, e]
  obtain ⟨o, ho, ob⟩ := hs.of hn2
  have hu : ∃ u, H a = some u ∧ (∀ vs, u ≠ .tup vs) ∧ ∀ oo vs, u ≠ .frz oo (.tup vs) := by
    cases o with
    | lst => obtain ⟨_, e, _⟩ := ob; exact ⟨_, e, (fun _ q => nomatch q), fun _ _ q => nomatch q⟩
    | dic => obtain ⟨_, e, _⟩ := ob; exact ⟨_, e, (fun _ q => nomatch q), fun _ _ q => nomatch q⟩
    | dat => obtain ⟨_, e, _⟩ := ob; exact ⟨_, e, (fun _ q => nomatch q), fun _ _ q => nomatch q⟩
    | frd => obtain ⟨_, _, e, _⟩ := ob; exact ⟨_, e, (fun _ q => nomatch q), fun _ _ q => nomatch q⟩
    | ins => obtain ⟨_, _, e, _⟩ := ob; exact ⟨_, e, (fun _ q => nomatch q), fun _ _ q => nomatch q⟩
  obtain ⟨u, e1, n1, n2⟩ := hu
  rcases h with h | ⟨oo, h⟩
  · rw [e1] at h; cases h; exact n1 _ rfl
  · rw [e1] at h; cases h; exact n2 _ _ rfl
end
section
variable {P : Program} {w : World} {K : PySem.W.Frag} {mg : Str → Option Value} {base : Heap} {G : SCtx} {k : Nat} {x : Str} {fn : FN} {fa : Addr} {fd : FuncData} {ps : List Str}
theorem fn_isoF (h : FnOk P w K mg base (L2.CX P w) k fa fd ps (SpF K G fn)) : FnOk P w K mg base (L2.CX P w) k fa fd ps (SpF K G (isoF fn)) := by
  refine h.imp fun vs H Q E q => ?_
  obtain ⟨F, ρ, ds, s, r, hs, hp⟩ := q
  simp only [isoF] at hp
  split at hp
  · rename_i es hes
    refine ⟨F, [], es, [], frzL_rep hs r hes, ⟨by simp, by simp, hs.trk, rfl, by simp⟩, ?_⟩
    cases z : fn es [] with
    | no => rw [z] at hp; exact hp.elim
    | ex c s' =>
      rw [z] at hp
      exact fun ρ' H' e q => hp ρ H' (Ext.out (F := F) e) (hs.out e)
    | ok d s' =>
      rw [z] at hp
      intro ρ' H' e q v rv
      have hp' : Pst K G F ρ H (if noLst d then (.ok d s : R D) else .no) _ _ := hp
      split at hp'
      · rename_i hn
        exact hp' ρ H' (Ext.out (F := F) e) (hs.out e) _ (rv.back (hs.out e).noTup hn)
      · exact hp'.elim
  · exact hp.elim
theorem Has.isoF (h : Has P w K mg base G k x fn) : Has P w K mg base G k x (isoF fn) := by
  obtain ⟨f, fd, ps, h1, h2⟩ := h
  exact ⟨f, fd, ps, fn_isoF h1, h2⟩
end
end Sx

/-! PxZk: dicts whose keys are data: None, whole numbers, texts and tuples of such, mixed. -/
namespace Sx
open PySem L2
section
open PySem.Spec PyProof.Rows
/-- one entry: its key, the value that is this key, what stands there -/
structure NE where
  k : NestedKey
  key : Value
  val : Value
def NE.ent (w : World) (x : NE) : DictEntry := ⟨x.k.hash w, x.key, x.val⟩
def idxN (L : List NE) (k : NestedKey) : Option Nat := L.findIdx? fun x => decide (x.k = k)
theorem idxN_some {L : List NE} {k : NestedKey} (hn : (L.map (·.k)).Nodup) {j : Nat} {x : NE} (h : L[j]? = some x) (e : x.k = k) : idxN L k = some j := by
  obtain ⟨hj, hx⟩ := List.getElem?_eq_some_iff.mp h
  unfold idxN
  rw [List.findIdx?_eq_some_iff_getElem]
  refine ⟨hj, by rw [hx]; exact decide_eq_true e, fun i hi => ?_⟩
  have hne := List.pairwise_iff_getElem.mp hn i j (by rw [List.length_map]; omega) (by rw [List.length_map]; exact hj) hi
  rw [List.getElem_map, List.getElem_map, hx, e] at hne
  simpa using hne
theorem idxN_none {L : List NE} {k : NestedKey} (h : ∀ (j : Nat) (x : NE), L[j]? = some x → x.k ≠ k) : idxN L k = none := by
  unfold idxN
  rw [List.findIdx?_eq_none_iff]
  intro x hx
  obtain ⟨j, hj⟩ := List.getElem?_of_mem hx
  exact decide_eq_false (h j x hj)
variable {prog : Program} {w : World} {A : Around} {E : Value → Shared → Prop} {s : Shared}
/-- the object at d is a dict with the entries L -/
structure NAt (w : World) (h : Heap) (o : Obj) (d : Addr) (es : Array DictEntry) (ep : Nat) (L : List NE) : Prop where
  at_ : h.get? d = some o
  data : o.data = .dict es ep
  ents : es.toList = L.map (NE.ent w)
  is_ : ∀ x ∈ L, NestedIs h x.k x.key ∧ x.k.depth ≤ 8
  nd : (L.map (·.k)).Nodup
section
variable {o : Obj} {d : Addr} {es : Array DictEntry} {ep : Nat} {L : List NE} {k : NestedKey} {key : Value}
theorem NAt.get (N : NAt w s.heap o d es ep L) (j : Nat) : es[j]? = (L[j]?).map (NE.ent w) := by
  rw [← Array.getElem?_toList, N.ents, List.getElem?_map]
theorem NAt.size (N : NAt w s.heap o d es ep L) : es.size = L.length := by rw [← Array.length_toList, N.ents, List.length_map]
theorem findIdx_cong {α : Type} {p q : α → Bool} : ∀ {L : List α}, (∀ y ∈ L, p y = q y) → L.findIdx? p = L.findIdx? q
  | [], _ => rfl
  | y :: L, h => by
    rw [List.findIdx?_cons, List.findIdx?_cons, h y List.mem_cons_self, findIdx_cong fun z hz => h z (List.mem_cons_of_mem _ hz)]
set_option maxHeartbeats 4000000 in
theorem find_n {Q : Option Nat → Shared → Prop} (hu : A.units + 8 < cLine) (hk : NestedIs s.heap k key) (hdep : k.depth ≤ 8) (N : NAt w s.heap o d es ep L) (h : Q (idxN L k) s) :
    wpAny (model prog w) A (dictFind d key (k.hash w)) Q E s := by
  have hsz := N.size
  have quiet : ∀ v ∈ (placesWithHash es.size (fun i => es[i]?.map (·.hash)) (k.hash w)).filterMap (fun i => es[i]?.map (·.key)), QuietAt prog w 8 s v := by
    intro v hv
    obtain ⟨i, _, hi⟩ := List.mem_filterMap.mp hv
    rw [N.get i] at hi
    cases hx : L[i]? with
    | none => rw [hx] at hi; cases hi
    | some x =>
      rw [hx] at hi
      obtain rfl : x.key = v := by simpa [NE.ent] using hi
      have := N.is_ x (List.mem_of_getElem? hx)
      exact quiet_key x.k _ 8 s this.1 this.2
  have tells : ∀ {Q' : Bool → Shared → Prop}, Q' false s → wpAny (model prog w) A (tableMayTell key ((placesWithHash es.size (fun i => es[i]?.map (·.hash)) (k.hash w)).filterMap (fun i => es[i]?.map (·.key)))) Q' E s := by
    intro Q' hq
    generalize ((placesWithHash es.size (fun i => es[i]?.map (·.hash)) (k.hash w)).filterMap (fun i => es[i]?.map (·.key))) = st at quiet
    unfold tableMayTell
    split
    · exact wpAny_pure hq
    · refine wpAny_bind (quiet_key k key 8 s hk hdep _ _ _ ?_)
      simp only [Bool.not_true, Bool.false_eq_true, if_false]
      refine wpAny_bind (wpAny_forIn_list _ (fun rest r s' => s' = s ∧ r = (none, ()) ∧ ∀ v ∈ rest, QuietAt prog w 8 s v) _ ?_ ?_ _ _ ⟨rfl, rfl, quiet⟩)
      · rintro x rest r s' ⟨rfl, rfl, hr⟩
        refine wpAny_bind (hr x List.mem_cons_self _ _ _ ?_)
        simp only [Bool.not_true, Bool.false_eq_true, if_false]
        exact wpAny_pure ⟨rfl, rfl, fun v hv => hr v (List.mem_cons_of_mem _ hv)⟩
      · rintro r s' ⟨rfl, rfl, _⟩
        exact wpAny_pure hq
  -- where the key stands
  have place : ∀ j x, L[j]? = some x → x.k = k → j ∈ placesWithHash es.size (fun i => es[i]?.map (·.hash)) (k.hash w) := fun j x hx e => by
    unfold placesWithHash
    rw [List.mem_filter]
    refine ⟨List.mem_range.mpr (by rw [hsz]; exact (List.getElem?_eq_some_iff.mp hx).1), ?_⟩
    show (es[j]?.map (·.hash) == some (k.hash w)) = true
    rw [N.get j, hx]
    simp [NE.ent, e]
  have pnd : (placesWithHash es.size (fun i => es[i]?.map (·.hash)) (k.hash w)).Nodup := by
    unfold placesWithHash
    exact List.nodup_range.sublist List.filter_sublist
  have eq1 : ∀ (x : NE) {Q' : Bool → Shared → Prop}, x ∈ L → Q' (decide (x.k = k)) s → wpAny (model prog w) A (eqBool x.key key) Q' E s := fun x Q' hx hq => by
    have := N.is_ x hx
    exact eqAt_key x.k k _ _ _ _ this.1 hk (by omega) _ _ _ _ (by rw [← NestedKey.decide_eq]; exact hq)
  have walk : wpAny (model prog w) A (dictWalkPlain d key (k.hash w) es (placesWithHash es.size (fun i => es[i]?.map (·.hash)) (k.hash w))) Q E s := by
    generalize placesWithHash es.size (fun i => es[i]?.map (·.hash)) (k.hash w) = pl at *
    unfold dictWalkPlain
    refine wpAny_bind ?_
    refine wpAny_forIn_list _ (fun rest b s' => s' = s ∧ b = (none, ()) ∧ ∀ j x, L[j]? = some x → x.k = k → j ∈ rest) _ ?_ ?_ _ _ ⟨rfl, rfl, place⟩
    · rintro i rest b s' ⟨rfl, rfl, hr⟩
      rw [N.get i]
      cases hx : L[i]? with
      | none =>
        refine wpAny_pure ⟨rfl, rfl, fun j x hj e => ?_⟩
        rcases List.mem_cons.mp (hr j x hj e) with rfl | hm
        · rw [hx] at hj; cases hj
        · exact hm
      | some x =>
        have hxm := List.mem_of_getElem? hx
        simp only [Option.map_some]
        have next : x.k ≠ k → ∀ (j : Nat) (y : NE), L[j]? = some y → y.k = k → j ∈ rest := fun hne j y hj e => by
          rcases List.mem_cons.mp (hr j y hj e) with rfl | hm
          · rw [hx] at hj; cases hj; exact absurd e hne
          · exact hm
        by_cases hh : ((NE.ent w x).hash == k.hash w) = true
        · rw [if_pos hh]
          refine wpAny_bind (wpAny_dictEpoch N.at_ N.data (wpAny_bind (eq1 x hxm (wpAny_bind (wpAny_dictEpoch N.at_ N.data ?_)))))
          rw [if_neg (by simp)]
          by_cases e : x.k = k
          · rw [decide_eq_true e, if_pos rfl]
            rw [idxN_some N.nd hx e] at h
            exact wpAny_bind (wpAny_rule (wpAny_pure (wpAny_pure h)))
          · rw [decide_eq_false e, if_neg (by simp)]
            exact wpAny_bind (wpAny_rule (wpAny_pure ⟨rfl, rfl, next e⟩))
        · rw [if_neg hh]
          refine wpAny_pure ⟨rfl, rfl, next fun e => hh ?_⟩
          rw [← e]
          simp [NE.ent]
    · rintro b s' ⟨rfl, rfl, hr⟩
      refine wpAny_pure ?_
      rw [idxN_none fun j x hj e => nomatch hr j x hj e] at h
      exact h
  have found : ∀ (x : Str) (t : Tok), key = .str x t → (es.all fun e => isExactStrKey e.key) = true → wpAny (model prog w) A (foundByValue d key es x) Q E s := by
    intro x t ek hall
    subst ek
    obtain rfl : k = .text x := by cases hk; rfl
    have same : ∀ y ∈ L, y.key.isStr x = decide (y.k = .text x) := fun y hy => by
      have hs : isExactStrKey y.key = true := by
        have hm : NE.ent w y ∈ es := by rw [← Array.mem_toList_iff, N.ents]; exact List.mem_map.mpr ⟨y, hy, rfl⟩
        exact Array.all_eq_true'.mp hall _ hm
      have hy1 := (N.is_ y hy).1
      generalize y.key = v at hy1 hs
      generalize y.k = yk at hy1
      cases hy1 with
      | text z u =>
        show decide _ = decide _
        exact decide_eq_decide.mpr ⟨fun e => by rw [e], fun e => by cases e; rfl⟩
      | _ => cases hs
    have fe : es.findIdx? (fun e => e.key.isStr x) = idxN L (.text x) := by
      have e1 : ∀ (es : Array DictEntry) (p : DictEntry → Bool), es.findIdx? p = es.toList.findIdx? p := fun ⟨l⟩ p => by simp
      rw [e1, N.ents, List.findIdx?_map]
      unfold idxN
      exact findIdx_cong same
    unfold foundByValue
    rw [fe]
    cases hi : idxN L (.text x) with
    | none =>
      rw [hi] at h
      exact wpAny_pure h
    | some i =>
      rw [hi] at h
      obtain ⟨hlt, hp, _⟩ := List.findIdx?_eq_some_iff_getElem.mp hi
      have hx : L[i]? = some L[i] := List.getElem?_eq_getElem hlt
      have ek := of_decide_eq_true hp
      simp only [N.get i, hx, Option.map_some]
      refine wpAny_bind (wpAny_dictEpoch N.at_ N.data (wpAny_bind (eq1 L[i] (List.getElem_mem hlt) (wpAny_bind (wpAny_dictEpoch N.at_ N.data ?_)))))
      show wpAny _ _ (if (ep != ep) = true then _ else _) _ E _
      rw [if_neg (by simp), decide_eq_true ek]
      exact wpAny_bind (wpAny_rule (wpAny_pure h))
  have stale : ∀ a, key = .ref a → ¬ (es.any fun e => e.key == Value.ref a && e.hash != k.hash w) = true := by
    intro a ek hany
    rw [← Array.any_toList, List.any_eq_true] at hany
    obtain ⟨e, hin, hc⟩ := hany
    rw [N.ents] at hin
    obtain ⟨x, hx, rfl⟩ := List.mem_map.mp hin
    simp only [NE.ent, Bool.and_eq_true, beq_iff_eq, bne_iff_ne, ne_eq] at hc
    have h1 := (N.is_ x hx).1
    rw [hc.1, ← ek] at h1
    exact hc.2 (by rw [NestedIs.inj _ _ _ h1 hk])
  unfold dictFind
  try with_reducible refine wpAny_holding ?_
  refine wpAny_bind (wpAny_dictEntries N.at_ N.data ?_)
  generalize hpl : placesWithHash es.size (fun i => es[i]?.map (·.hash)) (k.hash w) = pl at *
  have walk' := walk
  have tells' := @tells
  clear walk tells
  have tail : ∀ {T : Sem (Option Nat)} {B : Nat → (Option (Option Nat) × Option Nat) → Sem (ForInStep (Option (Option Nat) × Option Nat))} {R : (Option (Option Nat) × Option Nat) → Sem (Option Nat)},
      (∀ (i : Nat) (rest : List Nat) (hit : Option Nat), (i ∉ rest) →
        (∀ (x : NE), L[i]? = some x → x.k = k → hit = none → ∀ (M : ForInStep (Option (Option Nat) × Option Nat) → Shared → Prop), M (.done (some (some i), hit)) s → M (.yield (none, some i)) s → wpAny (model prog w) A (B i (none, hit)) M E s) ∧
        ((∀ (x : NE), L[i]? = some x → x.k ≠ k) → ∀ (M : ForInStep (Option (Option Nat) × Option Nat) → Shared → Prop), M (.yield (none, hit)) s → wpAny (model prog w) A (B i (none, hit)) M E s)) →
      (∀ r hit, R (some r, hit) = pure r) → (∀ hit, R (none, hit) = pure hit) → wpAny (model prog w) A (forIn pl (none, none) B >>= R) Q E s := by
    intro T B R step r1 r2
    refine wpAny_bind (wpAny_forIn_list _ (fun rest b s' => s' = s ∧ b.1 = none ∧ rest.Nodup ∧ ((b.2 = none ∧ ∀ j x, L[j]? = some x → x.k = k → j ∈ rest) ∨ ∃ j x, b.2 = some j ∧ L[j]? = some x ∧ x.k = k ∧ j ∉ rest)) _ ?_ ?_ _ _ ⟨rfl, rfl, pnd, .inl ⟨rfl, place⟩⟩)
    · rintro i rest ⟨b1, hit⟩ s' ⟨rfl, hb, nd, hH⟩
      simp only at hb hH
      subst hb
      obtain ⟨n1, n2⟩ := List.nodup_cons.mp nd
      obtain ⟨st1, st2⟩ := step i rest hit n1
      by_cases hm : ∃ x, L[i]? = some x ∧ x.k = k
      · obtain ⟨x, hx, e⟩ := hm
        rcases hH with ⟨rfl, hr⟩ | ⟨j, y, rfl, hj, ey, hjr⟩
        · refine st1 x hx e rfl _ ?_ ?_
          · show wpAny _ _ (R (some (some i), none)) Q E _
            rw [r1]
            rw [idxN_some N.nd hx e] at h
            exact wpAny_pure h
          · exact ⟨rfl, rfl, n2, .inr ⟨i, x, rfl, hx, e, n1⟩⟩
        · have a1 := idxN_some N.nd hx e
          rw [idxN_some N.nd hj ey] at a1
          exact absurd (by cases a1; exact List.mem_cons_self) hjr
      · refine st2 (fun x hx e => hm ⟨x, hx, e⟩) _ ⟨rfl, rfl, n2, ?_⟩
        rcases hH with ⟨rfl, hr⟩ | ⟨j, y, rfl, hj, ey, hjr⟩
        · refine .inl ⟨rfl, fun j x hj e => ?_⟩
          rcases List.mem_cons.mp (hr j x hj e) with rfl | hmm
          · exact absurd ⟨x, hj, e⟩ hm
          · exact hmm
        · exact .inr ⟨j, y, rfl, hj, ey, fun q => hjr (List.mem_cons_of_mem _ q)⟩
    · rintro ⟨b1, hit⟩ s' ⟨rfl, hb, nd, hH⟩
      simp only at hb hH
      subst hb
      show wpAny _ _ (R (none, hit)) Q E _
      rw [r2]
      rcases hH with ⟨rfl, hr⟩ | ⟨j, y, rfl, hj, ey, hjr⟩
      · rw [idxN_none fun j x hj e => nomatch hr j x hj e] at h
        exact wpAny_pure h
      · rw [idxN_some N.nd hj ey] at h
        exact wpAny_pure h
  generalize hkh : k.hash w = kh at *
  cases hk with
  | none =>
    dsimp only
    by_cases hc : ((Value.none :: (pl.filterMap fun i => es[i]?.map (·.key))).all carriedByValue) = true
    · rw [if_pos hc]
      exact walk'
    rw [if_neg hc]
    by_cases hone : (List.filterMap (fun i => Option.map (fun x => x.key) es[i]?) pl == [Value.none]) = true <;>
    (first | rw [if_pos hone] | rw [if_neg hone]) <;> (first | refine wpAny_bind (wpAny_pure ?_) | refine wpAny_bind (tells' ?_)) <;> (
      rw [if_neg (by simp)]
      refine tail (T := pure none) (fun i rest hit ni => ⟨fun x hx e eh M m1 m2 => ?_, fun hne M m => ?_⟩) (fun r hit => rfl) (fun hit => rfl)
      · subst eh
        have hh : ((NE.ent w x).hash == kh) = true := by rw [← hkh, ← e]; simp [NE.ent]
        simp only [N.get i, hx, Option.map_some]
        rw [if_pos hh]
        refine wpAny_bind (wpAny_dictEpoch N.at_ N.data (wpAny_bind (eq1 x (List.mem_of_getElem? hx) (wpAny_bind (wpAny_dictEpoch N.at_ N.data ?_)))))
        show wpAny _ _ (if (ep != ep) = true then _ else _) _ E _
        rw [if_neg (by simp), decide_eq_true e]
        simp only [if_true, Option.isSome_none, Bool.false_eq_true, if_false]
        refine wpAny_bind (wpAny_rule ?_)
        split
        · exact wpAny_pure m1
        · exact wpAny_pure m2
      · rw [N.get i]
        cases hx : L[i]? with
        | none => exact wpAny_pure m
        | some x =>
          simp only [Option.map_some]
          by_cases hh : ((NE.ent w x).hash == kh) = true
          · rw [if_pos hh]
            refine wpAny_bind (wpAny_dictEpoch N.at_ N.data (wpAny_bind (eq1 x (List.mem_of_getElem? hx) (wpAny_bind (wpAny_dictEpoch N.at_ N.data ?_)))))
            show wpAny _ _ (if (ep != ep) = true then _ else _) _ E _
            rw [if_neg (by simp), decide_eq_false (hne x hx)]
            simp only [Bool.false_eq_true, if_false, Bool.false_and]
            refine wpAny_bind (wpAny_rule ?_)
            exact wpAny_pure m
          · rw [if_neg hh]
            exact wpAny_pure m)
  | @bool b i hb =>
    dsimp only
    by_cases hc : ((Value.bool b :: (pl.filterMap fun i => es[i]?.map (·.key))).all carriedByValue) = true
    · rw [if_pos hc]
      exact walk'
    rw [if_neg hc]
    by_cases hone : (List.filterMap (fun i => Option.map (fun x => x.key) es[i]?) pl == [Value.bool b]) = true <;>
    (first | rw [if_pos hone] | rw [if_neg hone]) <;> (first | refine wpAny_bind (wpAny_pure ?_) | refine wpAny_bind (tells' ?_)) <;> (
      rw [if_neg (by simp)]
      refine tail (T := pure none) (fun i rest hit ni => ⟨fun x hx e eh M m1 m2 => ?_, fun hne M m => ?_⟩) (fun r hit => rfl) (fun hit => rfl)
      · subst eh
        have hh : ((NE.ent w x).hash == kh) = true := by rw [← hkh, ← e]; simp [NE.ent]
        simp only [N.get i, hx, Option.map_some]
        rw [if_pos hh]
        refine wpAny_bind (wpAny_dictEpoch N.at_ N.data (wpAny_bind (eq1 x (List.mem_of_getElem? hx) (wpAny_bind (wpAny_dictEpoch N.at_ N.data ?_)))))
        show wpAny _ _ (if (ep != ep) = true then _ else _) _ E _
        rw [if_neg (by simp), decide_eq_true e]
        simp only [if_true, Option.isSome_none, Bool.false_eq_true, if_false]
        refine wpAny_bind (wpAny_rule ?_)
        split
        · exact wpAny_pure m1
        · exact wpAny_pure m2
      · rw [N.get i]
        cases hx : L[i]? with
        | none => exact wpAny_pure m
        | some x =>
          simp only [Option.map_some]
          by_cases hh : ((NE.ent w x).hash == kh) = true
          · rw [if_pos hh]
            refine wpAny_bind (wpAny_dictEpoch N.at_ N.data (wpAny_bind (eq1 x (List.mem_of_getElem? hx) (wpAny_bind (wpAny_dictEpoch N.at_ N.data ?_)))))
            show wpAny _ _ (if (ep != ep) = true then _ else _) _ E _
            rw [if_neg (by simp), decide_eq_false (hne x hx)]
            simp only [Bool.false_eq_true, if_false, Bool.false_and]
            refine wpAny_bind (wpAny_rule ?_)
            exact wpAny_pure m
          · rw [if_neg hh]
            exact wpAny_pure m)
  | int i tt =>
    dsimp only
    by_cases hc : ((Value.int i tt :: (pl.filterMap fun i => es[i]?.map (·.key))).all carriedByValue) = true
    · rw [if_pos hc]
      exact walk'
    rw [if_neg hc]
    by_cases hone : (List.filterMap (fun i => Option.map (fun x => x.key) es[i]?) pl == [Value.int i tt]) = true <;>
    (first | rw [if_pos hone] | rw [if_neg hone]) <;> (first | refine wpAny_bind (wpAny_pure ?_) | refine wpAny_bind (tells' ?_)) <;> (
      rw [if_neg (by simp)]
      refine tail (T := pure none) (fun i rest hit ni => ⟨fun x hx e eh M m1 m2 => ?_, fun hne M m => ?_⟩) (fun r hit => rfl) (fun hit => rfl)
      · subst eh
        have hh : ((NE.ent w x).hash == kh) = true := by rw [← hkh, ← e]; simp [NE.ent]
        simp only [N.get i, hx, Option.map_some]
        rw [if_pos hh]
        refine wpAny_bind (wpAny_dictEpoch N.at_ N.data (wpAny_bind (eq1 x (List.mem_of_getElem? hx) (wpAny_bind (wpAny_dictEpoch N.at_ N.data ?_)))))
        show wpAny _ _ (if (ep != ep) = true then _ else _) _ E _
        rw [if_neg (by simp), decide_eq_true e]
        simp only [if_true, Option.isSome_none, Bool.false_eq_true, if_false]
        refine wpAny_bind (wpAny_rule ?_)
        split
        · exact wpAny_pure m1
        · exact wpAny_pure m2
      · rw [N.get i]
        cases hx : L[i]? with
        | none => exact wpAny_pure m
        | some x =>
          simp only [Option.map_some]
          by_cases hh : ((NE.ent w x).hash == kh) = true
          · rw [if_pos hh]
            refine wpAny_bind (wpAny_dictEpoch N.at_ N.data (wpAny_bind (eq1 x (List.mem_of_getElem? hx) (wpAny_bind (wpAny_dictEpoch N.at_ N.data ?_)))))
            show wpAny _ _ (if (ep != ep) = true then _ else _) _ E _
            rw [if_neg (by simp), decide_eq_false (hne x hx)]
            simp only [Bool.false_eq_true, if_false, Bool.false_and]
            refine wpAny_bind (wpAny_rule ?_)
            exact wpAny_pure m
          · rw [if_neg hh]
            exact wpAny_pure m)
  | text x tt =>
    dsimp only
    by_cases hall : (es.all fun e => isExactStrKey e.key) = true
    · rw [if_pos hall]
      exact found _ _ rfl hall
    rw [if_neg hall]
    by_cases hc : ((Value.str x tt :: (pl.filterMap fun i => es[i]?.map (·.key))).all carriedByValue) = true
    · rw [if_pos hc]
      exact walk'
    rw [if_neg hc]
    by_cases hone : (List.filterMap (fun i => Option.map (fun x => x.key) es[i]?) pl == [Value.str x tt]) = true <;>
    (first | rw [if_pos hone] | rw [if_neg hone]) <;> (first | refine wpAny_bind (wpAny_pure ?_) | refine wpAny_bind (tells' ?_)) <;> (
      rw [if_neg (by simp)]
      refine tail (T := pure none) (fun i rest hit ni => ⟨fun x hx e eh M m1 m2 => ?_, fun hne M m => ?_⟩) (fun r hit => rfl) (fun hit => rfl)
      · subst eh
        have hh : ((NE.ent w x).hash == kh) = true := by rw [← hkh, ← e]; simp [NE.ent]
        simp only [N.get i, hx, Option.map_some]
        rw [if_pos hh]
        refine wpAny_bind (wpAny_dictEpoch N.at_ N.data (wpAny_bind (eq1 x (List.mem_of_getElem? hx) (wpAny_bind (wpAny_dictEpoch N.at_ N.data ?_)))))
        show wpAny _ _ (if (ep != ep) = true then _ else _) _ E _
        rw [if_neg (by simp), decide_eq_true e]
        simp only [if_true, Option.isSome_none, Bool.false_eq_true, if_false]
        refine wpAny_bind (wpAny_rule ?_)
        split
        · exact wpAny_pure m1
        · exact wpAny_pure m2
      · rw [N.get i]
        cases hx : L[i]? with
        | none => exact wpAny_pure m
        | some x =>
          simp only [Option.map_some]
          by_cases hh : ((NE.ent w x).hash == kh) = true
          · rw [if_pos hh]
            refine wpAny_bind (wpAny_dictEpoch N.at_ N.data (wpAny_bind (eq1 x (List.mem_of_getElem? hx) (wpAny_bind (wpAny_dictEpoch N.at_ N.data ?_)))))
            show wpAny _ _ (if (ep != ep) = true then _ else _) _ E _
            rw [if_neg (by simp), decide_eq_false (hne x hx)]
            simp only [Bool.false_eq_true, if_false, Bool.false_and]
            refine wpAny_bind (wpAny_rule ?_)
            exact wpAny_pure m
          · rw [if_neg hh]
            exact wpAny_pure m)
  | @tup a _ _ _ ks q1 q2 q3 q4 =>
    dsimp only
    rw [if_neg (by simp [carriedByValue]), if_neg (stale a rfl)]
    by_cases hone : (List.filterMap (fun i => Option.map (fun x => x.key) es[i]?) pl == [Value.ref a]) = true <;>
    (first | rw [if_pos hone] | rw [if_neg hone]) <;> (first | refine wpAny_bind (wpAny_pure ?_) | refine wpAny_bind (tells' ?_)) <;> (
      rw [if_neg (by simp)]
      refine tail (T := pure none) (fun i rest hit ni => ⟨fun x hx e eh M m1 m2 => ?_, fun hne M m => ?_⟩) (fun r hit => rfl) (fun hit => rfl)
      · subst eh
        have hh : ((NE.ent w x).hash == kh) = true := by rw [← hkh, ← e]; simp [NE.ent]
        simp only [N.get i, hx, Option.map_some]
        rw [if_pos hh]
        refine wpAny_bind (wpAny_dictEpoch N.at_ N.data (wpAny_bind (eq1 x (List.mem_of_getElem? hx) (wpAny_bind (wpAny_dictEpoch N.at_ N.data ?_)))))
        show wpAny _ _ (if (ep != ep) = true then _ else _) _ E _
        rw [if_neg (by simp), decide_eq_true e]
        simp only [if_true, Option.isSome_none, Bool.false_eq_true, if_false]
        refine wpAny_bind (wpAny_rule ?_)
        split
        · exact wpAny_pure m1
        · exact wpAny_pure m2
      · rw [N.get i]
        cases hx : L[i]? with
        | none => exact wpAny_pure m
        | some x =>
          simp only [Option.map_some]
          by_cases hh : ((NE.ent w x).hash == kh) = true
          · rw [if_pos hh]
            refine wpAny_bind (wpAny_dictEpoch N.at_ N.data (wpAny_bind (eq1 x (List.mem_of_getElem? hx) (wpAny_bind (wpAny_dictEpoch N.at_ N.data ?_)))))
            show wpAny _ _ (if (ep != ep) = true then _ else _) _ E _
            rw [if_neg (by simp), decide_eq_false (hne x hx)]
            simp only [Bool.false_eq_true, if_false, Bool.false_and]
            refine wpAny_bind (wpAny_rule ?_)
            exact wpAny_pure m
          · rw [if_neg hh]
            exact wpAny_pure m)
theorem modify_map {v : Value} : ∀ (L : List NE) (j : Nat), (L.map (NE.ent w)).modify j (fun e => { e with val := v }) = (L.modify j fun x => { x with val := v }).map (NE.ent w)
  | [], j => by cases j <;> rfl
  | x :: L, 0 => rfl
  | x :: L, j + 1 => by
    rw [List.map_cons, List.modify_succ_cons, List.modify_succ_cons, List.map_cons, modify_map L j]
/-- what dictGet answers -/
def valAt (L : List NE) (k : NestedKey) : Option Value := (idxN L k).bind fun j => (L[j]?).map (·.val)
theorem get_n {Q : Option Value → Shared → Prop} (hu : A.units + 8 < cLine) (hk : NestedIs s.heap k key) (hdep : k.depth ≤ 8) (N : NAt w s.heap o d es ep L) (h : Q (valAt L k) { s with toks := s.toks + k.draws }) :
    wpAny (model prog w) A (dictGet d key) Q E s := by
  unfold dictGet
  try with_reducible refine wpAny_holding ?_
  refine wpAny_bind (pyHash_key k key A s _ hk (by omega) (wpAny_bind (find_n (s := { s with toks := s.toks + k.draws }) hu hk hdep ⟨N.at_, N.data, N.ents, N.is_, N.nd⟩ ?_)))
  unfold valAt at h
  cases hi : idxN L k with
  | none => rw [hi] at h; exact wpAny_pure h
  | some j =>
    rw [hi] at h
    refine wpAny_bind (wpAny_dictEntries (s := { s with toks := s.toks + k.draws }) N.at_ N.data ?_)
    rw [N.get j]
    cases hj : L[j]? with
    | none => simp only [Option.bind_some, hj, Option.map_none] at h; exact wpAny_pure h
    | some x => simp only [Option.bind_some, hj, Option.map_some] at h; exact wpAny_pure h
def putE (L : List NE) (k : NestedKey) (key v : Value) : List NE := match idxN L k with
  | some j => L.modify j fun x => { x with val := v }
  | none => L ++ [⟨k, key, v⟩]
/-- the object behind d[key] = v -/
def PutOk (w : World) (h : Heap) (d : Addr) (L : List NE) : Prop := ∃ o es ep, h.get? d = some o ∧ o.ExactDict ∧ o.data = .dict es ep ∧ es.toList = L.map (NE.ent w)
theorem set_n {v : Value} {Q : Unit → Shared → Prop} (hu : A.units + 8 < cLine) (hk : NestedIs s.heap k key) (hdep : k.depth ≤ 8) (N : NAt w s.heap o d es ep L) (hx : o.ExactDict) (hz : L.length ≤ sizeLine)
    (hQ : ∀ h', PutOk w h' d (putE L k key v) → Heap.SameBut d s.heap h' → Q () { s with heap := h', toks := s.toks + k.draws }) :
    wpAny (model prog w) A (dictSet d key v) Q E s := by
  have hsz := N.size
  unfold dictSet
  try with_reducible refine wpAny_holding ?_
  refine wpAny_bind (pyHash_key k key A s _ hk (by omega) ?_)
  unfold dictSetHashed
  try with_reducible refine wpAny_holding ?_
  refine wpAny_bind (find_n (s := { s with toks := s.toks + k.draws }) hu hk hdep ⟨N.at_, N.data, N.ents, N.is_, N.nd⟩ ?_)
  unfold putE at hQ
  cases hi : idxN L k with
  | none =>
    rw [hi] at hQ
    refine wpAny_bind (wpAny_rule (wpAny_updateDictKeys (hz := by omega) (s := { s with toks := s.toks + k.draws }) N.at_ N.data (hQ _ ⟨_, _, _, Heap.get?_update_self _ N.at_ (Obj.isFreed_of_dict (Obj.data_mapDictKeys N.data _)), hx.mapDictKeys _, Obj.data_mapDictKeys N.data _, ?_⟩ (Heap.SameBut.update ..))))
    simp [N.ents, NE.ent]
  | some j =>
    rw [hi] at hQ
    refine wpAny_bind (wpAny_rule (wpAny_bind (wpAny_updateDict (s := { s with toks := s.toks + k.draws }) N.at_ N.data (wpAny_point (hQ _ ⟨_, _, _, Heap.get?_update_self _ N.at_ (Obj.isFreed_of_dict (Obj.data_mapDict N.data _)), hx.mapDict _, Obj.data_mapDict N.data _, ?_⟩ (Heap.SameBut.update ..))))))
    have e := N.ents
    obtain ⟨l⟩ := es
    simp only at e
    subst e
    simp only [List.modify_toArray]
    rw [modify_map]
end
end
end Sx

/-! PxZl: dicts by data, the operations. -/
namespace Sx
open PySem L2
section
open PySem.Spec PyProof.Rows
variable {prog : Program} {w : World} {A : Around} {E : Value → Shared → Prop} {s : Shared} {d : Addr} {L : List NE} {k : NestedKey} {key : Value}
/-- a dict with these entries stands at d -/
def NDic (w : World) (h : Heap) (d : Addr) (L : List NE) : Prop := (d == sysModules) = false ∧ L.length ≤ sizeLine ∧ ∃ o es ep, NAt w h o d es ep L ∧ o.ExactDict
theorem NDic.typeIs (N : NDic w s.heap d L) : s.TypeIs (.ref d) "dict" := by
  obtain ⟨_, _, o, _, _, n, x⟩ := N
  exact ⟨o, n.at_, x.1⟩
theorem getItem_n {v : Value} {Q : Value → Shared → Prop} (hu : A.in1.units + 8 < cLine) (hk : NestedIs s.heap k key) (hdep : k.depth ≤ 8) (N : NDic w s.heap d L) (hv : valAt L k = some v) (h : Q v { s with toks := s.toks + k.draws }) :
    wpAny (model prog w) A (getItem (.ref d) key) Q E s := by
  have hT := N.typeIs
  obtain ⟨_, _, o, es, ep, n, _⟩ := N
  unfold getItem
  try with_reducible refine wpAny_holding ?_
  refine wpAny_bind (wpAny_sequenceKey hT (by decide) ?_)
  refine wpAny_bind (wpAny_callSpecial?_slot (name := Str.ofString "__getitem__") hT slot_dict_getitem (wpAny_call_entry slot_dict_getitem hT entry_dict_getitem ?_ (args_dict_getitem _ _)))
  show wpAny _ _ (dictGet d key >>= _) _ _ s
  refine wpAny_bind (get_n hu hk hdep n ?_)
  rw [hv]
  exact wpAny_pure ⟨v, rfl, wpAny_pure h⟩
theorem in_n {Q : Value → Shared → Prop} (hu : A.in1.units + 8 < cLine) (hk : NestedIs s.heap k key) (hdep : k.depth ≤ 8) (N : NDic w s.heap d L) (h : Q (.bool (valAt L k).isSome) { s with toks := s.toks + k.draws }) :
    wpAny (model prog w) A (compareOp .In key (.ref d)) Q E s := by
  have hT := N.typeIs
  obtain ⟨hd, _, o, es, ep, n, _⟩ := N
  show wpAny _ _ (do return .bool (← contains (.ref d) key)) Q E s
  refine wpAny_bind ?_
  unfold contains
  try with_reducible refine wpAny_holding ?_
  refine wpAny_bind (wpAny_specialOf hT slot_dict_contains.lookup ?_)
  show wpAny _ _ (if (some (Value.builtin "dict.__contains__") == some Value.none) = true then _ else _) _ E s
  rw [if_neg (by rw [beq_builtin_none]; exact Bool.false_ne_true)]
  refine wpAny_bind (wpAny_callSpecialUnlessNone?_slot (name := Str.ofString "__contains__") hT slot_dict_contains (wpAny_call_entry slot_dict_contains hT entry_dict_contains ?_ (args_dict_contains _ _)))
  show wpAny _ _ (dictGet d key >>= _) _ _ s
  refine wpAny_bind (get_n hu hk hdep n ?_)
  cases hf : valAt L k with
  | some p =>
    rw [hf] at h
    show wpAny _ _ (ret (.bool true)) _ _ _
    exact wpAny_pure ⟨_, rfl, wpAny_truthy_bool (wpAny_pure h)⟩
  | none =>
    rw [hf] at h
    show wpAny _ _ (Builtin.Dict.pendingKey? d key >>= _) _ _ _
    exact wpAny_bind (wpAny_pendingKey_other hd (wpAny_pure ⟨_, rfl, wpAny_truthy_bool (wpAny_pure h)⟩))
theorem setItem_n {v : Value} {Q : Unit → Shared → Prop} (hu : A.in1.units + 8 < cLine) (hk : NestedIs s.heap k key) (hdep : k.depth ≤ 8) (N : NDic w s.heap d L)
    (hQ : ∀ h', PutOk w h' d (putE L k key v) → Heap.SameBut d s.heap h' → Q () { s with heap := h', toks := s.toks + k.draws }) : wpAny (model prog w) A (setItem (.ref d) key v) Q E s := by
  have hT := N.typeIs
  obtain ⟨hd, hz, o, es, ep, n, hx⟩ := N
  unfold setItem
  try with_reducible refine wpAny_holding ?_
  refine wpAny_bind (wpAny_sequenceKey hT (by decide) ?_)
  refine wpAny_bind (wpAny_callSpecial?_slot (name := Str.ofString "__setitem__") hT slot_dict_setitem (wpAny_call_entry slot_dict_setitem hT entry_dict_setitem ?_ (args_dict_setitem _ _ _)))
  show wpAny _ _ (Builtin.Dict.notOrdered "__setitem__" ⟨[.ref d, key, v], []⟩ >>= _) _ _ s
  refine wpAny_bind (wpAny_notOrdered_dict hT ?_)
  show wpAny _ _ (dictSet d key v >>= _) _ _ s
  exact wpAny_bind (set_n hu hk hdep n hx hz fun h' p' hs' => wpAny_pure ⟨.none, rfl, wpAny_pure (hQ h' p' hs')⟩)
theorem meetsN_get (hd : (d == sysModules) = false) (x : Value) : MeetsIn prog w (Builtin.«dict.get» ⟨[.ref d, key, x], []⟩) (fun A R s => A.in1.units + 8 < cLine ∧ ∃ k L, NestedIs s.heap k key ∧ k.depth ≤ 8 ∧ NDic w s.heap d L ∧
      R (.ok (.ret ((valAt L k).getD x))) { s with toks := s.toks + k.draws }) :=
  .of_wp fun A R s ⟨hu, k, L, hk, hdep, N, h⟩ => by
    obtain ⟨_, _, o, es, ep, n, _⟩ := N
    show wpAny _ _ (dictGet d key >>= _) _ _ s
    refine wpAny_bind (get_n hu hk hdep n ?_)
    cases hf : valAt L k with
    | some v => rw [hf] at h; exact wpAny_pure ⟨v, rfl, h⟩
    | none =>
      rw [hf] at h
      show wpAny _ _ (Builtin.Dict.missed d key >>= _) _ _ _
      exact wpAny_bind (wpAny_missed_other hd (wpAny_pure ⟨x, rfl, h⟩))
theorem call_get_n {x : Value} {Q : Value → Shared → Prop} (hu : A.in1.units + 8 < cLine) (hk : NestedIs s.heap k key) (hdep : k.depth ≤ 8) (N : NDic w s.heap d L) (h : Q ((valAt L k).getD x) { s with toks := s.toks + k.draws }) :
    wpAny (model prog w) A (call (.builtin "dict.get") [.ref d, key, x]) Q E s :=
  call_meetsIn F.slot_dict_get N.typeIs F.entry_dict_get (F.args_dict_get_3 _ _ _) (meetsN_get N.1 x) ⟨hu, k, L, hk, hdep, N, h⟩
theorem setDefault_n {o : Obj} {es : Array DictEntry} {ep : Nat} {x : Value} {Q : Value → Shared → Prop} (hu : A.units + 8 < cLine) (hk : NestedIs s.heap k key) (hdep : k.depth ≤ 8) (n : NAt w s.heap o d es ep L) (hx : o.ExactDict) (hz : L.length ≤ sizeLine)
    (h1 : ∀ v, valAt L k = some v → Q v { s with toks := s.toks + k.draws })
    (h2 : valAt L k = none → ∀ h', PutOk w h' d (putE L k key x) → Heap.SameBut d s.heap h' → Q x { s with heap := h', toks := s.toks + k.draws }) : wpAny (model prog w) A (dictSetDefault d key x) Q E s := by
  have hsz := n.size
  unfold dictSetDefault
  try with_reducible refine wpAny_holding ?_
  refine wpAny_bind (pyHash_key k key A s _ hk (by omega) ?_)
  refine wpAny_bind (find_n (s := { s with toks := s.toks + k.draws }) hu hk hdep ⟨n.at_, n.data, n.ents, n.is_, n.nd⟩ ?_)
  unfold valAt putE at h2
  unfold valAt at h1
  cases hi : idxN L k with
  | none =>
    rw [hi] at h2
    refine wpAny_bind (wpAny_rule (wpAny_bind (wpAny_updateDictKeys (hz := by omega) (s := { s with toks := s.toks + k.draws }) n.at_ n.data (wpAny_pure (h2 rfl _ ⟨_, _, _, Heap.get?_update_self _ n.at_ (Obj.isFreed_of_dict (Obj.data_mapDictKeys n.data _)), hx.mapDictKeys _, Obj.data_mapDictKeys n.data _, ?_⟩ (Heap.SameBut.update ..))))))
    simp [n.ents, NE.ent]
  | some j =>
    rw [hi] at h1
    have hj : j < L.length := (List.findIdx?_eq_some_iff_getElem.mp hi).1
    refine wpAny_bind (wpAny_dictEntries (s := { s with toks := s.toks + k.draws }) n.at_ n.data ?_)
    rw [n.get j, List.getElem?_eq_getElem hj]
    refine wpAny_bind (wpAny_rule (wpAny_pure (h1 _ ?_)))
    simp [hj, NE.ent]
theorem meetsN_setdefault (hd : (d == sysModules) = false) (x : Value) : MeetsIn prog w (Builtin.«dict.setdefault» ⟨[.ref d, key, x], []⟩) (fun A R s => A.in1.units + 8 < cLine ∧ ∃ k L, NestedIs s.heap k key ∧ k.depth ≤ 8 ∧ NDic w s.heap d L ∧
      (∀ v, valAt L k = some v → R (.ok (.ret v)) { s with toks := s.toks + k.draws }) ∧
      (valAt L k = none → ∀ h', PutOk w h' d (putE L k key x) → Heap.SameBut d s.heap h' → R (.ok (.ret x)) { s with heap := h', toks := s.toks + k.draws })) :=
  .of_wp fun A R s ⟨hu, k, L, hk, hdep, N, h1, h2⟩ => by
    have hT := N.typeIs
    obtain ⟨_, hz, o, es, ep, n, hx⟩ := N
    unfold Builtin.«dict.setdefault»
    refine wpAny_bind ?_
    unfold Builtin.Dict.keyAndDefault
    refine wpAny_bind (wpAny_notOrdered_dict hT ?_)
    show wpAny _ _ (pure (d, key, some x)) _ _ s
    refine wpAny_pure ?_
    show wpAny _ _ (if (d == sysModules) = true then _ else (dictSetDefault d key x >>= _)) _ _ s
    rw [if_neg (by rw [hd]; exact Bool.false_ne_true)]
    exact wpAny_bind (setDefault_n hu hk hdep n hx hz (fun v hv => wpAny_pure ⟨v, rfl, h1 v hv⟩) fun hn h' p' hs' => wpAny_pure ⟨x, rfl, h2 hn h' p' hs'⟩)
theorem call_setdefault_n {x : Value} {Q : Value → Shared → Prop} (hu : A.in1.units + 8 < cLine) (hk : NestedIs s.heap k key) (hdep : k.depth ≤ 8) (N : NDic w s.heap d L)
    (h1 : ∀ v, valAt L k = some v → Q v { s with toks := s.toks + k.draws }) (h2 : valAt L k = none → ∀ h', PutOk w h' d (putE L k key x) → Heap.SameBut d s.heap h' → Q x { s with heap := h', toks := s.toks + k.draws }) :
    wpAny (model prog w) A (call (.builtin "dict.setdefault") [.ref d, key, x]) Q E s :=
  call_meetsIn F.slot_dict_setdefault N.typeIs F.entry_dict_setdefault (F.args_dict_setdefault_3 _ _ _) (meetsN_setdefault N.1 x) ⟨hu, k, L, hk, hdep, N, h1, h2⟩
def dropE (L : List NE) (k : NestedKey) : List NE := match idxN L k with
  | some j => L.eraseIdx j
  | none => L
theorem eraseIdx_map1 : ∀ (L : List NE) (j : Nat), (L.map (NE.ent w)).eraseIdx j = (L.eraseIdx j).map (NE.ent w)
  | [], _ => rfl
  | _ :: _, 0 => rfl
  | x :: L, j + 1 => by
    show NE.ent w x :: (L.map (NE.ent w)).eraseIdx j = NE.ent w x :: (L.eraseIdx j).map (NE.ent w)
    rw [eraseIdx_map1 L j]
theorem takeOut_n {o : Obj} {es : Array DictEntry} {ep : Nat} {Q : Option DictEntry → Shared → Prop} (hu : A.units + 8 < cLine) (hk : NestedIs s.heap k key) (hdep : k.depth ≤ 8) (n : NAt w s.heap o d es ep L) (hx : o.ExactDict) (hz : L.length ≤ sizeLine)
    (h1 : valAt L k = none → Q none { s with toks := s.toks + k.draws })
    (h2 : ∀ e v, valAt L k = some v → e.val = v → ∀ h', PutOk w h' d (dropE L k) → Heap.SameBut d s.heap h' → Q (some e) { s with heap := h', toks := s.toks + k.draws }) : wpAny (model prog w) A (Builtin.Dict.takeOut d key) Q E s := by
  have hsz := n.size
  unfold Builtin.Dict.takeOut
  try with_reducible refine wpAny_holding ?_
  refine wpAny_bind (pyHash_key k key A s _ hk (by omega) ?_)
  refine wpAny_bind (find_n (s := { s with toks := s.toks + k.draws }) hu hk hdep ⟨n.at_, n.data, n.ents, n.is_, n.nd⟩ ?_)
  unfold valAt dropE at h2
  unfold valAt at h1
  cases hi : idxN L k with
  | none => rw [hi] at h1; exact wpAny_pure (h1 rfl)
  | some j =>
    rw [hi] at h2
    have hj : j < L.length := (List.findIdx?_eq_some_iff_getElem.mp hi).1
    refine wpAny_bind (wpAny_dictEntries (s := { s with toks := s.toks + k.draws }) n.at_ n.data ?_)
    rw [n.get j, List.getElem?_eq_getElem hj]
    refine wpAny_bind (wpAny_updateDictKeys (hz := by omega) (s := { s with toks := s.toks + k.draws }) n.at_ n.data (wpAny_pure (h2 _ L[j].val (by simp [hj]) rfl _ ⟨_, _, _, Heap.get?_update_self _ n.at_ (Obj.isFreed_of_dict (Obj.data_mapDictKeys n.data _)), hx.mapDictKeys _, Obj.data_mapDictKeys n.data _, ?_⟩ (Heap.SameBut.update ..))))
    have e := n.ents
    obtain ⟨l⟩ := es
    simp only at e
    subst e
    simp [eraseIdx_map1]
theorem meetsN_pop (hd : (d == sysModules) = false) (hp : (keyPart key).isSome = true) (x : Value) : MeetsIn prog w (Builtin.«dict.pop» ⟨[.ref d, key, x], []⟩) (fun A R s => A.in1.units + 8 < cLine ∧ ∃ k L, NestedIs s.heap k key ∧ k.depth ≤ 8 ∧ NDic w s.heap d L ∧
      (∀ v, valAt L k = some v → ∀ h', PutOk w h' d (dropE L k) → Heap.SameBut d s.heap h' → R (.ok (.ret v)) { s with heap := h', toks := s.toks + k.draws }) ∧
      (valAt L k = none → R (.ok (.ret x)) { s with toks := s.toks + k.draws })) :=
  .of_wp fun A R s ⟨hu, k, L, hk, hdep, N, h1, h2⟩ => by
    have hT := N.typeIs
    obtain ⟨_, hz, o, es, ep, n, hx⟩ := N
    unfold Builtin.«dict.pop»
    refine wpAny_bind ?_
    unfold Builtin.Dict.keyAndDefault
    refine wpAny_bind (wpAny_notOrdered_dict hT ?_)
    show wpAny _ _ (pure (d, key, some x)) _ _ s
    refine wpAny_pure ?_
    dsimp only
    rw [if_pos hp]
    refine wpAny_bind (wpAny_pure ?_)
    rw [if_neg (by simp)]
    refine wpAny_bind (takeOut_n hu hk hdep n hx hz (fun hn => ?_) fun e v hv ev h' p' hs' => ?_)
    · simp only [Option.isNone_none, if_true]
      refine wpAny_bind (wpAny_missedRemoval_other hd ?_)
      exact wpAny_bind (wpAny_rule (wpAny_pure ⟨x, rfl, h2 hn⟩))
    · simp only [Option.isNone_some, Bool.false_eq_true, if_false]
      exact wpAny_bind (wpAny_letGo (wpAny_pure ⟨e.val, rfl, by rw [ev]; exact h1 v hv h' p' hs'⟩))
theorem call_pop_n {x : Value} {Q : Value → Shared → Prop} (hu : A.in1.units + 8 < cLine) (hk : NestedIs s.heap k key) (hdep : k.depth ≤ 8) (N : NDic w s.heap d L) (hp : (keyPart key).isSome = true)
    (h1 : ∀ v, valAt L k = some v → ∀ h', PutOk w h' d (dropE L k) → Heap.SameBut d s.heap h' → Q v { s with heap := h', toks := s.toks + k.draws }) (h2 : valAt L k = none → Q x { s with toks := s.toks + k.draws }) :
    wpAny (model prog w) A (call (.builtin "dict.pop") [.ref d, key, x]) Q E s :=
  call_meetsIn F.slot_dict_pop N.typeIs F.entry_dict_pop (F.args_dict_pop_3 _ _ _) (meetsN_pop N.1 hp x) ⟨hu, k, L, hk, hdep, N, h1, h2⟩
theorem meetsN_len (hd : (d == sysModules) = false) : MeetsIn prog w (Builtin.«dict.__len__» ⟨[.ref d], []⟩) (fun _ R s => ∃ L, NDic w s.heap d L ∧ R (.ok (.ret (.int L.length s.toks))) { s with toks := s.toks + 1 }) :=
  .of_wp fun A R s ⟨L, N, h⟩ => by
    obtain ⟨_, hz, o, es, ep, n, hx⟩ := N
    show wpAny _ _ (dictSize d >>= _) _ _ s
    unfold dictSize
    refine wpAny_bind (wpAny_bind (wpAny_dictEntries n.at_ n.data (wpAny_pure ?_)))
    show wpAny _ _ (Builtin.Dict.pendingCount d >>= _) _ _ s
    refine wpAny_bind (wpAny_pendingCount_other hd ?_)
    refine wpAny_ret_mkInt ?_
    rw [Nat.add_zero, n.size]; exact h
theorem call_len_n {Q : Value → Shared → Prop} (N : NDic w s.heap d L) (h : Q (.int L.length (s.toks + 1)) { s with toks := s.toks + 1 + 1 }) : wpAny (model prog w) A (call (.builtin "len") [.ref d]) Q E s := by
  have hT := N.typeIs
  have hfit : ((L.length : Nat) : Int) < 2 ^ 63 := by have := N.2.1; rw [sizeLine_eq] at this; omega
  refine Calls.call_function_entry kind_len plain_len entry_len (args_len1 _) ?_
  unfold Builtin.«len»
  refine wpAny_bind (m := oneArg "len" _) (wpAny_pure ?_)
  refine wpAny_bind (m := callSpecial? (.ref d) (Str.ofString "__len__")) (wpAny_callSpecial?_slot (name := Str.ofString "__len__") hT F.slot_dict_len
    (call_meetsIn F.slot_dict_len hT F.entry_dict_len (F.args_dict_len_1 _) (meetsN_len N.1) ⟨L, N, ?_⟩))
  show wpAny _ _ _ _ _ { s with toks := s.toks + 1 }
  refine wpAny_bind (wpAny_holding (wpAny_pure ?_))
  refine wpAny_bind (wpAny_letGo ?_)
  show wpAny _ _ (if ((L.length : Nat) : Int) < 0 then _ else _) _ _ _
  rw [if_neg (by omega)]
  show wpAny _ _ (if ((L.length : Nat) : Int) ≥ 2 ^ 63 then _ else _) _ _ _
  rw [if_neg (by omega)]
  exact wpAny_bind (wpAny_mkInt (wpAny_pure ⟨_, rfl, h⟩))
end
end Sx

/-! PxZm: dicts by data: what the text's forms do. -/
namespace Sx
open PySem L2
section
open PySem.Spec PyProof.Rows
/-! ### keys -/
section
variable {X : Cx} {pins : List (Addr × Obj)} {σ : L2.St} {s : Shared} {F ρ : List Addr} {H : Hp}
mutual
theorem nest_is (I : Inv X pins σ H s) : ∀ {d : D} {v : V} {k : NestedKey} {u : Value}, Rep X.K F ρ H v d → keyN d = some k → RelV v u → NestedIs s.heap k u
  | .non, _, _, u, r, h, q => by
    cases r
    cases h
    obtain rfl : u = Value.none := q
    exact .none
  | .int i, _, _, u, r, h, q => by
    cases r
    cases h
    obtain ⟨t, rfl⟩ := q
    exact .int i t
  | .str x, _, _, u, r, h, q => by
    cases r
    cases h
    obtain ⟨t, rfl⟩ := q
    exact .text x t
  | .tup ds, _, _, u, r, h, q => by
    cases r with
    | tup t r =>
      unfold keyN at h
      obtain ⟨ks, h1, rfl⟩ := Option.map_eq_some_iff.mp h
      obtain rfl := (show u = Value.ref _ from q)
      obtain ⟨its, rv, p, hz⟩ := I.tuple t.sq
      obtain ⟨o, ho, hc, n, hd⟩ := p
      exact .tup ho hc hd (by simpa using nest_all I r h1 rv)
  | .bl _, _, _, _, _, h, _ => by cases h
  | .lst _, _, _, _, _, h, _ => by cases h
  | .ref _, _, _, _, _, h, _ => by cases h
  | .scr _, _, _, _, _, h, _ => by cases h
  | .ntp _, _, _, _, _, h, _ => by cases h
theorem nest_all (I : Inv X pins σ H s) : ∀ {ds : List D} {vs : List V} {ks : List NestedKey} {us : List Value}, Reps X.K F ρ H vs ds → keysN ds = some ks → Vals vs us → NestedAll s.heap ks us
  | [], _, _, _, r, h, q => by
    cases r
    cases h
    cases q
    exact .nil
  | d :: ds, _, _, _, r, h, q => by
    cases r with
    | cons r t =>
      cases q with
      | cons q q' =>
        unfold keysN at h
        split at h
        · rename_i k ks h1 h2
          cases h
          exact .cons (nest_is I r h1 q) (nest_all I t h2 q')
        · cases h
end
end
/-! ### entries -/
def neOf (ns : List NestedKey) (L : List DictEntry) : List NE := List.zipWith (fun n e => ⟨n, e.key, e.val⟩) ns L
theorem entR_ne {w : World} : ∀ {L : List DictEntry} {ks vs : List V} {ds : List D} {ns : List NestedKey}, EntR w L ks vs ds ns → (neOf ns L).map (NE.ent w) = L ∧ (neOf ns L).map (·.k) = ns ∧ (neOf ns L).length = L.length ∧ ks.length = L.length ∧ vs.length = L.length ∧ ds.length = L.length ∧ ns.length = L.length
  | _, _, _, _, _, .nil => ⟨rfl, rfl, rfl, rfl, rfl, rfl, rfl⟩
  | _, _, _, _, _, .cons (e := e) (nk := nk) h1 h2 h3 h4 h5 t => by
    obtain ⟨a, b, c, d1, d2, d3, d4⟩ := entR_ne t
    refine ⟨?_, ?_, ?_, by simp [d1], by simp [d2], by simp [d3], by simp [d4]⟩
    · show NE.ent w ⟨nk, e.key, e.val⟩ :: _ = _
      congr 1
      obtain ⟨h, k, v⟩ := e
      simp only [NE.ent]
      exact congrArg (fun z => (⟨z, k, v⟩ : DictEntry)) h3.symm
    · show nk :: _ = _
      exact congrArg _ b
    · show Nat.succ _ = Nat.succ _
      exact congrArg _ c
theorem entR_is {X : Cx} {pins : List (Addr × Obj)} {σ : L2.St} {s : Shared} {F ρ : List Addr} {H : Hp} (I : Inv X pins σ H s) : ∀ {L : List DictEntry} {ks vs : List V} {ds : List D} {ns : List NestedKey}, EntR X.w L ks vs ds ns → Reps X.K F ρ H ks ds → ∀ x ∈ neOf ns L, NestedIs s.heap x.k x.key ∧ x.k.depth ≤ 8
  | _, _, _, _, _, .nil, _, x, hx => by cases hx
  | _, _, _, _, _, .cons h1 h2 h3 h4 h5 t, r, x, hx => by
    cases r with
    | cons r rs =>
      rcases List.mem_cons.mp hx with rfl | hx
      · exact ⟨nest_is I r h1 h4, h2⟩
      · exact entR_is I t rs x hx
def AtD (H : Hp) (a : Addr) (L : List DictEntry) : Prop := H a = some (datAt a L) ∨ ∃ od, H a = some (.frz od (datAt a L))
theorem at_obj {X : Cx} {pins : List (Addr × Obj)} {σ : L2.St} {s : Shared} {H : Hp} {a : Addr} {L : List DictEntry} (I : Inv X pins σ H s) (h : AtD H a L) : (a == sysModules) = false ∧ L.length ≤ sizeLine ∧ ∃ o es ep, s.heap.get? a = some o ∧ o.ExactDict ∧ o.data = .dict es ep ∧ es.toList = L := by
  rcases h with h | ⟨od, h⟩
  · exact (I.hok a _ h).1
  · exact (I.hok a _ h).2.1
theorem ndic_of {X : Cx} {pins : List (Addr × Obj)} {σ : L2.St} {s : Shared} {F ρ : List Addr} {H : Hp} {a : Addr} {L : List DictEntry} {ks vs : List V} {ds : List D} {ns : List NestedKey} (I : Inv X pins σ H s) (h : AtD H a L) (hE : EntR X.w L ks vs ds ns) (nd : ns.Nodup) (r : Reps X.K F ρ H ks ds) : NDic X.w s.heap a (neOf ns L) := by
  obtain ⟨h1, h2, o, es, ep, h3, h4, h5, h6⟩ := at_obj I h
  obtain ⟨e1, e2, e3, _⟩ := entR_ne hE
  exact ⟨h1, by rw [e3]; exact h2, o, es, ep, ⟨h3, h5, by rw [e1, h6], entR_is I hE r, by rw [e2]; exact nd⟩, h4⟩
/-! ### the plain side -/
end
def kOk (d : D) : Option NestedKey := match keyN d with
  | some k => if k.depth ≤ 8 then some k else none
  | none => none
theorem kOk_of {d : D} {k : NestedKey} (h : kOk d = some k) : keyN d = some k ∧ k.depth ≤ 8 := by
  unfold kOk at h
  split at h
  · rename_i k' hk
    split at h
    · rename_i hd
      cases h
      exact ⟨hk, hd⟩
    · cases h
  · cases h
def datOf (s : Sto) : D → Option (List (D × D))
  | .ref n => match s[n]? with
    | some (.dat kvs) => some kvs
    | some (.frd kvs) => some kvs
    | _ => none
  | _ => none
def wdatOf (s : Sto) : D → Option (Nat × List (D × D))
  | .ref n => match s[n]? with
    | some (.dat kvs) => some (n, kvs)
    | _ => none
  | _ => none
def idxD (kvs : List (D × D)) (k : NestedKey) : Option Nat := kvs.findIdx? fun p => decide (keyN p.1 = some k)
def datVal (kvs : List (D × D)) (k : NestedKey) : Option D := (idxD kvs k).bind fun j => (kvs[j]?).map (·.2)
def datPut (kvs : List (D × D)) (k : NestedKey) (kd vd : D) : List (D × D) := match idxD kvs k with
  | some j => kvs.modify j fun p => (p.1, vd)
  | none => kvs ++ [(kd, vd)]
def datDrop (kvs : List (D × D)) (k : NestedKey) : List (D × D) := match idxD kvs k with
  | some j => kvs.eraseIdx j
  | none => kvs
def eNewN : EF := fun _ s => .ok (.ref s.length) (s ++ [.dat []])
def opNGet (s : Sto) (a b : D) : Option D := match datOf s a, kOk b with
  | some kvs, some k => datVal kvs k
  | _, _ => none
def setN (s : Sto) (o i d : D) : Option Sto := match wdatOf s o, kOk i with
  | some (n, kvs), some k => if kvs.length < LIM then some (s.set n (.dat (datPut kvs k i d))) else none
  | _, _ => none
def sNSet (fo fi fv : EF) : SF := fun env s => SR.ofR (fv env s) env fun d s1 => SR.ofR (fo env s1) env fun o s2 => SR.ofR (fi env s2) env fun i s3 => match setN s3 o i d with
  | some s4 => .nx env s4
  | none => .no
def getN2 (s : Sto) (o k x : D) : Option D := match datOf s o, kOk k with
  | some kvs, some kk => some ((datVal kvs kk).getD x)
  | _, _ => none
def eNGet2 (fo fk fx : EF) : EF := fun env s => (fo env s).bind fun o s1 => match datOf s1 o with
  | some _ => (fk env s1).bind fun k s2 => (fx env s2).bind fun x s3 => R.of (getN2 s3 o k x) s3
  | none => .no
def setdN (s : Sto) (o k x : D) : Option (D × Sto) := match wdatOf s o, kOk k with
  | some (n, kvs), some kk => if kvs.length < LIM then match datVal kvs kk with
      | some v => some (v, s)
      | none => some (x, s.set n (.dat (datPut kvs kk k x)))
    else none
  | _, _ => none
def eNSetd (fo fk fx : EF) : EF := fun env s => (fo env s).bind fun o s1 => match wdatOf s1 o with
  | some _ => (fk env s1).bind fun k s2 => (fx env s2).bind fun x s3 => match setdN s3 o k x with
    | some q => .ok q.1 q.2
    | none => .no
  | none => .no
def isTup : D → Bool
  | .tup _ => true
  | _ => false
def popN (s : Sto) (o k x : D) : Option (D × Sto) := match wdatOf s o, kOk k with
  | some (n, kvs), some kk => if isTup k then none else match datVal kvs kk with
      | some v => some (v, s.set n (.dat (datDrop kvs kk)))
      | none => some (x, s)
  | _, _ => none
def eNPop2 (fo fk fx : EF) : EF := fun env s => (fo env s).bind fun o s1 => match wdatOf s1 o with
  | some _ => (fk env s1).bind fun k s2 => (fx env s2).bind fun x s3 => match popN s3 o k x with
    | some q => .ok q.1 q.2
    | none => .no
  | none => .no
def fLenN (s : Sto) (as : List D) : Option D := match as with
  | [a] => (datOf s a).map fun kvs => .int kvs.length
  | _ => none
section
open PySem.Spec PyProof.Rows
/-! ### both sides -/
theorem idx_eq {w : World} (k : NestedKey) : ∀ {L : List DictEntry} {ks vs : List V} {kvs : List (D × D)} {ns : List NestedKey}, EntR w L ks vs (kvs.map (·.1)) ns → idxN (neOf ns L) k = idxD kvs k
  | _, _, _, [], _, .nil => rfl
  | _, _, _, p :: kvs, _, .cons (nk := nk) h1 h2 h3 h4 h5 t => by
    have ih := idx_eq k t
    unfold idxN idxD at *
    have e : decide (nk = k) = decide (some nk = some k) := decide_eq_decide.mpr ⟨fun q => by rw [q], fun q => by cases q; rfl⟩
    show List.findIdx? _ (_ :: neOf _ _) = _
    rw [List.findIdx?_cons, List.findIdx?_cons, ih, h1, ← e]
theorem entR_get {w : World} : ∀ {L : List DictEntry} {ks vs : List V} {ds : List D} {ns : List NestedKey} (_ : EntR w L ks vs ds ns) (j : Nat) (x : NE), (neOf ns L)[j]? = some x → ∃ kv vv, ks[j]? = some kv ∧ vs[j]? = some vv ∧ RelV kv x.key ∧ RelV vv x.val
  | _, _, _, _, _, .nil, j, x, h => by cases h
  | _, _, _, _, _, .cons h1 h2 h3 h4 h5 t, 0, x, h => by cases h; exact ⟨_, _, rfl, rfl, h4, h5⟩
  | _, _, _, _, _, .cons h1 h2 h3 h4 h5 t, j + 1, x, h => entR_get t j x h
theorem val_dat {K : PySem.W.Frag} {w : World} {F ρ : List Addr} {H : Hp} {L : List DictEntry} {ks vs : List V} {kvs : List (D × D)} {ns : List NestedKey} (k : NestedKey) (hE : EntR w L ks vs (kvs.map (·.1)) ns) (r : Reps K F ρ H vs (kvs.map (·.2))) :
    (datVal kvs k = none → valAt (neOf ns L) k = none) ∧ ∀ d, datVal kvs k = some d → ∃ u v, valAt (neOf ns L) k = some u ∧ RelV v u ∧ Rep K F ρ H v d := by
  have hi := idx_eq k hE
  obtain ⟨e1, e2, e3, e4, e5, e6, e7⟩ := entR_ne hE
  unfold datVal valAt
  rw [hi]
  cases hj : idxD kvs k with
  | none => exact ⟨fun _ => rfl, fun d h => (by cases h)⟩
  | some j =>
    have hlt : j < kvs.length := (List.findIdx?_eq_some_iff_getElem.mp hj).1
    have hlt2 : j < (neOf ns L).length := by rw [e3, ← e6, List.length_map]; exact hlt
    simp only [Option.bind_some, List.getElem?_eq_getElem hlt, List.getElem?_eq_getElem hlt2, Option.map_some]
    refine ⟨fun h => (by cases h), fun d h => ?_⟩
    cases h
    obtain ⟨kv, vv, _, h2, _, h4⟩ := entR_get hE j _ (List.getElem?_eq_getElem hlt2)
    have hd : (kvs.map (·.2))[j]? = some kvs[j].2 := by rw [List.getElem?_map, List.getElem?_eq_getElem hlt]; rfl
    obtain ⟨vv', h5, h6⟩ := r.get hd
    rw [h2] at h5
    cases h5
    exact ⟨_, _, rfl, h4, h6⟩
theorem EntR.snoc {w : World} {kv vv : V} {kd : D} {nk : NestedKey} {e : DictEntry} (h1 : keyN kd = some nk) (h2 : nk.depth ≤ 8) (h3 : e.hash = nk.hash w) (h4 : RelV kv e.key) (h5 : RelV vv e.val) :
    ∀ {L : List DictEntry} {ks vs : List V} {ds : List D} {ns : List NestedKey}, EntR w L ks vs ds ns → EntR w (L ++ [e]) (ks ++ [kv]) (vs ++ [vv]) (ds ++ [kd]) (ns ++ [nk])
  | _, _, _, _, _, .nil => .cons h1 h2 h3 h4 h5 .nil
  | _, _, _, _, _, .cons a b c d f t => .cons a b c d f (EntR.snoc h1 h2 h3 h4 h5 t)
theorem EntR.setv {w : World} {vv : V} {u : Value} (h5 : RelV vv u) : ∀ {L : List DictEntry} {ks vs : List V} {ds : List D} {ns : List NestedKey} (_ : EntR w L ks vs ds ns) (j : Nat), EntR w (L.modify j fun e => { e with val := u }) ks (vs.set j vv) ds ns
  | _, _, _, _, _, .nil, j => by cases j <;> exact .nil
  | _, _, _, _, _, .cons a b c d f t, 0 => .cons a b c d h5 t
  | _, _, _, _, _, .cons a b c d f t, j + 1 => by
    rw [List.modify_succ_cons]
    exact .cons a b c d f (EntR.setv h5 t j)
theorem EntR.drop {w : World} : ∀ {L : List DictEntry} {ks vs : List V} {ds : List D} {ns : List NestedKey} (_ : EntR w L ks vs ds ns) (j : Nat), EntR w (L.eraseIdx j) (ks.eraseIdx j) (vs.eraseIdx j) (ds.eraseIdx j) (ns.eraseIdx j)
  | _, _, _, _, _, .nil, j => .nil
  | _, _, _, _, _, .cons a b c d f t, 0 => t
  | _, _, _, _, _, .cons a b c d f t, j + 1 => .cons a b c d f (EntR.drop t j)
theorem map_modify1 : ∀ (kvs : List (D × D)) (j : Nat) (vd : D), (kvs.modify j fun p => (p.1, vd)).map (·.1) = kvs.map (·.1) ∧ (kvs.modify j fun p => (p.1, vd)).map (·.2) = (kvs.map (·.2)).set j vd
  | [], j, vd => by cases j <;> exact ⟨rfl, rfl⟩
  | p :: kvs, 0, vd => ⟨rfl, rfl⟩
  | p :: kvs, j + 1, vd => by
    obtain ⟨a, b⟩ := map_modify1 kvs j vd
    rw [List.modify_succ_cons, List.map_cons, List.map_cons, List.map_cons, List.map_cons, List.set_cons_succ, a, b]
    exact ⟨rfl, rfl⟩
theorem map_erase1 {α β : Type} (f : α → β) : ∀ (l : List α) (j : Nat), (l.eraseIdx j).map f = (l.map f).eraseIdx j
  | [], _ => rfl
  | _ :: _, 0 => rfl
  | x :: l, j + 1 => by
    show f x :: (l.eraseIdx j).map f = f x :: (l.map f).eraseIdx j
    rw [map_erase1 f l j]
/-- the entries behind d[k] = v -/
theorem datR_put {K : PySem.W.Frag} {w : World} {F ρ : List Addr} {H : Hp} {L : List DictEntry} {kvs : List (D × D)} {kd vd : D} {kv vv : V} {k : NestedKey} {key u : Value} {ks vs : List V} {ns : List NestedKey}
    (hE : EntR w L ks vs (kvs.map (·.1)) ns) (nd : ns.Nodup) (r1 : Reps K F ρ H ks (kvs.map (·.1))) (r2 : Reps K F ρ H vs (kvs.map (·.2))) (hk : kOk kd = some k) (rk : Rep K F ρ H kv kd) (rv : Rep K F ρ H vv vd) (qk : RelV kv key) (qv : RelV vv u) :
    DatR K w F ρ H ((putE (neOf ns L) k key u).map (NE.ent w)) (datPut kvs k kd vd) ∧ (putE (neOf ns L) k key u).length ≤ L.length + 1 := by
  obtain ⟨hk1, hk2⟩ := kOk_of hk
  have hi := idx_eq k hE
  obtain ⟨e1, e2, e3, e4, e5, e6, e7⟩ := entR_ne hE
  unfold putE datPut
  rw [hi]
  cases hj : idxD kvs k with
  | none =>
    simp only
    rw [List.map_append, e1]
    refine ⟨⟨ks ++ [kv], vs ++ [vv], ns ++ [k], ?_, ?_, ?_, ?_⟩, by rw [List.length_append, e3]; exact Nat.le_refl _⟩
    · rw [List.map_append]
      exact hE.snoc hk1 hk2 rfl qk qv
    · rw [List.nodup_append]
      refine ⟨nd, by simp, fun a ha b hb => ?_⟩
      simp at hb
      subst hb
      intro q
      subst q
      rw [hj] at hi
      unfold idxN at hi
      rw [List.findIdx?_eq_none_iff] at hi
      rw [← e2] at ha
      obtain ⟨x, hx, q⟩ := List.mem_map.mp ha
      have := hi x hx
      rw [q] at this
      simp at this
    · rw [List.map_append]
      exact r1.snoc rk
    · rw [List.map_append]
      exact r2.snoc rv
  | some j =>
    simp only
    obtain ⟨m1, m2⟩ := map_modify1 kvs j vd
    rw [← modify_map, e1]
    refine ⟨⟨ks, vs.set j vv, ns, ?_, nd, by rw [m1]; exact r1, by rw [m2]; exact r2.set rv j⟩, by rw [List.length_modify, e3]; omega⟩
    rw [m1]
    exact hE.setv qv j
theorem datR_drop {K : PySem.W.Frag} {w : World} {F ρ : List Addr} {H : Hp} {L : List DictEntry} {kvs : List (D × D)} {k : NestedKey} {ks vs : List V} {ns : List NestedKey}
    (hE : EntR w L ks vs (kvs.map (·.1)) ns) (nd : ns.Nodup) (r1 : Reps K F ρ H ks (kvs.map (·.1))) (r2 : Reps K F ρ H vs (kvs.map (·.2))) :
    DatR K w F ρ H ((dropE (neOf ns L) k).map (NE.ent w)) (datDrop kvs k) ∧ (dropE (neOf ns L) k).length ≤ L.length := by
  have hi := idx_eq k hE
  obtain ⟨e1, e2, e3, e4, e5, e6, e7⟩ := entR_ne hE
  unfold dropE datDrop
  rw [hi]
  cases hj : idxD kvs k with
  | none =>
    simp only
    rw [e1]
    exact ⟨⟨ks, vs, ns, hE, nd, r1, r2⟩, by omega⟩
  | some j =>
    simp only
    rw [← eraseIdx_map1, e1]
    refine ⟨⟨ks.eraseIdx j, vs.eraseIdx j, ns.eraseIdx j, ?_, nd.sublist (List.eraseIdx_sublist _ _), ?_, ?_⟩, by rw [← e3]; exact (List.eraseIdx_sublist _ _).length_le⟩
    · rw [map_erase1]
      exact hE.drop j
    · rw [map_erase1]
      exact r1.erase j
    · rw [map_erase1]
      exact r2.erase j
end
end Sx

/-! PxZn: dicts by data: the rules. -/
namespace Sx
open PySem L2
section
open PySem.Spec PyProof.Rows
theorem dat_stable {a : Addr} {L : List DictEntry} (h1 h2 : Heap) (x : (a == sysModules) = false ∧ L.length ≤ sizeLine ∧ ∃ o es ep, h1.get? a = some o ∧ o.ExactDict ∧ o.data = .dict es ep ∧ es.toList = L) (k : ∀ o, h1.get? a = some o → h2.get? a = some o) :
    (a == sysModules) = false ∧ L.length ≤ sizeLine ∧ ∃ o es ep, h2.get? a = some o ∧ o.ExactDict ∧ o.data = .dict es ep ∧ es.toList = L := by
  obtain ⟨e1, e2, o, es, ep, e3, e4⟩ := x
  exact ⟨e1, e2, o, es, ep, k _ e3, e4⟩
theorem dat_ok {P : Program} {w : World} {H : Hp} {h : Heap} {a : Addr} {L : List DictEntry} (h1 : (a == sysModules) = false) (h2 : L.length ≤ sizeLine) {o : Obj} {es : Array DictEntry} {ep : Nat} (h3 : h.get? a = some o) (h4 : o.ExactDict) (h5 : o.data = .dict es ep) (h6 : es.toList = L) : ObjOk P w H h a (datAt a L) :=
  ⟨⟨h1, h2, o, es, ep, h3, h4, h5, h6⟩, ⟨o, h3⟩, dat_stable⟩
section
variable {K : PySem.W.Frag} {G : SCtx} {F ρ : List Addr} {H : Hp} {s : Sto}
theorem nd_at (hs : SRel K G F ρ H s) {v : V} {d : D} {kvs : List (D × D)} (r : Rep K F ρ H v d) (h : datOf s d = some kvs) : ∃ a n L, v = .ref a ∧ d = .ref n ∧ ρ[n]? = some a ∧ AtD H a L ∧ DatR K G.w F ρ H L kvs := by
  unfold datOf at h
  split at h
  · rename_i n
    split at h
    · rename_i x hx
      cases h
      cases r with
      | ref q =>
        obtain ⟨L, h1, h2⟩ := hs.obs n _ _ q hx
        exact ⟨_, n, L, rfl, rfl, q, .inl h1, h2⟩
    · rename_i x hx
      cases h
      cases r with
      | ref q =>
        obtain ⟨od, L, h1, h2⟩ := hs.obs n _ _ q hx
        exact ⟨_, n, L, rfl, rfl, q, .inr ⟨od, h1⟩, h2⟩
    · cases h
  · cases h
theorem wnd_at (hs : SRel K G F ρ H s) {v : V} {d : D} {n : Nat} {kvs : List (D × D)} (r : Rep K F ρ H v d) (h : wdatOf s d = some (n, kvs)) : ∃ a L, v = .ref a ∧ d = .ref n ∧ ρ[n]? = some a ∧ H a = some (datAt a L) ∧ DatR K G.w F ρ H L kvs := by
  unfold wdatOf at h
  split at h
  · split at h
    · rename_i x hx
      cases h
      cases r with
      | ref q =>
        obtain ⟨L, h1, h2⟩ := hs.obs _ _ _ q hx
        exact ⟨_, L, rfl, rfl, q, h1, h2⟩
    · cases h
  · cases h
end
section
variable {X : Cx} {G : SCtx} {W : WX} {pos pos' : Pos} {e a b c : Expr} {f f1 f2 f3 : EF} {apos : Pos}
/-- an expression is run, what is left stands behind it -/
theorem se_run (h : SE X G W e f) {pins : List (Addr × Obj)} {s0 : Shared} {σ : L2.St} {H : Hp} {F ρ : List Addr} {env : Env} {s : Sto} {β : Type} {k : D → Sto → R β} {N : β → Sto → List Addr → Hp → Prop} (I : Inv X pins σ H s0) (he : EnvR X.K F ρ H σ env) (hs : SRel X.K G F ρ H s)
    (hp : Pst X.K G F ρ H ((f env s).bind k) N (eW G W σ)) : wpAny (model X.prog X.w) X.A (eval e X.env) (fun u s1 => ∃ x H1 ρ1 t1 d, Inv X pins σ H1 s1 ∧ RelV x u ∧ EnvR X.K F ρ1 H1 σ env ∧ SRel X.K G F ρ1 H1 t1 ∧ Ext ρ H ρ1 H1 ∧ Rep X.K F ρ1 H1 x d ∧ Pst X.K G F ρ1 H1 (k d t1) N (eW G W σ)) X.xe s0 :=
  thn (h.run pins s0 σ H (fun x H1 => ∃ ρ1 t1 d, EnvR X.K F ρ1 H1 σ env ∧ SRel X.K G F ρ1 H1 t1 ∧ Ext ρ H ρ1 H1 ∧ Rep X.K F ρ1 H1 x d ∧ Pst X.K G F ρ1 H1 (k d t1) N (eW G W σ)) I (tE.step he hs hp fun d s1 ρ1 H1 v _ he1 hs1 e1 r1 hp1 => ⟨ρ1, s1, d, he1, hs1, e1, r1, hp1⟩))
    fun u s1 ⟨x, H1, I1, rx, ρ1, t1, d, q1, q2, q3, q4, q5⟩ => ⟨x, H1, ρ1, t1, d, I1, rx, q1, q2, q3, q4, q5⟩
theorem se_runS (h : SE X G W e f) {pins : List (Addr × Obj)} {s0 : Shared} {σ : L2.St} {H : Hp} {F ρ : List Addr} {env : Env} {s : Sto} {k : D → Sto → SR} {D0 : Ends} (I : Inv X pins σ H s0) (he : EnvR X.K F ρ H σ env) (hs : SRel X.K G F ρ H s)
    (hp : PstS X.K G W F ρ H (SR.ofR (f env s) env k) D0) : wpAny (model X.prog X.w) X.A (eval e X.env) (fun u s1 => ∃ x H1 ρ1 t1 d, Inv X pins σ H1 s1 ∧ RelV x u ∧ EnvR X.K F ρ1 H1 σ env ∧ SRel X.K G F ρ1 H1 t1 ∧ Ext ρ H ρ1 H1 ∧ Rep X.K F ρ1 H1 x d ∧ PstS X.K G W F ρ1 H1 (k d t1) D0) X.xe s0 :=
  thn (h.run pins s0 σ H (fun x H1 => ∃ ρ1 t1 d, EnvR X.K F ρ1 H1 σ env ∧ SRel X.K G F ρ1 H1 t1 ∧ Ext ρ H ρ1 H1 ∧ Rep X.K F ρ1 H1 x d ∧ PstS X.K G W F ρ1 H1 (k d t1) D0) I (tE.first he hs hp fun d s1 ρ1 H1 v he1 hs1 e1 r1 hp1 => ⟨ρ1, s1, d, he1, hs1, e1, r1, hp1⟩))
    fun u s1 ⟨x, H1, I1, rx, ρ1, t1, d, q1, q2, q3, q4, q5⟩ => ⟨x, H1, ρ1, t1, d, I1, rx, q1, q2, q3, q4, q5⟩
theorem room9 (hu : X.A.units + 64 < cLine) : X.A.in1.units + 8 < cLine := by show X.A.units + 1 + 8 < cLine; omega
theorem s_nnew : SE X G W (.Dict [] [] pos) eNewN := by
  refine ⟨fun pins s0 σ H Q I h => ?_⟩
  obtain ⟨F, ρ, env, s, he, hs, hp⟩ := h
  have hp0 := I.hok.fresh (Nat.le_refl _)
  have hb : (s0.heap.objs.size == sysModules) = false := beq_eq_false_iff_ne.mpr (Ne.symm (Nat.ne_of_lt I.big))
  refine wpAny_Dict_empty ⟨.ref s0.heap.objs.size, _, I.laid (o := datAt s0.heap.objs.size []) (t' := s0.toks) (fun _ _ q => Heap.get?_push_of_some _ q) (Nat.le_refl _) (dat_ok hb (Nat.zero_le _) (Heap.get?_push_size _ rfl) ⟨rfl, rfl, rfl⟩ rfl rfl), rfl, ?_⟩
  have hr : SRel X.K G F (ρ ++ [s0.heap.objs.size]) (upd H s0.heap.objs.size (datAt s0.heap.objs.size [])) (s ++ [.dat []]) := hs.alloc hp0 ⟨[], upd_same, [], [], [], .nil, List.nodup_nil, .nil, .nil⟩
  refine hp _ _ (Ext.alloc ρ hp0) hr _ (.ref ?_)
  rw [← hs.len]
  simp
/-- what the lookup gives -/
theorem nget_at (hw : G.w = X.w) {pins : List (Addr × Obj)} {σ : L2.St} {s0 : Shared} {H : Hp} {F ρ : List Addr} {s : Sto} {x y : V} {o i : D} {u : Value} {kvs : List (D × D)} {k : NestedKey} (I : Inv X pins σ H s0) (hs : SRel X.K G F ρ H s) (r1 : Rep X.K F ρ H x o) (h1 : datOf s o = some kvs) (r2 : Rep X.K F ρ H y i) (h2 : kOk i = some k) (q : RelV y u) :
    ∃ a L, x = .ref a ∧ NDic X.w s0.heap a L ∧ NestedIs s0.heap k u ∧ k.depth ≤ 8 ∧ L.length = kvs.length ∧ (datVal kvs k = none → valAt L k = none) ∧ ∀ d, datVal kvs k = some d → ∃ u v, valAt L k = some u ∧ RelV v u ∧ Rep X.K F ρ H v d := by
  obtain ⟨a, n, L, rfl, rfl, hr, hA, ks, vs, ns, hE, nd, p1, p2⟩ := nd_at hs r1 h1
  rw [hw] at hE
  obtain ⟨hk1, hk2⟩ := kOk_of h2
  obtain ⟨e1, e2, e3, e4, e5, e6, e7⟩ := entR_ne hE
  exact ⟨a, _, rfl, ndic_of I hA hE nd p1, nest_is I r2 hk1 q, hk2, by rw [e3, ← e6, List.length_map], val_dat k hE p2⟩
theorem s_nget (hw : G.w = X.w) (hu : X.A.units + 64 < cLine) (ha : SE X G W a f1) (hb : SE X G W b f2) (hn : NoSl b := by exact fun _ _ => rfl) : SE X G W (.Subscript a b pos) (eOp opNGet f1 f2) := by
  refine ⟨fun pins s0 σ H Q I h => ?_⟩
  obtain ⟨F, ρ, env, s, he, hs, hp⟩ := h
  refine subD_of PySem.F.slot_dict_getitem.lookup hn (thn (se_run ha I he hs hp) fun u s1 ⟨x, H1, ρ1, t1, o, I1, rx, he1, hs1, e1, r1, hp1⟩ => thn (se_run hb I1 he1 hs1 hp1) fun iv s2 ⟨y, H2, ρ2, t2, i, I2, ry, he2, hs2, e2, r2, hp2⟩ => ?_)
  obtain ⟨z, hz, hp3⟩ := hp2.off
  unfold opNGet at hz
  split at hz
  · rename_i kvs k h1 h2
    obtain ⟨a', L, rfl, N, nk, dep, _, _, hv⟩ := nget_at hw I2 hs2 (r1.ext e2) h1 r2 h2 ry
    obtain ⟨u', v, h3, h4, h5⟩ := hv z hz
    obtain rfl : u = Value.ref a' := rx
    exact ⟨N.typeIs, getItem_n (room9 hu) nk dep N h3 ⟨v, H2, I2.tok _, h4, hp3.here hs2 v h5⟩⟩
  · cases hz
theorem nnoDict {X : Cx} {s0 : Shared} {a : Addr} {L : List NE} {w : World} (N : NDic w s0.heap a L) : ∀ b, Value.ref a = .ref b → ∃ ob, s0.heap.get? b = some ob ∧ ob.dict = none := fun b q => by
  cases q
  obtain ⟨_, _, o, es, ep, n, hx⟩ := N
  exact ⟨o, n.at_, hx.2.1⟩
theorem ndic_at (hw : G.w = X.w) {pins : List (Addr × Obj)} {σ : L2.St} {s0 : Shared} {H : Hp} {F ρ : List Addr} {s : Sto} {x : V} {o : D} {kvs : List (D × D)} (I : Inv X pins σ H s0) (hs : SRel X.K G F ρ H s) (r1 : Rep X.K F ρ H x o) (h1 : datOf s o = some kvs) : ∃ a L, x = .ref a ∧ NDic X.w s0.heap a L ∧ L.length = kvs.length := by
  obtain ⟨a, n, L, rfl, rfl, hr, hA, ks, vs, ns, hE, nd, p1, p2⟩ := nd_at hs r1 h1
  rw [hw] at hE
  obtain ⟨e1, e2, e3, e4, e5, e6, e7⟩ := entR_ne hE
  exact ⟨a, _, rfl, ndic_of I hA hE nd p1, by rw [e3, ← e6, List.length_map]⟩
theorem wdat_dat {s : Sto} {o : D} {p : Nat × List (D × D)} (h : wdatOf s o = some p) : datOf s o = some p.2 := by
  unfold wdatOf at h
  split at h
  · rename_i n
    split at h
    · rename_i x hx
      cases h
      simp only [datOf, hx]
    · cases h
  · cases h
theorem s_nget2 (hw : G.w = X.w) (hu : X.A.units + 64 < cLine) (ho : SE X G W a f1) (hk : SE X G W b f2) (hx : SE X G W c f3) (m : M2 X a "get" apos b c pos) : SE X G W (.Call (.Attribute a "get" apos) [b, c] [] pos) (eNGet2 f1 f2 f3) := by
  refine ⟨fun pins s0 σ H Q I h => ?_⟩
  obtain ⟨F, ρ, env, s, he, hs, hp⟩ := h
  refine wpAny_Call_method m.base m.few m.line PySem.F.plainAttrs_dict PySem.F.slot_dict_get PySem.F.type_dict_get (thn (se_run ho I he hs hp) fun u s1 ⟨x, H1, ρ1, t1, o, I1, rx, he1, hs1, e1, r1, hp1⟩ => ?_)
  split at hp1
  · rename_i kvs0 h0
    obtain ⟨a0, L0, rfl, N0, _⟩ := ndic_at hw I1 hs1 r1 h0
    obtain rfl : u = Value.ref a0 := rx
    refine ⟨N0.typeIs, nnoDict (X := X) N0, ?_⟩
    rw [m.trees]
    refine Calls.callWith_builtin rfl (Calls.evalArgs_plain (Calls.spliced_cons (thn (se_run hk I1 he1 hs1 hp1) fun iv s2 ⟨y, H2, ρ2, t2, i, I2, ry, he2, hs2, e2, r2, hp2⟩ =>
      Calls.spliced_cons (thn (se_run hx I2 he2 hs2 hp2) fun fv s3 ⟨z, H3, ρ3, t3, xd, I3, rz, he3, hs3, e3, r3, hp3⟩ => Calls.spliced_nil ?_))))
    obtain ⟨q, hq, hp4⟩ := hp3.off
    unfold getN2 at hq
    split at hq
    · rename_i kvs k h1 h2
      cases hq
      obtain ⟨a', L, ea, N, nk, dep, _, hn, hv⟩ := nget_at hw I3 hs3 ((r1.ext e2).ext e3) h1 (r2.ext e3) h2 ry
      cases ea
      refine call_get_n (room9 hu) nk dep N ?_
      cases hd : datVal kvs k with
      | none =>
        rw [hd] at hp4
        rw [hn hd]
        exact ⟨z, H3, I3.tok _, rz, hp4.here hs3 z r3⟩
      | some d =>
        rw [hd] at hp4
        obtain ⟨u', v, h3, h4, h5⟩ := hv d hd
        rw [h3]
        exact ⟨v, H3, I3.tok _, h4, hp4.here hs3 v h5⟩
    · cases hq
  · exact hp1.elim
/-- the state behind a change of the dict -/
theorem put_inv {pins : List (Addr × Obj)} {σ : L2.St} {s0 : Shared} {H : Hp} {a0 : Addr} {L : List DictEntry} {L' : List NE} {h' : Heap} {t' : Nat} (I : Inv X pins σ H s0) (hA : H a0 = some (datAt a0 L)) (hd : (a0 == sysModules) = false) (hl : L'.length ≤ sizeLine) (p : PutOk X.w h' a0 L') (hs : Heap.SameBut a0 s0.heap h') :
    Inv X pins σ (upd H a0 (datAt a0 (L'.map (NE.ent X.w)))) { s0 with heap := h', toks := t' } := by
  obtain ⟨o, es, ep, h3, h4, h5, h6⟩ := p
  exact d_write I (by rw [hA]; exact True.intro) hs ⟨o, h3⟩ (dat_ok hd (by rw [List.length_map]; exact hl) h3 h4 h5 h6)
theorem nf_dat {H : Hp} {a : Addr} {L : List DictEntry} (h : H a = some (datAt a L)) : ∀ od v, H a ≠ some (.frz od v) := fun od v z => by rw [h] at z; cases z
theorem ss_nput (hw : G.w = X.w) (hu : X.A.units + 64 < cLine) (ha : SE X G W a f1) (hb : SE X G W b f2) (hc : SE X G W c f3) (hsw : swapsWith c (some (.Subscript a b pos')) pos.line X.env = pure false := by rfl) :
    SS X G W (.Assign [.Subscript a b pos'] c pos) (sNSet f1 f2 f3) := by
  refine ⟨fun pins s0 σ H D I h => ?_⟩
  obtain ⟨F, ρ, env, s, he, hs, hp⟩ := h
  refine wpAny_Assign_Subscript (thn (se_runS hc I he hs hp) fun r s1 ⟨v, H1, ρ1, t1, vd, I1, rv, he1, hs1, e1, r1, hp1⟩ => thn (se_runS ha I1 he1 hs1 hp1) fun u s2 ⟨x, H2, ρ2, t2, o, I2, rx, he2, hs2, e2, r2, hp2⟩ => thn (se_runS hb I2 he2 hs2 hp2) fun iv s3 ⟨y, H3, ρ3, t3, i, I3, ry, he3, hs3, e3, r3, hp3⟩ => ?_) hsw
  split at hp3
  · rename_i s4 hz
    unfold setN at hz
    split at hz
    · rename_i n kvs k h1 h2
      split at hz
      · rename_i hl
        cases hz
        obtain ⟨a0, L, rfl, rfl, hr, hA, ks, vs, ns, hE, nd, p1, p2⟩ := wnd_at hs3 (r2.ext e3) h1
        obtain rfl : u = Value.ref a0 := rx
        rw [hw] at hE
        obtain ⟨hk1, hk2⟩ := kOk_of h2
        have N := ndic_of I3 (.inl hA) hE nd p1
        obtain ⟨x1, x2, x3, x4, x5, x6, x7⟩ := entR_ne hE
        obtain ⟨dr, hlen⟩ := datR_put hE nd p1 p2 h2 r3 ((r1.ext e2).ext e3) ry rv
        have hlk : L.length < LIM := by rw [← x6, List.length_map]; exact hl
        refine setItem_n (room9 hu) (nest_is I3 r3 hk1 ry) hk2 N fun h' po sb => ?_
        have I4 := put_inv (t' := s3.toks + k.draws) I3 hA N.1 (by rw [sizeLine_eq]; simp only [LIM] at hlk; omega) po sb
        have hm := List.mem_of_getElem? hr
        have ex := Ext.put (o := datAt a0 ((putE (neOf ns L) k iv r).map (NE.ent X.w))) hm (nf_dat hA)
        obtain ⟨ks', vs', ns', q1, q2, q3, q4⟩ := dr
        exact ⟨σ, _, I4, hp3 ρ3 _ σ ex (hs3.put hr ⟨_, upd_same, ks', vs', ns', by rw [hw]; exact q1, q2, q3.ext ex, q4.ext ex⟩) (he3.ext ex)⟩
      · cases hz
    · cases hz
  · exact hp3.elim
theorem s_nsetd (hw : G.w = X.w) (hu : X.A.units + 64 < cLine) (ho : SE X G W a f1) (hk : SE X G W b f2) (hx : SE X G W c f3) (m : M2 X a "setdefault" apos b c pos) : SE X G W (.Call (.Attribute a "setdefault" apos) [b, c] [] pos) (eNSetd f1 f2 f3) := by
  refine ⟨fun pins s0 σ H Q I h => ?_⟩
  obtain ⟨F, ρ, env, s, he, hs, hp⟩ := h
  refine wpAny_Call_method m.base m.few m.line PySem.F.plainAttrs_dict PySem.F.slot_dict_setdefault PySem.F.type_dict_setdefault (thn (se_run ho I he hs hp) fun u s1 ⟨x, H1, ρ1, t1, o, I1, rx, he1, hs1, e1, r1, hp1⟩ => ?_)
  split at hp1
  · rename_i kvs0 h0
    obtain ⟨a0, L0, rfl, N0, _⟩ := ndic_at hw I1 hs1 r1 (wdat_dat h0)
    obtain rfl : u = Value.ref a0 := rx
    refine ⟨N0.typeIs, nnoDict (X := X) N0, ?_⟩
    rw [m.trees]
    refine Calls.callWith_builtin rfl (Calls.evalArgs_plain (Calls.spliced_cons (thn (se_run hk I1 he1 hs1 hp1) fun iv s2 ⟨y, H2, ρ2, t2, i, I2, ry, he2, hs2, e2, r2, hp2⟩ =>
      Calls.spliced_cons (thn (se_run hx I2 he2 hs2 hp2) fun fv s3 ⟨z, H3, ρ3, t3, xd, I3, rz, he3, hs3, e3, r3, hp3⟩ => Calls.spliced_nil ?_))))
    split at hp3
    · rename_i q hq
      unfold setdN at hq
      split at hq
      · rename_i n kvs k h1 h2
        split at hq
        · rename_i hl
          obtain ⟨a', L, ea, en, hr, hA, ks, vs, ns, hE, nd, p1, p2⟩ := wnd_at hs3 ((r1.ext e2).ext e3) h1
          cases ea
          rw [hw] at hE
          obtain ⟨hk1, hk2⟩ := kOk_of h2
          have N := ndic_of I3 (.inl hA) hE nd p1
          obtain ⟨x1, x2, x3, x4, x5, x6, x7⟩ := entR_ne hE
          obtain ⟨hv1, hv2⟩ := val_dat k hE p2
          have hlk : L.length < LIM := by rw [← x6, List.length_map]; exact hl
          refine call_setdefault_n (room9 hu) (nest_is I3 (r2.ext e3) hk1 ry) hk2 N (fun v hv => ?_) fun hn h' po sb => ?_
          · split at hq
            · rename_i d hd
              cases hq
              obtain ⟨u', v', h3, h4, h5⟩ := hv2 d hd
              rw [h3] at hv
              cases hv
              exact ⟨v', H3, I3.tok _, h4, hp3.here hs3 v' h5⟩
            · rename_i hd
              rw [hv1 hd] at hv
              cases hv
          · split at hq
            · rename_i d hd
              obtain ⟨u', v', h3, h4, h5⟩ := hv2 d hd
              rw [h3] at hn
              cases hn
            · rename_i hd
              cases hq
              obtain ⟨dr, hlen⟩ := datR_put hE nd p1 p2 h2 (r2.ext e3) r3 ry rz
              have I4 := put_inv (t' := s3.toks + k.draws) I3 hA N.1 (by rw [sizeLine_eq]; simp only [LIM] at hlk; omega) po sb
              have hm := List.mem_of_getElem? hr
              have ex := Ext.put (o := datAt a0 ((putE (neOf ns L) k iv fv).map (NE.ent X.w))) hm (nf_dat hA)
              obtain ⟨ks', vs', ns', q1, q2, q3, q4⟩ := dr
              exact ⟨z, _, I4, rz, hp3 ρ3 _ ex (hs3.put hr ⟨_, upd_same, ks', vs', ns', by rw [hw]; exact q1, q2, q3.ext ex, q4.ext ex⟩) z (r3.ext ex)⟩
        · cases hq
      · cases hq
    · exact hp3.elim
  · exact hp1.elim
theorem keyPart_some {K : PySem.W.Frag} {F ρ : List Addr} {H : Hp} {y : V} {i : D} {k : NestedKey} {u : Value} (r : Rep K F ρ H y i) (hk : keyN i = some k) (ht : isTup i = false) (q : RelV y u) : (keyPart u).isSome = true := by
  cases r with
  | non => obtain rfl : u = Value.none := q; rfl
  | int => obtain ⟨t, rfl⟩ := q; rfl
  | str => obtain ⟨t, rfl⟩ := q; rfl
  | tup => cases ht
  | _ => cases hk
theorem s_npop2 (hw : G.w = X.w) (hu : X.A.units + 64 < cLine) (ho : SE X G W a f1) (hk : SE X G W b f2) (hx : SE X G W c f3) (m : M2 X a "pop" apos b c pos) : SE X G W (.Call (.Attribute a "pop" apos) [b, c] [] pos) (eNPop2 f1 f2 f3) := by
  refine ⟨fun pins s0 σ H Q I h => ?_⟩
  obtain ⟨F, ρ, env, s, he, hs, hp⟩ := h
  refine wpAny_Call_method m.base m.few m.line PySem.F.plainAttrs_dict PySem.F.slot_dict_pop PySem.F.type_dict_pop (thn (se_run ho I he hs hp) fun u s1 ⟨x, H1, ρ1, t1, o, I1, rx, he1, hs1, e1, r1, hp1⟩ => ?_)
  split at hp1
  · rename_i kvs0 h0
    obtain ⟨a0, L0, rfl, N0, _⟩ := ndic_at hw I1 hs1 r1 (wdat_dat h0)
    obtain rfl : u = Value.ref a0 := rx
    refine ⟨N0.typeIs, nnoDict (X := X) N0, ?_⟩
    rw [m.trees]
    refine Calls.callWith_builtin rfl (Calls.evalArgs_plain (Calls.spliced_cons (thn (se_run hk I1 he1 hs1 hp1) fun iv s2 ⟨y, H2, ρ2, t2, i, I2, ry, he2, hs2, e2, r2, hp2⟩ =>
      Calls.spliced_cons (thn (se_run hx I2 he2 hs2 hp2) fun fv s3 ⟨z, H3, ρ3, t3, xd, I3, rz, he3, hs3, e3, r3, hp3⟩ => Calls.spliced_nil ?_))))
    split at hp3
    · rename_i q hq
      unfold popN at hq
      split at hq
      · rename_i n kvs k h1 h2
        split at hq
        · cases hq
        · rename_i ht
          obtain ⟨a', L, ea, en, hr, hA, ks, vs, ns, hE, nd, p1, p2⟩ := wnd_at hs3 ((r1.ext e2).ext e3) h1
          cases ea
          rw [hw] at hE
          obtain ⟨hk1, hk2⟩ := kOk_of h2
          have N := ndic_of I3 (.inl hA) hE nd p1
          obtain ⟨x1, x2, x3, x4, x5, x6, x7⟩ := entR_ne hE
          obtain ⟨hv1, hv2⟩ := val_dat k hE p2
          refine call_pop_n (room9 hu) (nest_is I3 (r2.ext e3) hk1 ry) hk2 N (keyPart_some (r2.ext e3) hk1 (by simpa using ht) ry) (fun v hv h' po sb => ?_) fun hn => ?_
          · split at hq
            · rename_i d hd
              cases hq
              obtain ⟨u', v', h3, h4, h5⟩ := hv2 d hd
              rw [h3] at hv
              cases hv
              obtain ⟨dr, hlen⟩ := datR_drop (k := k) hE nd p1 p2
              have I4 := put_inv (t' := s3.toks + k.draws) I3 hA N.1 (Nat.le_trans hlen (at_obj I3 (.inl hA)).2.1) po sb
              have hm := List.mem_of_getElem? hr
              have ex := Ext.put (o := datAt a0 ((dropE (neOf ns L) k).map (NE.ent X.w))) hm (nf_dat hA)
              obtain ⟨ks', vs', ns', q1, q2, q3, q4⟩ := dr
              exact ⟨v', _, I4, h4, hp3 ρ3 _ ex (hs3.put hr ⟨_, upd_same, ks', vs', ns', by rw [hw]; exact q1, q2, q3.ext ex, q4.ext ex⟩) v' (h5.ext ex)⟩
            · rename_i hd
              rw [hv1 hd] at hv
              cases hv
          · split at hq
            · rename_i d hd
              obtain ⟨u', v', h3, h4, h5⟩ := hv2 d hd
              rw [h3] at hn
              cases hn
            · cases hq
              exact ⟨z, H3, I3.tok _, rz, hp3.here hs3 z r3⟩
      · cases hq
    · exact hp3.elim
  · exact hp1.elim
end
end
end Sx

/-! PxZo: dicts by data: len; walks over the keys, the dict locked. -/
namespace Sx
open PySem L2
section
open PySem.Spec PyProof.Rows
/-! ### len -/
def RawD (h : Heap) (a : Addr) (L : List DictEntry) : Prop := (a == sysModules) = false ∧ L.length ≤ sizeLine ∧ ∃ o es ep, h.get? a = some o ∧ o.ExactDict ∧ o.data = .dict es ep ∧ es.toList = L
theorem meetsR_len {prog : Program} {w : World} {d : Addr} (hd : (d == sysModules) = false) : MeetsIn prog w (Builtin.«dict.__len__» ⟨[.ref d], []⟩) (fun _ R s => ∃ L, RawD s.heap d L ∧ R (.ok (.ret (.int L.length s.toks))) { s with toks := s.toks + 1 }) :=
  .of_wp fun A R s ⟨L, N, h⟩ => by
    obtain ⟨_, hz, o, es, ep, n1, n2, n3, n4⟩ := N
    show wpAny _ _ (dictSize d >>= _) _ _ s
    unfold dictSize
    refine wpAny_bind (wpAny_bind (wpAny_dictEntries n1 n3 (wpAny_pure ?_)))
    show wpAny _ _ (Builtin.Dict.pendingCount d >>= _) _ _ s
    refine wpAny_bind (wpAny_pendingCount_other hd ?_)
    refine wpAny_ret_mkInt ?_
    have e : es.size = L.length := by rw [← n4, Array.length_toList]
    rw [Nat.add_zero, e]; exact h
theorem call_len_r {prog : Program} {w : World} {A : Around} {E : Value → Shared → Prop} {s : Shared} {d : Addr} {L : List DictEntry} {Q : Value → Shared → Prop} (N : RawD s.heap d L) (h : Q (.int L.length (s.toks + 1)) { s with toks := s.toks + 1 + 1 }) : wpAny (model prog w) A (call (.builtin "len") [.ref d]) Q E s := by
  have hT : s.TypeIs (.ref d) "dict" := by
    obtain ⟨_, _, o, _, _, n, x, _⟩ := N
    exact ⟨o, n, x.1⟩
  have hfit : ((L.length : Nat) : Int) < 2 ^ 63 := by have := N.2.1; rw [sizeLine_eq] at this; omega
  refine Calls.call_function_entry kind_len plain_len entry_len (args_len1 _) ?_
  unfold Builtin.«len»
  refine wpAny_bind (m := oneArg "len" _) (wpAny_pure ?_)
  refine wpAny_bind (m := callSpecial? (.ref d) (Str.ofString "__len__")) (wpAny_callSpecial?_slot (name := Str.ofString "__len__") hT F.slot_dict_len
    (call_meetsIn F.slot_dict_len hT F.entry_dict_len (F.args_dict_len_1 _) (meetsR_len N.1) ⟨L, N, ?_⟩))
  show wpAny _ _ _ _ _ { s with toks := s.toks + 1 }
  refine wpAny_bind (wpAny_holding (wpAny_pure ?_))
  refine wpAny_bind (wpAny_letGo ?_)
  show wpAny _ _ (if ((L.length : Nat) : Int) < 0 then _ else _) _ _ _
  rw [if_neg (by omega)]
  show wpAny _ _ (if ((L.length : Nat) : Int) ≥ 2 ^ 63 then _ else _) _ _ _
  rw [if_neg (by omega)]
  exact wpAny_bind (wpAny_mkInt (wpAny_pure ⟨_, rfl, h⟩))
def rLenN : List V → Hp → VK → Prop := fun vs H Q => ∃ (a : Addr) (L : List DictEntry), vs = [V.ref a] ∧ AtD H a L ∧ Q (.int ((L.length : Nat) : Int)) H
theorem cr_lenN {X : Cx} : CallR X (.builtin "len") rLenN := by
  intro pins s σ H vs us Q I r h
  obtain ⟨a, L, rfl, hA, q⟩ := h
  rw [Vals.ref1 r]
  refine call_len_r (at_obj I hA) ?_
  exact ⟨.int ((L.length : Nat) : Int), H, I.tok _, ⟨_, rfl⟩, q⟩
theorem sim_lenN {K : PySem.W.Frag} : SimN K rLenN fLenN := by
  intro G F ρ H s vs ds d Q hs r h k
  unfold fLenN at h
  split at h
  · rename_i a
    obtain ⟨kvs, h1, rfl⟩ := Option.map_eq_some_iff.mp h
    cases r with
    | cons r1 t =>
      cases t
      obtain ⟨q, n, L, rfl, rfl, h3, h4, ks, vs, ns, hE, _⟩ := nd_at hs r1 h1
      obtain ⟨e1, e2, e3, e4, e5, e6, e7⟩ := entR_ne hE
      refine ⟨q, L, rfl, h4, ?_⟩
      rw [← e6, List.length_map]
      exact k H _ (Ext.refl _ _) hs (.int _)
  · cases h
/-! ### the keys of a locked dict -/
def KeysR (ks : List V) (L : List DictEntry) : Prop := ks.length = L.length ∧ ∀ (i : Nat) (e : DictEntry), L[i]? = some e → ∃ kv, ks[i]? = some kv ∧ RelV kv e.key
theorem keysR_of {w : World} : ∀ {L : List DictEntry} {ks vs : List V} {ds : List D} {ns : List NestedKey}, EntR w L ks vs ds ns → KeysR ks L
  | _, _, _, _, _, .nil => ⟨rfl, fun i e h => by cases h⟩
  | _, _, _, _, _, .cons h1 h2 h3 h4 h5 t => by
    obtain ⟨a, b⟩ := keysR_of t
    refine ⟨congrArg Nat.succ a, fun i e h => ?_⟩
    cases i with
    | zero => cases h; exact ⟨_, rfl, h4⟩
    | succ i => exact b i e h
def ItKd (a : Addr) (od : Obj) (L : List DictEntry) (ks : List V) : It :=
  ⟨fun i H => H a = some (.frz od (datAt a L)) ∧ i < L.length, fun i H x H' => H' = H ∧ ks[i]? = some x, fun i H => H a = some (.frz od (datAt a L)) ∧ L.length ≤ i⟩
theorem frz_obj {X : Cx} {pins : List (Addr × Obj)} {σ : L2.St} {s : Shared} {H : Hp} {a : Addr} {od : Obj} {L : List DictEntry} (I : Inv X pins σ H s) (h : H a = some (.frz od (datAt a L))) : (a == sysModules) = false ∧ s.heap.get? a = some od ∧ od.ExactDict ∧ ∃ es ep, od.data = .dict es ep ∧ es.toList = L := by
  obtain ⟨g, ⟨h1, h2, o, es, ep, h3, h4, h5, h6⟩, _⟩ := I.hok a _ h
  rw [g] at h3
  cases h3
  exact ⟨h1, g, h4, es, ep, h5, h6⟩
theorem turn_dat {P : Program} {w : World} {K : PySem.W.Frag} {tg : Expr} {a : Addr} {od : Obj} {es : Array DictEntry} {ep : Nat} {L : List DictEntry} {ks : List V} (it : Addr) (hod : od.data = .dict es ep) (hes : es.toList = L) (hk : KeysR ks L) :
    Turn P w K tg (ItKd a od L ks) [it] it (fun i h => h.IsKeyIter it a i L.length ep) where
  mem := by simp
  obj := fun i h st b hb => by
    have e : b = it := by simpa using hb
    subst e
    obtain ⟨oi, e, c, dd⟩ := st
    exact ⟨oi, e, fun v z => by rw [dd] at z; cases z⟩
  keep := fun i h h' st k => st.at fun oi e => k it (by simp) oi e
  item := by
    intro X hP hw hK hc i pins s σ H E I hf st hg
    subst hP hw hK
    obtain ⟨hd, hi⟩ := hg
    obtain ⟨f0, f1, f2, f3, f4, f5⟩ := hf it (by simp)
    obtain ⟨_, hgd, _, _⟩ := frz_obj I hd
    have hen : es[i]? = some L[i] := by rw [← Array.getElem?_toList, hes, List.getElem?_eq_getElem hi]
    obtain ⟨kv, hkv, rk⟩ := hk.2 i _ (List.getElem?_eq_getElem hi)
    refine next_key_item st hgd hod (by rw [← hes, Array.length_toList]) hen fun h' st' sb => ?_
    have I1 : Inv X pins σ H { s with heap := h' } := I.turned (t' := s.toks) (fun b ob hb e => (sb.2 b hb).trans e) f0 f1 f3 f4 f5
    obtain ⟨oi, e, c, dd⟩ := id st'
    exact ⟨_, rfl, go_of (s := { s with heap := h' }) e c dd (by decide) ⟨kv, H, I1, rk, ⟨rfl, hkv⟩, st', fun b hb => (hf b hb).1⟩⟩
  done := by
    intro X hP hw hK hc i pins s σ H E I hf st hg
    subst hP hw hK
    obtain ⟨hd, hi⟩ := hg
    obtain ⟨f0, f1, f2, f3, f4, f5⟩ := hf it (by simp)
    obtain ⟨_, hgd, _, _⟩ := frz_obj I hd
    exact next_key_end (I.ok.hd hc) st hgd hod (by rw [← hes, Array.length_toList]) hi fun h' eb => ⟨rfl, I.turned (t' := s.toks) (fun b ob hb e => eb b ob hb e) f0 f1 f3 f4 f5⟩
  self := fun A i s Q E st h => wpAny_pyIter_keyiter st h
def iKd (td : TE) : TI := fun σ H R => td σ H fun x H1 => ∃ a od L ks, x = .ref a ∧ H1 a = some (.frz od (datAt a L)) ∧ KeysR ks L ∧ R (ItKd a od L ks) H1
theorem pi_kd {X : Cx} {tg e : Expr} {td : TE} (he : PE X e td) : PI X tg e (iKd td) := by
  refine ⟨fun pins s σ H R I h => ?_⟩
  refine thn (he.run pins s σ H _ I h) fun u s1 ⟨x, H1, I1, rx, a, od, L, ks, ex, hd, hk, q⟩ => ?_
  subst ex
  obtain rfl : u = Value.ref a := rx
  obtain ⟨hs, hgd, hx, es, ep, hdt, hes⟩ := frz_obj I1 hd
  refine iter_keys hs hgd hx hdt (pi_one (tk := s1.toks) I1 _ (turn_dat _ hdt hes hk) ⟨_, Heap.get?_push_size _ rfl, rfl, ?_⟩ q)
  rw [← hes, Array.length_toList] <;> rfl
end
/-- the keys, the dict locked -/
def iKeysN (f : EF) : IF := fun env s => (f env s).bind fun d s1 => match d with
  | .ref n => match s1[n]? with
    | some (.frd kvs) => .ok (kvs.map (·.1)) s1
    | _ => .no
  | _ => .no
def unlk (n : Nat) : SR → SR
  | .nx e s => match s[n]? with
    | some (.frd kvs) => .nx e (s.set n (.dat kvs))
    | _ => .no
  | .rt d s => match s[n]? with
    | some (.frd kvs) => .rt d (s.set n (.dat kvs))
    | _ => .no
  | .bk e s => match s[n]? with
    | some (.frd kvs) => .bk e (s.set n (.dat kvs))
    | _ => .no
  | .ct e s => match s[n]? with
    | some (.frd kvs) => .ct e (s.set n (.dat kvs))
    | _ => .no
  | _ => .no
/-- the dict in slot i is locked while g runs -/
def sLk (i : Nat) (g : SF) : SF := fun env s => match env[i]? with
  | some (some (.ref n)) => match s[n]? with
    | some (.dat kvs) => unlk n (g env (s.set n (.frd kvs)))
    | _ => .no
  | _ => .no
def eLk (i : Nat) (f : EF) : EF := fun env s => match env[i]? with
  | some (some (.ref n)) => match s[n]? with
    | some (.dat kvs) => match f env (s.set n (.frd kvs)) with
      | .ok d s1 => match s1[n]? with
        | some (.frd kvs1) => .ok d (s1.set n (.dat kvs1))
        | _ => .no
      | _ => .no
    | _ => .no
  | _ => .no
section
open PySem.Spec PyProof.Rows
variable {X : Cx} {G : SCtx} {W : WX} {pos : Pos} {e a b tg : Expr} {f : EF} {g : SF}
theorem si_keysN (h : SE X G W e f) : SI X G W tg e (iKeysN f) := by
  refine pi_imp (pi_kd h) fun σ H R h => ?_
  obtain ⟨F, ρ, env, s, he, hs, hp⟩ := h
  refine tE.step he hs hp fun d s1 ρ1 H1 v hf he1 hs1 e1 r1 hp1 => ?_
  cases d with
  | ref n =>
    simp only at hp1
    split at hp1
    · rename_i kvs hx
      cases r1 with
      | ref q =>
        obtain ⟨od, L, hd, ks, vs, ns, hE, nd, p1, p2⟩ := hs1.obs n _ _ q hx
        obtain ⟨x1, x2, x3, x4, x5, x6, x7⟩ := entR_ne hE
        refine ⟨_, od, L, ks, rfl, hd, keysR_of hE, hp1.here hs1 _ ?_⟩
        refine ⟨fun H => H _ = some (.frz od (datAt _ L)), fun i H x H' => H' = H ∧ ks[i]? = some x, ?_, fun F' ρ H s c e _ => e.frz _ _ _ hd, fun F' i ρ2 H2 s2 x H' d c e hs2 hdd y => ?_⟩
        · rw [x6]
          exact ⟨fun i H hi q => ⟨q, hi⟩, fun H q => ⟨q, Nat.le_refl _⟩, fun i H x H' hi q y => y⟩
        · obtain ⟨rfl, hx2⟩ := y
          obtain ⟨kv, hkv, rk⟩ := p1.get hdd
          rw [hx2] at hkv
          cases hkv
          exact ⟨Ext.refl _ _, hs2, (rk.toF c).ext e⟩
    · exact hp1.elim
  | _ => exact hp1.elim
theorem EnvR.ext0 {K : PySem.W.Frag} {F ρ ρ1 : List Addr} {H H1 : Hp} {σ : L2.St} {env : Env} (e : Ext0 ρ H ρ1 H1) (h : EnvR K F ρ H σ env) : EnvR K F ρ1 H1 σ env :=
  ⟨h.1, fun i d hd => by obtain ⟨v, h1, h2⟩ := h.2 i d hd; exact ⟨v, h1, h2.ext0 e⟩⟩
/-- what the lock does to the state, and the unlocking -/
theorem lock_at {K : PySem.W.Frag} {F ρ : List Addr} {H : Hp} {s : Sto} {σ : L2.St} {env : Env} {i n : Nat} {kvs : List (D × D)} (he : EnvR K F ρ H σ env) (hs : SRel K G F ρ H s) (h1 : env[i]? = some (some (.ref n))) (h2 : s[n]? = some (.dat kvs)) :
    ∃ a L, ρ[n]? = some a ∧ H a = some (datAt a L) ∧ ∀ od, EnvR K F ρ (upd H a (.frz od (datAt a L))) σ env ∧ SRel K G F ρ (upd H a (.frz od (datAt a L))) (s.set n (.frd kvs)) ∧
      ∀ ρ' H', Ext ρ (upd H a (.frz od (datAt a L))) ρ' H' → H' a = some (.frz od (datAt a L)) ∧ Ext ρ H ρ' (upd H' a (datAt a L)) ∧ Ext0 ρ' H' ρ' (upd H' a (datAt a L)) ∧
        ∀ s' kvs', SRel K G F ρ' H' s' → s'[n]? = some (.frd kvs') → SRel K G F ρ' (upd H' a (datAt a L)) (s'.set n (.dat kvs')) := by
  obtain ⟨v, hv, r⟩ := he.2 i _ h1
  cases r with
  | ref hr =>
    rename_i a
    obtain ⟨L, hL, ks, vs, ns, hE, nd, p1, p2⟩ := hs.obs n _ _ hr h2
    have hm := List.mem_of_getElem? hr
    refine ⟨a, L, hr, hL, fun od => ?_⟩
    have ex : Ext ρ H ρ (upd H a (.frz od (datAt a L))) := Ext.put hm (nf_dat hL)
    refine ⟨he.ext ex, hs.put hr ⟨od, L, upd_same, ks, vs, ns, hE, nd, p1.ext ex, p2.ext ex⟩, fun ρ' H' e => ?_⟩
    have fz : H' a = some (.frz od (datAt a L)) := e.frz a od _ upd_same
    obtain ⟨nn, hn1, hn2⟩ := e.pre
    have hm' : a ∈ ρ' := by rw [hn1]; exact List.mem_append_left _ hm
    have hr' : ρ'[n]? = some a := by rw [hn1, List.getElem?_append_left (List.getElem?_eq_some_iff.mp hr).1]; exact hr
    refine ⟨fz, ⟨⟨⟨nn, hn1, fun x hx => ?_⟩, fun x o hx hxm => ?_, fun x hx => ?_⟩, fun x od' u hx => ?_⟩, Ext0.put hm', fun s' kvs' hs' hk' => ?_⟩
    · have := hn2 x hx
      by_cases q : x = a
      · subst q; rw [upd_same] at this; cases this
      · rw [upd_ne q] at this; exact this
    · have q : x ≠ a := fun q => hxm (by rw [q]; exact hm)
      rw [upd_ne q]
      exact e.keep x o (by rw [upd_ne q]; exact hx) hxm
    · by_cases q : x = a
      · subst q; rw [upd_same]; simp
      · rw [upd_ne q]; exact e.mono x (by rw [upd_ne q]; exact hx)
    · have q : x ≠ a := fun q => by rw [q, hL] at hx; cases hx
      rw [upd_ne q]
      exact e.frz x od' u (by rw [upd_ne q]; exact hx)
    · obtain ⟨od2, L2, hL2, ks2, vs2, ns2, hE2, nd2, q1, q2⟩ := hs'.obs n _ _ hr' hk'
      rw [fz] at hL2
      have e0 : Ext0 ρ' H' ρ' (upd H' a (datAt a L)) := Ext0.put hm'
      refine hs'.put hr' ⟨L2, ?_, ks2, vs2, ns2, hE2, nd2, q1.ext0 e0, q2.ext0 e0⟩
      rw [upd_same]
      have := Option.some.inj hL2
      injection this with _ h3
      rw [h3]
theorem ss_lk {st : Stmt} (i : Nat) (h : SS X G W st g) : SS X G W st (sLk i g) := by
  refine ps_imp (ps_lock h) fun D σ H h => ?_
  obtain ⟨F, ρ, env, s, he, hs, hp⟩ := h
  unfold sLk at hp
  split at hp
  · rename_i n h1
    split at hp
    · rename_i kvs h2
      obtain ⟨a, L, hr, hL, go⟩ := lock_at he hs h1 h2
      refine ⟨a, datAt a L, hL, True.intro, fun od => ?_⟩
      obtain ⟨he1, hs1, back⟩ := go od
      refine ⟨F, ρ, env, s.set n (.frd kvs), he1, hs1, ?_⟩
      cases hg : g env (s.set n (.frd kvs)) with
      | nx e s' =>
        rw [hg] at hp
        intro ρ' H' σ' ex hs' he'
        obtain ⟨b1, b2, b3, b4⟩ := back ρ' H' ex
        simp only [unlk] at hp
        split at hp
        · rename_i k' hk'
          exact ⟨b1, hp ρ' _ σ' b2 (b4 s' k' hs' hk') (he'.ext0 b3)⟩
        · exact hp.elim
      | rt d s' =>
        rw [hg] at hp
        intro ρ' H' v ex hs' r'
        obtain ⟨b1, b2, b3, b4⟩ := back ρ' H' ex
        simp only [unlk] at hp
        split at hp
        · rename_i k' hk'
          exact ⟨b1, hp ρ' _ v b2 (b4 s' k' hs' hk') (r'.ext0 b3)⟩
        · exact hp.elim
      | bk e s' =>
        rw [hg] at hp
        intro ρ' H' σ' ex hs' he'
        obtain ⟨b1, b2, b3, b4⟩ := back ρ' H' ex
        simp only [unlk] at hp
        split at hp
        · rename_i k' hk'
          exact ⟨b1, hp ρ' _ σ' b2 (b4 s' k' hs' hk') (he'.ext0 b3)⟩
        · exact hp.elim
      | ct e s' =>
        rw [hg] at hp
        intro ρ' H' σ' ex hs' he'
        obtain ⟨b1, b2, b3, b4⟩ := back ρ' H' ex
        simp only [unlk] at hp
        split at hp
        · rename_i k' hk'
          exact ⟨b1, hp ρ' _ σ' b2 (b4 s' k' hs' hk') (he'.ext0 b3)⟩
        · exact hp.elim
      | ex c e s' => rw [hg] at hp; exact hp.elim
      | no => rw [hg] at hp; exact hp.elim
    · exact hp.elim
  · exact hp.elim
theorem s_lk (i : Nat) (h : SE X G W e f) : SE X G W e (eLk i f) := by
  refine pe_imp (pe_lock h) fun σ H Q h => ?_
  obtain ⟨F, ρ, env, s, he, hs, hp⟩ := h
  unfold eLk at hp
  split at hp
  · rename_i n h1
    split at hp
    · rename_i kvs h2
      obtain ⟨a, L, hr, hL, go⟩ := lock_at he hs h1 h2
      refine ⟨a, datAt a L, hL, True.intro, fun od => ?_⟩
      obtain ⟨he1, hs1, back⟩ := go od
      refine ⟨F, ρ, env, s.set n (.frd kvs), he1, hs1, ?_⟩
      cases hg : f env (s.set n (.frd kvs)) with
      | ok d s' =>
        rw [hg] at hp
        intro ρ' H' ex hs' v r'
        obtain ⟨b1, b2, b3, b4⟩ := back ρ' H' ex
        simp only at hp
        split at hp
        · rename_i k' hk'
          exact ⟨b1, hp ρ' _ b2 (b4 s' k' hs' hk') v (r'.ext0 b3)⟩
        · exact hp.elim
      | ex c s' => rw [hg] at hp; exact hp.elim
      | no => rw [hg] at hp; exact hp.elim
    · exact hp.elim
  · exact hp.elim
end
end Sx

/-! PxZp: dicts by data, plain: rows for simp, and dicts whose keys are told by a kind of keys. -/
namespace Sx
open PySem L2
section
variable {env : Env} {s : Sto} {fo fk fx f : EF} {d o i k x : D} {n : Nat}
@[simp] theorem eNewN_v : eNewN env s = .ok (.ref s.length) (s ++ [.dat []]) := rfl
def srS (env : Env) : Option Sto → SR
  | some s => .nx env s
  | none => .no
@[simp] theorem srS_s : srS env (some s) = .nx env s := rfl
def kNS3 (env : Env) (d o : D) : R D → SR
  | .ok i s => srS env (setN s o i d)
  | .ex c s => .ex c env s
  | .no => .no
def kNS2 (fi : EF) (env : Env) (d : D) : R D → SR
  | .ok o s => kNS3 env d o (fi env s)
  | .ex c s => .ex c env s
  | .no => .no
def kNS1 (fo fi : EF) (env : Env) : R D → SR
  | .ok d s => kNS2 fi env d (fo env s)
  | .ex c s => .ex c env s
  | .no => .no
@[simp] theorem kNS3_0 : kNS3 env d o (.ok i s) = srS env (setN s o i d) := rfl
@[simp] theorem kNS2_0 : kNS2 fk env d (.ok o s) = kNS3 env d o (fk env s) := rfl
@[simp] theorem kNS1_0 : kNS1 fo fk env (.ok d s) = kNS2 fk env d (fo env s) := rfl
@[simp] theorem sNSet_v : sNSet fo fk fx env s = kNS1 fo fk env (fx env s) := by
  unfold sNSet SR.ofR
  cases fx env s with
  | ok d s1 =>
    simp only [kNS1]
    cases fo env s1 with
    | ok o s2 =>
      simp only [kNS2]
      cases fk env s2 with
      | ok i s3 => simp only [kNS3]; cases setN s3 o i d <;> rfl
      | _ => rfl
    | _ => rfl
  | _ => rfl
def kNG3 (o k : D) : R D → R D
  | .ok x s => R.of (getN2 s o k x) s
  | .ex c s => .ex c s
  | .no => .no
def kNG2 (fx : EF) (env : Env) (o : D) : R D → R D
  | .ok k s => kNG3 o k (fx env s)
  | .ex c s => .ex c s
  | .no => .no
def kNG1' (fk fx : EF) (env : Env) (o : D) (s : Sto) : Option (List (D × D)) → R D
  | some _ => kNG2 fx env o (fk env s)
  | none => .no
def kNG1 (fk fx : EF) (env : Env) : R D → R D
  | .ok o s => kNG1' fk fx env o s (datOf s o)
  | .ex c s => .ex c s
  | .no => .no
@[simp] theorem kNG3_0 : kNG3 o k (.ok x s) = R.of (getN2 s o k x) s := rfl
@[simp] theorem kNG2_0 : kNG2 fx env o (.ok k s) = kNG3 o k (fx env s) := rfl
@[simp] theorem kNG1'_0 {kvs : List (D × D)} : kNG1' fk fx env o s (some kvs) = kNG2 fx env o (fk env s) := rfl
@[simp] theorem kNG1_0 : kNG1 fk fx env (.ok o s) = kNG1' fk fx env o s (datOf s o) := rfl
@[simp] theorem eNGet2_v : eNGet2 fo fk fx env s = kNG1 fk fx env (fo env s) := by
  unfold eNGet2
  cases fo env s with
  | ok o s1 =>
    show (match datOf s1 o with | some _ => _ | none => _) = kNG1' fk fx env o s1 (datOf s1 o)
    cases datOf s1 o with
    | none => rfl
    | some kvs =>
      show (fk env s1).bind _ = kNG2 fx env o (fk env s1)
      cases fk env s1 with
      | ok k s2 =>
        show (fx env s2).bind _ = kNG3 o k (fx env s2)
        cases fx env s2 <;> rfl
      | _ => rfl
  | _ => rfl
/-- setdefault and pop: what is told and the store behind it -/
def kNP3 (h : Sto → D → D → D → Option (D × Sto)) (o k : D) : R D → R D
  | .ok x s => rOf2 (h s o k x)
  | .ex c s => .ex c s
  | .no => .no
def kNP2 (h : Sto → D → D → D → Option (D × Sto)) (fx : EF) (env : Env) (o : D) : R D → R D
  | .ok k s => kNP3 h o k (fx env s)
  | .ex c s => .ex c s
  | .no => .no
def kNP1' (h : Sto → D → D → D → Option (D × Sto)) (fk fx : EF) (env : Env) (o : D) (s : Sto) : Option (Nat × List (D × D)) → R D
  | some _ => kNP2 h fx env o (fk env s)
  | none => .no
def kNP1 (h : Sto → D → D → D → Option (D × Sto)) (fk fx : EF) (env : Env) : R D → R D
  | .ok o s => kNP1' h fk fx env o s (wdatOf s o)
  | .ex c s => .ex c s
  | .no => .no
section
variable {h : Sto → D → D → D → Option (D × Sto)}
@[simp] theorem kNP3_0 : kNP3 h o k (.ok x s) = rOf2 (h s o k x) := rfl
@[simp] theorem kNP2_0 : kNP2 h fx env o (.ok k s) = kNP3 h o k (fx env s) := rfl
@[simp] theorem kNP1'_0 {kvs : Nat × List (D × D)} : kNP1' h fk fx env o s (some kvs) = kNP2 h fx env o (fk env s) := rfl
@[simp] theorem kNP1_0 : kNP1 h fk fx env (.ok o s) = kNP1' h fk fx env o s (wdatOf s o) := rfl
end
@[simp] theorem eNSetd_v : eNSetd fo fk fx env s = kNP1 setdN fk fx env (fo env s) := by
  unfold eNSetd
  cases fo env s with
  | ok o s1 =>
    show (match wdatOf s1 o with | some _ => _ | none => _) = kNP1' setdN fk fx env o s1 (wdatOf s1 o)
    cases wdatOf s1 o with
    | none => rfl
    | some kvs =>
      show (fk env s1).bind _ = kNP2 setdN fx env o (fk env s1)
      cases fk env s1 with
      | ok k s2 =>
        show (fx env s2).bind _ = kNP3 setdN o k (fx env s2)
        cases fx env s2 with
        | ok x s3 => show (match setdN s3 o k x with | some q => _ | none => _) = rOf2 (setdN s3 o k x); cases setdN s3 o k x <;> rfl
        | _ => rfl
      | _ => rfl
  | _ => rfl
@[simp] theorem eNPop2_v : eNPop2 fo fk fx env s = kNP1 popN fk fx env (fo env s) := by
  unfold eNPop2
  cases fo env s with
  | ok o s1 =>
    show (match wdatOf s1 o with | some _ => _ | none => _) = kNP1' popN fk fx env o s1 (wdatOf s1 o)
    cases wdatOf s1 o with
    | none => rfl
    | some kvs =>
      show (fk env s1).bind _ = kNP2 popN fx env o (fk env s1)
      cases fk env s1 with
      | ok k s2 =>
        show (fx env s2).bind _ = kNP3 popN o k (fx env s2)
        cases fx env s2 with
        | ok x s3 => show (match popN s3 o k x with | some q => _ | none => _) = rOf2 (popN s3 o k x); cases popN s3 o k x <;> rfl
        | _ => rfl
      | _ => rfl
  | _ => rfl
/-! locked -/
theorem sLk_v {i : Nat} {g : SF} {kvs : List (D × D)} (h1 : env[i]? = some (some (.ref n))) (h2 : s[n]? = some (.dat kvs)) : sLk i g env s = unlk n (g env (s.set n (.frd kvs))) := by
  unfold sLk
  rw [h1]
  simp only
  rw [h2]
theorem unlk_nx {e : Env} {kvs : List (D × D)} (h : s[n]? = some (.frd kvs)) : unlk n (.nx e s) = .nx e (s.set n (.dat kvs)) := by
  unfold unlk
  simp only
  rw [h]
theorem unlk_rt {kvs : List (D × D)} (h : s[n]? = some (.frd kvs)) : unlk n (.rt d s) = .rt d (s.set n (.dat kvs)) := by
  unfold unlk
  simp only
  rw [h]
theorem eLk_v {i : Nat} {f : EF} {s1 : Sto} {kvs kvs1 : List (D × D)} (h1 : env[i]? = some (some (.ref n))) (h2 : s[n]? = some (.dat kvs)) (h3 : f env (s.set n (.frd kvs)) = .ok d s1) (h4 : s1[n]? = some (.frd kvs1)) : eLk i f env s = .ok d (s1.set n (.dat kvs1)) := by
  unfold eLk
  rw [h1]
  simp only
  rw [h2]
  simp only
  rw [h3]
  simp only
  rw [h4]
theorem iKeysN_v {kvs : List (D × D)} (h1 : f env s = .ok (.ref n) s) (h2 : s[n]? = some (.frd kvs)) : iKeysN f env s = .ok (kvs.map (·.1)) s := by
  unfold iKeysN
  rw [h1]
  simp only [R.bind]
  rw [h2]
end
/-! ### search -/
theorem datVal_nil (k : NestedKey) : datVal [] k = none := rfl
theorem datVal_cons (p : D × D) (kvs : List (D × D)) (k : NestedKey) : datVal (p :: kvs) k = if keyN p.1 = some k then some p.2 else datVal kvs k := by
  unfold datVal idxD
  rw [List.findIdx?_cons]
  by_cases c : keyN p.1 = some k
  · rw [if_pos (decide_eq_true c), if_pos c]
    rfl
  · rw [if_neg (by simpa using c), if_neg c]
    cases List.findIdx? (fun p : D × D => decide (keyN p.1 = some k)) kvs <;> rfl
theorem datPut_cons (p : D × D) (kvs : List (D × D)) (k : NestedKey) (kd vd : D) : datPut (p :: kvs) k kd vd = if keyN p.1 = some k then (p.1, vd) :: kvs else p :: datPut kvs k kd vd := by
  unfold datPut idxD
  rw [List.findIdx?_cons]
  by_cases c : keyN p.1 = some k
  · rw [if_pos (decide_eq_true c), if_pos c]
    rfl
  · rw [if_neg (by simpa using c), if_neg c]
    cases List.findIdx? (fun p : D × D => decide (keyN p.1 = some k)) kvs <;> rfl
theorem datDrop_cons (p : D × D) (kvs : List (D × D)) (k : NestedKey) : datDrop (p :: kvs) k = if keyN p.1 = some k then kvs else p :: datDrop kvs k := by
  unfold datDrop idxD
  rw [List.findIdx?_cons]
  by_cases c : keyN p.1 = some k
  · rw [if_pos (decide_eq_true c), if_pos c]
    rfl
  · rw [if_neg (by simpa using c), if_neg c]
    cases List.findIdx? (fun p : D × D => decide (keyN p.1 = some k)) kvs <;> rfl
/-! ### keys of a kind -/
structure KEmb (α : Type) where
  e : α → D
  kk : α → NestedKey
  ok : ∀ a, kOk (e a) = some (kk a)
  inj : ∀ a b, kk a = kk b → a = b
section
variable {α : Type} [DecidableEq α] (E : KEmb α)
theorem KEmb.key (a : α) : keyN (E.e a) = some (E.kk a) := (kOk_of (E.ok a)).1
theorem KEmb.iff (a b : α) : keyN (E.e b) = some (E.kk a) ↔ b = a := by
  rw [E.key]
  constructor
  · intro h
    exact E.inj _ _ (Option.some.inj h)
  · rintro rfl; rfl
/-- the dict with these keys, of which each tells v -/
def dK (ks : List α) (v : α → D) : List (D × D) := ks.map fun a => (E.e a, v a)
theorem dK_len (ks : List α) (v : α → D) : (dK E ks v).length = ks.length := by unfold dK; rw [List.length_map]
theorem dK_keys (ks : List α) (v : α → D) : (dK E ks v).map (·.1) = ks.map E.e := by unfold dK; rw [List.map_map]; rfl
theorem dK_cong {ks : List α} {v w : α → D} (h : ∀ a ∈ ks, v a = w a) : dK E ks v = dK E ks w := by
  unfold dK
  exact List.map_congr_left fun a ha => by rw [h a ha]
theorem datVal_dK (v : α → D) (a : α) : ∀ ks : List α, datVal (dK E ks v) (E.kk a) = if a ∈ ks then some (v a) else none
  | [] => rfl
  | b :: ks => by
    have ih := datVal_dK v a ks
    show datVal ((E.e b, v b) :: dK E ks v) _ = _
    rw [datVal_cons, ih]
    by_cases c : b = a
    · subst c
      rw [if_pos (E.key b), if_pos List.mem_cons_self]
    · rw [if_neg (fun h => c ((E.iff a b).mp h))]
      have : a ∈ b :: ks ↔ a ∈ ks := by
        constructor
        · intro h
          rcases List.mem_cons.mp h with h | h
          · exact absurd h.symm c
          · exact h
        · exact List.mem_cons_of_mem _
      by_cases m : a ∈ ks
      · rw [if_pos m, if_pos (this.mpr m)]
      · rw [if_neg m, if_neg (fun h => m (this.mp h))]
theorem datPut_dK (v : α → D) (a : α) (d : D) : ∀ {ks : List α}, ks.Nodup → datPut (dK E ks v) (E.kk a) (E.e a) d = dK E (if a ∈ ks then ks else ks ++ [a]) (fun b => if b = a then d else v b)
  | [], _ => by
    rw [if_neg (by simp)]
    show [(E.e a, d)] = _
    simp [dK]
  | b :: ks, h => by
    have h' := List.nodup_cons.mp h
    have ih := datPut_dK v a d h'.2
    show datPut ((E.e b, v b) :: dK E ks v) _ _ _ = _
    rw [datPut_cons, ih]
    by_cases c : b = a
    · subst c
      rw [if_pos (E.key b), if_pos List.mem_cons_self]
      show _ = (E.e b, if b = b then d else v b) :: dK E ks (fun x => if x = b then d else v x)
      rw [if_pos rfl]
      congr 1
      exact dK_cong E fun x hx => by
        rw [if_neg]
        rintro rfl
        exact h'.1 hx
    · rw [if_neg (fun h => c ((E.iff a b).mp h))]
      by_cases m : a ∈ ks
      · rw [if_pos m, if_pos (List.mem_cons_of_mem _ m)]
        show _ = (E.e b, if b = a then d else v b) :: dK E ks _
        rw [if_neg c]
      · rw [if_neg m, if_neg]
        · show _ = (E.e b, if b = a then d else v b) :: dK E (ks ++ [a]) _
          rw [if_neg c]
        · intro h
          rcases List.mem_cons.mp h with h | h
          · exact c h.symm
          · exact m h
def del (l : List α) (a : α) : List α := l.erase a
theorem del_len (l : List α) (a : α) : (del l a).length ≤ l.length := List.length_erase_le
theorem datDrop_dK (v : α → D) (a : α) : ∀ {ks : List α}, datDrop (dK E ks v) (E.kk a) = dK E (del ks a) v
  | [] => rfl
  | b :: ks => by
    have ih := datDrop_dK v a (ks := ks)
    show datDrop ((E.e b, v b) :: dK E ks v) _ = _
    rw [datDrop_cons]
    by_cases c : b = a
    · subst c
      rw [if_pos (E.key b)]
      have e : del (b :: ks) b = ks := by
        unfold del
        rw [List.erase_cons_head]
      rw [e]
    · rw [if_neg (fun h => c ((E.iff a b).mp h))]
      have e : del (b :: ks) a = b :: del ks a := by
        unfold del
        rw [List.erase_cons_tail (by simpa using c)]
      rw [e, ih]
      rfl
variable {s : Sto} {n : Nat} {ks : List α} {v : α → D}
theorem datOf_v {kvs : List (D × D)} (h : s[n]? = some (.dat kvs)) : datOf s (.ref n) = some kvs := by unfold datOf; simp only; rw [h]
theorem datOf_f {kvs : List (D × D)} (h : s[n]? = some (.frd kvs)) : datOf s (.ref n) = some kvs := by unfold datOf; simp only; rw [h]
theorem wdatOf_v {kvs : List (D × D)} (h : s[n]? = some (.dat kvs)) : wdatOf s (.ref n) = some (n, kvs) := by unfold wdatOf; simp only; rw [h]
theorem opNGet_dK {o : D} (h : datOf s o = some (dK E ks v)) {a : α} (ha : a ∈ ks) : opNGet s o (E.e a) = some (v a) := by
  unfold opNGet
  rw [h, E.ok]
  simp only
  rw [datVal_dK, if_pos ha]
theorem getN2_dK {o : D} (h : datOf s o = some (dK E ks v)) (a : α) (x : D) : getN2 s o (E.e a) x = some (if a ∈ ks then v a else x) := by
  unfold getN2
  rw [h, E.ok]
  simp only
  rw [datVal_dK]
  split <;> rfl
theorem setN_dK (h : s[n]? = some (.dat (dK E ks v))) (hn : ks.Nodup) (hl : ks.length < LIM) (a : α) (d : D) : setN s (.ref n) (E.e a) d = some (s.set n (.dat (dK E (if a ∈ ks then ks else ks ++ [a]) (fun b => if b = a then d else v b)))) := by
  unfold setN
  rw [wdatOf_v h, E.ok]
  simp only
  rw [if_pos (by rw [dK_len]; exact hl), datPut_dK E v a d hn]
theorem setdN_in (h : s[n]? = some (.dat (dK E ks v))) (hl : ks.length < LIM) {a : α} (ha : a ∈ ks) (d : D) : setdN s (.ref n) (E.e a) d = some (v a, s) := by
  unfold setdN
  rw [wdatOf_v h, E.ok]
  simp only
  rw [if_pos (by rw [dK_len]; exact hl), datVal_dK, if_pos ha]
theorem setdN_out (h : s[n]? = some (.dat (dK E ks v))) (hn : ks.Nodup) (hl : ks.length < LIM) {a : α} (ha : a ∉ ks) (d : D) : setdN s (.ref n) (E.e a) d = some (d, s.set n (.dat (dK E (ks ++ [a]) (fun b => if b = a then d else v b)))) := by
  unfold setdN
  rw [wdatOf_v h, E.ok]
  simp only
  rw [if_pos (by rw [dK_len]; exact hl), datVal_dK, if_neg ha, datPut_dK E v a d hn, if_neg ha]
theorem popN_dK (h : s[n]? = some (.dat (dK E ks v))) {a : α} (ht : isTup (E.e a) = false) (x : D) : popN s (.ref n) (E.e a) x = some (if a ∈ ks then v a else x, s.set n (.dat (dK E (del ks a) v))) := by
  unfold popN
  rw [wdatOf_v h, E.ok]
  simp only [ht]
  rw [datVal_dK]
  by_cases c : a ∈ ks
  · rw [if_pos c, if_pos c, datDrop_dK]
    rfl
  · rw [if_neg c, if_neg c, del, List.erase_of_not_mem c]
    simp only [Bool.false_eq_true, if_false]
    congr 2
    obtain ⟨h1, h2⟩ := List.getElem?_eq_some_iff.mp h
    rw [← h2, List.set_getElem_self]
theorem fLenN_dK {o : D} (h : datOf s o = some (dK E ks v)) : fLenN s [o] = some (.int (ks.length : Int)) := by
  show (datOf s o).map _ = _
  rw [h]
  show some (D.int ((dK E ks v).length : Int)) = _
  rw [dK_len]
/-! ### what comes first -/
/-- each of a row once, in the order in which they come first -/
def firsts (l : List α) : List α := l.foldl (fun acc a => if a ∈ acc then acc else acc ++ [a]) []
theorem firsts_snoc (l : List α) (a : α) : firsts (l ++ [a]) = if a ∈ firsts l then firsts l else firsts l ++ [a] := by
  unfold firsts
  rw [List.foldl_append]
  rfl
theorem snoc_ind {P : List α → Prop} (h0 : P []) (h1 : ∀ l a, P l → P (l ++ [a])) : ∀ l, P l := by
  have key : ∀ l : List α, P l.reverse := fun l => by
    induction l with
    | nil => exact h0
    | cons a l ih => rw [List.reverse_cons]; exact h1 _ _ ih
  intro l
  have := key l.reverse
  rwa [List.reverse_reverse] at this
theorem mem_firsts (a : α) : ∀ l : List α, a ∈ firsts l ↔ a ∈ l := by
  refine snoc_ind (by simp [firsts]) fun l b ih => ?_
  rw [firsts_snoc]
  by_cases c : b ∈ firsts l
  · rw [if_pos c, ih, List.mem_append, List.mem_singleton]
    constructor
    · exact .inl
    · rintro (h | rfl)
      · exact h
      · exact ih.mp c
  · rw [if_neg c, List.mem_append, List.mem_append, ih]
theorem firsts_nodup : ∀ l : List α, (firsts l).Nodup := by
  refine snoc_ind (by simp [firsts]) fun l b ih => ?_
  rw [firsts_snoc]
  by_cases c : b ∈ firsts l
  · rw [if_pos c]; exact ih
  · rw [if_neg c]
    refine List.nodup_append.mpr ⟨ih, by simp, fun a ha x hx => ?_⟩
    simp only [List.mem_singleton] at hx
    subst hx
    exact fun e => c (e ▸ ha)
theorem firsts_len : ∀ l : List α, (firsts l).length ≤ l.length := by
  refine snoc_ind (by simp [firsts]) fun l b ih => ?_
  rw [firsts_snoc, List.length_append]
  split
  · simp; omega
  · simp; omega
/-- how often one stands in a row -/
def occ (l : List α) (a : α) : Nat := l.countP fun b => decide (b = a)
theorem occ_snoc (l : List α) (a b : α) : occ (l ++ [b]) a = occ l a + (if b = a then 1 else 0) := by
  unfold occ
  rw [List.countP_append, List.countP_cons]
  simp
theorem occ_pos {l : List α} {a : α} : 0 < occ l a ↔ a ∈ l := by
  unfold occ
  rw [List.countP_pos_iff]
  constructor
  · rintro ⟨x, h, e⟩
    have e' : x = a := of_decide_eq_true e
    rw [← e']
    exact h
  · intro h
    exact ⟨a, h, decide_eq_true rfl⟩
theorem occ_out {l : List α} {a : α} (h : a ∉ l) : occ l a = 0 := by
  have : ¬ 0 < occ l a := fun z => h (occ_pos.mp z)
  omega
/-- how often each came -/
def cN (l : List α) : List (D × D) := dK E (firsts l) fun a => .int ((occ l a : Nat) : Int)
theorem cN_nil : cN E ([] : List α) = [] := rfl
theorem getN2_cN {l : List α} {o : D} (h : datOf s o = some (cN E l)) (a : α) : getN2 s o (E.e a) (.int 0) = some (.int ((occ l a : Nat) : Int)) := by
  rw [getN2_dK E h]
  by_cases c : a ∈ firsts l
  · rw [if_pos c]
  · rw [if_neg c, occ_out (fun z => c ((mem_firsts a l).mpr z))]
    rfl
theorem cN_snoc (l : List α) (a : α) : dK E (if a ∈ firsts l then firsts l else firsts l ++ [a]) (fun b => if b = a then .int (((occ l a : Nat) : Int) + 1) else .int ((occ l b : Nat) : Int)) = cN E (l ++ [a]) := by
  unfold cN
  rw [firsts_snoc]
  refine dK_cong E fun b _ => ?_
  rw [occ_snoc]
  by_cases c : b = a
  · subst c
    rw [if_pos rfl, if_pos rfl]
    congr 1
  · rw [if_neg c, if_neg (fun e => c e.symm)]
    rfl
theorem setN_cN {l : List α} (h : s[n]? = some (.dat (cN E l))) (hl : l.length < LIM) (a : α) : setN s (.ref n) (E.e a) (.int (((occ l a : Nat) : Int) + 1)) = some (s.set n (.dat (cN E (l ++ [a])))) := by
  rw [setN_dK E h (firsts_nodup l) (Nat.lt_of_le_of_lt (firsts_len l) hl), ← cN_snoc]
end
end Sx

/-! PxZq: dict displays with keys, {k: v, ..}. -/
namespace Sx
open PySem L2
def putAllD : List (D × D) → List D → Option (List (D × D))
  | acc, [] => some acc
  | acc, k :: v :: ds => match kOk k with
    | some kk => putAllD (datPut acc kk k v) ds
    | none => none
  | _, [_] => none
/-- the pairs as one row: key, value, key, value .. -/
def eDicN (g : AF) : EF := fun env s => (g env (s ++ [.dat []])).bind fun ds s1 => if ds.length ≤ 30 then match s1[s.length]? with
  | some (.dat []) => match putAllD [] ds with
    | some kvs => .ok (.ref s.length) (s1.set s.length (.dat kvs))
    | none => .no
  | _ => .no
  else .no
theorem datPut_len (kvs : List (D × D)) (k : NestedKey) (kd vd : D) : (datPut kvs k kd vd).length ≤ kvs.length + 1 := by
  unfold datPut
  split
  · rw [List.length_modify]; omega
  · simp
theorem aCons_bind {β : Type} (f : EF) (g : AF) (k : List D → Sto → R β) (env : Env) (s : Sto) : (aCons f g env s).bind k = (f env s).bind fun d s1 => (g env s1).bind fun ds s2 => k (d :: ds) s2 := by
  unfold aCons
  cases f env s with
  | ok d s1 =>
    show ((g env s1).bind _).bind k = (g env s1).bind _
    cases g env s1 <;> rfl
  | _ => rfl
section
open PySem.Spec PyProof.Rows
variable {X : Cx} {G : SCtx} {W : WX} {pos pos' : Pos}
inductive SPs (X : Cx) (G : SCtx) (W : WX) : List (Expr × Expr) → AF → Prop
  | nil : SPs X G W [] aNil
  | cons {k v : Expr} {ps : List (Expr × Expr)} {f h : EF} {g : AF} : SE X G W k f → SE X G W v h → SPs X G W ps g → SPs X G W ((k, v) :: ps) (aCons f (aCons h g))
inductive PR : List (Value × Value) → List V → Prop
  | nil : PR [] []
  | cons {u v : Value} {x y : V} {us : List (Value × Value)} {xs : List V} : RelV x u → RelV y v → PR us xs → PR ((u, v) :: us) (x :: y :: xs)
theorem PR.len {us : List (Value × Value)} {xs : List V} (h : PR us xs) : xs.length = 2 * us.length := by
  induction h with
  | nil => rfl
  | cons _ _ _ ih => simp only [List.length_cons, ih]; omega
theorem pairs_run {ps : List (Expr × Expr)} {g : AF} (h : SPs X G W ps g) : ∀ {pins : List (Addr × Obj)} {s0 : Shared} {σ : L2.St} {H : Hp} {F ρ : List Addr} {env : Env} {s : Sto} {β : Type} {k : List D → Sto → R β} {N : β → Sto → List Addr → Hp → Prop} (I : Inv X pins σ H s0) (he : EnvR X.K F ρ H σ env) (hs : SRel X.K G F ρ H s)
    (hp : Pst X.K G F ρ H ((g env s).bind k) N (eW G W σ)), wpAny (model X.prog X.w) X.A (evalPairs (ps.map fun p => (eval p.1 X.env, do let x ← eval p.2 X.env; standAt pos; pure x)))
      (fun us s1 => ∃ xs H1 ρ1 t1 ds, Inv X pins σ H1 s1 ∧ PR us xs ∧ EnvR X.K F ρ1 H1 σ env ∧ SRel X.K G F ρ1 H1 t1 ∧ Ext ρ H ρ1 H1 ∧ Reps X.K F ρ1 H1 xs ds ∧ Pst X.K G F ρ1 H1 (k ds t1) N (eW G W σ)) X.xe s0 := by
  induction h with
  | nil =>
    intro pins s0 σ H F ρ env s β k N I he hs hp
    show wpAny _ _ (pure []) _ _ _
    exact wpAny_pure ⟨[], H, ρ, s, [], I, .nil, he, hs, Ext.refl ρ H, .nil, hp⟩
  | cons hk hv _ ih =>
    intro pins s0 σ H F ρ env s β k N I he hs hp
    rw [aCons_bind] at hp
    rw [List.map_cons, evalPairs]
    refine wpAny_bind (thn (se_run hk I he hs hp) fun u s1 ⟨x, H1, ρ1, t1, d, I1, rx, he1, hs1, e1, r1, hp1⟩ => ?_)
    rw [aCons_bind] at hp1
    refine wpAny_bind (wpAny_holding (wpAny_bind (thn (se_run hv I1 he1 hs1 hp1) fun v s2 ⟨y, H2, ρ2, t2, d2, I2, ry, he2, hs2, e2, r2, hp2⟩ => wpAny_bind (wpAny_standAt (wpAny_pure ?_)))))
    refine wpAny_bind (wpAny_holding (thn (ih I2 he2 hs2 hp2) fun us s3 ⟨xs, H3, ρ3, t3, ds, I3, pr, he3, hs3, e3, r3, hp3⟩ => wpAny_pure ?_))
    exact ⟨x :: y :: xs, H3, ρ3, t3, d :: d2 :: ds, I3, .cons rx ry pr, he3, hs3, (e1.trans e2).trans e3, .cons (r1.ext (e2.trans e3)) (.cons (r2.ext e3) r3), hp3⟩
theorem put_all (hw : G.w = X.w) {A : Around} (hu : A.units + 8 < cLine) {E : Value → Shared → Prop} {pins : List (Addr × Obj)} {σ : L2.St} {F ρ : List Addr} {env : Env} {n : Nat} {a0 : Addr} (hn : ρ[n]? = some a0) {Q : PUnit → Shared → Prop} : ∀ {us : List (Value × Value)} {xs : List V} (_ : PR us xs) {ds : List D} {kvs kvs' : List (D × D)} {s0 : Shared} {H : Hp} {t : Sto}
    (_ : Reps X.K F ρ H xs ds) (_ : putAllD kvs ds = some kvs') (_ : Inv X pins σ H s0) (_ : SRel X.K G F ρ H t) (_ : t[n]? = some (.dat kvs)) (_ : EnvR X.K F ρ H σ env) (_ : kvs.length + us.length ≤ LIM)
    (_ : ∀ (s' : Shared) (H' : Hp), Inv X pins σ H' s' → SRel X.K G F ρ H' (t.set n (.dat kvs')) → EnvR X.K F ρ H' σ env → Ext ρ H ρ H' → Q PUnit.unit s'),
    wpAny (model X.prog X.w) A (forIn us PUnit.unit fun (x : Value × Value) (_ : PUnit) => (do dictSet a0 x.1 x.2; pure (ForInStep.yield PUnit.unit) : Sem (ForInStep PUnit))) Q E s0 := by
  intro us xs pr
  induction pr with
  | nil =>
    intro ds kvs kvs' s0 H t r hp I hs ht he hl hQ
    rw [List.forIn_nil]
    cases r
    simp only [putAllD, Option.some.injEq] at hp
    subst hp
    refine wpAny_pure (hQ s0 H I ?_ he (Ext.refl ρ H))
    obtain ⟨q1, q2⟩ := List.getElem?_eq_some_iff.mp ht
    rw [← q2, List.set_getElem_self]
    exact hs
  | @cons u v x y us xs rx ry pr ih =>
    intro ds kvs kvs' s0 H t r hp I hs ht he hl hQ
    cases r with
    | @cons _ _ d1 _ r1 r =>
      cases r with
      | @cons _ _ d2 _ r2 r =>
        simp only [putAllD] at hp
        split at hp
        · rename_i k h2
          rw [List.forIn_cons]
          simp only [List.length_cons] at hl
          obtain ⟨L, hA, ks, vs, ns, hE, nd, p1, p2⟩ := hs.obs n _ _ hn ht
          rw [hw] at hE
          obtain ⟨hk1, hk2⟩ := kOk_of h2
          have N := ndic_of I (.inl hA) hE nd p1
          obtain ⟨n1, n2, o, es, ep, n3, n4⟩ := N
          obtain ⟨x1, x2, x3, x4, x5, x6, x7⟩ := entR_ne hE
          obtain ⟨dr, hlen⟩ := datR_put hE nd p1 p2 h2 r1 r2 rx ry
          have hlk : L.length + 1 ≤ LIM := by rw [← x6, List.length_map]; omega
          refine wpAny_bind (wpAny_bind (set_n hu (nest_is I r1 hk1 rx) hk2 n3 n4 n2 fun h' po sb => wpAny_pure ?_))
          have hle := Nat.le_trans hlen (show L.length + 1 ≤ sizeLine by rw [sizeLine_eq]; simp only [LIM] at hlk; omega)
          have I4 := put_inv (t' := s0.toks + k.draws) I hA n1 hle po sb
          have hm := List.mem_of_getElem? hn
          have ex := Ext.put (o := datAt a0 ((putE (neOf ns L) k u v).map (NE.ent X.w))) hm (nf_dat hA)
          obtain ⟨ks', vs', ns', q1, q2, q3, q4⟩ := dr
          have hnl : n < t.length := (List.getElem?_eq_some_iff.mp ht).1
          refine ih (r.ext ex) hp I4 (hs.put (b := .dat (datPut kvs k d1 d2)) hn ⟨_, upd_same, ks', vs', ns', by rw [hw]; exact q1, q2, q3.ext ex, q4.ext ex⟩) (List.getElem?_set_self hnl) (he.ext ex) (Nat.le_trans (Nat.add_le_add_right (datPut_len ..) _) (by omega)) fun s' H' J hs' he' ex' => ?_
          rw [List.set_set] at hs'
          exact hQ s' H' J hs' he' (ex.trans ex')
        · cases hp
def pairsOf : List (Option Expr) → List Expr → List (Expr × Expr)
  | some k :: ks, v :: vs => (k, v) :: pairsOf ks vs
  | _, _ => []
inductive SPk (X : Cx) (G : SCtx) (W : WX) : List (Option Expr) → List Expr → AF → Prop
  | nil : SPk X G W [] [] aNil
  | cons {k v : Expr} {ks : List (Option Expr)} {vs : List Expr} {f h : EF} {g : AF} : SE X G W k f → SE X G W v h → SPk X G W ks vs g → SPk X G W (some k :: ks) (v :: vs) (aCons f (aCons h g))
theorem SPk.ps {keys : List (Option Expr)} {values : List Expr} {g : AF} (h : SPk X G W keys values g) : SPs X G W (pairsOf keys values) g := by
  induction h with
  | nil => exact .nil
  | cons a b _ ih => exact .cons a b ih
theorem s_ndic {keys : List (Option Expr)} {values : List Expr} {g : AF} (hw : G.w = X.w) (hu : X.A.units + 64 < cLine) (hk : SPk X G W keys values g) (h0 : pairsOf keys values ≠ [] := by exact fun z => nomatch z) (hl : (pairsOf keys values).length ≤ 15 := by exact Nat.le_of_ble_eq_true rfl)
    (hshape : (evalEachOpt keys X.env).zip ((evalEach values X.env).map fun v => do let x ← v; standAt pos; pure x) = ((pairsOf keys values).map fun p => (eval p.1 X.env, (do let x ← eval p.2 X.env; standAt pos; pure x : Sem Value))).map fun p => (some p.1, p.2) := by rfl) :
    SE X G W (.Dict keys values pos) (eDicN g) := by
  refine ⟨fun pins s0 σ H Q I h1 => ?_⟩
  have h := hk.ps
  generalize pairsOf keys values = ps at *
  obtain ⟨F, ρ, env, s, he, hs, hp⟩ := h1
  have hp0 := I.hok.fresh (Nat.le_refl _)
  have hb : (s0.heap.objs.size == sysModules) = false := beq_eq_false_iff_ne.mpr (Ne.symm (Nat.ne_of_lt I.big))
  have I1 := I.laid (h' := s0.heap.push { cls := .type "dict", data := .dict #[] }) (o := datAt s0.heap.objs.size []) (t' := s0.toks) (fun _ _ q => Heap.get?_push_of_some _ q) (Nat.le_refl _) (dat_ok hb (Nat.zero_le _) (Heap.get?_push_size _ rfl) ⟨rfl, rfl, rfl⟩ rfl rfl)
  have hs1 : SRel X.K G F (ρ ++ [s0.heap.objs.size]) (upd H s0.heap.objs.size (datAt s0.heap.objs.size [])) (s ++ [.dat []]) := hs.alloc hp0 ⟨[], upd_same, [], [], [], .nil, List.nodup_nil, .nil, .nil⟩
  have ex1 : Ext ρ H (ρ ++ [s0.heap.objs.size]) (upd H s0.heap.objs.size (datAt s0.heap.objs.size [])) := Ext.alloc ρ hp0
  have hne : (ps.map fun p => (eval p.1 X.env, (do let x ← eval p.2 X.env; standAt pos; pure x : Sem Value))) ≠ [] := fun z => h0 (List.map_eq_nil_iff.mp z)
  have hlen : (ps.map fun p => (eval p.1 X.env, (do let x ← eval p.2 X.env; standAt pos; pure x : Sem Value))).length ≤ 15 := by rw [List.length_map]; exact hl
  rw [arm_eval_Dict, hshape, dictDisplay_pairs _ hne (by omega)]
  refine wpAny_bind (wpAny_standAt (wpAny_bind ?_))
  unfold subDict
  refine wpAny_bind (wpAny_alloc ?_)
  refine wpAny_bind (wpAny_holding ?_)
  rw [if_pos hlen]
  unfold eDicN at hp
  refine wpAny_bind (thn (pairs_run h I1 (he.ext ex1) hs1 (hp.ext ex1)) fun us s1 ⟨xs, H1, ρ1, t1, ds, I2, pr, he2, hs2, e2, r2, hp2⟩ => ?_)
  split at hp2
  · rename_i hdl
    split at hp2
    · rename_i hx
      split at hp2
      · rename_i kvs hkv
        have hn : ρ1[s.length]? = some s0.heap.objs.size := by
          obtain ⟨m, hm, _⟩ := e2.pre
          rw [hm, ← hs.len]
          simp
        refine wpAny_holding (wpAny_bind (put_all hw (by omega) hn pr r2 hkv I2 hs2 hx he2 (by have := pr.len; have := r2.length; simp only [List.length_nil, LIM]; omega) fun s' H' I3 hs3 he3 e3 => wpAny_pure (wpAny_pure (wpAny_pure ?_))))
        exact ⟨.ref s0.heap.objs.size, H', I3, rfl, hp2 ρ1 H' e3 hs3 _ (.ref hn)⟩
      · exact hp2.elim
    · exact hp2.elim
  · exact hp2.elim
end
end Sx

/-! PxZr: a, b = a list. -/
namespace Sx
open PySem L2
def gTupL (n : Nat) (h : GFs) : GF := fun d env s => match lstOf s d with
  | some xs => if xs.length = n then h xs env s else none
  | none => none
section
open PySem.Spec PyProof.Rows
variable {X : Cx} {G : SCtx} {W : WX} {pos : Pos}
theorem sg_tupL {es : List Expr} {k n : Nat} {g2 : GFs} (hc : X.calm = true) (h : SGs X G es g2)
    (hn : (assignEach es X.env).length = n := by rfl) (hst : (assignEach es X.env).findIdx? (·.1) = none := by rfl) : SG X G (.Tuple es k pos) (gTupL n g2) := by
  refine pg_imp (pg_lst hc h hn hst) fun v σ H Q h => ?_
  obtain ⟨F, ρ, env, s, d, he, hs, r, hp⟩ := h
  unfold gTupL at hp
  split at hp
  · rename_i xs hx
    split at hp
    · rename_i hl
      cases r with
      | lst t q =>
        cases hx
        exact ⟨_, _, rfl, t.sq, q.length.trans hl, F, ρ, env, s, _, he, hs, q, hp⟩
      | ref q =>
        rename_i n0
        simp only [lstOf] at hx
        split at hx
        · rename_i xs' hx'
          cases hx
          obtain ⟨vs, h1, h2⟩ := hs.obs _ _ _ q hx'
          exact ⟨_, _, rfl, SqL.of h1, h2.length.trans hl, F, ρ, env, s, _, he, hs, h2, hp⟩
        · cases hx
      | _ => cases hx
    · exact hp.elim
  · exact hp.elim
end
section
variable {env : Env} {s : Sto} {gs : GFs}
@[simp] theorem gTupL_v {n : Nat} {xs : List D} : gTupL n gs (.lst xs) env s = if xs.length = n then gs xs env s else none := rfl
theorem gTupL_r {n m : Nat} {xs : List D} (h : s[m]? = some (.lst xs)) : gTupL n gs (.ref m) env s = if xs.length = n then gs xs env s else none := by
  unfold gTupL
  rw [lstOf_ref h]
end
theorem eDicN_ok {g : AF} {env : Env} {s : Sto} {ds : List D} {kvs : List (D × D)} (h : g env (s ++ [.dat []]) = .ok ds (s ++ [.dat []])) (hl : ds.length ≤ 30) (hp : putAllD [] ds = some kvs) : eDicN g env s = .ok (.ref s.length) (s ++ [.dat kvs]) := by
  unfold eDicN
  rw [h]
  simp only [R.bind]
  rw [if_pos hl]
  have e : (s ++ [Ob.dat []])[s.length]? = some (Ob.dat []) := by simp
  rw [e]
  simp only [hp]
  congr 1
  simp
end Sx

/-! PxZs: an exception that leaves a comprehension's element (where its context is None). -/
namespace Sx
open PySem L2
section
open PySem.Spec PyProof.Rows
/-- a block's context with what is wanted of an exception -/
abbrev blkE (X : Cx) (s : Shared) (H : Hp) (scope : Scope) (cenv : PySem.Env) (fp : List Addr) (xe : Value → Shared → Prop) : Cx := { X with s_0 := s, H_0 := H, env := cenv, outer := X.stack, ex := fp, fn := fun x => scope.names.lookup x == some .cell, pn := [], xe := xe }
section
variable {X : Cx} {pins : List (Addr × Obj)} {σ : L2.St} {H : Hp} {s : Shared}
theorem Ok_setXe (ok : X.Ok) (xe : Value → Shared → Prop) : ({ X with xe := xe } : Cx).Ok := ⟨ok.mod, ok.kind, ok.glob, ok.blt, ok.above, ok.inj, ok.has, ok.cab, ok.hd, ok.frames, ok.stk, ok.exf, ok.bs, ok.bsz, ok.noex, ok.exfs, ok.funs, ok.frf⟩
theorem Inv_setXe (I : Inv X pins σ H s) (xe : Value → Shared → Prop) : Inv ({ X with xe := xe } : Cx) pins σ H s := ⟨Ok_setXe I.ok xe, I.os, I.bare, I.base, I.loc, I.cell, I.free, I.freeC, I.pin, I.hok, I.len⟩
end
section
variable {M : Model} {A : Around} {E : Value → Shared → Prop} {s : Shared} {Z : Obj → Prop} {base : Heap} {env : PySem.Env} {outer l : List PySem.Env} {L e C : Addr}
theorem raw_ne {a b : Addr} (h : a ≠ b) : ¬ ((rawInt (a : Int) == rawInt (b : Int)) = true) := by
  intro z
  have e : rawInt (a : Int) = rawInt (b : Int) := by simpa using z
  unfold rawInt at e
  exact h (Int.ofNat_inj.mp (Value.int.inj e).1)
/-- noted elsewhere: the frame is noted -/
theorem looks_flZ {fl : Value} {Q : Unit → Shared → Prop} (hZ : PXN.Steady1 Z) (hfr : A.frames = some (env :: outer)) (hf : env.frame = some L) (hkb : base.StaysIn s.heap) (hen : base.get? e = none) (hl : s.heap.FunFrames base (env :: outer)) (ht : HandSPX.TracedZ s.heap base e Z fl) (hne : ¬ ((fl == rawInt L) = true))
    (hQ : ∀ h', HandSPX.HeldZ base (env :: outer) e Z L h' → s.heap.UpToSlots h' → Q () { s with heap := h' }) : wpAny M A (noteFrame (.ref e) env) Q E s := by
  obtain ⟨oe, vs, T, oT, ts, he, hz, hd, h1, hnT, hTe, hT, hdT, h3⟩ := ht
  unfold noteFrame
  simp only [hf]
  refine wpAny_bind (wpAny_field he hd h1 ?_)
  rw [if_pos (show (Value.ref T != Value.none) = true from by simp)]
  refine wpAny_bind (wpAny_field hT hdT h3 ?_)
  rw [if_neg hne]
  refine wpAny_bind (wpAny_setField hT hdT (Array.getElem?_eq_some_iff.mp h3).1 ?_)
  have other : ∀ b, b ≠ T → (s.heap.update T (Obj.mapFields (·.setIfInBounds 3 Value.none))).get? b = s.heap.get? b := fun b hb => Heap.get?_update_other _ _ (Ne.symm hb)
  have noRecord : ∀ b o, s.heap.get? b = some o → (∀ vs, o.data ≠ .fields vs) → b ≠ T := fun b o hb hnf q => by
    rw [q, hT] at hb; injection hb with hb; subst hb; exact hnf ts hdT
  refine PXN.wpAny_entryZ hZ hfr (hl.of_keeps fun b o hb hnf => ⟨o, (other b (noRecord b o hb hnf)).trans hb, rfl⟩) hf ((other e (Ne.symm hTe)).trans he)
    (fun b o hbo => (other b fun q => by rw [q, hnT] at hbo; cases hbo).trans (hkb b o hbo)) hen hd (Array.getElem?_eq_some_iff.mp h1).1 hz fun h' hN => ?_
  obtain ⟨x1, x2, x3, x4⟩ := hN
  exact hQ h' ⟨x1, hen, x2, x3⟩ fun b o hb hnf => x4 b o ((other b (noRecord b o hb hnf)).trans hb) hnf
theorem sky_note {Q : Unit → Shared → Prop} (hZ : PXN.Steady1 Z) (hfr : A.frames = some (env :: outer)) (hf : env.frame = some L) (hCL : C ≠ L) (sky : Sky base (env :: outer) e Z C s.heap)
    (hQ : ∀ h', HandSPX.HeldZ base (env :: outer) e Z L h' → s.heap.UpToSlots h' → Q () { s with heap := h' }) : wpAny M A (noteFrame (.ref e) env) Q E s := by
  rcases sky with ⟨hB, hn, hl, oe, vs, he, hz, hd, h1⟩ | fl | ⟨h1, h2, h3, h4⟩
  · exact PXN.look_newZ hZ hfr hl hf he hB hn hd h1 hz hQ
  · exact PXN.looks_onZ hZ hfr hf fl hQ
  · exact looks_flZ hZ hfr hf h1 h2 h3 h4 (raw_ne hCL) hQ
end
section
variable {X : Cx} {W : WX} {pins : List (Addr × Obj)} {σ : L2.St} {H : Hp}
/-- the block's exception is the def's -/
theorem fails_N (hs : X.stack = X.env :: X.outer) (hf : X.env.frame = some X.env.locals) (tk : L2N.Takes X W) {s3 : Shared} {H3 : Hp} {scope : Scope} {ce : PySem.Env} {fp : List Addr} {xe : Value → Shared → Prop} (I3 : Inv X pins σ H3 s3) (f3 : ∀ b ∈ fp, FpOk X pins H3 b ∧ b < s3.heap.objs.size)
    (cL : ce.locals = s3.heap.objs.size) (cF : ce.frame = X.env.frame) {u : Value} {s' : Shared} (x : L2N.XE (blkE X s3 H3 scope ce fp xe) (fun cls d _ H => W cls d σ H) u s') :
    notedBy (model X.prog X.w) X.A ce (fun e s'' => CompFails (model X.prog X.w) X.A X.xe ce e s'') u s' := by
  obtain ⟨a, B, sI, pins', σ', H', cls, d, rfl, I', nb, up, sky, na, os, ag, w⟩ := x
  have hfr : X.A.frames = some (X.env :: X.outer) := by rw [I3.ok.frames, hs]
  have hCX : s3.heap.objs.size ≠ X.env.locals := Nat.ne_of_gt I3.lt
  have J : Inv X pins σ H' sI := I3.call' (ch := fp) I'.os I'.base I'.hok I'.bare fun b hb => ⟨(f3 b hb).1.2.2.2.1, (f3 b hb).1.2.1, (f3 b hb).1.2.2.2.2.1, (f3 b hb).1.2.2.2.2.2⟩
  have nC : H' s3.heap.objs.size = none := by
    have z : H' ce.locals = none := I'.free
    rw [cL] at z
    exact z
  obtain ⟨g0, g1, g2, g3, g4, g5⟩ := I3.fpOk (Nat.le_refl _) nC
  obtain ⟨m, hn, _⟩ := I'.loc
  have hn : sI.heap.Ns ce.locals m := hn
  have sky : Sky B (X.env :: X.outer) a (L2N.Zn cls d) ce.locals s'.heap := by rw [← hs]; exact sky
  show wpAny (model X.prog X.w) X.A (noteFrame (.ref a) ce) _ _ s'
  rw [noteFrame_env _ cF]
  refine sky_note L2N.Zn.steady hfr hf (by rw [cL]; exact hCX) sky fun h1 held up1 => ?_
  have hn' : s'.heap.Ns ce.locals m := hn.upToSlots up
  have hn1 : h1.Ns ce.locals m := hn'.upToSlots up1
  refine ⟨m, hn1, fun h2 m2 hn2 sb2 => ?_⟩
  obtain ⟨b1, b0, fr1, tr1⟩ := held
  have ofd : ∀ b o (vs : Array Value), h1.get? b = some o → o.data = .fields vs → b ≠ ce.locals := fun b o vs hb hd z => by
    obtain ⟨oL, es, ep, hoL, hdL, _⟩ := hn1
    rw [z, hoL] at hb
    cases hb
    rw [hdL] at hd
    cases hd
  obtain ⟨oe, vs, T, oT, ts, he, hz, hd, h1v, hnT, hTe, hT, hdT, h3v⟩ := tr1
  have Bo : ∀ b o, (PySem.W.hideAll B [s3.heap.objs.size]).get? b = some o → B.get? b = some o ∧ b ≠ s3.heap.objs.size := fun b o e => by
    refine ⟨PySem.W.of_hideAll _ e, fun z => ?_⟩
    rw [PySem.W.hideAll_none _ (by simp [z])] at e
    cases e
  have BoN : ∀ b, B.get? b = none → (PySem.W.hideAll B [s3.heap.objs.size]).get? b = none := fun b e => by
    cases q : (PySem.W.hideAll B [s3.heap.objs.size]).get? b with
    | none => rfl
    | some o => rw [(Bo b o q).1] at e; cases e
  have st2 : (PySem.W.hideAll B [s3.heap.objs.size]).StaysIn h2 := fun b o e => by
    obtain ⟨e1, e2⟩ := Bo b o e
    exact (sb2.2 b (by rw [cL]; exact e2)).trans (b1 b o e1)
  have fr2 : h2.FunFrames (PySem.W.hideAll B [s3.heap.objs.size]) (X.env :: X.outer) := by
    refine funFrames_none (Heap.FunFrames.sameBut sb2 hn2 fr1) fun b hb => BoN b ?_
    exact (fr1.mem hb).1
  have he2 : h2.get? a = some oe := (sb2.2 a (ofd a oe vs he hd)).trans he
  have hT2 : h2.get? T = some oT := (sb2.2 T (ofd T oT ts hT hdT)).trans hT
  have held2 : HandSPX.HeldZ (PySem.W.hideAll B [s3.heap.objs.size]) (X.env :: X.outer) a (L2N.Zn cls d) X.env.locals h2 := ⟨st2, BoN a b0, fr2, oe, vs, T, oT, ts, he2, hz, hd, h1v, BoN T hnT, hTe, hT2, hdT, h3v⟩
  unfold PySem.passOn
  refine wpAny_bind (wpAny_field he2 hd h1v ?_)
  rw [if_neg (show ¬ ((Value.ref T == Value.none) = true) from by simp)]
  rw [cF, hf]
  refine wpAny_bind (HandSPX.setFlight_onZ (s := { s' with heap := h2 }) held2 fun h4 held4 up4 => ?_)
  refine wpAny_throw (tk _ _ ⟨a, PySem.W.hideAll B [s3.heap.objs.size], { sI with heap := PySem.W.hideAll sI.heap [s3.heap.objs.size], toks := sI.toks }, pins, σ, H', cls, d, rfl,
    J.turned (t' := sI.toks) (fun b o hb e => PySem.W.hideAll_get _ e (by simpa using hb)) g0 g1 g3 g4 g5, fun b o e hb => ?_, fun b o e hnf => ?_, .inr (.inr (by rw [hs]; exact held4)), na, os, ag, w⟩)
  · have e1 := PySem.W.of_hideAll _ e
    have hb2 : b ≠ s3.heap.objs.size := fun z => by
      have e' : (PySem.W.hideAll sI.heap [s3.heap.objs.size]).get? b = some o := e
      rw [PySem.W.hideAll_none _ (by simp [z])] at e'
      cases e'
    exact PySem.W.hideAll_get _ (nb b o e1 hb) (by simpa using hb2)
  · have e1 := PySem.W.of_hideAll _ e
    have hb2 : b ≠ s3.heap.objs.size := fun z => by
      have e' : (PySem.W.hideAll sI.heap [s3.heap.objs.size]).get? b = some o := e
      rw [PySem.W.hideAll_none _ (by simp [z])] at e'
      cases e'
    obtain ⟨sl1, q1⟩ := up b o e1 hnf
    obtain ⟨sl2, q2⟩ := up1 b _ q1 hnf
    have q3 : h2.get? b = _ := (sb2.2 b (by rw [cL]; exact hb2)).trans q2
    obtain ⟨sl4, q4⟩ := up4 b _ q3 hnf
    exact ⟨sl4, q4⟩

theorem lc_coreN {s : Shared} {Q : VK} {elt tg iter : Expr} {ifs : List Expr} {scope : Scope} {own : List (Str × Nat)} {pos pos' : Pos} {wi : TI} {g : TG} {tt : TT} {te : WX → TE} {Qf : Value → Shared → Prop}
    (hs' : X.stack = X.env :: X.outer) (hf' : X.env.frame = some X.env.locals) (tk : L2N.Takes X W)
    (hc : X.calm = true) (hN : X.N.Nodup) (I : Inv X pins σ H s) (hi : PI X tg iter wi) (ok : BlkOk X.N X.env.scope scope own)
    (hg : ∀ (s : Shared) (H : Hp) (C : Addr) (cl : List (Str × Addr)) (fp : List Addr) (xe : Value → Shared → Prop), PG (blkE X s H scope (compEnvC scope cl C X.env) fp xe) tg g) (ht : ∀ (s : Shared) (H : Hp) (C : Addr) (cl : List (Str × Addr)) (fp : List Addr) (xe : Value → Shared → Prop), PTs (blkE X s H scope (compEnvC scope cl C X.env) fp xe) ifs tt)
    (he : ∀ (s : Shared) (H : Hp) (C : Addr) (cl : List (Str × Addr)) (fp : List Addr) (xe : Value → Shared → Prop) (Wb : WX), L2N.Takes (blkE X s H scope (compEnvC scope cl C X.env) fp xe) Wb → PE (blkE X s H scope (compEnvC scope cl C X.env) fp xe) elt (te Wb)) (hs : ∀ x, foldedSetIterable iter X.env x = pure x)
    (h : tLc wi g tt (te fun cls d _ H => W cls d σ H) (own.map (·.2)) σ H Q)
    (hRR : ∀ D C s' m H', Inv X pins σ H' s' → Q (.ref D) H' → s'.heap.Ns C m → FpOk X pins H' C → compPost (model X.prog X.w) X.A X.xe none Qf (.ref D) C (.ok .next) s') :
    wpAny (model X.prog X.w) X.A (comprehension (.ListComp elt [⟨tg, iter, ifs, 0⟩] scope pos) scope X.env pos' (newList []) false (eval iter X.env) none) Qf X.xe s := by
  have hfree : ∀ y ∈ scope.names, y.2 = .free → ∃ c, X.env.cells.lookup y.1 = some c := fun y hy e => by
    rcases ok.free y hy e with k | k
    · exact I.ok.has _ (.inl k)
    · exact I.ok.has _ (.inr k)
  refine comprehension_at (use := none) rfl hs (closure_ok hfree) ok.kind (fun y hy e => by rw [ok.uniq y hy, e])
    (thn (hi.run pins s σ H _ I h) fun xv s1 hx => thn hx fun itv s2 h2 => ?_)
  obtain ⟨it, fp, tn, J, H2, e, I2, T, st2, f2, q⟩ := h2
  subst e
  refine wpAny_newObj_type (newEnv_comp ?_) (by show 0 ≤ sizeLine; decide)
  generalize hD : s2.heap.objs.size = D
  have hDn : H2 D = none := I2.hok.fresh (Nat.le_of_eq hD)
  obtain ⟨Wt, ⟨m0, w0⟩, turn⟩ := q D hDn
  generalize hs3 : ({ s2 with heap := s2.heap.push { cls := .type "list", data := .seq ([] : List Value).toArray } } : Shared) = s3
  have I3 : Inv X pins σ (upd H2 D (.lst [])) s3 := by
    rw [← hs3]
    refine I2.laid (t' := s2.toks) (fun b o e => Heap.get?_push_of_some _ e) (Nat.le_of_eq hD) ⟨Nat.zero_le _, [], 0, .nil, ?_⟩
    rw [← hD]
    exact Heap.get?_push_size _ rfl
  have h3 : s3.heap = s2.heap.push { cls := .type "list", data := .seq ([] : List Value).toArray } := by rw [← hs3]
  have sz : ∀ b ∈ fp, b < s2.heap.objs.size := fun b hb => by
    obtain ⟨o, e, _⟩ := T.obj _ _ st2 b hb
    exact Heap.lt_size e
  have f3 : ∀ b ∈ fp, FpOk X pins (upd H2 D (.lst [])) b ∧ b < s3.heap.objs.size := fun b hb => by
    have hlt := sz b hb
    refine ⟨⟨?_, (f2 b hb).2⟩, by rw [h3, Heap.size_push]; exact Nat.lt_succ_of_lt hlt⟩
    rw [upd_ne (by rw [← hD]; exact Nat.ne_of_lt hlt)]
    exact (f2 b hb).1
  have st3 : tn 0 s3.heap := T.keep _ _ _ st2 fun b _ o e => by rw [h3]; exact Heap.get?_push_of_some _ e
  have I4 := block_start I3 ok hN f3
  have pg := hg s3 (upd H2 D (.lst [])) s3.heap.objs.size (cellsFrom (s3.heap.objs.size + 1) scope.names (cloFrom X.env.cells scope.names [])) fp
  have pt := ht s3 (upd H2 D (.lst [])) s3.heap.objs.size (cellsFrom (s3.heap.objs.size + 1) scope.names (cloFrom X.env.cells scope.names [])) fp
  have pe := he s3 (upd H2 D (.lst [])) s3.heap.objs.size (cellsFrom (s3.heap.objs.size + 1) scope.names (cloFrom X.env.cells scope.names [])) fp
  show codeAny _ _ (.compStart (.ListComp elt [⟨tg, iter, ifs, 0⟩] scope pos) 0 (.ref it) (.ref D) (compEnvC scope (cellsFrom (s3.heap.objs.size + 1) scope.names (cloFrom X.env.cells scope.names [])) s3.heap.objs.size X.env)) (compEnds (model X.prog X.w) X.A X.xe none Qf (.ref D) (compEnvC scope (cellsFrom (s3.heap.objs.size + 1) scope.names (cloFrom X.env.cells scope.names [])) s3.heap.objs.size X.env)) { s3 with heap := pushCells (s3.heap.push { cls := .type "dict", data := .dict #[] }) scope.names }
  have nfp : ∀ b ∈ fp, (upd H2 D (.lst [])) b = none := fun b hb => (f3 b hb).1.1
  generalize hce : compEnvC scope (cellsFrom (s3.heap.objs.size + 1) scope.names (cloFrom X.env.cells scope.names [])) s3.heap.objs.size X.env = ce at I4 pg pt pe ⊢
  have cL : ce.locals = s3.heap.objs.size := by subst hce; rfl
  have cF : ce.frame = X.env.frame := by subst hce; rfl
  generalize hH3 : upd H2 D (.lst []) = H3 at I3 I4 pg pt pe w0 nfp f3
  generalize hs4 : ({ s3 with heap := pushCells (s3.heap.push { cls := .type "dict", data := .dict #[] }) scope.names } : Shared) = s4 at I4 ⊢
  have st4 : tn 0 s4.heap := T.keep _ _ _ st3 fun b _ o e => by rw [← hs4]; exact pushCells_keeps _ _ _ _ (Heap.get?_push_of_some _ e)
  generalize hxe : (fun u s' => notedBy (model X.prog X.w) X.A ce (fun e s'' => CompFails (model X.prog X.w) X.A X.xe ce e s'') u s' : Value → Shared → Prop) = xb
  have tkb : L2N.Takes (blkE X s3 H3 scope ce fp xb) (fun cls d _ H => W cls d σ H) := fun u s' x => by
    show xb u s'
    rw [← hxe]
    exact fails_N hs' hf' tk I3 f3 cL cF x
  have pg := pg xb
  have pt := pt xb
  have pe := pe xb _ tkb
  have I4 : Inv (blkE X s3 H3 scope ce fp xb) [] (wipe σ (own.map (·.2))) H3 s4 := Inv_setXe I4 xb
  have stat : ∀ {σ' : L2.St} {H' : Hp} {s' : Shared}, Inv (blkE X s3 H3 scope ce fp xb) [] σ' H' s' → (∀ b ∈ fp, H' b = none) → ∀ b ∈ fp, FpOk (blkE X s3 H3 scope ce fp xb) [] H' b := fun {σ' H' s'} I' hn b hb =>
    ⟨hn b hb, (I'.ok.exf b hb).1, I'.ok.exfs b hb, .inl hb, fun x c e => (I'.ok.exf b hb).2 x c e, fun p hp => absurd (show p ∈ ([] : List (Addr × Obj)) ++ [] from hp) (by simp)⟩
  have loop : codeAny (model X.prog X.w) X.A (.compLoop (.ListComp elt [⟨tg, iter, ifs, 0⟩] scope pos) 0 (.ref it) (.ref D) ce) (compEnds (model X.prog X.w) X.A X.xe none Qf (.ref D) ce) s4 := by
    refine compLoop_any (fun n s' => ∃ i H', Inv (blkE X s3 H3 scope ce fp xb) [] (wipe σ (own.map (·.2))) H' s' ∧ tn i s'.heap ∧ (∀ b ∈ fp, H' b = none) ∧ Wt i n H') ?_ m0 ⟨0, H3, I4, st4, nfp, w0⟩
    rintro n s5 ⟨i, H5, I5, st5, n5, w5⟩
    rcases turn i n H5 w5 with ⟨stop, qq⟩ | ⟨go, Nx, hNx, step⟩
    · have td := T.done (blkE X s3 H3 scope ce fp xb) rfl rfl rfl hc i [] s5 _ H5 (fun _ _ => False) I5 (stat I5 n5) st5 stop
      refine thnF td fun r s6 ⟨hr, I6⟩ => ?_
      subst hr
      have I7 : Inv X pins σ H5 s6 := I3.call' (ch := fp) I6.os I6.base I6.hok I6.bare fun b hb => ⟨(f3 b hb).1.2.2.2.1, (f3 b hb).1.2.1, (f3 b hb).1.2.2.2.2.1, (f3 b hb).1.2.2.2.2.2⟩
      have nC : H5 s3.heap.objs.size = none := by
        have z : H5 ce.locals = none := I6.free
        rw [cL] at z
        exact z
      obtain ⟨m, hn, _⟩ := I6.loc
      have hn : s6.heap.Ns ce.locals m := hn
      rw [cL] at hn
      have := hRR D s3.heap.objs.size s6 m H5 I7 qq hn (I3.fpOk (Nat.le_refl _) nC)
      rw [← cL] at this
      exact this
    · have ti := T.item (blkE X s3 H3 scope ce fp xb) rfl rfl rfl hc i [] s5 _ H5 (fun _ _ => False) I5 (stat I5 n5) st5 go
      refine thnF ti fun r s6 ⟨u, hr, h6⟩ => ?_
      subst hr
      refine thnF h6 fun _ s7 ⟨x, H7, I7, r7, y7, st7, n7⟩ => ?_
      have I7' := I7.pinned (stat I7 n7) (T.obj _ _ st7)
      have xeq : ∀ u s', xb u s' → notedBy (model X.prog X.w) X.A ce (fun e s'' => compEnds (model X.prog X.w) X.A X.xe none Qf (.ref D) ce (.error e) s'') u s' := fun u s' z => by
        rw [← hxe] at z
        exact z
      refine wpAny_mono (pg.run _ s7 _ H7 x u _ I7' r7 (step x H7 y7)) (fun _ s8 ⟨σ8, H8, I8, hw8, q8⟩ => ?_) xeq
      refine wpAny_mono (pt.run _ s8 σ8 H8 _ I8 q8) (fun b s9 ⟨H9, I9, q9⟩ => ?_) xeq
      have fin : ∀ {s' : Shared} {H' : Hp}, Inv (blkE X s3 H3 scope ce fp xb) ([] ++ pinsAt fp s7.heap) σ8 H' s' → Nx H' → ∃ m, m < n ∧ ∃ i H', Inv (blkE X s3 H3 scope ce fp xb) [] (wipe σ (own.map (·.2))) H' s' ∧ tn i s'.heap ∧ (∀ b ∈ fp, H' b = none) ∧ Wt i m H' := fun {s' H'} I' nx => by
        obtain ⟨m', hm, w'⟩ := hNx H' nx
        have pin' : ∀ b ∈ fp, ∀ o, s7.heap.get? b = some o → s'.heap.get? b = some o ∧ H' b = none := fun b hb o e =>
          let z := I'.pin (b, o) (List.mem_append_right _ (List.mem_append_right _ (mem_pinsAt hb e)))
          ⟨z.1, z.2.1⟩
        have hl : (wipe σ (own.map (·.2))).length = σ8.length := by rw [← hw8, wipe_length]
        refine ⟨m', hm, i + 1, H', (I'.unpinned (pins := [])).weak hl (fun j v e => ?_), T.keep _ _ _ st7 fun b hb o e => (pin' b hb o e).1, fun b hb => ?_, w'⟩
        · rw [← hw8] at e
          exact (wipe_some e).1
        · obtain ⟨o, e, _⟩ := T.obj _ _ st7 b hb
          exact (pin' b hb o e).2
      cases b with
      | false =>
        simp only [Bool.false_eq_true, if_false] at q9 ⊢
        exact fin I9 q9
      | true =>
        simp only [if_true] at q9 ⊢
        refine wpAny_mono (pe.run _ s9 σ8 H9 _ I9 q9) (fun z s10 ⟨yv, H10, I10, r10, acc, hD10, hz10, nx⟩ => ?_) xeq
        exact app_ok (X := blkE X s3 H3 scope ce fp xb) I10 hD10 hz10 r10 fun s11 I11 => fin I11 nx
  exact codeAny_compStart_list loop (T.self X.A 0 _ _ _ st4 loop)
theorem pe_lcN {elt tg iter : Expr} {ifs : List Expr} {scope : Scope} {own : List (Str × Nat)} {pos : Pos} {wi : TI} {g : TG} {tt : TT} {te : WX → TE} (hs' : X.stack = X.env :: X.outer) (hf' : X.env.frame = some X.env.locals) (tk : L2N.Takes X W) (hc : X.calm = true) (hN : X.N.Nodup) (hi : PI X tg iter wi) (ok : BlkOk X.N X.env.scope scope own)
    (hg : ∀ (s : Shared) (H : Hp) (C : Addr) (cl : List (Str × Addr)) (fp : List Addr) (xe : Value → Shared → Prop), PG (blkE X s H scope (compEnvC scope cl C X.env) fp xe) tg g) (ht : ∀ (s : Shared) (H : Hp) (C : Addr) (cl : List (Str × Addr)) (fp : List Addr) (xe : Value → Shared → Prop), PTs (blkE X s H scope (compEnvC scope cl C X.env) fp xe) ifs tt)
    (he : ∀ (s : Shared) (H : Hp) (C : Addr) (cl : List (Str × Addr)) (fp : List Addr) (xe : Value → Shared → Prop) (Wb : WX), L2N.Takes (blkE X s H scope (compEnvC scope cl C X.env) fp xe) Wb → PE (blkE X s H scope (compEnvC scope cl C X.env) fp xe) elt (te Wb)) (hs : ∀ x, foldedSetIterable iter X.env x = pure x) :
    PE X (.ListComp elt [⟨tg, iter, ifs, 0⟩] scope pos) (fun σ H Q => tLc wi g tt (te fun cls d _ H => W cls d σ H) (own.map (·.2)) σ H Q) := by
  refine ⟨fun pins s σ H Q I h => ?_⟩
  rw [eval_ListComp]
  refine lc_coreN hs' hf' tk hc hN I hi ok hg ht he hs h fun D C s' m H' I' q hn f => ⟨m, hn, fun h'' sb => ?_⟩
  obtain ⟨f0, f1, f2, f3, f4, f5⟩ := f
  exact ⟨.ref D, H', I'.turned (t' := s'.toks) (fun b o hb e => (sb.2 b hb).trans e) f0 f1 f3 f4 f5, rfl, q⟩
end
end
end Sx

/-! PxZt: comprehensions whose element may raise: plain meaning, the rule (where the exception's context is None). -/
namespace Sx
open PySem L2
def lcX (g : GF) (t : TF) (f : EF) (env : Env) : List D → Sto → R (List D)
  | [], s => .ok [] s
  | d :: ds, s => match g d env s with
    | some r => match t r.1 r.2 with
      | .ok true s2 => match f r.1 s2 with
        | .ok x s3 => match lcX g t f env ds s3 with
          | .ok xs s4 => .ok (x :: xs) s4
          | .ex c s4 => .ex c s4
          | .no => .no
        | .ex c s3 => .ex c s3
        | .no => .no
      | .ok false s2 => lcX g t f env ds s2
      | _ => .no
    | none => .no
def kLcX : R (List D) → R D
  | .ok xs s => .ok (.lst xs) s
  | .ex c s => .ex c s
  | .no => .no
def eLcX (i : IF) (g : GF) (t : TF) (f : EF) (vs : List Nat) : EF := fun env s => (i env s).bind fun ds s1 => if ds.length ≤ LIM then kLcX (lcX g t f (wipeE env vs) ds s1) else .no
def appR (pre : List D) : R (List D) → R (List D)
  | .ok xs s => .ok (pre ++ xs) s
  | .ex c s => .ex c s
  | .no => .no
theorem appR_nil (r : R (List D)) : appR [] r = r := by cases r <;> rfl
section
variable {X : Cx} {G : SCtx} {W : WX} {pos : Pos} {tg : Expr} {i : IF} {gt : GF} {f : EF}
theorem lcX_sound {t : TF} {gtt : TG} {vs : List Nat} {K : PySem.W.Frag} {F ρ1 : List Addr} {H1 : Hp} {s1 : Sto} {σ : L2.St} {env : Env} {ds : List D} {J : It} {Q : VK} {D0 : Addr} (cg : CG K gt gtt vs) (he : EnvR K F ρ1 H1 σ env) (hs : SRel K G F ρ1 H1 s1)
    (hJ : ItR K G F ρ1 H1 ds J) (hl : ds.length ≤ LIM) (hD : H1 D0 = none)
    (hQ : ∀ xs s2, lcX gt t f (wipeE env vs) ds s1 = .ok xs s2 → ∀ ρ' H' vacc, Ext ρ1 H1 ρ' H' → SRel K G (D0 :: F) ρ' H' s2 → H' D0 = some (.lst vacc) → Reps K (D0 :: F) ρ' H' vacc xs → Q (.ref D0) H')
    (hE : ∀ c s2, lcX gt t f (wipeE env vs) ds s1 = .ex c s2 → ∀ ρ' H', Ext ρ1 H1 ρ' H' → SRel K G F ρ' H' s2 → W (.ref (G.adr c)) none σ H') (hN : lcX gt t f (wipeE env vs) ds s1 ≠ .no) :
    ∃ Wt : Nat → Nat → Hp → Prop, (∃ m, Wt 0 m (upd H1 D0 (.lst []))) ∧ ∀ i m H, Wt i m H →
      (J.stop i H ∧ Q (.ref D0) H) ∨ (J.go i H ∧ ∃ Nx : Hp → Prop, (∀ H', Nx H' → ∃ m', m' < m ∧ Wt (i + 1) m' H') ∧ ∀ x H', J.yld i H x H' → gtt x (L2.wipe σ vs) H' fun σ2 H2 => L2.wipe σ2 vs = L2.wipe σ vs ∧ tTT K G W0 t σ2 H2 fun b H3 =>
        if b = true then tE K G (fun cls d _ H => W cls d σ H) f σ2 H3 fun y H4 => ∃ acc, H4 D0 = some (.lst acc) ∧ acc.length < sizeLine ∧ Nx (upd H4 D0 (.lst (acc ++ [y]))) else Nx H3) := by
  obtain ⟨Gd, Y, w, hgd, hy⟩ := hJ
  have cF : ∀ a ∈ D0 :: F, a ∈ F ∨ H1 a = none := fun a ha => by
    rcases List.mem_cons.mp ha with q | q
    · subst q; exact .inr hD
    · exact .inl q
  generalize hr0 : lcX gt t f (wipeE env vs) ds s1 = r0 at hQ hE hN
  refine lc_it w (fun i H => ∃ ρ s vacc dacc, Ext ρ1 H1 ρ H ∧ SRel K G (D0 :: F) ρ H s ∧ EnvR K (D0 :: F) ρ H (L2.wipe σ vs) (wipeE env vs) ∧ H D0 = some (.lst vacc) ∧ Reps K (D0 :: F) ρ H vacc dacc ∧ dacc.length ≤ i ∧
    appR dacc (lcX gt t f (wipeE env vs) (ds.drop i) s) = r0) ?_ (fun i H _ ⟨ρ, s, _, _, e, q, _⟩ => hgd _ ρ H s cF e q) ?_ ?_
  · exact ⟨ρ1, s1, [], [], Ext.new ρ1 hD, hs.addF hD, ((he.wipe vs).toF cF).ext (Ext.new ρ1 hD), upd_same, .nil, Nat.le_refl _, by rw [appR_nil, List.drop_zero]; exact hr0⟩
  · rintro i x H H' hi ⟨ρ, s, vacc, dacc, e, hs, hen, hv, hr, hln, hlc⟩ hY
    have hd : ds[i]? = some ds[i] := List.getElem?_eq_getElem hi
    obtain ⟨e2, q2, r2⟩ := hy _ i ρ H s x H' ds[i] cF e hs hd hY
    rw [List.drop_eq_getElem_cons hi] at hlc
    simp only [lcX] at hlc
    cases hr1 : gt ds[i] (wipeE env vs) s with
    | none => rw [hr1] at hlc; exact absurd hlc.symm hN
    | some r =>
      simp only [hr1] at hlc
      have hD0 : D0 ∈ D0 :: F := List.mem_cons_self
      have nD : ∀ {ρ H s}, SRel K G (D0 :: F) ρ H s → D0 ∉ ρ := fun h z => h.dis _ z hD0
      refine cg.run G (D0 :: F) ρ H' s _ (wipeE env vs) x ds[i] _ (hen.ext e2) q2 r2 r hr1 (cg.same _ _ _ _ hr1) fun σ' he' hw' => ?_
      refine ⟨hw'.trans (wipe_wipe fun _ h => h), D0 :: F, ρ, r.1, r.2, he', by rw [cg.same _ _ _ _ hr1]; exact q2, ?_⟩
      cases ht : t r.1 r.2 with
      | ex => simp only [ht] at hlc; exact absurd hlc.symm hN
      | no => simp only [ht] at hlc; exact absurd hlc.symm hN
      | ok b s2 =>
        simp only [ht] at hlc
        intro ρ3 H3 e3 q3
        have hv3 : H3 D0 = some (.lst vacc) := e3.keep _ _ (e2.keep _ _ hv (nD hs)) (nD q2)
        cases b with
        | false => exact iteF ⟨ρ3, s2, vacc, dacc, (e.trans e2).trans e3, q3, hen.ext (e2.trans e3), hv3, hr.ext (e2.trans e3), Nat.le_succ_of_le hln, hlc⟩
        | true =>
          refine iteT ⟨D0 :: F, ρ3, r.1, s2, he'.ext e3, q3, ?_⟩
          cases hf : f r.1 s2 with
          | no => simp only [hf] at hlc; exact absurd hlc.symm hN
          | ex c s3 =>
            simp only [hf, appR] at hlc
            intro ρ4 H4 e4 q4
            exact hE c s3 hlc.symm ρ4 H4 (((e.trans e2).trans e3).trans e4) (q4.subF fun a ha => List.mem_cons_of_mem _ ha)
          | ok y s3 =>
            simp only [hf] at hlc
            intro ρ4 H4 e4 q4 v r4
            have hv4 : H4 D0 = some (.lst vacc) := e4.keep _ _ hv3 (nD q3)
            refine ⟨vacc, hv4, ?_, ?_⟩
            · rw [hr.length]
              have : LIM = 1000000 := rfl
              have := sizeLine_eq
              omega
            · refine ⟨ρ4, s3, vacc ++ [v], dacc ++ [y], Ext.updF hD (((e.trans e2).trans e3).trans e4), q4.updF hD0, EnvR.updF hD0 (hen.ext ((e2.trans e3).trans e4)), upd_same,
                Reps.updF hD0 ((hr.ext ((e2.trans e3).trans e4)).snoc r4), by simp; omega, ?_⟩
              rw [← hlc]
              cases lcX gt t f (wipeE env vs) (ds.drop (i + 1)) s3 <;> simp [appR]
  · rintro H ⟨ρ, s, vacc, dacc, e, hs, hen, hv, hr, hln, hlc⟩
    rw [List.drop_length] at hlc
    simp only [lcX, appR, List.append_nil] at hlc
    exact hQ _ _ hlc.symm ρ H vacc e hs hv hr
theorem s_lcX {elt iter : Expr} {ifs : List Expr} {scope : Scope} {own : List (Str × Nat)} {t : TF} {gtt : TG} (hs' : X.stack = X.env :: X.outer) (hf' : X.env.frame = some X.env.locals) (tk : L2N.Takes X W) (hc : X.calm = true) (hN : X.N.Nodup) (hi : SI X G W tg iter i) (ok : BlkOk X.N X.env.scope scope own) (cg : CG X.K gt gtt (own.map (·.2)))
    (hg : ∀ (s : Shared) (H : Hp) (C : Addr) (cl : List (Str × Addr)) (fp : List Addr) (xe : Value → Shared → Prop), PG (blkE X s H scope (compEnvC scope cl C X.env) fp xe) tg gtt)
    (ht : ∀ (s : Shared) (H : Hp) (C : Addr) (cl : List (Str × Addr)) (fp : List Addr) (xe : Value → Shared → Prop), PTs (blkE X s H scope (compEnvC scope cl C X.env) fp xe) ifs (tTT X.K G W0 t))
    (he : ∀ (s : Shared) (H : Hp) (C : Addr) (cl : List (Str × Addr)) (fp : List Addr) (xe : Value → Shared → Prop) (Wb : WX), L2N.Takes (blkE X s H scope (compEnvC scope cl C X.env) fp xe) Wb → SE (blkE X s H scope (compEnvC scope cl C X.env) fp xe) G Wb elt f) (hs : ∀ x, foldedSetIterable iter X.env x = pure x := by intro _; rfl) :
    SE X G W (.ListComp elt [⟨tg, iter, ifs, 0⟩] scope pos) (eLcX i gt t f (own.map (·.2))) := by
  refine pe_imp (pe_lcN (te := fun Wb => tE X.K G Wb f) hs' hf' tk hc hN hi ok hg ht he hs) fun σ H Q h => ?_
  obtain ⟨F, ρ, env, s, hen, hsr, hp⟩ := h
  refine ⟨F, ρ, env, s, hen, hsr, hp.bind.imp (fun ds s1 ρ1 H1 _ e1 hs1 hp1 J hJ D0 hD => ?_) fun _ _ h => h⟩
  split at hp1
  · rename_i hl
    refine lcX_sound cg (hen.ext e1) hs1 hJ hl hD (fun xs s2 hq ρ' H' vacc e hs' hv r => ?_) (fun c s2 hq ρ' H' e hs' => ?_) (fun z => ?_)
    · rw [hq] at hp1
      exact hp1 ρ' H' e (hs'.subF fun a ha => List.mem_cons_of_mem _ ha) _ (Rep.ofD hs' (hs1.fresh hD).1 hv r)
    · rw [hq] at hp1
      exact hp1 ρ' H' e hs'
    · rw [z] at hp1
      exact hp1.elim
  · exact hp1.elim
end
/-! ### rows for simp -/
section
variable {env : Env} {s : Sto} {it : IF} {gt : GF} {t : TF} {f : EF}
def kLcX1 (gt : GF) (t : TF) (f : EF) (vs : List Nat) (env : Env) : R (List D) → R D
  | .ok ds s => if ds.length ≤ LIM then kLcX (lcX gt t f (wipeE env vs) ds s) else .no
  | .ex c s => .ex c s
  | .no => .no
@[simp] theorem kLcX1_0 {vs : List Nat} {ds : List D} : kLcX1 gt t f vs env (.ok ds s) = if ds.length ≤ LIM then kLcX (lcX gt t f (wipeE env vs) ds s) else .no := rfl
@[simp] theorem kLcX_0 {xs : List D} : kLcX (.ok xs s) = .ok (.lst xs) s := rfl
@[simp] theorem kLcX_1 {c : Nat} : kLcX (.ex c s) = .ex c s := rfl
@[simp] theorem eLcX_v {vs : List Nat} : eLcX it gt t f vs env s = kLcX1 gt t f vs env (it env s) := by
  unfold eLcX
  cases it env s <;> rfl
end
end Sx

/-! PxZu: dicts by data: whether there is any. -/
namespace Sx
open PySem L2
def tTruN (f : EF) : TF := fun env s => (f env s).bind fun d s1 => match datOf s1 d with
  | some kvs => .ok (!kvs.isEmpty) s1
  | none => .no
section
open PySem.Spec PyProof.Rows
theorem truthy_r {prog : Program} {w : World} {A : Around} {E : Value → Shared → Prop} {s : Shared} {d : Addr} {L : List DictEntry} {Q : Bool → Shared → Prop} (N : RawD s.heap d L) (h : Q (!L.isEmpty) { s with toks := s.toks + 1 + 1 }) : wpAny (model prog w) A (truthy (.ref d)) Q E s := by
  have hT : s.TypeIs (.ref d) "dict" := by
    obtain ⟨_, _, o, _, _, n, x, _⟩ := N
    exact ⟨o, n, x.1⟩
  have hfit : ((L.length : Nat) : Int) < 2 ^ 63 := by have := N.2.1; rw [sizeLine_eq] at this; omega
  have hne : ((L.length : Int) != 0) = !L.isEmpty := by cases L <;> simp <;> omega
  have body : wpAny (model prog w) (A.under (.builtin "len" ⟨[.ref d], []⟩)) (Builtin.«len» ⟨[.ref d], []⟩) (fun fin s' => ∃ r, fin = .done (.ret r) ∧ (r = .int L.length (s.toks + 1) ∧ Q (!L.isEmpty) s')) E s := by
    unfold Builtin.«len»
    refine wpAny_bind (m := oneArg "len" _) (wpAny_pure ?_)
    refine wpAny_bind (m := callSpecial? (.ref d) (Str.ofString "__len__")) (wpAny_callSpecial?_slot (name := Str.ofString "__len__") hT F.slot_dict_len
      (call_meetsIn F.slot_dict_len hT F.entry_dict_len (F.args_dict_len_1 _) (meetsR_len N.1) ⟨L, N, ?_⟩))
    show wpAny _ _ _ _ _ { s with toks := s.toks + 1 }
    refine wpAny_bind (wpAny_holding (wpAny_pure ?_))
    refine wpAny_bind (wpAny_letGo ?_)
    show wpAny _ _ (if ((L.length : Nat) : Int) < 0 then _ else _) _ _ _
    rw [if_neg (by omega)]
    show wpAny _ _ (if ((L.length : Nat) : Int) ≥ 2 ^ 63 then _ else _) _ _ _
    rw [if_neg (by omega)]
    exact wpAny_bind (wpAny_mkInt (wpAny_pure ⟨_, rfl, rfl, h⟩))
  have key : wpAny (model prog w) A (runValue (.builtin "len" ⟨[.ref d], []⟩)) (fun r s' => r = .int L.length (s.toks + 1) ∧ Q (!L.isEmpty) s') E s := by
    refine wpAny_runValue (codeAny_builtin entry_len ?_)
    exact wpAny_mono body (fun fin s' h' => by obtain ⟨r, rfl, hq⟩ := h'; exact hq) fun _ _ e => e
  unfold truthy
  first
    | refine wpAny_bind (wpAny_callSpecial?_none (name := Str.ofString "__bool__") hT noBool_dict ?_)
    | refine wpAny_bind (wpAny_pure (wpAny_bind (wpAny_callSpecial?_none (name := Str.ofString "__bool__") hT noBool_dict ?_)))
  first
    | refine wpAny_bind (wpAny_specialOf (name := Str.ofString "__len__") hT F.slot_dict_len.lookup ?_)
    | refine wpAny_bind (wpAny_pure (wpAny_bind (wpAny_specialOf (name := Str.ofString "__len__") hT F.slot_dict_len.lookup ?_)))
  first
    | exact wpAny_bind (wpAny_mono key (fun r s' h' => by obtain ⟨rfl, hq⟩ := h'; exact wpAny_pure (hne ▸ hq)) fun _ _ e => e)
    | exact wpAny_bind (wpAny_pure (wpAny_bind (wpAny_mono key (fun r s' h' => by obtain ⟨rfl, hq⟩ := h'; exact wpAny_pure (hne ▸ hq)) fun _ _ e => e)))
theorem tru_dat {X : Cx} : TruR X (fun x H Q => ∃ (a : Addr) (L : List DictEntry), x = .ref a ∧ AtD H a L ∧ Q (!L.isEmpty) H) := by
  intro pins s σ H x v Q I rx h
  obtain ⟨a, L, rfl, hA, q⟩ := h
  cases rx
  exact truthy_r (at_obj I hA) ⟨H, I.tok _, q⟩
variable {X : Cx} {G : SCtx} {W : WX} {a : Expr} {f : EF}
theorem st_truN (h : SE X G W a f) (he : ∀ whole, isTrue a X.env whole = (do let v ← whole; standAt a.pos; holding [v] (truthy v)) := by intro _; rfl) : ST X G W a (tTruN f) := by
  refine pt_imp (pt_truthR h tru_dat he) fun σ H Q h => ?_
  obtain ⟨F, ρ, env, s, he, hs, hp⟩ := h
  refine tE.step he hs hp fun d s1 ρ1 H1 v _ he1 hs1 e1 r1 hp1 => ?_
  split at hp1
  · rename_i kvs h1
    obtain ⟨q, n, L, rfl, rfl, h3, h4, ks, vs, ns, hE, _⟩ := nd_at hs1 r1 h1
    obtain ⟨_, _, _, _, _, e6, _⟩ := entR_ne hE
    refine ⟨q, L, rfl, h4, ?_⟩
    have : L.isEmpty = kvs.isEmpty := by
      have e7 : kvs.length = L.length := by rw [← e6, List.length_map]
      cases L <;> cases kvs <;> first | rfl | simp at e7
    rw [this]
    exact hp1.here hs1
  · exact hp1.elim
end
section
variable {env : Env} {s : Sto} {f : EF} {d : D}
def kTruN : R D → R Bool
  | .ok d s => match datOf s d with
    | some kvs => .ok (!kvs.isEmpty) s
    | none => .no
  | .ex c s => .ex c s
  | .no => .no
theorem kTruN_0 {kvs : List (D × D)} (h : datOf s d = some kvs) : kTruN (.ok d s) = .ok (!kvs.isEmpty) s := by
  unfold kTruN
  simp only
  rw [h]
@[simp] theorem tTruN_v : tTruN f env s = kTruN (f env s) := by
  unfold tTruN kTruN
  cases f env s <;> rfl
end
end Sx

/-! PxZv: a def on a store of its own, where only exceptions without a context come out. -/
namespace Sx
open PySem L2
section
variable {P : Program} {w : World} {K : PySem.W.Frag} {mg : Str → Option Value} {base : Heap} {G : SCtx} {k : Nat} {x : Str} {fa : Addr} {fd : FuncData} {ps : List Str} {fn : FN}
theorem fn_isoN (h : FnOk P w K mg base (L2N.CX P w) k fa fd ps (SpF K G fn)) : FnOk P w K mg base (L2N.CX P w) k fa fd ps (SpF K G (iso fn)) := by
  refine h.imp fun vs H Q E q => ?_
  obtain ⟨F, ρ, ds, s, r, hs, hp⟩ := q
  simp only [iso] at hp
  split at hp
  · rename_i hn
    refine ⟨F ++ ρ, [], ds, [], r.inn hn, hs.inn, ?_⟩
    cases z : fn ds [] with
    | no => rw [z] at hp; exact hp.elim
    | ex c s' =>
      rw [z] at hp
      exact fun ρ' H' e q => hp ρ H' (Ext.out (F := F) e) (hs.out e)
    | ok d s' =>
      rw [z] at hp
      obtain ⟨d', hd, hp'⟩ := hp.off
      intro ρ' H' e q v rv
      have e' : Ext ρ H ρ H' := Ext.out (F := F) e
      unfold frz at hd
      split at hd
      · split at hd
        · rename_i xs hx
          split at hd
          · rename_i hnr
            cases hd
            obtain ⟨a, vs', ev, h1, r1⟩ := lstOf_rep q rv (xs := xs) (by simp only [lstOf]; rw [hx])
            cases ev
            cases rv with
            | ref hr =>
              have hd := q.dis _ (List.mem_of_getElem? hr)
              exact hp' ρ H' e' (hs.out e) _ (.lst ⟨h1, fun z => hd (List.mem_append_left _ z), fun z => hd (List.mem_append_right _ z)⟩ (r1.out hnr))
          · cases hd
        · cases hd
      · split at hd
        · rename_i hnr
          cases hd
          exact hp' ρ H' e' (hs.out e) _ (rv.out hnr)
        · cases hd
  · exact hp.elim
theorem fn_noN : FnOk P w K mg base (L2N.CX P w) k fa fd ps (SpF K G (fun _ _ => .no)) :=
  ⟨fun vs H Q E h => by obtain ⟨_, _, _, _, _, _, h⟩ := h; exact h.elim, fun _ _ _ _ _ _ _ _ _ _ _ _ _ h => by obtain ⟨_, _, _, _, _, _, h⟩ := h; exact h.elim⟩
theorem has_noN {st : Stmt} (d : DefAt K mg x st ps) : HasN P w K mg base G k x (fun _ _ => .no) := by
  obtain ⟨f, fd, h1, h2, h3⟩ := d
  exact ⟨f, fd, ps, fn_noN, h2, h1.kp, h3⟩
theorem HasN.iso (h : HasN P w K mg base G k x fn) : HasN P w K mg base G k x (iso fn) := by
  obtain ⟨f, fd, ps, h1, h2⟩ := h
  exact ⟨f, fd, ps, fn_isoN h1, h2⟩
end
end Sx

/-! PxZw: sorted(xs) and sorted(d), d a dict by data, of nested tuples that are alike. -/
namespace Sx
open PySem L2
def itP (p : PyData) : Bool := match p with
  | .tuple (_ :: _) => decide (p.depth ≤ 30)
  | _ => false
def pdsP (s : Sto) : List D → Option (List (D × PyData))
  | [] => some []
  | d :: ds => match pdR s d, pdsP s ds with
    | some p, some r => some ((d, p) :: r)
    | _, _ => none
def leP (a b : D × PyData) : Bool := PySem.W.dataLe false (fun q : D × PyData => q.2) a b
def okP (l : List (D × PyData)) : Bool := decide (l.length ≤ LIM) && (l.all fun a => itP a.2) && l.all fun a => l.all fun b => PySem.W.alike a.2 b.2
def srtP (s : Sto) (xs : List D) : Option (List D) := match pdsP s xs with
  | some l => if okP l = true then some ((l.mergeSort leP).map (·.1)) else none
  | none => none
def fSortedP (s : Sto) (as : List D) : Option (List D) := match as with
  | [a] => match lstOf s a with
    | some xs => srtP s xs
    | none => none
  | _ => none
def fSortedN (s : Sto) (as : List D) : Option (List D) := match as with
  | [a] => match datOf s a with
    | some kvs => srtP s (kvs.map (·.1))
    | none => none
  | _ => none
/-! ### the machine -/
abbrev BP := (D × PyData) × V
def rSortP (K : PySem.W.Frag) : List V → Hp → VK → Prop := fun vs H Q => ∃ (a : Addr) (bs : List BP), vs = [V.ref a] ∧ SqL K H a (bs.map (·.2)) ∧ (∀ b ∈ bs, Dp K H b.2 b.1.2) ∧ okP (bs.map (·.1)) = true ∧
  ∀ (p : Addr) (cs : List BP), cs.Perm bs → cs.map (·.1) = (bs.map (·.1)).mergeSort leP → H p = none → Q (.ref p) (upd H p (.lst (cs.map (·.2))))
def rSortN (K : PySem.W.Frag) : List V → Hp → VK → Prop := fun vs H Q => ∃ (a : Addr) (L : List DictEntry) (bs : List BP), vs = [V.ref a] ∧ AtD H a L ∧ KeysR (bs.map (·.2)) L ∧ (∀ b ∈ bs, Dp K H b.2 b.1.2) ∧ okP (bs.map (·.1)) = true ∧
  ∀ (p : Addr) (cs : List BP), cs.Perm bs → cs.map (·.1) = (bs.map (·.1)).mergeSort leP → H p = none → Q (.ref p) (upd H p (.lst (cs.map (·.2))))
section
open PySem.Spec PyProof.Rows
theorem each_valsP {P : Value → BP → Prop} : ∀ {bs : List BP} {us : List Value}, Vals (bs.map (·.2)) us → (∀ b ∈ bs, ∀ v, RelV b.2 v → P v b) → PySem.W.EachIs P us bs
  | [], _, h, _ => by cases h; exact .nil
  | b :: bs, _, h, k => by
    cases h with
    | cons r t => exact .cons (k b List.mem_cons_self _ r) (each_valsP t fun x hx => k x (List.mem_cons_of_mem _ hx))
theorem vals_eachP : ∀ {us : List Value} {bs : List BP}, PySem.W.EachIs (fun v b => RelV b.2 v) us bs → Vals (bs.map (·.2)) us
  | _, _, .nil => .nil
  | _, _, .cons r t => .cons r (vals_eachP t)
theorem okP_parts {bs : List BP} (h : okP (bs.map (·.1)) = true) : bs.length ≤ LIM ∧ (∀ b ∈ bs, ∃ x r, b.1.2 = .tuple (x :: r) ∧ b.1.2.depth ≤ 30) ∧ ∀ b ∈ bs, ∀ c ∈ bs, PySem.W.alike b.1.2 c.1.2 = true := by
  unfold okP at h
  simp only [Bool.and_eq_true, decide_eq_true_eq, List.all_eq_true, List.length_map] at h
  obtain ⟨⟨h1, h2⟩, h3⟩ := h
  refine ⟨h1, fun b hb => ?_, fun b hb c hc => h3 _ (List.mem_map.mpr ⟨b, hb, rfl⟩) _ (List.mem_map.mpr ⟨c, hc, rfl⟩)⟩
  have := h2 _ (List.mem_map.mpr ⟨b, hb, rfl⟩)
  unfold itP at this
  split at this
  · rename_i p x r e
    exact ⟨x, r, e, by simpa using this⟩
  · cases this
theorem allAlikeP {bs : List BP} (h : okP (bs.map (·.1)) = true) : PySem.W.AllAlike (bs.map fun b : BP => b.1.2) := by
  intro d hd e he
  obtain ⟨b, hb, rfl⟩ := List.mem_map.mp hd
  obtain ⟨c, hc, rfl⟩ := List.mem_map.mp he
  exact (okP_parts h).2.2 b hb c hc
theorem sortableP {bs : List BP} (h : okP (bs.map (·.1)) = true) : PySem.W.Sortable (bs.map fun b : BP => b.1.2) := by
  left
  intro d hd
  obtain ⟨b, hb, rfl⟩ := List.mem_map.mp hd
  obtain ⟨x, r, e, _⟩ := (okP_parts h).2.1 b hb
  exact ⟨x, r, e⟩
theorem mergeP (bs : List BP) : (bs.mergeSort (PySem.W.dataLe false fun b : BP => b.1.2)).map (·.1) = (bs.map (·.1)).mergeSort leP := List.map_mergeSort fun a _ b _ => rfl
theorem cr_sortP {X : Cx} (hu : X.A.units + 64 < cLine) : CallR X (.builtin "sorted") (rSortP X.K) := by
  intro pins s σ H vs us Q I r h
  obtain ⟨a, bs, rfl, hs, hd, hk, q⟩ := h
  obtain ⟨its, rv, hl, hz⟩ := I.list hs
  rw [Vals.ref1 r]
  have hlen := rv.length
  rw [List.length_map] at hlen hz
  refine PySem.W.sorted_data (R := fun v b => RelV b.2 v) (enc := fun b : BP => b.1.2) hl.isList (each_valsP rv fun b _ v r => r) (each_valsP rv fun b hb v r => Dp.reads I _ _ _ (hd b hb) r) (allAlikeP hk) (sortableP hk) hz ?_ ?_
  · intro b hb
    obtain ⟨_, _, _, hh⟩ := (okP_parts hk).2.1 b hb
    omega
  · intro out ho eo
    obtain ⟨ep, he'⟩ := PyProof.Rows.sortedAll_at s.heap its out.toArray
    have hp := List.mergeSort_perm bs (PySem.W.dataLe false fun b : BP => b.1.2)
    have em := mergeP bs
    generalize bs.mergeSort (PySem.W.dataLe false fun b : BP => b.1.2) = cs at *
    exact ⟨.ref _, upd H (s.heap.objs.size + 1) (.lst (cs.map (·.2))), I.laid (t' := s.toks) (fun _ _ => PyProof.Rows.sortedAll_old) (Nat.le_succ _) ⟨by rw [List.length_map, hp.length_eq]; exact hz, out, ep, vals_eachP eo, he'⟩, rfl, q _ cs hp em (I.hok.fresh (Nat.le_succ _))⟩
theorem kdl_raw {prog : Program} {w : World} {d : Addr} {es : Array DictEntry} {ep : Nat} (lo : (d == sysModules) = false) : PySem.W.KdlSrc prog w "dict" d d es.size (fun i v => ∃ hi : i < es.size, v = es[i].key) (fun h => h.DictRaw d es ep) where
  type := fun _ hm => hm.typeIs
  there := fun _ hm => ⟨hm.lt_size, hm.lt_size⟩
  keep := fun _ _ hm hk => hm.at fun o e => hk d (.inl rfl) o e
  notList := by decide
  notTuple := by decide
  hint := fun _ _ _ _ hm hq => PySem.W.kdl_hint_dict hm.typeIs hq
  iter := fun _ _ hh hm => let ⟨_, ho, hc, hdat⟩ := hm; ⟨_, _, (fun _ _ hq => iter_keys lo ho hc hdat hq), Walks.rawKeys hh _ d (Nat.ne_of_lt hm.lt_size) es ep, ⟨⟨_, Heap.get?_push_size _ rfl, rfl, rfl⟩, hm.push _⟩⟩
theorem vals_pt : ∀ {vs : List V} {us : List Value}, vs.length = us.length → (∀ (i : Nat) (v : V) (u : Value), vs[i]? = some v → us[i]? = some u → RelV v u) → Vals vs us
  | [], [], _, _ => .nil
  | [], _ :: _, h, _ => by simp at h
  | _ :: _, [], h, _ => by simp at h
  | v :: vs, u :: us, h, k => .cons (k 0 v u rfl rfl) (vals_pt (by simpa using h) fun i v u h1 h2 => k (i + 1) v u h1 h2)
open SrtO in
theorem cr_sortN {X : Cx} (hcalm : X.calm = true) (hu : X.A.units + 64 < cLine) : CallR X (.builtin "sorted") (rSortN X.K) := by
  intro pins s σ H vs us Q I r h
  obtain ⟨a, L, bs, rfl, hd, hkr, hD, hk, q⟩ := h
  rw [Vals.ref1 r]
  obtain ⟨lo, hz, o, es, ep, ho, hx, hdt, hes⟩ := at_obj I hd
  have hraw : s.heap.DictRaw a es ep := ⟨o, ho, hx, hdt⟩
  have hsz : es.size = L.length := by rw [← hes, Array.length_toList]
  refine Calls.call_function_entry kind_sorted plain_sorted entry_sorted (args_sorted1 _) (show wpAny _ _ (Builtin.«sorted» _) _ _ _ from ?_)
  unfold Builtin.«sorted»
  refine wpAny_bind (m := checkCount "sorted" 1 1 _) (wpAny_pure (wpAny_bind (PySem.W.kdu_collect (A := X.A.in1) (kdl_raw (ep := ep) lo) (I.ok.hd hcalm) hraw (by omega) fun g tk acc hkp hacc => ?_)))
  have J : Inv X pins σ H { s with heap := g, toks := tk } := I.kept hkp
  have hal : acc.toList.length = L.length := by rw [Array.length_toList, hacc.1, hsz]
  have hbl : bs.length = L.length := by have := hkr.1; rwa [List.length_map] at this
  have hv : Vals (bs.map (·.2)) acc.toList := by
    refine vals_pt (by rw [List.length_map]; omega) fun i v u h1 h2 => ?_
    obtain ⟨hi, rfl⟩ := hacc.2 i u (by rw [← Array.getElem?_toList]; exact h2)
    have hLi : L[i]? = some es[i] := by rw [← hes, Array.getElem?_toList]; exact Array.getElem?_eq_getElem hi
    obtain ⟨kv, k1, k2⟩ := hkr.2 i _ hLi
    rw [h1] at k1
    cases k1
    exact k2
  refine wpAny_bind (wpAny_newList (show wpAny _ _ _ _ _ { s with heap := g.push (seqObj "list" acc.toList.toArray 0), toks := tk } from ?_) (by omega))
  have hoL : (g.push (seqObj "list" acc.toList.toArray 0)).get? g.objs.size = some (seqObj "list" acc.toList.toArray 0) := Heap.get?_push_size _ rfl
  have er : PySem.W.EachIs (fun v b => ∃ as, Reads (PySem.W.sortingHeap (g.push (seqObj "list" acc.toList.toArray 0)) g.objs.size acc.toList) v ((fun b : BP => b.1.2) b) as) acc.toList bs :=
    each_valsP hv fun b hb v r => by
      obtain ⟨as, rr⟩ := Dp.reads J _ _ _ (hD b hb) r
      exact ⟨as, PyProof.Rows.Reads.keeps (fun b o e => PySem.W.sortingHeap_old (Nat.ne_of_lt (Heap.lt_size e)) (Heap.get?_push_of_some _ e)) rr⟩
  have hal2 := allAlikeP hk
  refine wpAny_bind (wpAny_holding (wpAny_call_entry slot_list_sort ⟨_, hoL, rfl⟩ entry_list_sort (PySem.W.list_sort_vals (s := { s with heap := g.push (seqObj "list" acc.toList.toArray 0), toks := tk }) (κ := PySem.W.dataKind (PySem.W.sortingHeap (g.push (seqObj "list" acc.toList.toArray 0)) g.objs.size acc.toList) (bs.map fun b : BP => b.1.2)) hoL (PySem.W.SortsAt.data (s := { s with heap := PySem.W.sortingHeap (g.push (seqObj "list" acc.toList.toArray 0)) g.objs.size acc.toList, toks := tk }) (PySem.W.each_map (R := fun v d => ∃ as, Reads (PySem.W.sortingHeap (g.push (seqObj "list" acc.toList.toArray 0)) g.objs.size acc.toList) v d as) _ er) hal2 (sortableP hk) ?_) (by omega) ⟨_, rfl, ?_⟩) (args_list_sort _)))
  · refine PySem.W.bound_map fun b hb => ?_
    obtain ⟨_, _, _, hh⟩ := (okP_parts hk).2.1 b hb
    simp only [Around.in1_units]
    omega
  · have eo := PySem.W.sortVals_data (R := fun v b => RelV b.2 v) (enc := fun b : BP => b.1.2) false (each_valsP hv fun b _ v r => r) er hal2
    generalize PySem.W.sortVals (PySem.W.dataKind (PySem.W.sortingHeap (g.push (seqObj "list" acc.toList.toArray 0)) g.objs.size acc.toList) (bs.map fun b : BP => b.1.2)) false acc.toList acc.toList = out at *
    have hp := List.mergeSort_perm bs (PySem.W.dataLe false fun b : BP => b.1.2)
    have em := mergeP bs
    generalize bs.mergeSort (PySem.W.dataLe false fun b : BP => b.1.2) = cs at *
    obtain ⟨e', he'⟩ := sortedHeap_at (vs := acc.toList) (out := out.toArray) hoL
    refine wpAny_pure ⟨_, rfl, .ref g.objs.size, upd H g.objs.size (.lst (cs.map (·.2))), J.laid (t' := tk) (fun b u e => ?_) (Nat.le_refl _) ⟨by rw [List.length_map, hp.length_eq]; omega, out, e', vals_eachP eo, he'⟩, rfl, q _ cs hp em (J.hok.fresh (Nat.le_refl _))⟩
    have hb : b < g.objs.size := Heap.lt_size e
    rw [sortedHeap_old (Nat.ne_of_lt (Heap.lt_size e)) (by rw [size_push']; exact Nat.lt_succ_of_lt hb)]
    exact Heap.get?_push_of_some _ e
end
/-! ### plain -/
theorem pdsP_fst {s : Sto} : ∀ {ds : List D} {l : List (D × PyData)}, pdsP s ds = some l → l.map (·.1) = ds ∧ ∀ x ∈ l, pdR s x.1 = some x.2
  | [], l, h => by cases h; exact ⟨rfl, fun x h => by cases h⟩
  | d :: ds, l, h => by
    unfold pdsP at h
    split at h
    · rename_i p r h1 h2
      cases h
      obtain ⟨a, b⟩ := pdsP_fst h2
      refine ⟨by rw [List.map_cons, a], fun x hx => ?_⟩
      rcases List.mem_cons.mp hx with rfl | hx
      · exact h1
      · exact b x hx
    · cases h
theorem reps_P {K : PySem.W.Frag} {F ρ : List Addr} {H : Hp} : ∀ {vs : List V} {l : List (D × PyData)}, Reps K F ρ H vs (l.map (·.1)) → ∃ bs : List BP, bs.map (·.1) = l ∧ bs.map (·.2) = vs ∧ ∀ b ∈ bs, Rep K F ρ H b.2 b.1.1
  | [], [], _ => ⟨[], rfl, rfl, fun b h => by cases h⟩
  | [], _ :: _, h => by cases h
  | _ :: _, [], h => by cases h
  | v :: vs, x :: l, h => by
    cases h with
    | cons r1 t =>
      obtain ⟨bs, h1, h2, h3⟩ := reps_P t
      refine ⟨(x, v) :: bs, by rw [List.map_cons, h1], by rw [List.map_cons, h2], fun b hb => ?_⟩
      rcases List.mem_cons.mp hb with rfl | hb
      · exact r1
      · exact h3 b hb
theorem P_reps {K : PySem.W.Frag} {F ρ : List Addr} {H : Hp} : ∀ {bs : List BP}, (∀ b ∈ bs, Rep K F ρ H b.2 b.1.1) → Reps K F ρ H (bs.map (·.2)) ((bs.map (·.1)).map (·.1))
  | [], _ => .nil
  | b :: bs, h => .cons (h b List.mem_cons_self) (P_reps fun x hx => h x (List.mem_cons_of_mem _ hx))
theorem sim_sortP {K : PySem.W.Frag} : SimN K (rSortP K) (fun s as => (fSortedP s as).map .lst) := by
  intro G F ρ H s vs ds d Q hs r h k
  obtain ⟨zs, h', rfl⟩ := Option.map_eq_some_iff.mp (show (fSortedP s ds).map D.lst = some d from h)
  clear h
  have h := h'
  clear h'
  unfold fSortedP at h
  split at h
  · rename_i a
    split at h
    · rename_i xs hx
      unfold srtP at h
      split at h
      · rename_i l hl
        split at h
        · rename_i hc
          cases h
          cases r with
          | cons r1 t =>
            cases t
            obtain ⟨q, ws, rfl, h1, h2⟩ := lstOf_rep hs r1 hx
            obtain ⟨l1, l2⟩ := pdsP_fst hl
            rw [← l1] at h2
            obtain ⟨bs, b1, b2, b3⟩ := reps_P h2
            refine ⟨q, bs, rfl, by rw [b2]; exact SqL.of h1, fun b hb => DpR_of hs (b3 b hb) (l2 b.1 (by rw [← b1]; exact List.mem_map.mpr ⟨b, hb, rfl⟩)), by rw [b1]; exact hc, fun p cs hp hm hn => ?_⟩
            have hr := P_reps (fun b hb => b3 b (hp.mem_iff.mp hb))
            rw [hm, b1] at hr
            exact k _ _ (Ext.new ρ hn) (hs.new hn) (Rep.newL hs hn hr)
        · cases h
      · cases h
    · cases h
  · cases h
theorem sim_sortN {K : PySem.W.Frag} : SimN K (rSortN K) (fun s as => (fSortedN s as).map .lst) := by
  intro G F ρ H s vs ds d Q hs r h k
  obtain ⟨zs, h', rfl⟩ := Option.map_eq_some_iff.mp (show (fSortedN s ds).map D.lst = some d from h)
  clear h
  have h := h'
  clear h'
  unfold fSortedN at h
  split at h
  · rename_i a
    split at h
    · rename_i kvs hx
      unfold srtP at h
      split at h
      · rename_i l hl
        split at h
        · rename_i hc
          cases h
          cases r with
          | cons r1 t =>
            cases t
            obtain ⟨q, n, L, rfl, rfl, hr, hA, ks, ws, ns, hE, nd, p1, p2⟩ := nd_at hs r1 hx
            obtain ⟨l1, l2⟩ := pdsP_fst hl
            rw [← l1] at p1
            obtain ⟨bs, b1, b2, b3⟩ := reps_P p1
            refine ⟨q, L, bs, rfl, hA, by rw [b2]; exact keysR_of hE, fun b hb => DpR_of hs (b3 b hb) (l2 b.1 (by rw [← b1]; exact List.mem_map.mpr ⟨b, hb, rfl⟩)), by rw [b1]; exact hc, fun p cs hp hm hn => ?_⟩
            have hr := P_reps (fun b hb => b3 b (hp.mem_iff.mp hb))
            rw [hm, b1] at hr
            exact k _ _ (Ext.new ρ hn) (hs.new hn) (Rep.newL hs hn hr)
        · cases h
      · cases h
    · cases h
  · cases h
end Sx

/-! PxZx: dict(xs), xs a list of pairs whose keys are told by data (None, whole numbers, texts, tuples of such). -/
namespace Sx
open PySem L2
section
open PySem.Spec PyProof.Rows
variable {prog : Program} {w : World} {A : Around} {E : Value → Shared → Prop}
abbrev PN3 := NestedKey × Value × Value
def mrgE (L : List NE) (ps : List PN3) : List NE := ps.foldl (fun L q => putE L q.1 q.2.1 q.2.2) L
theorem modify_k (v : Value) : ∀ (L : List NE) (j : Nat), (L.modify j fun x => { x with val := v }).map (·.k) = L.map (·.k)
  | [], j => by cases j <;> rfl
  | x :: L, 0 => rfl
  | x :: L, j + 1 => by rw [List.modify_succ_cons, List.map_cons, List.map_cons, modify_k v L j]
theorem modify_mem {v : Value} : ∀ {L : List NE} {j : Nat} {x : NE}, x ∈ L.modify j (fun x => { x with val := v }) → ∃ y ∈ L, x.k = y.k ∧ x.key = y.key
  | [], j, x, h => by cases j <;> cases h
  | y :: L, 0, x, h => by
    have h : x ∈ { y with val := v } :: L := h
    rcases List.mem_cons.mp h with rfl | h
    · exact ⟨y, List.mem_cons_self, rfl, rfl⟩
    · exact ⟨x, List.mem_cons_of_mem _ h, rfl, rfl⟩
  | y :: L, j + 1, x, h => by
    rw [List.modify_succ_cons] at h
    rcases List.mem_cons.mp h with rfl | h
    · exact ⟨x, List.mem_cons_self, rfl, rfl⟩
    · obtain ⟨z, h1, h2⟩ := modify_mem h
      exact ⟨z, List.mem_cons_of_mem _ h1, h2⟩
theorem putE_len (L : List NE) (k : NestedKey) (key v : Value) : (putE L k key v).length ≤ L.length + 1 := by
  unfold putE
  split
  · rw [List.length_modify]; omega
  · rw [List.length_append]; exact Nat.le_refl _
theorem putE_nd {L : List NE} (h : (L.map (·.k)).Nodup) (k : NestedKey) (key v : Value) : ((putE L k key v).map (·.k)).Nodup := by
  unfold putE
  cases z : idxN L k with
  | some j => simp only; rw [modify_k]; exact h
  | none =>
    simp only
    rw [List.map_append, List.nodup_append]
    refine ⟨h, by simp, fun a ha b hb => ?_⟩
    simp at hb
    subst hb
    rintro rfl
    obtain ⟨x, hx, q⟩ := List.mem_map.mp ha
    unfold idxN at z
    rw [List.findIdx?_eq_none_iff] at z
    have := z x hx
    rw [q] at this
    simp at this
theorem nat_put {h h2 : Heap} {o : Obj} {d : Addr} {es : Array DictEntry} {ep : Nat} {L : List NE} {k : NestedKey} {key v : Value} (N : NAt w h o d es ep L) (hk : NestedIs h k key) (hdep : k.depth ≤ 8) (p : PutOk w h2 d (putE L k key v)) (sb : Heap.SameBut d h h2) :
    (∃ o2 es2 ep2, NAt w h2 o2 d es2 ep2 (putE L k key v) ∧ o2.ExactDict) ∧ ∀ (x : NestedKey) (u : Value), NestedIs h x u → NestedIs h2 x u := by
  have keep : ∀ (x : NestedKey) (u : Value), NestedIs h x u → NestedIs h2 x u := fun x u => NestedIs.at (fun b ob vs n hb hd => by
    have : b ≠ d := by
      rintro rfl
      rw [N.at_] at hb
      cases hb
      rw [N.data] at hd
      cases hd
    exact sb.extBut b ob this hb) x u
  obtain ⟨o2, es2, ep2, p1, p2, p3, p4⟩ := p
  refine ⟨⟨o2, es2, ep2, ⟨p1, p3, p4, fun x hx => ?_, putE_nd N.nd k key v⟩, p2⟩, keep⟩
  unfold putE at hx
  split at hx
  · obtain ⟨y, h1, h3, h4⟩ := modify_mem hx
    have := N.is_ y h1
    rw [h3, h4]
    exact ⟨keep _ _ this.1, this.2⟩
  · rcases List.mem_append.mp hx with hx | hx
    · have := N.is_ x hx
      exact ⟨keep _ _ this.1, this.2⟩
    · rw [List.mem_singleton] at hx
      subst hx
      exact ⟨keep _ _ hk, hdep⟩
def NDk (w : World) (h : Heap) (d : Addr) (L : List NE) : Prop := ∃ o es ep, NAt w h o d es ep L ∧ o.ExactDict
theorem NDk.keep {h h2 : Heap} {d : Addr} {L : List NE} (N : NDk w h d L) (k1 : ∀ o, h.get? d = some o → h2.get? d = some o) (k2 : ∀ a o vs n, h.get? a = some o → o.data = .seq vs n → h2.get? a = some o) : NDk w h2 d L := by
  obtain ⟨o, es, ep, N, x⟩ := N
  exact ⟨o, es, ep, ⟨k1 _ N.at_, N.data, N.ents, fun y hy => ⟨NestedIs.at k2 _ _ (N.is_ y hy).1, (N.is_ y hy).2⟩, N.nd⟩, x⟩
theorem upd_loopN {R : Result → Shared → Prop} {S I l : Addr} {items : Array Value} {res : Value} (hu : A.in1.units + 8 < cLine) (hh : A.handled = none) (hlI : l ≠ I) (hSI : S ≠ I) (hSl : S ≠ l) :
    ∀ (rest : List PN3) (i : Nat) (L : List NE) (ix : Int) (t : Tok) (s : Shared), items.size = i + rest.length → L.length + rest.length ≤ sizeLine →
      (∀ (j : Nat) (q : PN3), rest[j]? = some q → ∃ b : Addr, items[i + j]? = some (.ref b) ∧ b ≠ S ∧ b ≠ I ∧ IsTup s.heap b #[q.2.1, q.2.2] ∧ NestedIs s.heap q.1 q.2.1 ∧ q.1.depth ≤ 8) →
      s.heap.IsListIter I l i → s.heap.IsList l items → NDk w s.heap S L →
      (∀ h' tk, NDk w h' S (mrgE L rest) → (∀ b o, b ≠ S → b ≠ I → s.heap.get? b = some o → h'.get? b = some o) → R (.ok (.ret res)) { s with heap := h', toks := tk }) →
      codeAny (model prog w) A (.builtin "dict.update.loop" ⟨[.ref S, .ref I, .int ix t, res], []⟩) R s
  | [], i, L, ix, t, s, hsz, hln, ht, hit, hl, hm, hR => by
    refine codeAny_builtin ud_entry ?_
    rw [Around.under_plainId ud_plain _]
    show wpAny _ A.in1 (pyNext (.ref I) >>= _) _ _ s
    refine wpAny_bind (wpAny_pyNext_list_end (A := A.in1) hh hit hl (by first | exact Array.getElem?_eq_none (Nat.le_of_eq hsz) | (simp at hsz; simp; omega)) fun h' he => ?_)
    show wpAny _ A.in1 (Builtin.Dict.addKeywords S [] >>= _) _ _ _
    refine wpAny_bind (wpAny_pure (wpAny_pure ?_))
    obtain ⟨oi, hi1, hi2, hi3⟩ := hit
    exact hR h' s.toks (hm.keep (fun o e => he S o hSI e) fun b o vs n e hd => he b o (fun q => by subst q; rw [hi1] at e; cases e; rw [hi3] at hd; cases hd) e) fun b o _ hb e => he b o hb e
  | q :: rest, i, L, ix, t, s, hsz, hln, ht, hit, hl, hm, hR => by
    obtain ⟨b, hb, hbS, hbI, htup, hk, hdep⟩ := ht 0 q rfl
    rw [List.length_cons] at hsz hln
    obtain ⟨oi, hi1, hi2, hi3⟩ := id hit
    refine codeAny_builtin ud_entry ?_
    rw [Around.under_plainId ud_plain _]
    show wpAny _ A.in1 (pyNext (.ref I) >>= _) _ _ s
    refine wpAny_bind (wpAny_pyNext_list_item (x := .ref b) hit hl (by simpa using hb) fun h1 hit1 hs1 => ?_)
    have sq1 : ∀ a o vs n, s.heap.get? a = some o → o.data = .seq vs n → h1.get? a = some o := fun a o vs n e hd => hs1.extBut a o (fun q => by subst q; rw [hi1] at e; cases e; rw [hi3] at hd; cases hd) e
    have ht1 : IsTup h1 b #[q.2.1, q.2.2] := htup.extBut hs1.extBut hbI
    have hl1 : h1.IsList l items := hl.extBut hs1.extBut hlI
    have hm1 : NDk w h1 S L := hm.keep (fun o e => hs1.extBut S o hSI e) sq1
    have hk1 : NestedIs h1 q.1 q.2.1 := NestedIs.at sq1 _ _ hk
    obtain ⟨o, ho, hc, n, hd⟩ := id ht1
    obtain ⟨od, es, ep, N, hx⟩ := hm1
    show wpAny _ A.in1 (holding [Value.ref b] _ >>= _) _ _ _
    refine wpAny_bind (wpAny_holding ?_)
    refine wpAny_bind (wpAny_tryCatch ?_)
    unfold Builtin.Dict.pairItems
    refine wpAny_bind (wpAny_typeOf (T := "tuple") ⟨o, ho, hc⟩ ?_)
    rw [if_pos (by first | decide | rfl | simp)]
    refine wpAny_bind (wpAny_seqItems ho hd (wpAny_pure ?_))
    show wpAny _ A.in1 (holding [q.2.1, q.2.2] (dictSet S q.2.1 q.2.2)) _ _ _
    refine wpAny_holding (set_n (s := { s with heap := h1 }) hu hk1 hdep N hx (by omega) fun h2 p2 hs2 => ?_)
    obtain ⟨hm2, kp2⟩ := nat_put N hk1 hdep p2 hs2
    have pl := putE_len L q.1 q.2.1 q.2.2
    refine wpAny_pure ⟨plainId_quiet ud_plain _, upd_loopN (items := items) hu hh hlI hSI hSl rest (i + 1) (putE L q.1 q.2.1 q.2.2) (ix + 1) 0 _ (show items.size = i + 1 + rest.length by omega) ?_ (fun j q' e => ?_) ?_ ?_ hm2 fun h' tk hd' k => ?_⟩
    · omega
    · obtain ⟨b', hb', hbS', hbI', htup', hk', hdep'⟩ := ht (j + 1) q' (by simpa using e)
      refine ⟨b', ?_, hbS', hbI', (htup'.extBut hs1.extBut hbI').extBut hs2.extBut hbS', kp2 _ _ (NestedIs.at sq1 _ _ hk'), hdep'⟩
      rw [show i + 1 + j = i + (j + 1) by omega]
      exact hb'
    · exact hit1.at fun o' e => hs2.extBut I o' (Ne.symm hSI) e
    · exact hl1.extBut hs2.extBut (Ne.symm hSl)
    · exact hR h' tk hd' fun c oc h3 h4 e => k c oc h3 h4 (hs2.extBut c oc h3 (hs1.extBut c oc h4 e))
theorem call_dict_n {s : Shared} {l : Addr} {ol : Obj} {items : Array Value} {n : Nat} {prs : List PN3} {Q : Value → Shared → Prop} (hu : A.in1.in1.units + 8 < cLine) (hh : A.handled = none) (hl : s.heap.get? l = some ol) (hc : ol.cls = .type "list") (hd : ol.dict = none)
    (hdat : ol.data = .seq items n) (hsz : items.size = prs.length) (hln : prs.length ≤ sizeLine)
    (ht : ∀ (j : Nat) (q : PN3), prs[j]? = some q → ∃ b : Addr, items[j]? = some (.ref b) ∧ IsTup s.heap b #[q.2.1, q.2.2] ∧ NestedIs s.heap q.1 q.2.1 ∧ q.1.depth ≤ 8)
    (h : ∀ h' tk, NDk w h' s.heap.objs.size (mrgE [] prs) → (∀ b o, s.heap.get? b = some o → h'.get? b = some o) → Q (.ref s.heap.objs.size) { s with heap := h', toks := tk }) :
    wpAny (model prog w) A (call (.type "dict") [.ref l]) Q E s := by
  refine callType_codes (Q₁ := fun obj s₁ => obj = .ref s.heap.objs.size ∧ s₁ = { s with heap := s.heap.push { cls := .type "dict", data := .dict #[] } }) PySem.F.kt_called_dict (PySem.F.kt_typeCall_dict_1 _) PySem.F.entry_dict_init (kt_code_dict_new _ ⟨rfl, rfl⟩) ?_
  rintro obj s₁ ⟨rfl, rfl⟩
  have hget : (s.heap.push { cls := .type "dict", data := .dict #[] }).get? s.heap.objs.size = some { cls := .type "dict", data := .dict #[] } := Heap.get?_push_size _ rfl
  have hnew : NDk w (s.heap.push { cls := .type "dict", data := .dict #[] }) s.heap.objs.size [] := ⟨_, #[], _, ⟨hget, rfl, rfl, fun x hx => (by cases hx), List.nodup_nil⟩, ⟨rfl, rfl, rfl⟩⟩
  have hT : ({ s with heap := s.heap.push { cls := .type "dict", data := .dict #[] } } : Shared).TypeIs (.ref s.heap.objs.size) "dict" := ⟨_, hget, rfl⟩
  have k0 : ∀ b o, s.heap.get? b = some o → (s.heap.push { cls := .type "dict", data := .dict #[] }).get? b = some o := fun b o e => Heap.get?_push_of_some _ e
  refine ⟨hT, PySem.F.args_dict_init_2 _ _, ?_⟩
  unfold Builtin.«dict.__init__»
  refine wpAny_bind ?_
  unfold Builtin.Dict.selfAndRest
  refine wpAny_bind (wpAny_notOrdered_dict hT ?_)
  show wpAny _ _ (pure (s.heap.objs.size, [Value.ref l])) _ _ _
  refine wpAny_pure ?_
  show wpAny _ _ (Builtin.Dict.updateFrom "dict.__init__" s.heap.objs.size (.ref l) [] .none) _ _ _
  unfold Builtin.Dict.updateFrom
  refine wpAny_bind (wpAny_typeOf (T := "list") ⟨ol, k0 _ _ hl, hc⟩ ?_)
  rw [if_pos (by first | decide | rfl | simp)]
  refine wpAny_bind (miss_list (k0 _ _ hl) hc hdat hd hh fun h1 tk1 hk1 => ?_)
  rw [if_pos (show (none : Option Value).isNone = true from rfl)]
  refine wpAny_bind (wpAny_rule ?_)
  have hl1 : h1.IsList l items := ⟨ol, hk1 _ _ (k0 _ _ hl), hc, n, hdat⟩
  have hS1 : s.heap.objs.size < h1.objs.size := Heap.lt_size (hk1 _ _ hget)
  refine wpAny_bind (wpAny_pyIter_list hl1 ?_)
  have k2 : ∀ b o, h1.get? b = some o → (h1.push { cls := .type "list_iterator", data := .fields #[.ref l, .int 0 0] }).get? b = some o := fun b o e => Heap.get?_push_of_some _ e
  have hlt : l < s.heap.objs.size := Heap.lt_size hl
  have kA : ∀ b o, s.heap.get? b = some o → (h1.push { cls := .type "list_iterator", data := .fields #[.ref l, .int 0 0] }).get? b = some o := fun b o e => k2 _ _ (hk1 _ _ (k0 _ _ e))
  have key := upd_loopN (prog := prog) (w := w) (A := A.in1) (R := wants (fun r s₂ => r = .none ∧ Q (.ref s.heap.objs.size) s₂) E) (S := s.heap.objs.size) (I := h1.objs.size) (l := l) (items := items) (res := Value.none) hu hh
    (Nat.ne_of_lt (Nat.lt_trans hlt hS1)) (Nat.ne_of_lt hS1) (Nat.ne_of_gt hlt) prs 0 [] 0 0
    { s with heap := h1.push { cls := .type "list_iterator", data := .fields #[.ref l, .int 0 0] }, toks := tk1 } (by rw [hsz, Nat.zero_add]) (by rw [List.length_nil, Nat.zero_add]; exact hln)
    (fun j q e => by
      obtain ⟨b, e1, e2, e3, e4⟩ := ht j q e
      have hb : b < s.heap.objs.size := e2.lt
      exact ⟨b, by rw [Nat.zero_add]; exact e1, Nat.ne_of_lt hb, Nat.ne_of_lt (Nat.lt_trans hb hS1), e2.keeps fun c o z => kA _ _ z, NestedIs.at (fun a o vs n z _ => kA _ _ z) _ _ e3, e4⟩)
    ⟨_, Heap.get?_push_size _ rfl, rfl, rfl⟩ (hl1.at fun o e => k2 _ _ e) (hnew.keep (fun o e => k2 _ _ (hk1 _ _ e)) fun a o vs n e _ => k2 _ _ (hk1 _ _ e))
    (fun h' tk hd' k => ⟨rfl, h h' tk hd' fun b o e => k b o (Nat.ne_of_lt (Heap.lt_size e)) (Nat.ne_of_lt (Nat.lt_trans (Heap.lt_size e) hS1)) (kA _ _ e)⟩)
  first
    | exact wpAny_pure ⟨plainId_quiet ud_plain _, key⟩
    | exact wpAny_bind (wpAny_pure (wpAny_pure ⟨plainId_quiet ud_plain _, key⟩))
end
section
open PySem.Spec PyProof.Rows
theorem neOf_self (w : World) : ∀ L : List NE, neOf (L.map (·.k)) (L.map (NE.ent w)) = L
  | [] => rfl
  | x :: L => by
    show (⟨x.k, x.key, x.val⟩ : NE) :: neOf (L.map (·.k)) (L.map (NE.ent w)) = _
    rw [neOf_self w L]
def DRk (K : PySem.W.Frag) (w : World) (F ρ : List Addr) (H : Hp) (L : List NE) (kvs : List (D × D)) : Prop := ∃ ks vs, EntR w (L.map (NE.ent w)) ks vs (kvs.map (·.1)) (L.map (·.k)) ∧ (L.map (·.k)).Nodup ∧ Reps K F ρ H ks (kvs.map (·.1)) ∧ Reps K F ρ H vs (kvs.map (·.2))
theorem dr_put {K : PySem.W.Frag} {w : World} {F ρ : List Addr} {H : Hp} {L : List NE} {kvs : List (D × D)} {kd vd : D} {kv vv : V} {k : NestedKey} {key u : Value} (h : DRk K w F ρ H L kvs) (hk : kOk kd = some k) (rk : Rep K F ρ H kv kd) (rv : Rep K F ρ H vv vd) (qk : RelV kv key) (qv : RelV vv u) :
    DRk K w F ρ H (putE L k key u) (datPut kvs k kd vd) := by
  obtain ⟨ks, vs, hE, nd, r1, r2⟩ := h
  obtain ⟨hk1, hk2⟩ := kOk_of hk
  have hi := idx_eq k hE
  rw [neOf_self] at hi
  have hnd := putE_nd nd k key u
  unfold putE at hnd ⊢
  unfold datPut
  rw [hi] at hnd ⊢
  cases hj : idxD kvs k with
  | none =>
    rw [hj] at hnd
    simp only at hnd ⊢
    refine ⟨ks ++ [kv], vs ++ [vv], ?_, hnd, ?_, ?_⟩
    · rw [List.map_append, List.map_append, List.map_append]
      exact hE.snoc hk1 hk2 rfl qk qv
    · rw [List.map_append]
      exact r1.snoc rk
    · rw [List.map_append]
      exact r2.snoc rv
  | some j =>
    rw [hj] at hnd
    simp only at hnd ⊢
    obtain ⟨m1, m2⟩ := map_modify1 kvs j vd
    refine ⟨ks, vs.set j vv, ?_, hnd, by rw [m1]; exact r1, by rw [m2]; exact r2.set rv j⟩
    rw [m1, modify_k, ← modify_map]
    exact hE.setv qv j
abbrev TrD := NestedKey × D × D
abbrev TrV := NestedKey × V × V
def mrgN (acc : List (D × D)) (l : List TrD) : List (D × D) := l.foldl (fun acc p => datPut acc p.1 p.2.1 p.2.2) acc
def TrR (K : PySem.W.Frag) (F ρ : List Addr) (H : Hp) : List TrV → List TrD → Prop := Paired fun q x => q.1 = x.1 ∧ kOk x.2.1 = some x.1 ∧ Rep K F ρ H q.2.1 x.2.1 ∧ Rep K F ρ H q.2.2 x.2.2
def VlR : List TrV → List PN3 → Prop := Paired fun q p => q.1 = p.1 ∧ RelV q.2.1 p.2.1 ∧ RelV q.2.2 p.2.2
theorem dr_merge {K : PySem.W.Frag} {w : World} {F ρ : List Addr} {H : Hp} : ∀ {tr : List TrV} {l : List TrD} {prs : List PN3} {L : List NE} {kvs : List (D × D)}, TrR K F ρ H tr l → VlR tr prs → DRk K w F ρ H L kvs → DRk K w F ρ H (mrgE L prs) (mrgN kvs l)
  | _, _, _, _, _, .nil, .nil, h => h
  | _, _, _, _, _, .cons h1 t1, .cons h2 t2, h => by
    obtain ⟨a1, a2, a3, a4⟩ := h1
    obtain ⟨b1, b2, b3⟩ := h2
    have := dr_merge t1 t2 (dr_put h a2 a3 a4 b2 b3)
    rw [← a1, b1] at this
    rw [← a1] at a2
    unfold mrgE mrgN at this ⊢
    simp only [List.foldl_cons]
    rw [← a1, b1]
    exact this
theorem mrgE_len : ∀ (prs : List PN3) (L : List NE), (mrgE L prs).length ≤ L.length + prs.length
  | [], L => Nat.le_refl _
  | q :: prs, L => by
    have h1 := mrgE_len prs (putE L q.1 q.2.1 q.2.2)
    have h2 := putE_len L q.1 q.2.1 q.2.2
    rw [List.length_cons]
    show (mrgE (putE L q.1 q.2.1 q.2.2) prs).length ≤ _
    omega
def rDictK (K : PySem.W.Frag) (w : World) : List V → Hp → VK → Prop := fun xs H Q => ∃ (a : Addr) (ps : List Addr) (tr : List TrV) (F ρ : List Addr) (l : List TrD), xs = [V.ref a] ∧ SqL K H a (ps.map V.ref) ∧ Paired (fun p (q : TrV) => SqT K H p [q.2.1, q.2.2]) ps tr ∧ TrR K F ρ H tr l ∧
  ∀ p L, H p = none → DatR K w F ρ H L (mrgN [] l) → Q (.ref p) (upd H p (datAt p L))
variable {X : Cx}
theorem pairs_ofN {pins : List (Addr × Obj)} {σ : L2.St} {H : Hp} {s : Shared} {F ρ : List Addr} (I : Inv X pins σ H s) : ∀ {ps : List Addr} {tr : List TrV} {l : List TrD}, Paired (fun p (q : TrV) => SqT X.K H p [q.2.1, q.2.2]) ps tr → TrR X.K F ρ H tr l →
    ∃ prs : List PN3, VlR tr prs ∧ prs.length = ps.length ∧ ∀ (j : Nat) (q : PN3), prs[j]? = some q → ∃ b : Addr, ps[j]? = some b ∧ IsTup s.heap b #[q.2.1, q.2.2] ∧ NestedIs s.heap q.1 q.2.1 ∧ q.1.depth ≤ 8
  | _, _, _, .nil, .nil => ⟨[], .nil, rfl, fun j q e => by simp at e⟩
  | _, _, _, .cons (a := p) (b := kv) h t, .cons h2 t2 => by
    obtain ⟨a1, a2, a3, a4⟩ := h2
    obtain ⟨k1, k2⟩ := kOk_of a2
    obtain ⟨prs, r, hl, hp⟩ := pairs_ofN I t t2
    obtain ⟨its, rv, ht, _⟩ := I.tuple h
    obtain ⟨u, y, ei, ru, ry⟩ := vals2 rv
    subst ei
    refine ⟨(kv.1, u, y) :: prs, .cons ⟨rfl, ru, ry⟩ r, by rw [List.length_cons, List.length_cons, hl], fun j q e => ?_⟩
    cases j with
    | zero =>
      have e' : (kv.1, u, y) = q := Option.some.inj e
      subst e'
      refine ⟨p, rfl, ht, ?_, ?_⟩
      · rw [a1]; exact nest_is I a3 k1 ru
      · rw [a1]; exact k2
    | succ j =>
      obtain ⟨b, e1, e2, e3⟩ := hp j q (by simpa using e)
      exact ⟨b, by simpa using e1, e2, e3⟩
theorem cr_dictK (hcalm : X.calm = true) (hu : X.A.units + 64 < cLine) : CallR X (.type "dict") (rDictK X.K X.w) := by
  intro pins s σ H xs us Q I r q
  obtain ⟨a, ps, tr, F, ρ, l, ex, hq, hp, htr, q⟩ := q
  subst ex
  obtain ⟨u, eu, rx⟩ := vals1 r
  subst eu
  cases rx
  obtain ⟨its, rv, pl, hz⟩ := I.list hq
  have ei := refs_at rv
  subst ei
  rw [List.length_map] at hz
  obtain ⟨prs, rel, hl, hpr⟩ := pairs_ofN I hp htr
  obtain ⟨o, n, ho, hc, hd, hdat⟩ := pl
  refine call_dict_n (prs := prs) (by show X.A.units + 1 + 1 + 8 < cLine; omega) (I.ok.hd hcalm) ho hc hd hdat (by simp [hl]) (by rw [hl]; exact hz) (fun j q' e => ?_) fun h' tk hd' k => ?_
  · obtain ⟨b, e1, e2, e3⟩ := hpr j q' e
    exact ⟨b, by simp [e1], e2, e3⟩
  · have hm : (s.heap.objs.size == sysModules) = false := beq_eq_false_iff_ne.mpr (Ne.symm (Nat.ne_of_lt I.big))
    obtain ⟨ks, vs, d1, d2, d3, d4⟩ := dr_merge (w := X.w) htr rel (L := []) (kvs := []) ⟨[], [], .nil, List.nodup_nil, .nil, .nil⟩
    have hlen := mrgE_len prs []
    obtain ⟨o2, es, ep, N, hx⟩ := hd'
    refine ⟨.ref s.heap.objs.size, upd H s.heap.objs.size (datAt s.heap.objs.size ((mrgE [] prs).map (NE.ent X.w))), I.laid (t' := tk) k (Nat.le_refl _) (dat_ok hm (by rw [List.length_map]; simp only [List.length_nil] at hlen; omega) N.at_ hx N.data N.ents), rfl, q _ _ (I.hok.fresh (Nat.le_refl _)) ⟨ks, vs, _, d1, d2, d3, d4⟩⟩
end
/-! ### plain -/
def pairsN : List D → Option (List TrD)
  | [] => some []
  | .tup [k, v] :: ds => match kOk k, pairsN ds with
    | some n, some r => some ((n, k, v) :: r)
    | _, _ => none
  | _ => none
def eDictK (g : AF) : EF := fun env s => (g env s).bind fun ds s1 => match ds with
  | [a] => match lstOf s1 a with
    | some xs => match pairsN xs with
      | some l => .ok (.ref s1.length) (s1 ++ [.dat (mrgN [] l)])
      | none => .no
    | none => .no
  | _ => .no
theorem pairs_repN {K : PySem.W.Frag} {F ρ : List Addr} {H : Hp} : ∀ {ds : List D} {vs : List V} {l : List TrD}, Reps K F ρ H vs ds → pairsN ds = some l →
    ∃ (ps : List Addr) (tr : List TrV), vs = ps.map V.ref ∧ Paired (fun p (q : TrV) => SqT K H p [q.2.1, q.2.2]) ps tr ∧ TrR K F ρ H tr l
  | [], _, l, r, h => by
    cases r; cases h
    exact ⟨[], [], rfl, .nil, .nil⟩
  | d :: ds, _, l, r, h => by
    cases r with
    | cons r1 t =>
      cases d with
      | tup xs =>
        match xs, h with
        | [k, v], h =>
          simp only [pairsN] at h
          split at h
          · rename_i kk rr h1 h2
            cases h
            obtain ⟨ps, tr, rfl, h3, h4⟩ := pairs_repN t h2
            cases r1 with
            | tup t1 q1 =>
              cases q1 with
              | cons a1 a2 =>
                cases a2 with
                | cons b1 b2 =>
                  cases b2
                  rename_i ad v1 v2
                  exact ⟨ad :: ps, (kk, v1, v2) :: tr, rfl, .cons t1.sq h3, .cons ⟨rfl, h1, a1, b1⟩ h4⟩
          · cases h
        | [], h => simp [pairsN] at h
        | [_], h => simp [pairsN] at h
        | _ :: _ :: _ :: _, h => simp [pairsN] at h
      | _ => simp [pairsN] at h
section
variable {X : Cx} {G : SCtx} {W : WX} {g1 : AF}
theorem s_dictK {e : Expr} (hw : G.w = X.w) (h : PE X e (tCB (rDictK X.K X.w) (tA X.K G W g1))) : SE X G W e (eDictK g1) := by
  refine pe_imp h fun σ H Q h => ?_
  obtain ⟨F, ρ, env, s, he, hs, hp⟩ := h
  refine tA.step he hs hp fun ds s1 ρ1 H1 vs _ he1 hs1 e1 r1 hp1 => ?_
  split at hp1
  · rename_i a
    split at hp1
    · rename_i xs hx
      split at hp1
      · rename_i l hk
        cases r1 with
        | cons r2 t =>
          cases t
          obtain ⟨q, ws, rfl, h1, h2⟩ := lstOf_rep hs1 r2 hx
          obtain ⟨ps, tr, rfl, h3, h4⟩ := pairs_repN h2 hk
          refine ⟨q, ps, tr, F, ρ1, l, rfl, SqL.of h1, h3, h4, fun p L hnone hD => ?_⟩
          obtain ⟨ks, vs', ns, d1, d2, d3, d4⟩ := hD
          have ex := Ext.alloc (o := datAt p L) ρ1 hnone
          refine hp1 (ρ1 ++ [p]) _ ex (hs1.alloc hnone ⟨L, upd_same, ks, vs', ns, by rw [hw]; exact d1, d2, d3.ext ex, d4.ext ex⟩) _ (.ref ?_)
          rw [← hs1.len]; simp
      · exact hp1.elim
    · exact hp1.elim
  · exact hp1.elim
end
end Sx

/-! PxZy: a tuple taken any small number of times. -/
namespace Sx
open PySem L2 PySem.Spec PyProof.Rows
/-! t * k -/
def opMulT (s : Sto) (a b : D) : Option D := match opMul01 s a b with
  | some d => some d
  | none => opMul s a b
section
variable {X : Cx}
theorem op_mulT : OpR X (binaryOp .Mult) (fun x y H Q => rRep01 X.K x y H Q ∨ (rI CMul (fun i j => .int (i * j)) x y H Q ∨ rI CMulW (fun i j => .int (i * j)) x y H Q ∨ rRep x y H Q ∨ rRepT X.K x y H Q)) := op_rep01.or o_mul
end
theorem sim_mulT {K : PySem.W.Frag} : Sim2 K (fun x y H Q => rRep01 K x y H Q ∨ (rI CMul (fun i j => .int (i * j)) x y H Q ∨ rI CMulW (fun i j => .int (i * j)) x y H Q ∨ rRep x y H Q ∨ rRepT K x y H Q)) opMulT := by
  intro G F ρ H s x y a b d Q hs rx ry hz hq
  unfold opMulT at hz
  split at hz
  · rename_i d' h
    cases hz
    exact .inl (sim_mul01 G F ρ H s x y a b _ Q hs rx ry h hq)
  · exact .inr (sim_mul G F ρ H s x y a b _ Q hs rx ry hz hq)
theorem opMulT_one {s : Sto} {x : D} {k : Nat} (h1 : 1 ≤ k) (h2 : k ≤ 1000) : opMulT s (.tup [x]) (.int (k : Int)) = some (.tup (List.replicate k x)) := by
  have e : repD [x] (k : Int) = List.replicate k x := by
    unfold repD
    rw [show (k : Int).toNat = k by omega]
    clear h1 h2
    induction k with
    | zero => rfl
    | succ k ih => rw [List.replicate_succ, List.flatten_cons, ih]; rfl
  by_cases c : k = 1
  · subst c; rfl
  · have h : opMul01 s (.tup [x]) (.int (k : Int)) = none := by
      show (if -1000 ≤ (k : Int) ∧ (k : Int) ≤ 1 then _ else none) = none
      rw [if_neg (by omega)]
    unfold opMulT
    rw [h]
    show opMul s (.tup [x]) (.int (k : Int)) = _
    rw [opMul_tupi rfl (by omega) (by omega) (by simp), e]
/-! a def by another name -/
section
variable {P : Program} {w : World} {K : PySem.W.Frag} {mg : Str → Option Value} {base : Heap} {G : SCtx} {k : Nat} {x x2 : Str} {fn : FN}
theorem Has.al (h : Has P w K mg base G k x fn) (e : mg x2 = mg x) : Has P w K mg base G k x2 fn := by
  obtain ⟨f, fd, ps, h1, h2, h3⟩ := h
  exact ⟨f, fd, ps, h1, e.trans h2, h3⟩
theorem HasN.al (h : HasN P w K mg base G k x fn) (e : mg x2 = mg x) : HasN P w K mg base G k x2 fn := by
  obtain ⟨f, fd, ps, h1, h2, h3⟩ := h
  exact ⟨f, fd, ps, h1, e.trans h2, h3⟩
end
end Sx

/-! PxZz: x not in (..), x data of any depth. -/
namespace Sx
open PySem L2 PySem.Spec PyProof.Rows
def rNotInT (K : PySem.W.Frag) : R2 := fun x y H Q => ∃ d ds, Dp K H x d ∧ Dp K H y (.tuple ds) ∧ SeqAt.shaped d = true ∧ SeqAt.shaped (.tuple ds) = true ∧ Q (.bl (!ds.any fun z => PyData.eqv z d)) H
section
variable {X : Cx}
theorem op_notInT (hu : X.A.units + 65 < cLine) : OpR X (compareOp .NotIn) (rNotInT X.K) := by
  intro pins s σ H x y v u Q I rx ry h
  obtain ⟨d, ds, hd, he, sd, se, q⟩ := h
  obtain ⟨as, r1⟩ := Dp.reads I d x v hd rx
  obtain ⟨bs, r2⟩ := Dp.reads I (.tuple ds) y u he ry
  exact SeqAt.notIn_tuple_reads r2 r1 (SeqAt.canLay_of_shaped se) (SeqAt.canLay_of_shaped sd) (room_in_shaped sd hu) ⟨.bl _, H, I, rfl, q⟩
end
def opNotInT (s : Sto) (a b : D) : Option D := match b with
  | .tup xs => match pds s xs, pdR s a with
    | some ps, some p => if SeqAt.shaped (.tuple ps) && SeqAt.shaped p then some (.bl (!ps.any fun z => PyData.eqv z p)) else none
    | _, _ => none
  | _ => none
theorem sim_notInT {K : PySem.W.Frag} : Sim2 K (rNotInT K) opNotInT := by
  intro G F ρ H s x y a b d Q hs rx ry h k
  unfold opNotInT at h
  split at h
  · rename_i xs
    split at h
    · rename_i ps p e1 e2
      split at h
      · rename_i hf
        simp only [Bool.and_eq_true] at hf
        cases h
        cases ry with
        | tup t q =>
          exact ⟨p, ps, DpR_of hs rx e2, .tup t.sq (DpAll_of hs xs q e1), hf.2, hf.1, k H _ (Ext.refl _ _) hs (.bl _)⟩
      · cases h
    · cases h
  · cases h
end Sx

/-! PxZza: xs + ys, a new list that may be changed. -/
namespace Sx
open PySem L2
def eAddN (f1 f2 : EF) : EF := fun env s => (f1 env s).bind fun a s1 => (f2 env s1).bind fun b s2 => match lstOf s2 a, lstOf s2 b with
  | some xs, some ys => if xs.length + ys.length ≤ LIM then .ok (.ref s2.length) (s2 ++ [.lst (xs ++ ys)]) else .no
  | _, _ => .no
section
open PySem.Spec PyProof.Rows
variable {X : Cx} {G : SCtx} {W : WX}
theorem s_addN {a b : Expr} {pos : Pos} {f1 f2 : EF} (ha : SE X G W a f1) (hb : SE X G W b f2) : SE X G W (.BinOp a .Add b pos) (eAddN f1 f2) := by
  refine pe_imp (pe_op op_cat ha hb) fun σ H Q h => ?_
  obtain ⟨F, ρ, env, s, he, hs, hp⟩ := h
  refine tE.step he hs hp fun d s1 ρ1 H1 v _ he1 hs1 e1 r1 hp1 => ?_
  refine tE.step he1 hs1 hp1 fun d' s2 ρ2 H2 v' _ he2 hs2 e2 r2 hp2 => ?_
  split at hp2
  · rename_i xs ys hx hy
    split at hp2
    · rename_i hh
      have r1' := r1.ext e2
      obtain ⟨l, vs, rfl, z1, z2⟩ := lstOf_rep hs2 r1' hx
      obtain ⟨l', vs', rfl, z1', z2'⟩ := lstOf_rep hs2 r2 hy
      refine ⟨_, _, _, _, rfl, rfl, z1, z1', ?_, fun p hpn => ?_⟩
      · rw [z2.length, z2'.length]; exact lim hh
      · exact hp2 _ _ (Ext.alloc ρ2 hpn) (hs2.newR hpn (z2.append z2')).1 _ (hs2.newR hpn (z2.append z2')).2
    · exact hp2.elim
  · exact hp2.elim
end
def kAddN2 (a : D) : R D → R D
  | .ok b s2 => match lstOf s2 a, lstOf s2 b with
    | some xs, some ys => if xs.length + ys.length ≤ LIM then .ok (.ref s2.length) (s2 ++ [.lst (xs ++ ys)]) else .no
    | _, _ => .no
  | .ex c s => .ex c s
  | .no => .no
def kAddN1 (f2 : EF) (env : Env) : R D → R D
  | .ok a s => kAddN2 a (f2 env s)
  | .ex c s => .ex c s
  | .no => .no
@[simp] theorem kAddN1_0 {f2 : EF} {env : Env} {a : D} {s : Sto} : kAddN1 f2 env (.ok a s) = kAddN2 a (f2 env s) := rfl
@[simp] theorem eAddN_v {f1 f2 : EF} {env : Env} {s : Sto} : eAddN f1 f2 env s = kAddN1 f2 env (f1 env s) := by
  unfold eAddN
  cases f1 env s with
  | ok a s1 =>
    show (f2 env s1).bind _ = kAddN2 a (f2 env s1)
    cases f2 env s1 <;> rfl
  | _ => rfl
theorem kAddN2_v {a b : D} {s : Sto} {xs ys : List D} (h1 : lstOf s a = some xs) (h2 : lstOf s b = some ys) (hl : xs.length + ys.length ≤ LIM) : kAddN2 a (.ok b s) = .ok (.ref s.length) (s ++ [Ob.lst (xs ++ ys)]) := by
  show (match lstOf s a, lstOf s b with | some xs, some ys => if xs.length + ys.length ≤ LIM then R.ok (D.ref s.length) (s ++ [Ob.lst (xs ++ ys)]) else .no | _, _ => .no) = _
  rw [h1, h2]
  simp only [if_pos hl]
end Sx

/-! PxZzb: a text cut by a step; int(text). -/
namespace Sx
open PySem L2 PySem.Spec PyProof.Rows
def stepT (z : Str) (lo hi : Option Int) (k : Int) : Str := ⟨((Builtin.Str.strSliceIndices lo hi k z.length).filterMap (z.cps[·]?)).toArray⟩
theorem stepT_le (z : Str) (lo hi : Option Int) (k : Int) (h : k ≠ 0) : (stepT z lo hi k).length ≤ z.length := by
  show ((Builtin.Str.strSliceIndices lo hi k z.length).filterMap (z.cps[·]?)).toArray.size ≤ z.length
  rw [List.size_toArray]
  exact Nat.le_trans (List.length_filterMap_le _ _) (sliceIndicesBy_le _ _ _ h z.length)
def opStS (a : D) (lo hi k : Option Int) : Option D := match a, k with
  | .str z, some k => if k ≠ 0 ∧ k ≠ 1 ∧ z.length ≤ LIM then some (.str (stepT z lo hi k)) else none
  | _, _ => none
def eStS (f : EF) (lo hi st : OF) : EF := fun env s => (f env s).bind fun a s1 => (lo env s1).bind fun l s2 => (hi env s2).bind fun h s3 => (st env s3).bind fun k s4 => R.of (opStS a l h k) s4
def rStS (x : V) (lo hi k : Option Int) (H : Hp) (Q : VK) : Prop := ∃ z j, x = .str z ∧ k = some j ∧ j ≠ 0 ∧ j ≠ 1 ∧ z.length ≤ sizeLine ∧ Q (.str (stepT z lo hi j)) H
section
variable {X : Cx} {G : SCtx} {W : WX} {e : Expr} {te : TE} {lo hi : Option Expr} {st : Expr} {tl th ts : TO} {pos p2 : Pos} {f1 : EF} {g h o : OF}
theorem pe_stepS (he : PE X e te) (hl : PO X lo tl) (hu : PO X hi th) (hs : PO X (some st) ts) (hsb : ∀ {a b : Value}, subscripted (.Slice lo hi (some st) p2) false a b = operate [a, b] (getItem a b) := by intros; with_unfolding_all rfl) :
    PE X (.Subscript e (.Slice lo hi (some st) p2) pos) (fun σ H Q => te σ H fun x H1 => tl σ H1 fun l H2 => th σ H2 fun u H3 => ts σ H3 fun k H4 => rStS x l u k H4 Q) := by
  refine ⟨fun pins s σ H Q I h => Subscript_ (thn (he.run pins s σ H _ I h) fun v s1 ⟨x, H1, I1, r1, q1⟩ => ?_)⟩
  refine wpAny_Slice (thn (hl.run pins s1 σ H1 _ I1 q1) fun vl s2 ⟨l, H2, I2, pl, q2⟩ => thn (hu.run pins s2 σ H2 _ I2 q2) fun vu s3 ⟨u, H3, I3, pu, q3⟩ => ?_)
  refine thn (hs.run pins s3 σ H3 _ I3 q3) fun vs s4 ⟨k, H4, I4, ps, q4⟩ => ?_
  have I5 : Inv X pins σ H4 { s4 with heap := s4.heap.push { cls := .type "slice", data := .fields #[vl, vu, vs] } } := I4.kept (t' := s4.toks) fun b ob q => Heap.get?_push_of_some _ q
  have sl := Heap.IsSliceOf.new s4.heap vl vu vs
  obtain ⟨z, j, rfl, rfl, h0, h1, hz, q⟩ := q4
  obtain ⟨t, rfl⟩ := r1
  obtain ⟨os, hos, hcs, hds⟩ := id sl
  obtain ⟨l', rfl, rfl⟩ := IsPart.raw pl
  obtain ⟨u', rfl, rfl⟩ := IsPart.raw pu
  obtain ⟨k', rfl, hk⟩ := IsPart.raw ps
  have hkj : (k'.map (·.1)).getD 1 = j := by
    first
      | (rw [← hk]; rfl)
      | (rw [hk]; rfl)
  refine tail_any (ops := [.str z t, .ref s4.heap.objs.size]) (typeIs_str _ z t) PySem.F.slot_str_getitem.lookup ?_ hsb
  refine wpAny_getItem_str_slice (l := l') (u := u') (st := k') ⟨os, hos, hcs, hds⟩ (by rw [hkj]; simpa using h0) ?_
  have hmade : sliceMade z t l' u' k' = .str (stepT z (l'.map (·.1)) (u'.map (·.1)) j) := by
    unfold sliceMade slicePicked
    rw [hkj]
    have hne : (j == 1) = false := by simpa using h1
    rw [hne, Bool.false_and]
    rfl
  rw [hmade]
  exact ⟨Nat.le_trans (stepT_le _ _ _ _ h0) hz, .str _, H4, I5.tok _, ⟨_, rfl⟩, q⟩
theorem s_stS (ha : SE X G W e f1) (hl : SOt X G W lo g) (hu : SOt X G W hi h) (hs : SOt X G W (some st) o) (hsb : ∀ {a b : Value}, subscripted (.Slice lo hi (some st) p2) false a b = operate [a, b] (getItem a b) := by intros; with_unfolding_all rfl) :
    SE X G W (.Subscript e (.Slice lo hi (some st) p2) pos) (eStS f1 g h o) := by
  refine pe_imp (pe_stepS ha hl hu hs hsb) fun σ H Q h => ?_
  obtain ⟨F, ρ, env, s, he, hsr, hp⟩ := h
  refine tE.step he hsr hp fun d s1 ρ1 H1 v _ he1 hs1 e1 r1 hp1 => ?_
  refine ⟨F, ρ1, env, s1, he1, hs1, hp1.bind.imp (fun l s2 ρ2 H2 _ e2 hs2 hp2 => ?_) fun _ _ h => h⟩
  refine ⟨F, ρ2, env, s2, he1.ext e2, hs2, hp2.bind.imp (fun u s3 ρ3 H3 _ e3 hs3 hp3 => ?_) fun _ _ h => h⟩
  refine ⟨F, ρ3, env, s3, (he1.ext e2).ext e3, hs3, hp3.bind.imp (fun k s4 ρ4 H4 _ e4 hs4 hp4 => ?_) fun _ _ h => h⟩
  obtain ⟨z, hz, hp5⟩ := hp4.off
  unfold opStS at hz
  split at hz
  · split at hz
    · rename_i hh
      cases hz
      cases r1
      exact ⟨_, _, rfl, rfl, hh.1, hh.2.1, lim hh.2.2, hp5 _ _ (Ext.refl _ _) hs4 _ (.str _)⟩
    · cases hz
  · cases hz
end
def kStS4 (a : D) (l h : Option Int) : R (Option Int) → R D
  | .ok k s => R.of (opStS a l h k) s
  | .ex c s => .ex c s
  | .no => .no
@[simp] theorem eStS_v {f : EF} {st : OF} {env : Env} {s s1 : Sto} {a : D} {k : Option Int} (h1 : f env s = .ok a s) (h2 : st env s = .ok k s) : eStS f oNo oNo st env s = R.of (opStS a none none k) s := by
  unfold eStS
  rw [h1]
  show (st env s).bind _ = _
  rw [h2]
  rfl
/-! int(text) -/
def fIntS (_ : Sto) (as : List D) : Option D := match as with
  | [.str a] => match PySem.intText? a with
    | some n => if a.length ≤ 640 then some (.int n) else none
    | none => none
  | _ => none
theorem sim_intS {K : PySem.W.Frag} : SimN K (fun xs H Q => ∃ a n, xs = [V.str a] ∧ PySem.intText? a = some n ∧ a.length ≤ 640 ∧ Q (.int n) H) fIntS := by
  intro G F ρ H s vs ds d Q hs r hz hq
  unfold fIntS at hz
  split at hz
  · split at hz
    · rename_i n hn
      split at hz
      · rename_i hl
        cases hz
        cases r with
        | cons r1 t =>
          cases t
          cases r1
          exact ⟨_, _, rfl, hn, hl, hq H _ (Ext.refl ρ H) hs (.int _)⟩
      · cases hz
    · cases hz
  · cases hz
section
variable {P : Program} {w : World} {K : PySem.W.Frag} {mg : Str → Option Value} {base : Heap} {G : SCtx} {k c : Nat} {m qual : Str} {fn : FN} {ps : List Str} {st : Stmt}
theorem has_noM (d : MethAt K (G.adr c) m qual st ps) : HasM P w K mg base G k c m (fun _ _ => .no) := by
  obtain ⟨f, fd, h1, h2, h3⟩ := d
  exact ⟨f, fd, ps, fn_no, h2, h3⟩
end
end Sx

namespace Gen
open PySem L2 Sx
/-! ### the plain meaning of each def -/
-- is_any_plan: 0 thing, 1 deep
def is_any_plan_S : Nat → FN
  | 0 => fun _ _ => .no
  | n + 1 => fnOf 2 2 (sSeq (sIf (tOr (tNot (tTru (eUn (isIn "tuple") (eVar 0)))) (tOr (tV (eOp opEq (eFn fLen (aCons (eVar 0) aNil)) (eC (.int 0)))) (tNot (tTru (eUn (isIn "str") (eOp opIx (eVar 0) (eC (.int 0))))))))
    (sRet (eC (.bl false)))
    sNext) (sSeq (sIf (tV (eOp opEq (eOp opIx (eVar 0) (eC (.int 0))) (eC (.str "is"))))
    (sSeq (sIf (tOr (tV (eOp opNe (eFn fLen (aCons (eVar 0) aNil)) (eC (.int 2)))) (tOr (tNot (tTru (eUn (isIn "int") (eOp opIx (eVar 0) (eC (.int 1)))))) (tTru (eUn (isIn "bool") (eOp opIx (eVar 0) (eC (.int 1)))))))
    (sRet (eC (.bl false)))
    sNext) (sRet (eChain opLe opLe (eC (.int 0)) (eOp opIx (eVar 0) (eC (.int 1))) (eC (.int 99)))))
    sNext) (sSeq (sIf (tV (eOp opEq (eOp opIx (eVar 0) (eC (.int 0))) (eC (.str "again"))))
    (sRet (eOp opEq (eFn fLen (aCons (eVar 0) aNil)) (eC (.int 1))))
    sNext) (sSeq (sIf (tOr (tV (eOp opNe (eOp opIx (eVar 0) (eC (.int 0))) (eC (.str "ask")))) (tOr (tV (eOp opNe (eFn fLen (aCons (eVar 0) aNil)) (eC (.int 3)))) (tV (eOp opEq (eVar 1) (eC (.int 0))))))
    (sRet (eC (.bl false)))
    sNext) (sRet (eAnd (eCall (is_any_plan_S n) (aCons (eOp opIx (eVar 0) (eC (.int 1))) (aCons (eOp opSub (eVar 1) (eC (.int 1))) aNil))) (eCall (is_any_plan_S n) (aCons (eOp opIx (eVar 0) (eC (.int 2))) (aCons (eOp opSub (eVar 1) (eC (.int 1))) aNil)))))))))
-- is_plan: 0 thing
def is_plan_S : FN := fnOf 1 1 (sRet (eCall (is_any_plan_S 20) (aCons (eVar 0) (aCons (eC (.int 12)) aNil))))
-- written: 0 plan
def written_S : Nat → FN
  | 0 => fun _ _ => .no
  | n + 1 => fnOf 1 1 (sSeq (sIf (tV (eOp opEq (eOp opIx (eVar 0) (eC (.int 0))) (eC (.str "is"))))
    (sRet (eOp opAdd (eFn fStr (aCons (eOp opIx (eVar 0) (eC (.int 1))) aNil)) (eC (.str "."))))
    sNext) (sSeq (sIf (tV (eOp opEq (eVar 0) (eC (.tup [.str "again"]))))
    (sRet (eC (.str "*")))
    sNext) (sRet (eOp opAdd (eOp opAdd (eC (.str "?")) (eCall (written_S n) (aCons (eOp opIx (eVar 0) (eC (.int 1))) aNil))) (eCall (written_S n) (aCons (eOp opIx (eVar 0) (eC (.int 2))) aNil))))))
-- Reader.__init__: 0 self, 1 text
def Reader_init_S : FN := fnOf 2 2 (sSeq (sFldS 1 0 (eVar 0) (eVar 1)) (sFldS 1 1 (eVar 0) (eC (.int 0))))
-- Reader.sign: 0 self, 1 found
def Reader_sign_S : FN := fnOf 1 2 (sSeq (sAsg (eSl (eFld 1 0 (eVar 0)) (oSome (eFld 1 1 (eVar 0))) (oSome (eOp opAdd (eFld 1 1 (eVar 0)) (eC (.int 1))))) (gVar 1)) (sSeq (sIf (tV (eOp opEq (eVar 1) (eC (.str ""))))
    (sRaise 0)
    sNext) (sSeq (sFldS 1 1 (eVar 0) (eOp opAdd (eFld 1 1 (eVar 0)) (eC (.int 1)))) (sRet (eVar 1)))))
-- Reader.plan: 0 self, 1 deep, 2 sign, 3 word, 4 one
def Reader_plan_t1 (n : Nat) : TF := (tAnd (tV (eOp opIn (eVar 2) (eC (.str "0123456789")))) (tV (eOp opLt (eFn fLen (aCons (eVar 3) aNil)) (eC (.int 3)))))
def Reader_plan_b1 (n : Nat) : SF := (sSeq (sAsg (eOp opAdd (eVar 3) (eVar 2)) (gVar 3)) (sAsg (eMeth 1 Reader_sign_S (eVar 0) aNil) (gVar 2)))
def Reader_plan_S : Nat → FN
  | 0 => fun _ _ => .no
  | n + 1 => fnOf 2 5 (sSeq (sAsg (eMeth 1 Reader_sign_S (eVar 0) aNil) (gVar 2)) (sSeq (sIf (tV (eOp opEq (eVar 2) (eC (.str "*"))))
    (sRet (eC (.tup [.str "again"])))
    sNext) (sSeq (sIf (tV (eOp opEq (eVar 2) (eC (.str "?"))))
    (sSeq (sIf (tV (eOp opEq (eVar 1) (eC (.int 0))))
    (sRaise 0)
    sNext) (sSeq (sAsg (eMeth 1 (Reader_plan_S n) (eVar 0) (aCons (eOp opSub (eVar 1) (eC (.int 1))) aNil)) (gVar 4)) (sRet (eTup (aCons (eC (.str "ask")) (aCons (eVar 4) (aCons (eMeth 1 (Reader_plan_S n) (eVar 0) (aCons (eOp opSub (eVar 1) (eC (.int 1))) aNil)) aNil)))))))
    sNext) (sSeq (sAsg (eC (.str "")) (gVar 3)) (sSeq (sWhile (Reader_plan_t1 n) (Reader_plan_b1 n) 100000) (sSeq (sIf (tOr (tV (eOp opEq (eVar 3) (eC (.str "")))) (tV (eOp opNe (eVar 2) (eC (.str ".")))))
    (sRaise 0)
    sNext) (sRet (eTup (aCons (eC (.str "is")) (aCons (eFn fIntS (aCons (eVar 3) aNil)) aNil))))))))))
-- read: 0 text, 1 reader, 2 plan
def read_S : FN := fnOf 1 3 (sSeq (sAsg (eMake 1 Reader_init_S (aCons (eVar 0) aNil)) (gVar 1)) (sSeq (sAsg (eMeth 1 (Reader_plan_S 20) (eVar 1) (aCons (eC (.int 12)) aNil)) (gVar 2)) (sSeq (sIf (tOr (tV (eOp opNe (eFld 1 1 (eVar 1)) (eFn fLen (aCons (eVar 0) aNil)))) (tOr (tNot (tTru (eCall is_plan_S (aCons (eVar 2) aNil)))) (tV (eOp opNe (eCall (written_S 20) (aCons (eVar 2) aNil)) (eVar 0)))))
    (sRaise 0)
    sNext) (sRet (eVar 2)))))
-- _law_same: 0 _law_got, 1 _law_due_here, 2 _law_one_here, 3 _law_other
-- _law_or: 0 _law_due_here
def law_or_S : FN := fnOf 1 1 (sSeq (sIf (tV (eIsN (eVar 0)))
    (sRet (eC (.str "refused")))
    sNext) (sRet (eVar 0)))
-- _law_draw: 0 _law_script, 1 _law_town, 2 _law_many, 3 _law_k, 4 _law_cell, 5 _law_number, 6 _law_more
-- _law_one: 0 _law_script, 1 _law_town, 2 _law_some
-- _law_plan: 0 _law_script, 1 _law_town, 2 _law_left, 3 _law_kind
def law_plan_S : Nat → FN
  | 0 => fun _ _ => .no
  | n + 1 => fnOf 3 4 (sSeq (sAsg (eCall drawS (aCons (eVar 0) (aCons (eVar 1) (aCons (eC (.int 6)) aNil)))) (gVar 3)) (sSeq (sIf (tOr (tV (eOp opEq (eVar 2) (eC (.int 0)))) (tV (eOp opEq (eVar 3) (eC (.int 0)))))
    (sRet (eTup (aCons (eC (.str "is")) (aCons (eCall drawS (aCons (eVar 0) (aCons (eVar 1) (aCons (eCall oneS (aCons (eVar 0) (aCons (eVar 1) (aCons (eLst (aCons (eC (.int 3)) (aCons (eC (.int 100)) aNil))) aNil)))) aNil)))) aNil))))
    sNext) (sSeq (sIf (tV (eOp opEq (eVar 3) (eC (.int 1))))
    (sRet (eTup (aCons (eC (.str "again")) aNil)))
    sNext) (sRet (eTup (aCons (eC (.str "ask")) (aCons (eCall (law_plan_S n) (aCons (eVar 0) (aCons (eVar 1) (aCons (eOp opSub (eVar 2) (eC (.int 1))) aNil)))) (aCons (eCall (law_plan_S n) (aCons (eVar 0) (aCons (eVar 1) (aCons (eOp opSub (eVar 2) (eC (.int 1))) aNil)))) aNil))))))))
-- _law_told: 0 _law_text, 1 _law_got
def law_told_S : FN := fnOf 1 2 (sSeq (sAsg (eC .non) (gVar 1)) (sSeq (sTry 1 0 (sAsg (eCall (iso read_S) (aCons (eVar 0) aNil)) (gVar 1))
    (sAsg (eC (.str "refused")) (gVar 1))) (sRet (eVar 1))))
-- _law_say: 0 _law_made
def law_say_S : Nat → FN
  | 0 => fun _ _ => .no
  | n + 1 => fnOf 1 1 (sSeq (sIf (tV (eOp opEq (eOp opIx (eVar 0) (eC (.int 0))) (eC (.str "is"))))
    (sRet (eOp opAdd (eFn fStr (aCons (eOp opIx (eVar 0) (eC (.int 1))) aNil)) (eC (.str "."))))
    sNext) (sRet (eIf (tV (eOp opEq (eOp opIx (eVar 0) (eC (.int 0))) (eC (.str "again")))) (eC (.str "*")) (eOp opAdd (eOp opAdd (eC (.str "?")) (eCall (law_say_S n) (aCons (eOp opIx (eVar 0) (eC (.int 1))) aNil))) (eCall (law_say_S n) (aCons (eOp opIx (eVar 0) (eC (.int 2))) aNil))))))
-- _law_read: 0 _law_text, 1 _law_left, 2 _law_many, 3 _law_part, 4 _law_one_here, 5 _law_rest, 6 _law_other
def law_read_b1 (n : Nat) : SF := (sSeq (sAsg (eSl (eVar 0) oNo (oSome (eVar 2))) (gVar 3)) (sIf (tAnd (tV (eOp opEq (eFn fLen (aCons (eVar 3) aNil)) (eVar 2))) (tAnd (tV (eOp opEq (eTM gStripC (eVar 3) (aCons (eC (.str "0123456789")) aNil)) (eC (.str "")))) (tV (eOp opEq (eSl (eVar 0) (oSome (eVar 2)) (oSome (eOp opAdd (eVar 2) (eC (.int 1))))) (eC (.str "."))))))
    (sRet (eTup (aCons (eIf (tOr (tV (eOp opEq (eVar 2) (eC (.int 1)))) (tV (eOp opNe (eOp opIx (eVar 3) (eC (.int 0))) (eC (.str "0"))))) (eTup (aCons (eC (.str "is")) (aCons (eFn fIntS (aCons (eVar 3) aNil)) aNil))) (eC .non)) (aCons (eSl (eVar 0) (oSome (eOp opAdd (eVar 2) (eC (.int 1)))) oNo) aNil))))
    sNext))
def law_read_S : Nat → FN
  | 0 => fun _ _ => .no
  | n + 1 => fnOf 2 7 (sSeq (sIf (tV (eOp opEq (eSl (eVar 0) oNo (oSome (eC (.int 1)))) (eC (.str "*"))))
    (sRet (eTup (aCons (eTup (aCons (eC (.str "again")) aNil)) (aCons (eSl (eVar 0) (oSome (eC (.int 1))) oNo) aNil))))
    sNext) (sSeq (sIf (tAnd (tV (eOp opEq (eSl (eVar 0) oNo (oSome (eC (.int 1)))) (eC (.str "?")))) (tV (eOp opGt (eVar 1) (eC (.int 0)))))
    (sSeq (sAsg (eCall (law_read_S n) (aCons (eSl (eVar 0) (oSome (eC (.int 1))) oNo) (aCons (eOp opSub (eVar 1) (eC (.int 1))) aNil))) (gTup 2 (gCons (gVar 4) (gCons (gVar 5) gNil)))) (sSeq (sAsg (eIf (tV (eNotN (eVar 4))) (eCall (law_read_S n) (aCons (eVar 5) (aCons (eOp opSub (eVar 1) (eC (.int 1))) aNil))) (eTup (aCons (eC .non) (aCons (eC (.str "")) aNil)))) (gTup 2 (gCons (gVar 6) (gCons (gVar 5) gNil)))) (sRet (eTup (aCons (eIf (tV (eNotN (eVar 6))) (eTup (aCons (eC (.str "ask")) (aCons (eVar 4) (aCons (eVar 6) aNil)))) (eC .non)) (aCons (eVar 5) aNil))))))
    sNext) (sSeq (sFor (iRow (eTup (aCons (eC (.int 1)) (aCons (eC (.int 2)) aNil)))) (gVar 2) (law_read_b1 n)) (sRet (eTup (aCons (eC .non) (aCons (eC (.str "")) aNil)))))))
-- _law_due: 0 _law_text, 1 _law_made, 2 _law_rest
def law_due_S : FN := fnOf 1 3 (sSeq (sAsg (eCall (law_read_S 20) (aCons (eVar 0) (aCons (eC (.int 12)) aNil))) (gTup 2 (gCons (gVar 1) (gCons (gVar 2) gNil)))) (sRet (eIf (tV (eOp opEq (eVar 2) (eC (.str "")))) (eVar 1) (eC .non))))
-- _law_comb: 0 _law_script, 1 _law_town, 2 _law_many, 3 _law_got, 4 _law_turn
def law_comb_b1 : SF := (sAsg (eIf (tV (eOp opEq (eCall drawS (aCons (eVar 0) (aCons (eVar 1) (aCons (eC (.int 2)) aNil)))) (eC (.int 0)))) (eTup (aCons (eC (.str "ask")) (aCons (eTup (aCons (eC (.str "again")) aNil)) (aCons (eVar 3) aNil)))) (eTup (aCons (eC (.str "ask")) (aCons (eVar 3) (aCons (eTup (aCons (eC (.str "is")) (aCons (eVar 4) aNil))) aNil))))) (gVar 3))
def law_comb_S : FN := fnOf 3 5 (sSeq (sAsg (eTup (aCons (eC (.str "is")) (aCons (eCall drawS (aCons (eVar 0) (aCons (eVar 1) (aCons (eC (.int 100)) aNil)))) aNil))) (gVar 3)) (sSeq (sFor (iRng1 (aCons (eVar 2) aNil)) (gVar 4) law_comb_b1) (sRet (eVar 3))))
-- law: 0 _law_script, 1 _law_town, 2 _law_k, 3 _law_made, 4 _law_text, 5 _law_texts, 6 _law_j, 7 _law_thing, 8 _law_at, 9 _law_sign, 10 _law_many
def law_b1 : SF := (sSeq (sAsg (eCall drawS (aCons (eVar 0) (aCons (eVar 1) (aCons (eOp opAdd (eFn fLen (aCons (eVar 4) aNil)) (eC (.int 1))) aNil)))) (gVar 8)) (sSeq (sAsg (eCall oneS (aCons (eVar 0) (aCons (eVar 1) (aCons (eC (.str "0123456789.?*.?* -+_,aZ~!")) aNil)))) (gVar 9)) (sSeq (sAsg (eAddN (eVar 5) (eLst (aCons (eOp opAdd (eOp opAdd (eSl (eVar 4) oNo (oSome (eVar 8))) (eVar 9)) (eSl (eVar 4) (oSome (eVar 8)) oNo)) (aCons (eOp opAdd (eSl (eVar 4) oNo (oSome (eVar 8))) (eSl (eVar 4) (oSome (eOp opAdd (eVar 8) (eC (.int 1)))) oNo)) (aCons (eOp opAdd (eOp opAdd (eSl (eVar 4) oNo (oSome (eVar 8))) (eVar 9)) (eSl (eVar 4) (oSome (eOp opAdd (eVar 8) (eC (.int 1)))) oNo)) aNil))))) (gVar 5)) (sExpr (eBM mAppend (eVar 5) (aCons (eOp opAdd (eOp opAdd (eSl (eVar 4) oNo (oSome (eVar 8))) (eStS (eSl (eVar 4) (oSome (eVar 8)) (oSome (eOp opAdd (eVar 8) (eC (.int 2))))) oNo oNo (oSome (eUn opNeg (eC (.int 1)))))) (eSl (eVar 4) (oSome (eOp opAdd (eVar 8) (eC (.int 2)))) oNo)) aNil))))))
def law_b2 : SF := (sIf (tNot (tTru (eCall (sameS 20) (aCons (eCall law_told_S (aCons (eVar 7) aNil)) (aCons (eCall law_or_S (aCons (eCall law_due_S (aCons (eVar 7) aNil)) aNil)) aNil)))))
    (sRet (eC (.bl false)))
    sNext)
def law_b3 : SF := (sSeq (sAsg (eIf (tV (eOp opEq (eVar 2) (eC (.int 0)))) (eCall law_comb_S (aCons (eVar 0) (aCons (eVar 1) (aCons (eC (.int 12)) aNil)))) (eCall (law_plan_S 20) (aCons (eVar 0) (aCons (eVar 1) (aCons (eC (.int 6)) aNil))))) (gVar 3)) (sSeq (sAsg (eCall (law_say_S 20) (aCons (eVar 3) aNil)) (gVar 4)) (sSeq (sIf (tOr (tNot (tTru (eCall (sameS 20) (aCons (eCall (written_S 20) (aCons (eVar 3) aNil)) (aCons (eVar 4) aNil))))) (tNot (tTru (eCall (sameS 20) (aCons (eCall law_told_S (aCons (eVar 4) aNil)) (aCons (eVar 3) aNil))))))
    (sRet (eC (.bl false)))
    sNext) (sSeq (sAsg (eNewL (aCons (eOp opAdd (eVar 4) (eVar 4)) (aCons (eOp opAdd (eC (.str " ")) (eVar 4)) (aCons (eOp opAdd (eVar 4) (eC (.str " "))) (aCons (eStS (eVar 4) oNo oNo (oSome (eUn opNeg (eC (.int 1))))) (aCons (eC (.str "")) (aCons (eC (.str "?")) (aCons (eC (.str "*")) (aCons (eC (.str "**")) (aCons (eC (.str "?**")) aNil)))))))))) (gVar 5)) (sSeq (sAsg (eAddN (eVar 5) (eLst (aCons (eC (.str "??***")) (aCons (eC (.str "100.")) (aCons (eC (.str "007.")) (aCons (eC (.str "00.")) aNil)))))) (gVar 5)) (sSeq (sAsg (eAddN (eVar 5) (eLc (iRow (eTup (aCons (eC (.int 11)) (aCons (eC (.int 13)) (aCons (eC (.int 14)) aNil))))) (gVar 10) tTrue (eCall (law_say_S 20) (aCons (eCall law_comb_S (aCons (eVar 0) (aCons (eVar 1) (aCons (eVar 10) aNil)))) aNil)) [10])) (gVar 5)) (sSeq (sFor (iRng1 (aCons (eC (.int 8)) aNil)) (gVar 6) law_b1) (sForV (eVar 5) (gVar 7) law_b2))))))))
def law_S : FN := fnOf 1 11 (sSeq (sAsg (eNewL aNil) (gVar 1)) (sSeq (sFor (iRng1 (aCons (eC (.int 6)) aNil)) (gVar 2) law_b3) (sRet (eC (.bl true)))))
end Gen

namespace Gen
open PySem L2 Sx
def topS (i : Nat) : Stmt := PySem.Challenge.pw_bitdraws_k38_whole_plans_as_texts.main.body.getD i (.Pass ⟨0, 0, 0, 0⟩)
/-! ### what stands behind the top -/
structure Txt (w : World) (K : PySem.W.Frag) (mg : Str → Option Value) (G : SCtx) : Prop where
  hw : G.w = w
  x_NoText : ExcAt K mg "NoText" (G.adr 0)
  o_NoText : ∀ c, c < 1 → c ≠ 0 → PySem.W.exmOne K (.ref (G.adr c)) (.ref (G.adr 0)) = some false
  k_Reader : Cls K (G.adr 1)
  g_Reader : mg "Reader" = some (.ref (G.adr 1))
  nd_Reader : (G.fl 1).Nodup
  l_Reader : (G.fl 1).length < 900
  n_Reader_text : NoAttr K (G.adr 1) "text"
  j_Reader_text : (G.fl 1)[0]? = some ("text" : Str)
  n_Reader_at : NoAttr K (G.adr 1) "at"
  j_Reader_at : (G.fl 1)[1]? = some ("at" : Str)
  d_is_any_plan : DefAt K mg "is_any_plan" (topS 7) ["thing", "deep"]
  d_is_plan : DefAt K mg "is_plan" (topS 8) ["thing"]
  d_written : DefAt K mg "written" (topS 11) ["plan"]
  d_Reader_init : InitAt K (G.adr 1) "Reader.__init__" (L2.inClass (topS 12) 0) ["self", "text"]
  d_Reader_sign : MethAt K (G.adr 1) "sign" "Reader.sign" (L2.inClass (topS 12) 1) ["self"]
  m_Reader_sign : ("sign" : Str) ∉ G.fl 1
  d_Reader_plan : MethAt K (G.adr 1) "plan" "Reader.plan" (L2.inClass (topS 12) 2) ["self", "deep"]
  m_Reader_plan : ("plan" : Str) ∉ G.fl 1
  d_read : DefAt K mg "read" (topS 13) ["text"]
  d__law_same : DefAt K mg "_law_same" (topS 15) ["_law_got", "_law_due_here"]
  d__law_or : DefAt K mg "_law_or" (topS 16) ["_law_due_here"]
  d__law_draw : DefAt K mg "_law_draw" (topS 17) ["_law_script", "_law_town", "_law_many"]
  d__law_one : DefAt K mg "_law_one" (topS 18) ["_law_script", "_law_town", "_law_some"]
  d__law_plan : DefAt K mg "_law_plan" (topS 19) ["_law_script", "_law_town", "_law_left"]
  d__law_told : DefAt K mg "_law_told" (topS 21) ["_law_text"]
  d__law_say : DefAt K mg "_law_say" (topS 22) ["_law_made"]
  d__law_read : DefAt K mg "_law_read" (topS 23) ["_law_text", "_law_left"]
  d__law_due : DefAt K mg "_law_due" (topS 24) ["_law_text"]
  d__law_comb : DefAt K mg "_law_comb" (topS 25) ["_law_script", "_law_town", "_law_many"]
  d_law : DefAt K mg "law" (topS 26) ["_law_script"]
  c_AGAIN : TupG K mg "AGAIN" ([.str "again"])
  c_DEEP_MOST : ∃ t, mg "DEEP_MOST" = some (.int 12 t)
  c_FIGURES : ∃ t, mg "FIGURES" = some (.str "0123456789" t)
  c_NUMBER_MOST : ∃ t, mg "NUMBER_MOST" = some (.int 99 t)
  b_all : mg "all" = none
  b_bool : mg "bool" = none
  b_int : mg "int" = none
  b_isinstance : mg "isinstance" = none
  b_len : mg "len" = none
  b_range : mg "range" = none
  b_str : mg "str" = none
  b_tuple : mg "tuple" = none
  b_zip : mg "zip" = none
section
variable {P : Program} {w : World} {K : PySem.W.Frag} {mg : Str → Option Value} {base : Heap} {G : SCtx}
theorem sc_is_any_plan : FnScope ["thing", "deep"] ["thing", "deep"] (defScope (topS 7)) := ⟨rfl, rfl, rfl, by decide +kernel, rfl, by decide +kernel, by decide +kernel⟩
set_option maxHeartbeats 4000000 in
theorem ok_is_any_plan (T : Txt w K mg G)  : ∀ n, Has P w K mg base G (0 + n) "is_any_plan" (is_any_plan_S n)
  | 0 => has_no T.d_is_any_plan
  | n + 1 => by
    have ih := ok_is_any_plan T  n
    exact has_ok T.d_is_any_plan sc_is_any_plan fun f cdv A outer s H E hr =>
      (sb_cons (ss_if (st_w (sw_or (st_not (st_tru (s_isin (T := "tuple") (pe_callB call_isi (by rfl) T.b_isinstance (by decide +kernel) (pa_cons (s_var 0) (pa_cons (pe_bltn (by rfl) T.b_tuple (by decide +kernel) rfl) pa_nil)))))) (sw_or (st_cmp (o_eq hr.units) sim_eq (s_cb (pe_callB call_len (by rfl) T.b_len PySem.boot_len (sa_cons (s_var 0) sa_nil)) sim_len) s_int (nomark _)) (sw_or1 (st_not (st_tru (s_isin (T := "str") (pe_callB call_isi (by rfl) T.b_isinstance (by decide +kernel) (pa_cons (s_ix (s_var 0) s_int) (pa_cons (pe_bltn (by rfl) T.b_str (by decide +kernel) rfl) pa_nil))))))))))
    (sb_one (ss_ret s_bl))
    sb_nil) (sb_cons (ss_if (st_cmp (o_eq hr.units) sim_eq (s_ix (s_var 0) s_int) s_str (nomark _))
    (sb_cons (ss_if (st_w (sw_or (st_cmp (o_ne hr.units) sim_ne (s_cb (pe_callB call_len (by rfl) T.b_len PySem.boot_len (sa_cons (s_var 0) sa_nil)) sim_len) s_int (nomark _)) (sw_or (st_not (st_tru (s_isin (T := "int") (pe_callB call_isi (by rfl) T.b_isinstance (by decide +kernel) (pa_cons (s_ix (s_var 0) s_int) (pa_cons (pe_bltn (by rfl) T.b_int (by decide +kernel) rfl) pa_nil)))))) (sw_or1 (st_tru (s_isin (T := "bool") (pe_callB call_isi (by rfl) T.b_isinstance (by decide +kernel) (pa_cons (s_ix (s_var 0) s_int) (pa_cons (pe_bltn (by rfl) T.b_bool (by decide +kernel) rfl) pa_nil)))))))))
    (sb_one (ss_ret s_bl))
    sb_nil) (sb_one (ss_ret (s_chain (o_le hr.units) sim_le (o_le hr.units) sim_le s_int (s_ix (s_var 0) s_int) (s_globI T.c_NUMBER_MOST)))))
    sb_nil) (sb_cons (ss_if (st_cmp (o_eq hr.units) sim_eq (s_ix (s_var 0) s_int) s_str (nomark _))
    (sb_one (ss_ret (s_cmp (o_eq hr.units) sim_eq (s_cb (pe_callB call_len (by rfl) T.b_len PySem.boot_len (sa_cons (s_var 0) sa_nil)) sim_len) s_int (nomark _))))
    sb_nil) (sb_cons (ss_if (st_w (sw_or (st_cmp (o_ne hr.units) sim_ne (s_ix (s_var 0) s_int) s_str (nomark _)) (sw_or (st_cmp (o_ne hr.units) sim_ne (s_cb (pe_callB call_len (by rfl) T.b_len PySem.boot_len (sa_cons (s_var 0) sa_nil)) sim_len) s_int (nomark _)) (sw_or1 (st_cmp (o_eq hr.units) sim_eq (s_var 1) s_int (nomark _))))))
    (sb_one (ss_ret s_bl))
    sb_nil) (sb_one (ss_ret (s_and (s_callH ih hr (Nat.le_refl _) takesF (sa_cons (s_ix (s_var 0) s_int) (sa_cons (s_op op_sub sim_sub (s_var 1) s_int) sa_nil))) (s_one (s_callH ih hr (Nat.le_refl _) takesF (sa_cons (s_ix (s_var 0) s_int) (sa_cons (s_op op_sub sim_sub (s_var 1) s_int) sa_nil)))))))))))
theorem sc_is_plan : FnScope ["thing"] ["thing"] (defScope (topS 8)) := ⟨rfl, rfl, rfl, by decide +kernel, rfl, by decide +kernel, by decide +kernel⟩
set_option maxHeartbeats 4000000 in
theorem ok_is_plan (T : Txt w K mg G) (h_is_any_plan : Has P w K mg base G 20 "is_any_plan" (is_any_plan_S 20)) : Has P w K mg base G 21 "is_plan" is_plan_S := has_ok T.d_is_plan sc_is_plan fun f cdv A outer s H E hr =>
      (sb_one (ss_ret (s_callH h_is_any_plan hr (by decide) takesF (sa_cons (s_var 0) (sa_cons (s_globI T.c_DEEP_MOST) sa_nil)))))
theorem sc_written : FnScope ["plan"] ["plan"] (defScope (topS 11)) := ⟨rfl, rfl, rfl, by decide +kernel, rfl, by decide +kernel, by decide +kernel⟩
set_option maxHeartbeats 4000000 in
theorem ok_written (T : Txt w K mg G)  : ∀ n, Has P w K mg base G (0 + n) "written" (written_S n)
  | 0 => has_no T.d_written
  | n + 1 => by
    have ih := ok_written T  n
    exact has_ok T.d_written sc_written fun f cdv A outer s H E hr =>
      (sb_cons (ss_if (st_cmp (o_eq hr.units) sim_eq (s_ix (s_var 0) s_int) s_str (nomark _))
    (sb_one (ss_ret (s_op o_add sim_add (s_cb (pe_callTy call_str_int (by rfl) T.b_str (by decide +kernel) (sa_cons (s_ix (s_var 0) s_int) sa_nil)) sim_str) s_str)))
    sb_nil) (sb_cons (ss_if (st_cmp (o_eq hr.units) sim_eq (s_var 0) (s_globT T.c_AGAIN (fun _ _ _ => (.cons (.str _) .nil))) (nomark _))
    (sb_one (ss_ret s_str))
    sb_nil) (sb_one (ss_ret (s_op o_add sim_add (s_op o_add sim_add s_str (s_callH ih hr (Nat.le_refl _) takesF (sa_cons (s_ix (s_var 0) s_int) sa_nil))) (s_callH ih hr (Nat.le_refl _) takesF (sa_cons (s_ix (s_var 0) s_int) sa_nil)))))))
theorem sc_Reader_init : FnScope ["self", "text"] ["self", "text"] (defScope (L2.inClass (topS 12) 0)) := ⟨rfl, rfl, rfl, by decide +kernel, rfl, by decide +kernel, by decide +kernel⟩
set_option maxHeartbeats 4000000 in
theorem ok_Reader_init (T : Txt w K mg G)  : HasI P w K mg base G 1 1 Reader_init_S := has_okI T.d_Reader_init sc_Reader_init fun f cdv A outer s H E hr =>
      (sb_cons (ss_fld (s_var 0) (s_var 1) T.k_Reader T.n_Reader_text T.nd_Reader T.l_Reader T.j_Reader_text) (sb_one (ss_fld (s_var 0) s_int T.k_Reader T.n_Reader_at T.nd_Reader T.l_Reader T.j_Reader_at)))
theorem sc_Reader_sign : FnScope ["self", "found"] ["self"] (defScope (L2.inClass (topS 12) 1)) := ⟨rfl, rfl, rfl, by decide +kernel, rfl, by decide +kernel, by decide +kernel⟩
set_option maxHeartbeats 4000000 in
theorem ok_Reader_sign (T : Txt w K mg G)  : HasM P w K mg base G 1 1 "sign" Reader_sign_S := has_okM T.d_Reader_sign sc_Reader_sign fun f cdv A outer s H E hr =>
      (sb_cons (ss_set 1 sc_Reader_sign.nd rfl (by first | exact .inl rfl | exact .inr rfl) (s_sl (s_fld (s_var 0) T.k_Reader T.n_Reader_text T.nd_Reader T.j_Reader_text) (so_some (s_fld (s_var 0) T.k_Reader T.n_Reader_at T.nd_Reader T.j_Reader_at)) (so_some (s_op o_add sim_add (s_fld (s_var 0) T.k_Reader T.n_Reader_at T.nd_Reader T.j_Reader_at) s_int)))) (sb_cons (ss_if (st_cmp (o_eq hr.units) sim_eq (s_var 1) s_str (nomark _))
    (sb_one (ss_raise T.x_NoText rfl takesF))
    sb_nil) (sb_cons (ss_fld (s_var 0) (s_op o_add sim_add (s_fld (s_var 0) T.k_Reader T.n_Reader_at T.nd_Reader T.j_Reader_at) s_int) T.k_Reader T.n_Reader_at T.nd_Reader T.l_Reader T.j_Reader_at) (sb_one (ss_ret (s_var 1))))))
theorem sc_Reader_plan : FnScope ["self", "deep", "sign", "word", "one"] ["self", "deep"] (defScope (L2.inClass (topS 12) 2)) := ⟨rfl, rfl, rfl, by decide +kernel, rfl, by decide +kernel, by decide +kernel⟩
set_option maxHeartbeats 4000000 in
theorem ok_Reader_plan (T : Txt w K mg G) (h_Reader_sign : HasM P w K mg base G 1 1 "sign" Reader_sign_S) : ∀ n, HasM P w K mg base G (1 + n) 1 "plan" (Reader_plan_S n)
  | 0 => has_noM T.d_Reader_plan
  | n + 1 => by
    have ih := ok_Reader_plan T h_Reader_sign n
    exact has_okM T.d_Reader_plan sc_Reader_plan fun f cdv A outer s H E hr =>
      (sb_cons (ss_set 2 sc_Reader_plan.nd rfl (by first | exact .inl rfl | exact .inr rfl) (s_meth0 (s_var 0) T.k_Reader T.m_Reader_sign h_Reader_sign hr (Nat.le_trans (show 1 ≤ 1 by decide) (Nat.le_add_right _ n)) takesF)) (sb_cons (ss_if (st_cmp (o_eq hr.units) sim_eq (s_var 2) s_str (nomark _))
    (sb_one (ss_ret (s_globT T.c_AGAIN (fun _ _ _ => (.cons (.str _) .nil)))))
    sb_nil) (sb_cons (ss_if (st_cmp (o_eq hr.units) sim_eq (s_var 2) s_str (nomark _))
    (sb_cons (ss_if (st_cmp (o_eq hr.units) sim_eq (s_var 1) s_int (nomark _))
    (sb_one (ss_raise T.x_NoText rfl takesF))
    sb_nil) (sb_cons (ss_set 4 sc_Reader_plan.nd rfl (by first | exact .inl rfl | exact .inr rfl) (s_meth (s_var 0) T.k_Reader T.m_Reader_plan ih hr (Nat.le_refl _) takesF (sa_cons (s_op op_sub sim_sub (s_var 1) s_int) sa_nil))) (sb_one (ss_ret (s_tup (sa_cons s_str (sa_cons (s_var 4) (sa_cons (s_meth (s_var 0) T.k_Reader T.m_Reader_plan ih hr (Nat.le_refl _) takesF (sa_cons (s_op op_sub sim_sub (s_var 1) s_int) sa_nil)) sa_nil))))))))
    sb_nil) (sb_cons (ss_set 3 sc_Reader_plan.nd rfl (by first | exact .inl rfl | exact .inr rfl) s_str) (sb_cons (ss_while passF 100000 (st_w (sw_and (st_cmp o_in sim_in (s_var 2) (s_globS T.c_FIGURES) (by rfl)) (sw_and1 (st_cmp (o_lt hr.units) sim_lt (s_cb (pe_callB call_len (by rfl) T.b_len PySem.boot_len (sa_cons (s_var 3) sa_nil)) sim_len) s_int (nomark _))))) (sb_cons (ss_set 3 sc_Reader_plan.nd rfl (by first | exact .inl rfl | exact .inr rfl) (s_op o_add sim_add (s_var 3) (s_var 2))) (sb_one (ss_set 2 sc_Reader_plan.nd rfl (by first | exact .inl rfl | exact .inr rfl) (s_meth0 (s_var 0) T.k_Reader T.m_Reader_sign h_Reader_sign hr (Nat.le_trans (show 1 ≤ 1 by decide) (Nat.le_add_right _ n)) takesF))))) (sb_cons (ss_if (st_w (sw_or (st_cmp (o_eq hr.units) sim_eq (s_var 3) s_str (nomark _)) (sw_or1 (st_cmp (o_ne hr.units) sim_ne (s_var 2) s_str (nomark _)))))
    (sb_one (ss_raise T.x_NoText rfl takesF))
    sb_nil) (sb_one (ss_ret (s_tup (sa_cons s_str (sa_cons (s_cb (pe_callTy call_int_str (by rfl) T.b_int (by decide +kernel) (sa_cons (s_var 3) sa_nil)) sim_intS) sa_nil)))))))))))
theorem sc_read : FnScope ["text", "reader", "plan"] ["text"] (defScope (topS 13)) := ⟨rfl, rfl, rfl, by decide +kernel, rfl, by decide +kernel, by decide +kernel⟩
set_option maxHeartbeats 4000000 in
theorem ok_read (T : Txt w K mg G) (h_Reader_init : HasI P w K mg base G 1 1 Reader_init_S) (h_Reader_plan : HasM P w K mg base G 21 1 "plan" (Reader_plan_S 20)) (h_is_plan : Has P w K mg base G 21 "is_plan" is_plan_S) (h_written : Has P w K mg base G 20 "written" (written_S 20)) : Has P w K mg base G 22 "read" read_S := has_ok T.d_read sc_read fun f cdv A outer s H E hr =>
      (sb_cons (ss_set 1 sc_read.nd rfl (by first | exact .inl rfl | exact .inr rfl) (s_make (by rfl) T.g_Reader h_Reader_init (hr.mono (by decide : 1 + 1 ≤ _)) (Nat.le_refl _) (sa_cons (s_var 0) sa_nil))) (sb_cons (ss_set 2 sc_read.nd rfl (by first | exact .inl rfl | exact .inr rfl) (s_meth (s_var 1) T.k_Reader T.m_Reader_plan h_Reader_plan hr (by decide) takesF (sa_cons (s_globI T.c_DEEP_MOST) sa_nil))) (sb_cons (ss_if (st_w (sw_or (st_cmp (o_ne hr.units) sim_ne (s_fld (s_var 1) T.k_Reader T.n_Reader_at T.nd_Reader T.j_Reader_at) (s_cb (pe_callB call_len (by rfl) T.b_len PySem.boot_len (sa_cons (s_var 0) sa_nil)) sim_len) (nomark _)) (sw_or (st_not (st_tru (s_callH h_is_plan hr (by decide) takesF (sa_cons (s_var 2) sa_nil)))) (sw_or1 (st_cmp (o_ne hr.units) sim_ne (s_callH h_written hr (by decide) takesF (sa_cons (s_var 2) sa_nil)) (s_var 0) (nomark _))))))
    (sb_one (ss_raise T.x_NoText rfl takesF))
    sb_nil) (sb_one (ss_ret (s_var 2))))))
theorem sc__law_same : FnScope ["_law_got", "_law_due_here", "_law_one_here", "_law_other"] ["_law_got", "_law_due_here"] (defScope (topS 15)) := ⟨rfl, rfl, rfl, by decide +kernel, rfl, by decide +kernel, by decide +kernel⟩
set_option maxHeartbeats 4000000 in
theorem ok__law_same (T : Txt w K mg G)  : ∀ n, Has P w K mg base G (0 + n) "_law_same" (sameS n)
  | 0 => has_no T.d__law_same
  | n + 1 => by
    have ih := ok__law_same T  n
    exact has_ok T.d__law_same sc__law_same fun f cdv A outer s H E hr =>
      (sb_cons (ss_if (st_isN (s_var 1))
    (sb_one (ss_ret (s_isN (s_var 0))))
    sb_nil) (sb_cons (ss_if (st_tru (s_isin (T := "bool") (pe_callB call_isi (by rfl) T.b_isinstance (by decide +kernel) (pa_cons (s_var 1) (pa_cons (pe_bltn (by rfl) T.b_bool (by decide +kernel) rfl) pa_nil)))))
    (sb_one (ss_ret (s_and (s_isin (T := "bool") (pe_callB call_isi (by rfl) T.b_isinstance (by decide +kernel) (pa_cons (s_var 0) (pa_cons (pe_bltn (by rfl) T.b_bool (by decide +kernel) rfl) pa_nil)))) (s_one (s_cmp (o_eq hr.units) sim_eq (s_var 0) (s_var 1) (nomark _))))))
    sb_nil) (sb_cons (ss_if (st_tru (s_isin (T := "tuple") (pe_callB call_isi (by rfl) T.b_isinstance (by decide +kernel) (pa_cons (s_var 1) (pa_cons (pe_bltn (by rfl) T.b_tuple (by decide +kernel) rfl) pa_nil)))))
    (sb_cons (ss_if (st_w (sw_or (st_not (st_tru (s_isin (T := "tuple") (pe_callB call_isi (by rfl) T.b_isinstance (by decide +kernel) (pa_cons (s_var 0) (pa_cons (pe_bltn (by rfl) T.b_tuple (by decide +kernel) rfl) pa_nil)))))) (sw_or1 (st_cmp (o_ne hr.units) sim_ne (s_cb (pe_callB call_len (by rfl) T.b_len PySem.boot_len (sa_cons (s_var 0) sa_nil)) sim_len) (s_cb (pe_callB call_len (by rfl) T.b_len PySem.boot_len (sa_cons (s_var 1) sa_nil)) sim_len) (nomark _)))))
    (sb_one (ss_ret s_bl))
    sb_nil) (sb_one (ss_ret (s_cb (pe_callB (cr_all rfl) (by rfl) T.b_all (by decide +kernel) (sa_cons (s_lc (own := [("_law_one_here", 2), ("_law_other", 3)]) rfl sc__law_same.nd (si_zip (by rfl) T.b_zip (sa_cons (s_var 0) (sa_cons (s_var 1) sa_nil))) (blkOk_by (N := ["_law_got", "_law_due_here", "_law_one_here", "_law_other"]) (sc := defScope (topS 15)) (by decide +kernel)) cg_tup2 (fun _ _ _ _ _ => (pg_tup rfl (pgs_cons (pg_name (i := 2) sc__law_same.nd rfl (by first | exact .inl rfl | exact .inr rfl)) (pgs_cons (pg_name (i := 3) sc__law_same.nd rfl (by first | exact .inl rfl | exact .inr rfl)) pgs_nil)))) (fun _ _ _ _ _ => sts_nil) (fun _ _ _ _ _ => (s_callH ih hr (Nat.le_refl _) takes0 (sa_cons (s_var 2) (sa_cons (s_var 3) sa_nil))))) sa_nil)) sim_all))))
    sb_nil) (sb_cons (ss_if (st_tru (s_isin (T := "str") (pe_callB call_isi (by rfl) T.b_isinstance (by decide +kernel) (pa_cons (s_var 1) (pa_cons (pe_bltn (by rfl) T.b_str (by decide +kernel) rfl) pa_nil)))))
    (sb_one (ss_ret (s_and (s_isin (T := "str") (pe_callB call_isi (by rfl) T.b_isinstance (by decide +kernel) (pa_cons (s_var 0) (pa_cons (pe_bltn (by rfl) T.b_str (by decide +kernel) rfl) pa_nil)))) (s_one (s_cmp (o_eq hr.units) sim_eq (s_var 0) (s_var 1) (nomark _))))))
    sb_nil) (sb_one (ss_ret (s_and (s_isin (T := "int") (pe_callB call_isi (by rfl) T.b_isinstance (by decide +kernel) (pa_cons (s_var 0) (pa_cons (pe_bltn (by rfl) T.b_int (by decide +kernel) rfl) pa_nil)))) (s_and (s_not (s_isin (T := "bool") (pe_callB call_isi (by rfl) T.b_isinstance (by decide +kernel) (pa_cons (s_var 0) (pa_cons (pe_bltn (by rfl) T.b_bool (by decide +kernel) rfl) pa_nil))))) (s_one (s_cmp (o_eq hr.units) sim_eq (s_var 0) (s_var 1) (nomark _)))))))))))
theorem sc__law_or : FnScope ["_law_due_here"] ["_law_due_here"] (defScope (topS 16)) := ⟨rfl, rfl, rfl, by decide +kernel, rfl, by decide +kernel, by decide +kernel⟩
set_option maxHeartbeats 4000000 in
theorem ok__law_or (T : Txt w K mg G)  : Has P w K mg base G 1 "_law_or" law_or_S := has_ok T.d__law_or sc__law_or fun f cdv A outer s H E hr =>
      (sb_cons (ss_if (st_isN (s_var 0))
    (sb_one (ss_ret s_str))
    sb_nil) (sb_one (ss_ret (s_var 0))))
theorem sc__law_draw : FnScope ["_law_script", "_law_town", "_law_many", "_law_k", "_law_cell", "_law_number", "_law_more"] ["_law_script", "_law_town", "_law_many"] (defScope (topS 17)) := ⟨rfl, rfl, rfl, by decide +kernel, rfl, by decide +kernel, by decide +kernel⟩
set_option maxHeartbeats 4000000 in
theorem ok__law_draw (T : Txt w K mg G)  : Has P w K mg base G 1 "_law_draw" drawS := has_ok T.d__law_draw sc__law_draw fun f cdv A outer s H E hr =>
      (sb_cons (ss_expr (s_bm (pe_bm PySem.F.plainAttrs_list PySem.F.slot_list_append PySem.F.type_list_append mt_append (s_var 1) (sa_cons s_int sa_nil)) sim_append)) (sb_cons (ss_set 3 sc__law_draw.nd rfl (by first | exact .inl rfl | exact .inr rfl) (s_cb (pe_callB call_len (by rfl) T.b_len PySem.boot_len (sa_cons (s_var 1) sa_nil)) sim_len)) (sb_cons (ss_set 4 sc__law_draw.nd rfl (by first | exact .inl rfl | exact .inr rfl) s_int) (sb_cons (ss_if (st_tru (s_var 0))
    (sb_one (ss_set 4 sc__law_draw.nd rfl (by first | exact .inl rfl | exact .inr rfl) (s_ix (s_var 0) (s_op op_mod sim_mod (s_var 3) (s_cb (pe_callB call_len (by rfl) T.b_len PySem.boot_len (sa_cons (s_var 0) sa_nil)) sim_len)))))
    sb_nil) (sb_cons (ss_set 5 sc__law_draw.nd rfl (by first | exact .inl rfl | exact .inr rfl) (s_op op_mod sim_mod (s_op o_add sim_add (s_var 4) (s_op o_mul sim_mul s_int (s_var 3))) s_int)) (sb_cons (ss_set 5 sc__law_draw.nd rfl (by first | exact .inl rfl | exact .inr rfl) (s_op op_mod sim_mod (s_op o_mul sim_mul (s_op op_mod sim_mod (s_op o_mul sim_mul (s_var 5) (s_var 5)) s_int) s_int) s_int)) (sb_cons (ss_set 6 sc__law_draw.nd rfl (by first | exact .inl rfl | exact .inr rfl) (s_op op_mod sim_mod (s_op o_mul sim_mul (s_op op_mod sim_mod (s_op o_mul sim_mul (s_var 5) (s_var 5)) s_int) s_int) s_int)) (sb_one (ss_ret (s_op op_mod sim_mod (s_op o_add sim_add (s_op o_mul sim_mul (s_op op_fdivW sim_div (s_var 5) s_int) s_int) (s_op op_fdivW sim_div (s_var 6) s_int)) (s_var 2)))))))))))
theorem sc__law_one : FnScope ["_law_script", "_law_town", "_law_some"] ["_law_script", "_law_town", "_law_some"] (defScope (topS 18)) := ⟨rfl, rfl, rfl, by decide +kernel, rfl, by decide +kernel, by decide +kernel⟩
set_option maxHeartbeats 4000000 in
theorem ok__law_one (T : Txt w K mg G) (h__law_draw : Has P w K mg base G 1 "_law_draw" drawS) : Has P w K mg base G 2 "_law_one" oneS := has_ok T.d__law_one sc__law_one fun f cdv A outer s H E hr =>
      (sb_one (ss_ret (s_ix (s_var 2) (s_callH h__law_draw hr (by decide) takesF (sa_cons (s_var 0) (sa_cons (s_var 1) (sa_cons (s_cb (pe_callB call_len (by rfl) T.b_len PySem.boot_len (sa_cons (s_var 2) sa_nil)) sim_len) sa_nil)))))))
theorem sc__law_plan : FnScope ["_law_script", "_law_town", "_law_left", "_law_kind"] ["_law_script", "_law_town", "_law_left"] (defScope (topS 19)) := ⟨rfl, rfl, rfl, by decide +kernel, rfl, by decide +kernel, by decide +kernel⟩
set_option maxHeartbeats 4000000 in
theorem ok__law_plan (T : Txt w K mg G) (h__law_draw : Has P w K mg base G 1 "_law_draw" drawS) (h__law_one : Has P w K mg base G 2 "_law_one" oneS) : ∀ n, Has P w K mg base G (2 + n) "_law_plan" (law_plan_S n)
  | 0 => has_no T.d__law_plan
  | n + 1 => by
    have ih := ok__law_plan T h__law_draw h__law_one n
    exact has_ok T.d__law_plan sc__law_plan fun f cdv A outer s H E hr =>
      (sb_cons (ss_set 3 sc__law_plan.nd rfl (by first | exact .inl rfl | exact .inr rfl) (s_callH h__law_draw hr (Nat.le_trans (show 1 ≤ 2 by decide) (Nat.le_add_right _ n)) takesF (sa_cons (s_var 0) (sa_cons (s_var 1) (sa_cons s_int sa_nil))))) (sb_cons (ss_if (st_w (sw_or (st_cmp (o_eq hr.units) sim_eq (s_var 2) s_int (nomark _)) (sw_or1 (st_cmp (o_eq hr.units) sim_eq (s_var 3) s_int (nomark _)))))
    (sb_one (ss_ret (s_tup (sa_cons s_str (sa_cons (s_callH h__law_draw hr (Nat.le_trans (show 1 ≤ 2 by decide) (Nat.le_add_right _ n)) takesF (sa_cons (s_var 0) (sa_cons (s_var 1) (sa_cons (s_callH h__law_one hr (Nat.le_trans (show 2 ≤ 2 by decide) (Nat.le_add_right _ n)) takesF (sa_cons (s_var 0) (sa_cons (s_var 1) (sa_cons (s_lst (sa_cons s_int (sa_cons s_int sa_nil))) sa_nil)))) sa_nil)))) sa_nil)))))
    sb_nil) (sb_cons (ss_if (st_cmp (o_eq hr.units) sim_eq (s_var 3) s_int (nomark _))
    (sb_one (ss_ret (s_tup (sa_cons s_str sa_nil))))
    sb_nil) (sb_one (ss_ret (s_tup (sa_cons s_str (sa_cons (s_callH ih hr (Nat.le_refl _) takesF (sa_cons (s_var 0) (sa_cons (s_var 1) (sa_cons (s_op op_sub sim_sub (s_var 2) s_int) sa_nil)))) (sa_cons (s_callH ih hr (Nat.le_refl _) takesF (sa_cons (s_var 0) (sa_cons (s_var 1) (sa_cons (s_op op_sub sim_sub (s_var 2) s_int) sa_nil)))) sa_nil)))))))))
theorem sc__law_told : FnScope ["_law_text", "_law_got"] ["_law_text"] (defScope (topS 21)) := ⟨rfl, rfl, rfl, by decide +kernel, rfl, by decide +kernel, by decide +kernel⟩
set_option maxHeartbeats 4000000 in
theorem ok__law_told (T : Txt w K mg G) (h_read : Has P w K mg base G 22 "read" read_S) : Has P w K mg base G 23 "_law_told" law_told_S := has_ok T.d__law_told sc__law_told fun f cdv A outer s H E hr =>
      (sb_cons (ss_set 1 sc__law_told.nd rfl (by first | exact .inl rfl | exact .inr rfl) s_non) (sb_cons (ss_try 1 T.x_NoText T.o_NoText rfl rfl takesF (fun _ _ _ tk po =>
    (sb_one (ss_set 1 sc__law_told.nd rfl (by first | exact .inl rfl | exact .inr rfl) (s_callH h_read.iso hr (by decide) tk (sa_cons (s_var 0) sa_nil))))) (fun _ _ => (sb_one (ss_set 1 sc__law_told.nd rfl (by first | exact .inl rfl | exact .inr rfl) s_str)))) (sb_one (ss_ret (s_var 1)))))
theorem sc__law_say : FnScope ["_law_made"] ["_law_made"] (defScope (topS 22)) := ⟨rfl, rfl, rfl, by decide +kernel, rfl, by decide +kernel, by decide +kernel⟩
set_option maxHeartbeats 4000000 in
theorem ok__law_say (T : Txt w K mg G)  : ∀ n, Has P w K mg base G (0 + n) "_law_say" (law_say_S n)
  | 0 => has_no T.d__law_say
  | n + 1 => by
    have ih := ok__law_say T  n
    exact has_ok T.d__law_say sc__law_say fun f cdv A outer s H E hr =>
      (sb_cons (ss_if (st_cmp (o_eq hr.units) sim_eq (s_ix (s_var 0) s_int) s_str (nomark _))
    (sb_one (ss_ret (s_op o_add sim_add (s_cb (pe_callTy call_str_int (by rfl) T.b_str (by decide +kernel) (sa_cons (s_ix (s_var 0) s_int) sa_nil)) sim_str) s_str)))
    sb_nil) (sb_one (ss_ret (s_if (st_cmp (o_eq hr.units) sim_eq (s_ix (s_var 0) s_int) s_str (nomark _)) s_str (s_op o_add sim_add (s_op o_add sim_add s_str (s_callH ih hr (Nat.le_refl _) takesF (sa_cons (s_ix (s_var 0) s_int) sa_nil))) (s_callH ih hr (Nat.le_refl _) takesF (sa_cons (s_ix (s_var 0) s_int) sa_nil)))))))
theorem sc__law_read : FnScope ["_law_text", "_law_left", "_law_many", "_law_part", "_law_one_here", "_law_rest", "_law_other"] ["_law_text", "_law_left"] (defScope (topS 23)) := ⟨rfl, rfl, rfl, by decide +kernel, rfl, by decide +kernel, by decide +kernel⟩
set_option maxHeartbeats 4000000 in
theorem ok__law_read (T : Txt w K mg G)  : ∀ n, Has P w K mg base G (0 + n) "_law_read" (law_read_S n)
  | 0 => has_no T.d__law_read
  | n + 1 => by
    have ih := ok__law_read T  n
    exact has_ok T.d__law_read sc__law_read fun f cdv A outer s H E hr =>
      (sb_cons (ss_if (st_cmp (o_eq hr.units) sim_eq (s_sl (s_var 0) so_no (so_some s_int)) s_str (nomark _))
    (sb_one (ss_ret (s_tup (sa_cons (s_tup (sa_cons s_str sa_nil)) (sa_cons (s_sl (s_var 0) (so_some s_int) so_no) sa_nil)))))
    sb_nil) (sb_cons (ss_if (st_w (sw_and (st_cmp (o_eq hr.units) sim_eq (s_sl (s_var 0) so_no (so_some s_int)) s_str (nomark _)) (sw_and1 (st_cmp op_gt sim_gt (s_var 1) s_int (nomark _)))))
    (sb_cons (ss_asg (s_callH ih hr (Nat.le_refl _) takesF (sa_cons (s_sl (s_var 0) (so_some s_int) so_no) (sa_cons (s_op op_sub sim_sub (s_var 1) s_int) sa_nil))) (sg_tup rfl (sg_cons (sg_var 4 sc__law_read.nd rfl (by first | exact .inl rfl | exact .inr rfl)) (sg_cons (sg_var 5 sc__law_read.nd rfl (by first | exact .inl rfl | exact .inr rfl)) sg_nil)))) (sb_cons (ss_asg (s_if (st_notN (s_var 4)) (s_callH ih hr (Nat.le_refl _) takesF (sa_cons (s_var 5) (sa_cons (s_op op_sub sim_sub (s_var 1) s_int) sa_nil))) (s_tup (sa_cons s_non (sa_cons s_str sa_nil)))) (sg_tup rfl (sg_cons (sg_var 6 sc__law_read.nd rfl (by first | exact .inl rfl | exact .inr rfl)) (sg_cons (sg_var 5 sc__law_read.nd rfl (by first | exact .inl rfl | exact .inr rfl)) sg_nil)))) (sb_one (ss_ret (s_tup (sa_cons (s_if (st_notN (s_var 6)) (s_tup (sa_cons s_str (sa_cons (s_var 4) (sa_cons (s_var 6) sa_nil)))) s_non) (sa_cons (s_var 5) sa_nil)))))))
    sb_nil) (sb_cons (ss_for passF rfl (si_row (s_tup (sa_cons s_int (sa_cons s_int sa_nil)))) (sg_var 2 sc__law_read.nd rfl (by first | exact .inl rfl | exact .inr rfl))
    (sb_cons (ss_set 3 sc__law_read.nd rfl (by first | exact .inl rfl | exact .inr rfl) (s_sl (s_var 0) so_no (so_some (s_var 2)))) (sb_one (ss_if (st_w (sw_and (st_cmp (o_eq hr.units) sim_eq (s_cb (pe_callB call_len (by rfl) T.b_len PySem.boot_len (sa_cons (s_var 3) sa_nil)) sim_len) (s_var 2) (nomark _)) (sw_and (st_cmp (o_eq hr.units) sim_eq (s_tm (pe_bm PySem.F.plainAttrs_str PySem.F.slot_str_strip PySem.F.type_str_strip mt_stripChars (s_var 3) (sa_cons s_str sa_nil)) sim_stripC) s_str (nomark _)) (sw_and1 (st_cmp (o_eq hr.units) sim_eq (s_sl (s_var 0) (so_some (s_var 2)) (so_some (s_op o_add sim_add (s_var 2) s_int))) s_str (nomark _))))))
    (sb_one (ss_ret (s_tup (sa_cons (s_if (st_w (sw_or (st_cmp (o_eq hr.units) sim_eq (s_var 2) s_int (nomark _)) (sw_or1 (st_cmp (o_ne hr.units) sim_ne (s_ix (s_var 3) s_int) s_str (nomark _))))) (s_tup (sa_cons s_str (sa_cons (s_cb (pe_callTy call_int_str (by rfl) T.b_int (by decide +kernel) (sa_cons (s_var 3) sa_nil)) sim_intS) sa_nil))) s_non) (sa_cons (s_sl (s_var 0) (so_some (s_op o_add sim_add (s_var 2) s_int)) so_no) sa_nil)))))
    sb_nil)))) (sb_one (ss_ret (s_tup (sa_cons s_non (sa_cons s_str sa_nil))))))))
theorem sc__law_due : FnScope ["_law_text", "_law_made", "_law_rest"] ["_law_text"] (defScope (topS 24)) := ⟨rfl, rfl, rfl, by decide +kernel, rfl, by decide +kernel, by decide +kernel⟩
set_option maxHeartbeats 4000000 in
theorem ok__law_due (T : Txt w K mg G) (h__law_read : Has P w K mg base G 20 "_law_read" (law_read_S 20)) : Has P w K mg base G 21 "_law_due" law_due_S := has_ok T.d__law_due sc__law_due fun f cdv A outer s H E hr =>
      (sb_cons (ss_asg (s_callH h__law_read hr (by decide) takesF (sa_cons (s_var 0) (sa_cons s_int sa_nil))) (sg_tup rfl (sg_cons (sg_var 1 sc__law_due.nd rfl (by first | exact .inl rfl | exact .inr rfl)) (sg_cons (sg_var 2 sc__law_due.nd rfl (by first | exact .inl rfl | exact .inr rfl)) sg_nil)))) (sb_one (ss_ret (s_if (st_cmp (o_eq hr.units) sim_eq (s_var 2) s_str (nomark _)) (s_var 1) s_non))))
theorem sc__law_comb : FnScope ["_law_script", "_law_town", "_law_many", "_law_got", "_law_turn"] ["_law_script", "_law_town", "_law_many"] (defScope (topS 25)) := ⟨rfl, rfl, rfl, by decide +kernel, rfl, by decide +kernel, by decide +kernel⟩
set_option maxHeartbeats 4000000 in
theorem ok__law_comb (T : Txt w K mg G) (h__law_draw : Has P w K mg base G 1 "_law_draw" drawS) : Has P w K mg base G 2 "_law_comb" law_comb_S := has_ok T.d__law_comb sc__law_comb fun f cdv A outer s H E hr =>
      (sb_cons (ss_set 3 sc__law_comb.nd rfl (by first | exact .inl rfl | exact .inr rfl) (s_tup (sa_cons s_str (sa_cons (s_callH h__law_draw hr (by decide) takesF (sa_cons (s_var 0) (sa_cons (s_var 1) (sa_cons s_int sa_nil)))) sa_nil)))) (sb_cons (ss_for passF rfl (si_rng1 (by rfl) T.b_range (sa_cons (s_var 2) sa_nil)) (sg_var 4 sc__law_comb.nd rfl (by first | exact .inl rfl | exact .inr rfl))
    (sb_one (ss_set 3 sc__law_comb.nd rfl (by first | exact .inl rfl | exact .inr rfl) (s_if (st_cmp (o_eq hr.units) sim_eq (s_callH h__law_draw hr (by decide) takesF (sa_cons (s_var 0) (sa_cons (s_var 1) (sa_cons s_int sa_nil)))) s_int (nomark _)) (s_tup (sa_cons s_str (sa_cons (s_tup (sa_cons s_str sa_nil)) (sa_cons (s_var 3) sa_nil)))) (s_tup (sa_cons s_str (sa_cons (s_var 3) (sa_cons (s_tup (sa_cons s_str (sa_cons (s_var 4) sa_nil))) sa_nil)))))))) (sb_one (ss_ret (s_var 3)))))
theorem sc_law : FnScope ["_law_script", "_law_town", "_law_k", "_law_made", "_law_text", "_law_texts", "_law_j", "_law_thing", "_law_at", "_law_sign", "_law_many"] ["_law_script"] (defScope (topS 26)) := ⟨rfl, rfl, rfl, by decide +kernel, rfl, by decide +kernel, by decide +kernel⟩
set_option maxHeartbeats 4000000 in
theorem ok_law (T : Txt w K mg G) (h__law_say : Has P w K mg base G 20 "_law_say" (law_say_S 20)) (h__law_comb : Has P w K mg base G 2 "_law_comb" law_comb_S) (h__law_plan : Has P w K mg base G 22 "_law_plan" (law_plan_S 20)) (h__law_draw : Has P w K mg base G 1 "_law_draw" drawS) (h__law_one : Has P w K mg base G 2 "_law_one" oneS) (h__law_same : Has P w K mg base G 20 "_law_same" (sameS 20)) (h_written : Has P w K mg base G 20 "written" (written_S 20)) (h__law_told : Has P w K mg base G 23 "_law_told" law_told_S) (h__law_or : Has P w K mg base G 1 "_law_or" law_or_S) (h__law_due : Has P w K mg base G 21 "_law_due" law_due_S) {f : Addr} {fd : FuncData} (F : Fun K "law" "law" (topS 26) f fd) : FnOk P w K mg base (L2.CX P w) 24 f fd ["_law_script"] (SpF K G law_S) := fn_ok F sc_law fun cdv A outer s H E hr =>
      (sb_cons (ss_set 1 sc_law.nd rfl (by first | exact .inl rfl | exact .inr rfl) (s_newL sa_nil)) (sb_cons (ss_for passF rfl (si_rng1 (by rfl) T.b_range (sa_cons s_int sa_nil)) (sg_var 2 sc_law.nd rfl (by first | exact .inl rfl | exact .inr rfl))
    (sb_cons (ss_set 3 sc_law.nd rfl (by first | exact .inl rfl | exact .inr rfl) (s_if (st_cmp (o_eq hr.units) sim_eq (s_var 2) s_int (nomark _)) (s_callH h__law_comb hr (by decide) takesF (sa_cons (s_var 0) (sa_cons (s_var 1) (sa_cons s_int sa_nil)))) (s_callH h__law_plan hr (by decide) takesF (sa_cons (s_var 0) (sa_cons (s_var 1) (sa_cons s_int sa_nil)))))) (sb_cons (ss_set 4 sc_law.nd rfl (by first | exact .inl rfl | exact .inr rfl) (s_callH h__law_say hr (by decide) takesF (sa_cons (s_var 3) sa_nil))) (sb_cons (ss_if (st_w (sw_or (st_not (st_tru (s_callH h__law_same hr (by decide) takesF (sa_cons (s_callH h_written hr (by decide) takesF (sa_cons (s_var 3) sa_nil)) (sa_cons (s_var 4) sa_nil))))) (sw_or1 (st_not (st_tru (s_callH h__law_same hr (by decide) takesF (sa_cons (s_callH h__law_told hr (by decide) takesF (sa_cons (s_var 4) sa_nil)) (sa_cons (s_var 3) sa_nil))))))))
    (sb_one (ss_ret s_bl))
    sb_nil) (sb_cons (ss_set 5 sc_law.nd rfl (by first | exact .inl rfl | exact .inr rfl) (s_newL (sa_cons (s_op o_add sim_add (s_var 4) (s_var 4)) (sa_cons (s_op o_add sim_add s_str (s_var 4)) (sa_cons (s_op o_add sim_add (s_var 4) s_str) (sa_cons (s_stS (s_var 4) so_no so_no (so_some (s_neg s_int))) (sa_cons s_str (sa_cons s_str (sa_cons s_str (sa_cons s_str (sa_cons s_str sa_nil))))))))))) (sb_cons (ss_set 5 sc_law.nd rfl (by first | exact .inl rfl | exact .inr rfl) (s_addN (s_var 5) (s_lst (sa_cons s_str (sa_cons s_str (sa_cons s_str (sa_cons s_str sa_nil))))))) (sb_cons (ss_set 5 sc_law.nd rfl (by first | exact .inl rfl | exact .inr rfl) (s_addN (s_var 5) (s_lc (own := [("_law_many", 10)]) rfl sc_law.nd (si_row (s_tup (sa_cons s_int (sa_cons s_int (sa_cons s_int sa_nil))))) (blkOk_by (N := ["_law_script", "_law_town", "_law_k", "_law_made", "_law_text", "_law_texts", "_law_j", "_law_thing", "_law_at", "_law_sign", "_law_many"]) (sc := defScope (topS 26)) (by decide +kernel)) cg_var (fun _ _ _ _ _ => (pg_name (i := 10) sc_law.nd rfl (by first | exact .inl rfl | exact .inr rfl))) (fun _ _ _ _ _ => sts_nil) (fun _ _ _ _ _ => (s_callH h__law_say hr (by decide) takes0 (sa_cons (s_callH h__law_comb hr (by decide) takes0 (sa_cons (s_var 0) (sa_cons (s_var 1) (sa_cons (s_var 10) sa_nil)))) sa_nil)))))) (sb_cons (ss_for passF rfl (si_rng1 (by rfl) T.b_range (sa_cons s_int sa_nil)) (sg_var 6 sc_law.nd rfl (by first | exact .inl rfl | exact .inr rfl))
    (sb_cons (ss_set 8 sc_law.nd rfl (by first | exact .inl rfl | exact .inr rfl) (s_callH h__law_draw hr (by decide) takesF (sa_cons (s_var 0) (sa_cons (s_var 1) (sa_cons (s_op o_add sim_add (s_cb (pe_callB call_len (by rfl) T.b_len PySem.boot_len (sa_cons (s_var 4) sa_nil)) sim_len) s_int) sa_nil))))) (sb_cons (ss_set 9 sc_law.nd rfl (by first | exact .inl rfl | exact .inr rfl) (s_callH h__law_one hr (by decide) takesF (sa_cons (s_var 0) (sa_cons (s_var 1) (sa_cons s_str sa_nil))))) (sb_cons (ss_set 5 sc_law.nd rfl (by first | exact .inl rfl | exact .inr rfl) (s_addN (s_var 5) (s_lst (sa_cons (s_op o_add sim_add (s_op o_add sim_add (s_sl (s_var 4) so_no (so_some (s_var 8))) (s_var 9)) (s_sl (s_var 4) (so_some (s_var 8)) so_no)) (sa_cons (s_op o_add sim_add (s_sl (s_var 4) so_no (so_some (s_var 8))) (s_sl (s_var 4) (so_some (s_op o_add sim_add (s_var 8) s_int)) so_no)) (sa_cons (s_op o_add sim_add (s_op o_add sim_add (s_sl (s_var 4) so_no (so_some (s_var 8))) (s_var 9)) (s_sl (s_var 4) (so_some (s_op o_add sim_add (s_var 8) s_int)) so_no)) sa_nil)))))) (sb_one (ss_expr (s_bm (pe_bm PySem.F.plainAttrs_list PySem.F.slot_list_append PySem.F.type_list_append mt_append (s_var 5) (sa_cons (s_op o_add sim_add (s_op o_add sim_add (s_sl (s_var 4) so_no (so_some (s_var 8))) (s_stS (s_sl (s_var 4) (so_some (s_var 8)) (so_some (s_op o_add sim_add (s_var 8) s_int))) so_no so_no (so_some (s_neg s_int)))) (s_sl (s_var 4) (so_some (s_op o_add sim_add (s_var 8) s_int)) so_no)) sa_nil)) sim_append))))))) (sb_one (ss_forV passF rfl (si_ref (s_var 5)) (sg_var 7 sc_law.nd rfl (by first | exact .inl rfl | exact .inr rfl))
    (sb_one (ss_if (st_not (st_tru (s_callH h__law_same hr (by decide) takesF (sa_cons (s_callH h__law_told hr (by decide) takesF (sa_cons (s_var 7) sa_nil)) (sa_cons (s_callH h__law_or hr (by decide) takesF (sa_cons (s_callH h__law_due hr (by decide) takesF (sa_cons (s_var 7) sa_nil)) sa_nil)) sa_nil)))))
    (sb_one (ss_ret s_bl))
    sb_nil)))))))))))) (sb_one (ss_ret s_bl))))
theorem ok_all (T : Txt w K mg G) {f : Addr} {fd : FuncData} (F : Fun K "law" "law" (topS 26) f fd) : FnOk P w K mg base (L2.CX P w) 24 f fd ["_law_script"] (SpF K G law_S) := by
  have h_is_any_plan := ok_is_any_plan (P := P) (w := w) (base := base) (G := G) T  20
  have h_is_plan := ok_is_plan (P := P) (w := w) (base := base) (G := G) T h_is_any_plan
  have h_written := ok_written (P := P) (w := w) (base := base) (G := G) T  20
  have h_Reader_init := ok_Reader_init (P := P) (w := w) (base := base) (G := G) T 
  have h_Reader_sign := ok_Reader_sign (P := P) (w := w) (base := base) (G := G) T 
  have h_Reader_plan := ok_Reader_plan (P := P) (w := w) (base := base) (G := G) T h_Reader_sign 20
  have h_read := ok_read (P := P) (w := w) (base := base) (G := G) T h_Reader_init h_Reader_plan h_is_plan h_written
  have h__law_same := ok__law_same (P := P) (w := w) (base := base) (G := G) T  20
  have h__law_or := ok__law_or (P := P) (w := w) (base := base) (G := G) T 
  have h__law_draw := ok__law_draw (P := P) (w := w) (base := base) (G := G) T 
  have h__law_one := ok__law_one (P := P) (w := w) (base := base) (G := G) T h__law_draw
  have h__law_plan := ok__law_plan (P := P) (w := w) (base := base) (G := G) T h__law_draw h__law_one 20
  have h__law_told := ok__law_told (P := P) (w := w) (base := base) (G := G) T h_read
  have h__law_say := ok__law_say (P := P) (w := w) (base := base) (G := G) T  20
  have h__law_read := ok__law_read (P := P) (w := w) (base := base) (G := G) T  20
  have h__law_due := ok__law_due (P := P) (w := w) (base := base) (G := G) T h__law_read
  have h__law_comb := ok__law_comb (P := P) (w := w) (base := base) (G := G) T h__law_draw
  exact ok_law (P := P) (w := w) (base := base) (G := G) T h__law_say h__law_comb h__law_plan h__law_draw h__law_one h__law_same h_written h__law_told h__law_or h__law_due F
end
set_option maxHeartbeats 4000000 in
theorem all_mk {l : PySem.W.OpenLaw} {w : World} {K : PySem.W.Frag} {h : Heap} {mg : Str → Option Value} {fa : Addr} (X : K.In h) (G : h.Ns mainGlobals mg) (hfa : mg "law" = some (.ref fa))
    {C0 : Addr} (aC0 : PySem.W.nsIn K mainGlobals "Reader" = some (some (.ref C0))) (pg0 : PySem.W.plainGet K C0 Str.empty = true) (hd0 : PySem.W.hasDictIn K C0 = true) (po0 : PySem.W.plainOver K C0 = true) (sa0 : PySem.W.findIn K (.ref C0) "__setattr__" = some (some (.builtin "object.__setattr__"))) (mk0 : PySem.W.makesIn K C0 = true) (kc0 : PySem.W.keepIn K (.ref C0) = true)
    (nC0_0 : PySem.W.findIn K (.ref C0) "text" = some none)
    (nC0_1 : PySem.W.findIn K (.ref C0) "at" = some none)
    {f0 : Addr} {od0 an0 : Option Addr} {sl0 : Array (Option Value)} {oc0 kV0 dc0 pm0 cd0 ct0 : Value}
    (a0 : PySem.W.nsIn K mainGlobals "is_any_plan" = some (some (.ref f0))) (l0 : K.lookup f0 = some ⟨oc0, od0, .func (PySem.W.fnOf "is_any_plan" "is_any_plan" (defArgs (topS 7)) (defBody (topS 7)) (defScope (topS 7)) .none kV0 dc0 pm0 an0 cd0 ct0), sl0⟩) (c0 : PySem.W.codeIn K cd0 "is_any_plan" = true) (k0 : PySem.W.keepIn K (.ref f0) = true)
    {f1 : Addr} {od1 an1 : Option Addr} {sl1 : Array (Option Value)} {oc1 kV1 dc1 pm1 cd1 ct1 : Value}
    (a1 : PySem.W.nsIn K mainGlobals "is_plan" = some (some (.ref f1))) (l1 : K.lookup f1 = some ⟨oc1, od1, .func (PySem.W.fnOf "is_plan" "is_plan" (defArgs (topS 8)) (defBody (topS 8)) (defScope (topS 8)) .none kV1 dc1 pm1 an1 cd1 ct1), sl1⟩) (c1 : PySem.W.codeIn K cd1 "is_plan" = true) (k1 : PySem.W.keepIn K (.ref f1) = true)
    {f2 : Addr} {od2 an2 : Option Addr} {sl2 : Array (Option Value)} {oc2 kV2 dc2 pm2 cd2 ct2 : Value}
    (a2 : PySem.W.nsIn K mainGlobals "written" = some (some (.ref f2))) (l2 : K.lookup f2 = some ⟨oc2, od2, .func (PySem.W.fnOf "written" "written" (defArgs (topS 11)) (defBody (topS 11)) (defScope (topS 11)) .none kV2 dc2 pm2 an2 cd2 ct2), sl2⟩) (c2 : PySem.W.codeIn K cd2 "written" = true) (k2 : PySem.W.keepIn K (.ref f2) = true)
    {f3 : Addr} {od3 an3 : Option Addr} {sl3 : Array (Option Value)} {oc3 kV3 dc3 pm3 cd3 ct3 : Value}
    (a3 : PySem.W.findIn K (.ref C0) "__init__" = some (some (.ref f3))) (i3 : PySem.W.isFn K (.ref f3) = true) (l3 : K.lookup f3 = some ⟨oc3, od3, .func (PySem.W.fnOf "__init__" "Reader.__init__" (defArgs (L2.inClass (topS 12) 0)) (defBody (L2.inClass (topS 12) 0)) (defScope (L2.inClass (topS 12) 0)) .none kV3 dc3 pm3 an3 cd3 ct3), sl3⟩) (c3 : PySem.W.codeIn K cd3 "Reader.__init__" = true) (k3 : PySem.W.keepIn K (.ref f3) = true)
    {f4 : Addr} {od4 an4 : Option Addr} {sl4 : Array (Option Value)} {oc4 kV4 dc4 pm4 cd4 ct4 : Value}
    (a4 : PySem.W.findIn K (.ref C0) "sign" = some (some (.ref f4))) (i4 : PySem.W.isFn K (.ref f4) = true) (l4 : K.lookup f4 = some ⟨oc4, od4, .func (PySem.W.fnOf "sign" "Reader.sign" (defArgs (L2.inClass (topS 12) 1)) (defBody (L2.inClass (topS 12) 1)) (defScope (L2.inClass (topS 12) 1)) .none kV4 dc4 pm4 an4 cd4 ct4), sl4⟩) (c4 : PySem.W.codeIn K cd4 "Reader.sign" = true) (k4 : PySem.W.keepIn K (.ref f4) = true)
    {f5 : Addr} {od5 an5 : Option Addr} {sl5 : Array (Option Value)} {oc5 kV5 dc5 pm5 cd5 ct5 : Value}
    (a5 : PySem.W.findIn K (.ref C0) "plan" = some (some (.ref f5))) (i5 : PySem.W.isFn K (.ref f5) = true) (l5 : K.lookup f5 = some ⟨oc5, od5, .func (PySem.W.fnOf "plan" "Reader.plan" (defArgs (L2.inClass (topS 12) 2)) (defBody (L2.inClass (topS 12) 2)) (defScope (L2.inClass (topS 12) 2)) .none kV5 dc5 pm5 an5 cd5 ct5), sl5⟩) (c5 : PySem.W.codeIn K cd5 "Reader.plan" = true) (k5 : PySem.W.keepIn K (.ref f5) = true)
    {f6 : Addr} {od6 an6 : Option Addr} {sl6 : Array (Option Value)} {oc6 kV6 dc6 pm6 cd6 ct6 : Value}
    (a6 : PySem.W.nsIn K mainGlobals "read" = some (some (.ref f6))) (l6 : K.lookup f6 = some ⟨oc6, od6, .func (PySem.W.fnOf "read" "read" (defArgs (topS 13)) (defBody (topS 13)) (defScope (topS 13)) .none kV6 dc6 pm6 an6 cd6 ct6), sl6⟩) (c6 : PySem.W.codeIn K cd6 "read" = true) (k6 : PySem.W.keepIn K (.ref f6) = true)
    {f7 : Addr} {od7 an7 : Option Addr} {sl7 : Array (Option Value)} {oc7 kV7 dc7 pm7 cd7 ct7 : Value}
    (a7 : PySem.W.nsIn K mainGlobals "_law_same" = some (some (.ref f7))) (l7 : K.lookup f7 = some ⟨oc7, od7, .func (PySem.W.fnOf "_law_same" "_law_same" (defArgs (topS 15)) (defBody (topS 15)) (defScope (topS 15)) .none kV7 dc7 pm7 an7 cd7 ct7), sl7⟩) (c7 : PySem.W.codeIn K cd7 "_law_same" = true) (k7 : PySem.W.keepIn K (.ref f7) = true)
    {f8 : Addr} {od8 an8 : Option Addr} {sl8 : Array (Option Value)} {oc8 kV8 dc8 pm8 cd8 ct8 : Value}
    (a8 : PySem.W.nsIn K mainGlobals "_law_or" = some (some (.ref f8))) (l8 : K.lookup f8 = some ⟨oc8, od8, .func (PySem.W.fnOf "_law_or" "_law_or" (defArgs (topS 16)) (defBody (topS 16)) (defScope (topS 16)) .none kV8 dc8 pm8 an8 cd8 ct8), sl8⟩) (c8 : PySem.W.codeIn K cd8 "_law_or" = true) (k8 : PySem.W.keepIn K (.ref f8) = true)
    {f9 : Addr} {od9 an9 : Option Addr} {sl9 : Array (Option Value)} {oc9 kV9 dc9 pm9 cd9 ct9 : Value}
    (a9 : PySem.W.nsIn K mainGlobals "_law_draw" = some (some (.ref f9))) (l9 : K.lookup f9 = some ⟨oc9, od9, .func (PySem.W.fnOf "_law_draw" "_law_draw" (defArgs (topS 17)) (defBody (topS 17)) (defScope (topS 17)) .none kV9 dc9 pm9 an9 cd9 ct9), sl9⟩) (c9 : PySem.W.codeIn K cd9 "_law_draw" = true) (k9 : PySem.W.keepIn K (.ref f9) = true)
    {f10 : Addr} {od10 an10 : Option Addr} {sl10 : Array (Option Value)} {oc10 kV10 dc10 pm10 cd10 ct10 : Value}
    (a10 : PySem.W.nsIn K mainGlobals "_law_one" = some (some (.ref f10))) (l10 : K.lookup f10 = some ⟨oc10, od10, .func (PySem.W.fnOf "_law_one" "_law_one" (defArgs (topS 18)) (defBody (topS 18)) (defScope (topS 18)) .none kV10 dc10 pm10 an10 cd10 ct10), sl10⟩) (c10 : PySem.W.codeIn K cd10 "_law_one" = true) (k10 : PySem.W.keepIn K (.ref f10) = true)
    {f11 : Addr} {od11 an11 : Option Addr} {sl11 : Array (Option Value)} {oc11 kV11 dc11 pm11 cd11 ct11 : Value}
    (a11 : PySem.W.nsIn K mainGlobals "_law_plan" = some (some (.ref f11))) (l11 : K.lookup f11 = some ⟨oc11, od11, .func (PySem.W.fnOf "_law_plan" "_law_plan" (defArgs (topS 19)) (defBody (topS 19)) (defScope (topS 19)) .none kV11 dc11 pm11 an11 cd11 ct11), sl11⟩) (c11 : PySem.W.codeIn K cd11 "_law_plan" = true) (k11 : PySem.W.keepIn K (.ref f11) = true)
    {f12 : Addr} {od12 an12 : Option Addr} {sl12 : Array (Option Value)} {oc12 kV12 dc12 pm12 cd12 ct12 : Value}
    (a12 : PySem.W.nsIn K mainGlobals "_law_told" = some (some (.ref f12))) (l12 : K.lookup f12 = some ⟨oc12, od12, .func (PySem.W.fnOf "_law_told" "_law_told" (defArgs (topS 21)) (defBody (topS 21)) (defScope (topS 21)) .none kV12 dc12 pm12 an12 cd12 ct12), sl12⟩) (c12 : PySem.W.codeIn K cd12 "_law_told" = true) (k12 : PySem.W.keepIn K (.ref f12) = true)
    {f13 : Addr} {od13 an13 : Option Addr} {sl13 : Array (Option Value)} {oc13 kV13 dc13 pm13 cd13 ct13 : Value}
    (a13 : PySem.W.nsIn K mainGlobals "_law_say" = some (some (.ref f13))) (l13 : K.lookup f13 = some ⟨oc13, od13, .func (PySem.W.fnOf "_law_say" "_law_say" (defArgs (topS 22)) (defBody (topS 22)) (defScope (topS 22)) .none kV13 dc13 pm13 an13 cd13 ct13), sl13⟩) (c13 : PySem.W.codeIn K cd13 "_law_say" = true) (k13 : PySem.W.keepIn K (.ref f13) = true)
    {f14 : Addr} {od14 an14 : Option Addr} {sl14 : Array (Option Value)} {oc14 kV14 dc14 pm14 cd14 ct14 : Value}
    (a14 : PySem.W.nsIn K mainGlobals "_law_read" = some (some (.ref f14))) (l14 : K.lookup f14 = some ⟨oc14, od14, .func (PySem.W.fnOf "_law_read" "_law_read" (defArgs (topS 23)) (defBody (topS 23)) (defScope (topS 23)) .none kV14 dc14 pm14 an14 cd14 ct14), sl14⟩) (c14 : PySem.W.codeIn K cd14 "_law_read" = true) (k14 : PySem.W.keepIn K (.ref f14) = true)
    {f15 : Addr} {od15 an15 : Option Addr} {sl15 : Array (Option Value)} {oc15 kV15 dc15 pm15 cd15 ct15 : Value}
    (a15 : PySem.W.nsIn K mainGlobals "_law_due" = some (some (.ref f15))) (l15 : K.lookup f15 = some ⟨oc15, od15, .func (PySem.W.fnOf "_law_due" "_law_due" (defArgs (topS 24)) (defBody (topS 24)) (defScope (topS 24)) .none kV15 dc15 pm15 an15 cd15 ct15), sl15⟩) (c15 : PySem.W.codeIn K cd15 "_law_due" = true) (k15 : PySem.W.keepIn K (.ref f15) = true)
    {f16 : Addr} {od16 an16 : Option Addr} {sl16 : Array (Option Value)} {oc16 kV16 dc16 pm16 cd16 ct16 : Value}
    (a16 : PySem.W.nsIn K mainGlobals "_law_comb" = some (some (.ref f16))) (l16 : K.lookup f16 = some ⟨oc16, od16, .func (PySem.W.fnOf "_law_comb" "_law_comb" (defArgs (topS 25)) (defBody (topS 25)) (defScope (topS 25)) .none kV16 dc16 pm16 an16 cd16 ct16), sl16⟩) (c16 : PySem.W.codeIn K cd16 "_law_comb" = true) (k16 : PySem.W.keepIn K (.ref f16) = true)
    {f17 : Addr} {od17 an17 : Option Addr} {sl17 : Array (Option Value)} {oc17 kV17 dc17 pm17 cd17 ct17 : Value}
    (a17 : PySem.W.nsIn K mainGlobals "law" = some (some (.ref f17))) (l17 : K.lookup f17 = some ⟨oc17, od17, .func (PySem.W.fnOf "law" "law" (defArgs (topS 26)) (defBody (topS 26)) (defScope (topS 26)) .none kV17 dc17 pm17 an17 cd17 ct17), sl17⟩) (c17 : PySem.W.codeIn K cd17 "law" = true) (k17 : PySem.W.keepIn K (.ref f17) = true)
    {A_AGAIN : Addr} {od_AGAIN : Option Addr} {n_AGAIN : Nat} {sl_AGAIN : Array (Option Value)} {tk_AGAIN_0 : Tok} (g_AGAIN : PySem.W.nsIn K mainGlobals "AGAIN" = some (some (.ref A_AGAIN))) (lt_AGAIN : K.lookup A_AGAIN = some ⟨.type "tuple", od_AGAIN, .seq #[.str "again" tk_AGAIN_0] n_AGAIN, sl_AGAIN⟩)
    {t_DEEP_MOST : Tok} (g_DEEP_MOST : PySem.W.nsIn K mainGlobals "DEEP_MOST" = some (some (.int 12 t_DEEP_MOST)))
    {t_FIGURES : Tok} (g_FIGURES : PySem.W.nsIn K mainGlobals "FIGURES" = some (some (.str "0123456789" t_FIGURES)))
    {t_NUMBER_MOST : Tok} (g_NUMBER_MOST : PySem.W.nsIn K mainGlobals "NUMBER_MOST" = some (some (.int 99 t_NUMBER_MOST)))
    {E0 : Addr} (gx0 : PySem.W.nsIn K mainGlobals "NoText" = some (some (.ref E0))) (xx0 : PySem.W.excIn K E0 [.type "ValueError", .type "Exception", .type "BaseException", .type "object"] "ValueError.__new__" = true) (kx0 : PySem.W.keepIn K (.ref E0) = true) (bx0 : PySem.W.subIn K (.ref E0) (.type "BaseException") = some true) (tx0 : PySem.W.typeIn K (.ref E0) = some (.type "type")) (ix0 : PySem.W.isClsIn K E0 = true)
    (sx0_0 : PySem.W.subIn K (.ref E0) (.ref E0) = some true)
    (z_all : PySem.W.nsIn K mainGlobals "all" = some none)
    (z_bool : PySem.W.nsIn K mainGlobals "bool" = some none)
    (z_int : PySem.W.nsIn K mainGlobals "int" = some none)
    (z_isinstance : PySem.W.nsIn K mainGlobals "isinstance" = some none)
    (z_len : PySem.W.nsIn K mainGlobals "len" = some none)
    (z_range : PySem.W.nsIn K mainGlobals "range" = some none)
    (z_str : PySem.W.nsIn K mainGlobals "str" = some none)
    (z_tuple : PySem.W.nsIn K mainGlobals "tuple" = some none)
    (z_zip : PySem.W.nsIn K mainGlobals "zip" = some none)
    : ∃ fd : FuncData, (∀ (s : Shared) (v : Value), BindsTo s fd ⟨[v], []⟩ [("_law_script", v)]) ∧ ∀ base : Heap, K.In base → base.Ns mainGlobals mg → FnOk l.prog w K mg base (L2.CX l.prog w) 24 fa fd ["_law_script"] (fun vs H Q E => ∀ G, SpF K G law_S vs H Q E) := by
  have e := hfa.symm.trans (PySem.W.mg_of X G a17)
  cases e
  have F0 := fun_mk (st := (topS 7)) l0 c0 k0
  have b0 := F0.binds (ps := ["thing", "deep"]) fun _ _ _ _ _ _ us hl => match us, hl with | [_, _], _ => rfl
  have F1 := fun_mk (st := (topS 8)) l1 c1 k1
  have b1 := F1.binds (ps := ["thing"]) fun _ _ _ _ _ _ us hl => match us, hl with | [_], _ => rfl
  have F2 := fun_mk (st := (topS 11)) l2 c2 k2
  have b2 := F2.binds (ps := ["plan"]) fun _ _ _ _ _ _ us hl => match us, hl with | [_], _ => rfl
  have F3 := fun_mk (st := (L2.inClass (topS 12) 0)) l3 c3 k3
  have b3 := F3.binds (ps := ["self", "text"]) fun _ _ _ _ _ _ us hl => match us, hl with | [_, _], _ => rfl
  have F4 := fun_mk (st := (L2.inClass (topS 12) 1)) l4 c4 k4
  have b4 := F4.binds (ps := ["self"]) fun _ _ _ _ _ _ us hl => match us, hl with | [_], _ => rfl
  have F5 := fun_mk (st := (L2.inClass (topS 12) 2)) l5 c5 k5
  have b5 := F5.binds (ps := ["self", "deep"]) fun _ _ _ _ _ _ us hl => match us, hl with | [_, _], _ => rfl
  have F6 := fun_mk (st := (topS 13)) l6 c6 k6
  have b6 := F6.binds (ps := ["text"]) fun _ _ _ _ _ _ us hl => match us, hl with | [_], _ => rfl
  have F7 := fun_mk (st := (topS 15)) l7 c7 k7
  have b7 := F7.binds (ps := ["_law_got", "_law_due_here"]) fun _ _ _ _ _ _ us hl => match us, hl with | [_, _], _ => rfl
  have F8 := fun_mk (st := (topS 16)) l8 c8 k8
  have b8 := F8.binds (ps := ["_law_due_here"]) fun _ _ _ _ _ _ us hl => match us, hl with | [_], _ => rfl
  have F9 := fun_mk (st := (topS 17)) l9 c9 k9
  have b9 := F9.binds (ps := ["_law_script", "_law_town", "_law_many"]) fun _ _ _ _ _ _ us hl => match us, hl with | [_, _, _], _ => rfl
  have F10 := fun_mk (st := (topS 18)) l10 c10 k10
  have b10 := F10.binds (ps := ["_law_script", "_law_town", "_law_some"]) fun _ _ _ _ _ _ us hl => match us, hl with | [_, _, _], _ => rfl
  have F11 := fun_mk (st := (topS 19)) l11 c11 k11
  have b11 := F11.binds (ps := ["_law_script", "_law_town", "_law_left"]) fun _ _ _ _ _ _ us hl => match us, hl with | [_, _, _], _ => rfl
  have F12 := fun_mk (st := (topS 21)) l12 c12 k12
  have b12 := F12.binds (ps := ["_law_text"]) fun _ _ _ _ _ _ us hl => match us, hl with | [_], _ => rfl
  have F13 := fun_mk (st := (topS 22)) l13 c13 k13
  have b13 := F13.binds (ps := ["_law_made"]) fun _ _ _ _ _ _ us hl => match us, hl with | [_], _ => rfl
  have F14 := fun_mk (st := (topS 23)) l14 c14 k14
  have b14 := F14.binds (ps := ["_law_text", "_law_left"]) fun _ _ _ _ _ _ us hl => match us, hl with | [_, _], _ => rfl
  have F15 := fun_mk (st := (topS 24)) l15 c15 k15
  have b15 := F15.binds (ps := ["_law_text"]) fun _ _ _ _ _ _ us hl => match us, hl with | [_], _ => rfl
  have F16 := fun_mk (st := (topS 25)) l16 c16 k16
  have b16 := F16.binds (ps := ["_law_script", "_law_town", "_law_many"]) fun _ _ _ _ _ _ us hl => match us, hl with | [_, _, _], _ => rfl
  have F17 := fun_mk (st := (topS 26)) l17 c17 k17
  have b17 := F17.binds (ps := ["_law_script"]) fun _ _ _ _ _ _ us hl => match us, hl with | [_], _ => rfl
  have T : Txt w K mg (⟨fun c => ([E0, C0] : List Addr).getD c 0, fun c => ([[], ["text", "at"]] : List (List Str)).getD c [], w⟩ : SCtx) := ⟨rfl, ⟨PySem.W.mg_of X G gx0, xx0, kx0, bx0, tx0, exm_ab bx0 ix0 tx0 sx0_0⟩, fun c h1 h2 => match c, h1, h2 with | 0, h1, h2 => absurd rfl h2 | c + 1, h1, h2 => absurd h1 (by omega), ⟨pg0, hd0, po0, sa0⟩, PySem.W.mg_of X G aC0, (show (["text", "at"] : List Str).Nodup by decide), (show (["text", "at"] : List Str).length < 900 by decide), nC0_0, rfl, nC0_1, rfl, ⟨_, _, F0, PySem.W.mg_of X G a0, b0⟩, ⟨_, _, F1, PySem.W.mg_of X G a1, b1⟩, ⟨_, _, F2, PySem.W.mg_of X G a2, b2⟩, ⟨_, _, F3, ⟨mk0, a3, i3, kc0⟩, b3⟩, ⟨_, _, F4, ⟨a4, i4, k4⟩, b4⟩, (show ("sign" : Str) ∉ (["text", "at"] : List Str) by decide), ⟨_, _, F5, ⟨a5, i5, k5⟩, b5⟩, (show ("plan" : Str) ∉ (["text", "at"] : List Str) by decide), ⟨_, _, F6, PySem.W.mg_of X G a6, b6⟩, ⟨_, _, F7, PySem.W.mg_of X G a7, b7⟩, ⟨_, _, F8, PySem.W.mg_of X G a8, b8⟩, ⟨_, _, F9, PySem.W.mg_of X G a9, b9⟩, ⟨_, _, F10, PySem.W.mg_of X G a10, b10⟩, ⟨_, _, F11, PySem.W.mg_of X G a11, b11⟩, ⟨_, _, F12, PySem.W.mg_of X G a12, b12⟩, ⟨_, _, F13, PySem.W.mg_of X G a13, b13⟩, ⟨_, _, F14, PySem.W.mg_of X G a14, b14⟩, ⟨_, _, F15, PySem.W.mg_of X G a15, b15⟩, ⟨_, _, F16, PySem.W.mg_of X G a16, b16⟩, ⟨_, _, F17, PySem.W.mg_of X G a17, b17⟩, ⟨_, _, _, _, PySem.W.mg_of X G g_AGAIN, lt_AGAIN, rfl, rfl, (show (1 : Nat) ≤ sizeLine by decide), (.cons ⟨_, rfl⟩ .nil)⟩, ⟨_, PySem.W.mg_of X G g_DEEP_MOST⟩, ⟨_, PySem.W.mg_of X G g_FIGURES⟩, ⟨_, PySem.W.mg_of X G g_NUMBER_MOST⟩, PySem.W.mg_none_of X G z_all, PySem.W.mg_none_of X G z_bool, PySem.W.mg_none_of X G z_int, PySem.W.mg_none_of X G z_isinstance, PySem.W.mg_none_of X G z_len, PySem.W.mg_none_of X G z_range, PySem.W.mg_none_of X G z_str, PySem.W.mg_none_of X G z_tuple, PySem.W.mg_none_of X G z_zip⟩
  exact ⟨PySem.W.fnOf "law" "law" (defArgs (topS 26)) (defBody (topS 26)) (defScope (topS 26)) .none kV17 dc17 pm17 an17 cd17 ct17, fun s v => .of_eq rfl, fun base _ _ => (ok_all (P := l.prog) (w := w) (base := base) T F17).imp fun vs H Q E h => h _⟩
theorem walk (holds : ∀ ns : List Int, ns.length ≤ 63 → ∃ s, law_S [.scr ns] [] = .ok (.bl true) s) {l : PySem.W.OpenLaw} {q : Program} {loose : List Str} {XP : (Str → Option Value) → Heap → Prop} {YP : World → Heap → Prop} {d : DefRec} {K : Params → PySem.W.Frag} (hn : l.most = some 63) (hdf : d.params.defaults = [])
    (hY : ∀ (w : World) (h : Heap), YP w h → (K w.params).In h)
    (F : ∀ (w : World) (mg : Str → Option Value) (fa : Addr) (h : Heap), (K w.params).In h → h.Ns mainGlobals mg → mg d.name = some (.ref fa) →
      ∃ fd : FuncData, (∀ (s : Shared) (u : Value), BindsTo s fd ⟨[u], []⟩ [("_law_script", u)]) ∧ ∀ base : Heap, (K w.params).In base → base.Ns mainGlobals mg → FnOk l.prog w (K w.params) mg base (L2.CX l.prog w) 24 fa fd ["_law_script"] (fun vs H Q E => ∀ G, SpF (K w.params) G law_S vs H Q E)) :
    PySem.W.WalkO q loose XP YP l.row.toRowW d [] (fun f vs => PySem.call f vs) :=
  L2.walk_of (n := 63) (k := 24) (x := "_law_script") (CX := fun w => L2.CX l.prog w) (sp := fun w vs H Q E => ∀ G, SpF (K w.params) G law_S vs H Q E) hn (by decide) hdf ⟨rfl, by decide, by decide⟩ hY F (fun _ _ a ns hl _ hS => fun G => sp_law hS (holds ns hl)) fun _ _ _ _ _ z => no_cx z
end Gen

namespace Gen
open PySem L2 Sx
/-! k38: plans as texts -/
/-! ### what each law needs -/
theorem same_i (i : Int) (s : Sto) : sameS 20 [.int i, .int i] s = .ok (.bl true) s := same_self 0 _ s rfl 20 (by decide)
theorem same_s (z : Str) (s : Sto) : sameS 20 [.str z, .str z] s = .ok (.bl true) s := same_self 0 _ s rfl 20 (by decide)
theorem same_n (s : Sto) : sameS 20 [.non, .non] s = .ok (.bl true) s := same_self 0 _ s rfl 20 (by decide)
theorem same_b (b : Bool) (s : Sto) : sameS 20 [.bl b, .bl b] s = .ok (.bl true) s := same_self 0 _ s rfl 20 (by decide)
theorem same_ii (i j : Int) (s : Sto) : sameS 20 [.tup [.int i, .int j], .tup [.int i, .int j]] s = .ok (.bl true) s := same_self 1 _ s rfl 20 (by decide)
theorem opIx_rf {s : Sto} {n : Nat} {xs : List D} {k : Nat} {i : Int} {v : D} (h : s[n]? = some (.lst xs)) (hv : xs[k]? = some v) (hi : i = (k : Int)) : opIx s (.ref n) (.int i) = some v := by
  show (match rowOf s (.ref n) with | some xs => atI xs i | none => none) = _
  have e : rowOf s (.ref n) = some xs := by simp only [rowOf]; rw [h]
  rw [e]
  exact atI_nat hv hi
theorem setAt_rf {s : Sto} {n : Nat} {xs : List D} {k : Nat} {i : Int} {d : D} (h : s[n]? = some (.lst xs)) (hk : k < xs.length) (hi : i = (k : Int)) : setAt s (.ref n) (.int i) d = some (s.set n (.lst (xs.set k d))) := by
  simp only [setAt]
  rw [h]
  subst hi
  have e : ixN xs.length (k : Int) = some k := by
    unfold ixN
    rw [if_pos (by omega), if_pos (by omega)]
    simp
  simp only [e]
theorem while_mono {t : TF} {b : SF} : ∀ (m k : Nat) (env e1 : Sx.Env) (s s1 : Sto), sWhile t b m env s = .nx e1 s1 → sWhile t b (m + k) env s = .nx e1 s1
  | 0, k, env, e1, s, s1, h => by simp [sWhile] at h
  | m + 1, k, env, e1, s, s1, h => by
    rw [show m + 1 + k = (m + k) + 1 by omega, sWhile_s]
    rw [sWhile_s] at h
    cases z : t env s with
    | no => rw [z] at h; cases h
    | ex c s2 => rw [z] at h; cases h
    | ok v s2 =>
      rw [z] at h
      cases v with
      | false => exact h
      | true =>
        rw [kWhile_t] at h ⊢
        cases y : b env s2 with
        | nx e s3 => rw [y, kTurn_nx] at h; rw [kTurn_nx]; exact while_mono m k e e1 s3 s1 h
        | ct e s3 => rw [y, kTurn_ct] at h; rw [kTurn_ct]; exact while_mono m k e e1 s3 s1 h
        | bk e s3 => rw [y] at h; exact h
        | rt e s3 => rw [y] at h; cases h
        | ex c e s3 => rw [y] at h; cases h
        | no => rw [y] at h; cases h
/-- a def on a store of its own -/
theorem iso_ok {fn : FN} {ds : List D} {d d' : D} {s' : Sto} (hn : noRefs ds = true) (h : fn ds [] = .ok d s') (hf : frz s' d = some d') (s : Sto) : iso fn ds s = .ok d' s := by
  unfold iso
  rw [if_pos hn, h]
  simp only [hf]
  rfl
theorem iso_ex {fn : FN} {ds : List D} {c : Nat} {s' : Sto} (hn : noRefs ds = true) (h : fn ds [] = .ex c s') (s : Sto) : iso fn ds s = .ex c s := by
  unfold iso
  rw [if_pos hn, h]
theorem noRefs_int : ∀ xs : List Int, noRefs (xs.map .int) = true
  | [] => rfl
  | x :: xs => by simp [noRefs, noRef, noRefs_int xs]
theorem opIx_ref {s : Sto} {n : Nat} {xs : List D} (h : s[n]? = some (.lst xs)) {i : Int} : opIx s (.ref n) (.int i) = atI xs i := by
  show (match rowOf s (.ref n) with | some xs => atI xs i | none => none) = _
  have e : rowOf s (.ref n) = some xs := by simp only [rowOf]; rw [h]
  rw [e]
theorem pd_ref_int {s : Sto} {n : Nat} {xs : List Int} (h : s[n]? = some (.lst (xs.map .int))) : pdR s (.ref n) = some (.list (xs.map .int)) := by
  show (match s[n]? with | some (.lst xs) => (pds s xs).map PyData.list | _ => none) = _
  rw [h]
  simp only [pds_int]
  rfl
theorem eqV_ri {s : Sto} {n : Nat} {xs : List Int} (h : s[n]? = some (.lst (xs.map .int))) (ys : List Int) : eqV? s (.ref n) (.lst (ys.map .int)) = some (decide (xs = ys)) := by
  show (match pdR s (.ref n), pdR s (.lst (ys.map .int)) with | some p, some q => if SeqAt.shaped p && SeqAt.shaped q then some (PyData.eqv p q) else none | _, _ => none) = _
  rw [pd_ref_int h, pd_lst_int]
  simp only [(shaped_int xs).2, (shaped_int ys).2, Bool.and_self, if_true, PyData.eqv, eqvAll_int]
theorem opNe_ri {s : Sto} {n : Nat} {xs : List Int} (h : s[n]? = some (.lst (xs.map .int))) (ys : List Int) : opNe s (.ref n) (.lst (ys.map .int)) = some (.bl (!decide (xs = ys))) := by
  unfold opNe; rw [eqV_ri h]; rfl
theorem fSum_ri {s : Sto} {n : Nat} {xs : List Int} (h : s[n]? = some (.lst (xs.map .int))) : fSum s [.ref n] = some (.int xs.sum) := by
  have e : lstOf s (.ref n) = some (xs.map .int) := by simp only [lstOf]; rw [h]
  have a : ∀ ys : List Int, allInt (ys.map .int) = some ys := fun ys => by
    induction ys with
    | nil => rfl
    | cons y ys ih => show (allInt (ys.map .int)).map _ = _; rw [ih]; rfl
  simp only [fSum, e, a]
  rfl
theorem repD_one (x : D) (k : Nat) : repD [x] (k : Int) = List.replicate k x := by
  unfold repD
  rw [Int.toNat_natCast]
  induction k with
  | zero => rfl
  | succ k ih => rw [List.replicate_succ, List.flatten_cons, ih]; rfl
theorem lcL_cons_ok {gt : GF} {t : TF} {f : EF} {env : Sx.Env} {d x : D} {ds xs : List D} {s s1 s2 s3 s4 : Sto} {e1 : Sx.Env} (h1 : gt d env s = some (e1, s1)) (h2 : t e1 s1 = .ok true s2) (h3 : f e1 s2 = .ok x s3) (h4 : lcL gt t f env ds s3 = some (xs, s4)) :
    lcL gt t f env (d :: ds) s = some (x :: xs, s4) := by
  simp only [lcL, h1, h2, h3, h4]
/-! ### one turn of a while -/
theorem while_t {t : TF} {b : SF} {n : Nat} {env e2 : Sx.Env} {s s1 s2 : Sto} {r : SR} (ht : t env s = .ok true s1) (hb : b env s1 = .nx e2 s2) (hr : sWhile t b n e2 s2 = r) : sWhile t b (n + 1) env s = r := by
  rw [sWhile_s, ht, kWhile_t, hb, kTurn_nx, hr]
theorem while_f {t : TF} {b : SF} {n : Nat} {env : Sx.Env} {s s1 : Sto} (ht : t env s = .ok false s1) : sWhile t b (n + 1) env s = .nx env s1 := by
  rw [sWhile_s, ht]
  rfl
theorem while_r {t : TF} {b : SF} {n : Nat} {env : Sx.Env} {s s1 s2 : Sto} {d : D} (ht : t env s = .ok true s1) (hb : b env s1 = .rt d s2) : sWhile t b (n + 1) env s = .rt d s2 := by
  rw [sWhile_s, ht, kWhile_t, hb, kTurn_rt]

/-! ### data, alike or not -/
theorem pstr {L : Nat} {z : Str} (h : (PyData.strOk z && decide (z.length ≤ 1000)) = true) : ∀ k, pureL L k (.str z) = true
  | 0 => h
  | k + 1 => h
theorem pint {L : Nat} (i : Int) : ∀ k, pureL L k (.int i) = true
  | 0 => rfl
  | k + 1 => rfl
/-- data of one and of another shape -/
theorem opEq_pd {s : Sto} {a b : D} {p q : PyData} {n : Nat} (hn : n ≤ 60) (ha : pdR s a = some p) (hb : pdR s b = some q) (p1 : PyData.canLay0 p = true) (p2 : PyData.depth p ≤ n) (q1 : PyData.canLay0 q = true) (q2 : PyData.depth q ≤ n) (hsh : eqV? s a b = (match pdR s a, pdR s b with | some p, some q => if SeqAt.shaped p && SeqAt.shaped q then some (PyData.eqv p q) else none | _, _ => none)) : eqV? s a b = some (PyData.eqv p q) := by
  rw [hsh, ha, hb]
  simp only [pureShaped p1 p2 (by omega), pureShaped q1 q2 (by omega), Bool.and_self, if_true]
theorem opNe_ts {s : Sto} {xs : List D} {z : Str} {n : Nat} (hn : n ≤ 60) (h : pureL 1000 n (.tup xs) = true) (hz : (PyData.strOk z && decide (z.length ≤ 1000)) = true) : opNe s (.tup xs) (.str z) = some (.bl true) := by
  obtain ⟨p, h1, h2, h3⟩ := pd_pure s n (.tup xs) h
  obtain ⟨q, g1, g2, g3⟩ := pd_pure (L := 1000) s n (.str z) (pstr hz n)
  have eq : q = .str z := (Option.some.inj g1).symm
  subst eq
  have ep : ∃ ps, p = .tuple ps := by
    obtain ⟨ps, _, e⟩ := Option.map_eq_some_iff.mp (show (pds s xs).map PyData.tuple = some p from h1)
    exact ⟨ps, e.symm⟩
  obtain ⟨ps, rfl⟩ := ep
  have e := opEq_pd (s := s) (a := .tup xs) (b := .str z) (n := n) hn h1 g1 h2 h3 g2 g3 rfl
  unfold opNe
  rw [e]
  rfl
theorem opEq_self {s : Sto} {xs : List D} {n : Nat} (hn : n ≤ 60) (h : pureL 1000 n (.tup xs) = true) : opEq s (.tup xs) (.tup xs) = some (.bl true) := by
  obtain ⟨p, h1, h2, h3⟩ := pd_pure s n (.tup xs) h
  have e := opEq_pd (s := s) (a := .tup xs) (b := .tup xs) (n := n) hn h1 h1 h2 h3 h2 h3 rfl
  unfold opEq
  rw [e, SeqAt.eqv_refl p h2]
  rfl

/-! ### plans, plain -/
inductive Pl where
  | is (n : Int) | again | ask (a b : Pl)
def dP : Pl → D
  | .is n => .tup [.str "is", .int n]
  | .again => .tup [.str "again"]
  | .ask a b => .tup [.str "ask", dP a, dP b]
def ht : Pl → Nat
  | .is _ => 0
  | .again => 0
  | .ask a b => max (ht a) (ht b) + 1
theorem s1 : ¬ (("is" : Str) = "again") := by decide +kernel
theorem s2 : ¬ (("is" : Str) = "ask") := by decide +kernel
theorem s3 : ¬ (("again" : Str) = "ask") := by decide +kernel
theorem s1' : ¬ (("again" : Str) = "is") := by decide +kernel
theorem s2' : ¬ (("ask" : Str) = "is") := by decide +kernel
theorem s3' : ¬ (("ask" : Str) = "again") := by decide +kernel
theorem pix0 {s : Sto} {x : D} {xs : List D} : opIx s (.tup (x :: xs)) (.int 0) = some x := opIx_tup (k := 0) rfl rfl
theorem pix1 {s : Sto} {x y : D} {xs : List D} : opIx s (.tup (x :: y :: xs)) (.int 1) = some y := opIx_tup (k := 1) rfl rfl
theorem pix2 {s : Sto} {x y z : D} {xs : List D} : opIx s (.tup (x :: y :: z :: xs)) (.int 2) = some z := opIx_tup (k := 2) rfl rfl
theorem pure_dP : ∀ (p : Pl) (n : Nat), ht p < n → pureL 1000 n (dP p) = true
  | .is i, n, h => by
    obtain ⟨n, rfl⟩ : ∃ j, n = j + 1 := ⟨n - 1, by omega⟩
    exact pure_tup (by simp) fun x hx => by
      simp only [List.mem_cons, List.mem_nil_iff, or_false] at hx
      rcases hx with rfl | rfl
      · exact pstr (by decide +kernel) _
      · exact pint _ _
  | .again, n, h => by
    obtain ⟨n, rfl⟩ : ∃ j, n = j + 1 := ⟨n - 1, by omega⟩
    exact pure_tup (by simp) fun x hx => by
      simp only [List.mem_cons, List.mem_nil_iff, or_false] at hx
      subst hx
      exact pstr (by decide +kernel) _
  | .ask a b, n, h => by
    obtain ⟨n, rfl⟩ : ∃ j, n = j + 1 := ⟨n - 1, by omega⟩
    have ha := pure_dP a n (by simp only [ht] at h; omega)
    have hb := pure_dP b n (by simp only [ht] at h; omega)
    exact pure_tup (by simp) fun x hx => by
      simp only [List.mem_cons, List.mem_nil_iff, or_false] at hx
      rcases hx with rfl | rfl | rfl
      · exact pstr (by decide +kernel) _
      · exact ha
      · exact hb
theorem noRef_dP : ∀ p : Pl, noRef (dP p) = true
  | .is i => rfl
  | .again => rfl
  | .ask a b => by simp [dP, noRef, noRefs, noRef_dP a, noRef_dP b]
theorem opEq_ask {s : Sto} {a b : Pl} (h : ht (.ask a b) < 50) : opEq s (dP (.ask a b)) (.tup [.str "again"]) = some (.bl false) := by
  obtain ⟨p, h1, h2, h3⟩ := pd_pure s 50 (dP (.ask a b)) (pure_dP _ _ h)
  have ep : ∃ x y, p = .tuple [.str "ask", x, y] := by
    obtain ⟨x, hx, _, _⟩ := pd_pure s 50 (dP a) (pure_dP _ _ (by simp only [ht] at h; omega))
    obtain ⟨y, hy, _, _⟩ := pd_pure s 50 (dP b) (pure_dP _ _ (by simp only [ht] at h; omega))
    have : pd s (dP (.ask a b)) = some (.tuple [.str "ask", x, y]) := by simp only [dP, pd, pds, hx, hy, Option.map_some]
    rw [this] at h1
    exact ⟨x, y, (Option.some.inj h1).symm⟩
  obtain ⟨x, y, rfl⟩ := ep
  have e := opEq_pd (s := s) (a := dP (.ask a b)) (b := .tup [.str "again"]) (n := 50) (by decide) h1 (show pdR s (.tup [.str "again"]) = some (.tuple [.str "again"]) from rfl) h2 h3 (by decide +kernel) (by decide) rfl
  unfold opEq
  rw [e]
  have z : PyData.eqv (.tuple [.str "ask", x, y]) (.tuple [.str "again"]) = false := by
    simp [PyData.eqv, PyData.eqvAll]
  rw [z]
  rfl
theorem opEq_again {s : Sto} : opEq s (.tup [.str "again"]) (.tup [.str "again"]) = some (.bl true) := by kernel_rfl
theorem opEq_oi {s : Sto} {k : Int} : opEq s .non (.int k) = some (.bl false) := by
  have e := opEq_pd (s := s) (a := .non) (b := .int k) (p := .none) (q := .int k) (n := 3) (by decide) rfl rfl (by simp [PyData.canLay0]) (by simp [PyData.depth]) (by simp [PyData.canLay0]) (by simp [PyData.depth]) rfl
  unfold opEq
  rw [e]
  rfl
/-! ends -/

/-! ### plans whose numbers are in range -/
def numOk : Pl → Prop
  | .is n => 0 ≤ n ∧ n ≤ 99
  | .again => True
  | .ask a b => numOk a ∧ numOk b
theorem t1 : (("is" : Str) = "again") = False := eq_false (by decide +kernel)
theorem t2 : (("is" : Str) = "ask") = False := eq_false (by decide +kernel)
theorem t3 : (("again" : Str) = "ask") = False := eq_false (by decide +kernel)
theorem t1' : (("again" : Str) = "is") = False := eq_false (by decide +kernel)
theorem t2' : (("ask" : Str) = "is") = False := eq_false (by decide +kernel)
theorem t3' : (("ask" : Str) = "again") = False := eq_false (by decide +kernel)
theorem jx0 {s : Sto} {x : D} {xs : List D} : opIx s (.tup (x :: xs)) (.int 0) = some x := opIx_tup (k := 0) rfl rfl
theorem jx1 {s : Sto} {x y : D} {xs : List D} : opIx s (.tup (x :: y :: xs)) (.int 1) = some y := opIx_tup (k := 1) rfl rfl
theorem jx2 {s : Sto} {x y z : D} {xs : List D} : opIx s (.tup (x :: y :: z :: xs)) (.int 2) = some z := opIx_tup (k := 2) rfl rfl

/-! ### the plans of the law -/
theorem pw2 (k : Nat) : 2 ^ (k + 1) = 2 ^ k + 2 ^ k := by rw [Nat.pow_succ]; omega
theorem law_plan_n (ns : List Int) : ∀ (m k n : Nat) (i : Int) (rest : Sto), i = (k : Int) → k < m → n + 6 * 2 ^ k < 800000 → ∃ (p : Pl) (n' : Nat), n' + 1 ≤ n + 6 * 2 ^ k ∧ ht p ≤ k ∧ numOk p ∧ law_plan_S m [.scr ns, .ref 0, .int i] (tw n :: rest) = .ok (dP p) (tw n' :: rest)
  | 0, k, n, i, rest, _, h, _ => by omega
  | m + 1, k, n, i, rest, hi, hk, hn => by
    have hpos : 0 < 2 ^ k := Nat.two_pow_pos k
    unfold law_plan_S
    rw [fnOf_3]
    obtain ⟨A, d1⟩ : ∃ A : Int, drawS [.scr ns, .ref 0, .int 6] (tw n :: rest) = .ok (.int A) (tw (n + 1) :: rest) := ⟨_, draw_v (by omega) (by decide)⟩
    by_cases hz : i = 0 ∨ A = 0
    · obtain ⟨d, hd, o⟩ := one_v (ns := ns) (n := n + 1) (xs := [.int 3, .int 100]) (rest := rest) (by omega) (by simp)
      obtain ⟨B, rfl, hB⟩ : ∃ B : Int, d = .int B ∧ 0 < B ∧ B ≤ 100 := by
        simp only [List.mem_cons, List.mem_nil_iff, or_false] at hd
        rcases hd with rfl | rfl
        · exact ⟨_, rfl, by decide, by decide⟩
        · exact ⟨_, rfl, by decide, by decide⟩
      obtain ⟨C, d2, c1, c2⟩ : ∃ C : Int, drawS [.scr ns, .ref 0, .int B] (tw (n + 1 + 1) :: rest) = .ok (.int C) (tw (n + 1 + 1 + 1) :: rest) ∧ 0 ≤ C ∧ C < B := ⟨_, draw_v (by omega) (by omega), drawv_nn (by omega), drawv_lt (by omega)⟩
      refine ⟨.is C, n + 1 + 1 + 1, by omega, Nat.zero_le _, ⟨by omega, by omega⟩, ?_⟩
      by_cases h0 : i = 0
      · simp [d1, h0, o, d2, dP]
      · have hA : A = 0 := by
          rcases hz with h | h
          · exact absurd h h0
          · exact h
        simp [d1, h0, hA, o, d2, dP]
    · have hz1 : ¬ i = 0 := fun h => hz (.inl h)
      have hz2 : ¬ A = 0 := fun h => hz (.inr h)
      by_cases h1 : A = 1
      · refine ⟨.again, n + 1, by omega, Nat.zero_le _, trivial, ?_⟩
        subst h1
        simp [d1, hz1, dP]
      · obtain ⟨k, rfl⟩ : ∃ k', k = k' + 1 := ⟨k - 1, by omega⟩
        have hp2 := pw2 k
        obtain ⟨a, n1, hn1, pa, oa, ea⟩ := law_plan_n ns m k (n + 1) (i - 1) rest (by omega) (by omega) (by omega)
        obtain ⟨b, n2, hn2, pb, ob, eb⟩ := law_plan_n ns m k n1 (i - 1) rest (by omega) (by omega) (by omega)
        refine ⟨.ask a b, n2, by omega, by simp only [ht]; omega, ⟨oa, ob⟩, ?_⟩
        simp [d1, hz1, hz2, h1, ea, eb, dP]

/-! ### k38: texts, plain -/
abbrev tx (l : List Nat) : Str := ⟨l.toArray⟩
def isD (c : Nat) : Bool := decide (48 ≤ c ∧ c ≤ 57)
def dgN (n : Nat) : List Nat := if n < 10 then [48 + n] else [48 + n / 10, 48 + n % 10]
def Wp : Pl → List Nat
  | .is n => dgN n.toNat ++ [46]
  | .again => [42]
  | .ask a b => 63 :: (Wp a ++ Wp b)
def valW (w : List Nat) : Nat := w.foldl (fun a c => a * 10 + (c - 48)) 0
def fin (w : List Nat) (c : Nat) (r : List Nat) : Option (Pl × List Nat) := if w = [] ∨ c ≠ 46 then none else some (.is (valW w : Int), r)
def rdN : Nat → List Nat → Nat → List Nat → Option (Pl × List Nat)
  | 0, w, c, r => fin w c r
  | k + 1, w, c, r => if isD c then (match r with
      | [] => none
      | c' :: r' => rdN k (w ++ [c]) c' r') else fin w c r
def Pp : Nat → List Nat → Option (Pl × List Nat)
  | _, [] => none
  | 0, c :: r => if c = 42 then some (.again, r) else if c = 63 then none else rdN 3 [] c r
  | d + 1, c :: r => if c = 42 then some (.again, r) else if c = 63 then (match Pp d r with
      | none => none
      | some (a, r1) => match Pp d r1 with
        | none => none
        | some (b, r2) => some (.ask a b, r2)) else rdN 3 [] c r
def nmQ : List Nat → Option Pl × List Nat
  | c :: c2 :: r => if isD c = true ∧ c2 = 46 then (some (.is ((c - 48 : Nat) : Int)), r) else (match r with
    | c3 :: r3 => if isD c = true ∧ isD c2 = true ∧ c3 = 46 then (if c ≠ 48 then some (.is (((c - 48) * 10 + (c2 - 48) : Nat) : Int)) else none, r3) else (none, [])
    | [] => (none, []))
  | _ => (none, [])
def Qp : Nat → List Nat → Option Pl × List Nat
  | _, [] => (none, [])
  | 0, c :: r => if c = 42 then (some .again, r) else nmQ (c :: r)
  | d + 1, c :: r => if c = 42 then (some .again, r) else if c = 63 then (match Qp d r with
      | (none, _) => (none, [])
      | (some a, r1) => match Qp d r1 with
        | (none, r2) => (none, r2)
        | (some b, r2) => (some (.ask a b), r2)) else nmQ (c :: r)
theorem nmQ_2 (c c2 : Nat) (r : List Nat) : nmQ (c :: c2 :: r) = if isD c = true ∧ c2 = 46 then (some (.is ((c - 48 : Nat) : Int)), r) else (match r with
    | c3 :: r3 => if isD c = true ∧ isD c2 = true ∧ c3 = 46 then (if c ≠ 48 then some (.is (((c - 48) * 10 + (c2 - 48) : Nat) : Int)) else none, r3) else (none, [])
    | [] => (none, [])) := rfl
theorem dgN_D {n : Nat} (h : n < 100) : ∀ c ∈ dgN n, isD c = true := by
  intro c hc
  unfold dgN at hc
  unfold isD
  split at hc
  · simp at hc; subst hc; exact decide_eq_true (by omega)
  · simp at hc
    rcases hc with rfl | rfl <;> exact decide_eq_true (by omega)
theorem nmQ_dg {n : Nat} (h : n < 100) (r : List Nat) : nmQ (dgN n ++ 46 :: r) = (some (.is (n : Int)), r) := by
  unfold dgN
  by_cases c : n < 10
  · rw [if_pos c]
    show nmQ ((48 + n) :: 46 :: r) = _
    have d1 : isD (48 + n) = true := decide_eq_true (by omega)
    rw [nmQ_2]
    rw [if_pos ⟨d1, rfl⟩, show 48 + n - 48 = n by omega]
  · rw [if_neg c]
    show nmQ ((48 + n / 10) :: (48 + n % 10) :: 46 :: r) = _
    have d1 : isD (48 + n / 10) = true := decide_eq_true (by omega)
    have d2 : isD (48 + n % 10) = true := decide_eq_true (by omega)
    rw [nmQ_2]
    rw [if_neg (by omega)]
    simp only
    rw [if_pos ⟨d1, d2, trivial⟩, if_pos (by omega)]
    have : (48 + n / 10 - 48) * 10 + (48 + n % 10 - 48) = n := by omega
    rw [this]
theorem nmQ_some {l : List Nat} {p : Pl} {r : List Nat} (h : nmQ l = (some p, r)) : ∃ n : Nat, n < 100 ∧ p = .is (n : Int) ∧ l = dgN n ++ 46 :: r := by
  match l with
  | [] => simp [nmQ] at h
  | [a] => simp [nmQ] at h
  | c :: c2 :: r0 =>
    rw [nmQ_2] at h
    by_cases d : isD c = true ∧ c2 = 46
    · rw [if_pos d] at h
      have dc := of_decide_eq_true d.1
      have e := Prod.mk.inj h
      refine ⟨c - 48, by omega, (Option.some.inj e.1).symm, ?_⟩
      unfold dgN
      rw [if_pos (by omega), d.2, e.2, show 48 + (c - 48) = c by omega]
      rfl
    · rw [if_neg d] at h
      match r0, h with
      | [], h => simp at h
      | c3 :: r3, h =>
        simp only at h
        by_cases d2 : isD c = true ∧ isD c2 = true ∧ c3 = 46
        · rw [if_pos d2] at h
          have dc := of_decide_eq_true d2.1
          have dc2 := of_decide_eq_true d2.2.1
          by_cases z : c ≠ 48
          · rw [if_pos z] at h
            have e := Prod.mk.inj h
            refine ⟨(c - 48) * 10 + (c2 - 48), by omega, (Option.some.inj e.1).symm, ?_⟩
            unfold dgN
            rw [if_neg (by omega), show ((c - 48) * 10 + (c2 - 48)) / 10 = c - 48 by omega, show ((c - 48) * 10 + (c2 - 48)) % 10 = c2 - 48 by omega, show 48 + (c - 48) = c by omega, show 48 + (c2 - 48) = c2 by omega, d2.2.2, e.2]
            rfl
          · rw [if_neg z] at h
            simp at h
        · rw [if_neg d2] at h
          simp at h
theorem dg_head {n : Nat} (h : n < 100) : ∃ c t, dgN n = c :: t ∧ c ≠ 42 ∧ c ≠ 63 := by
  unfold dgN
  split
  · exact ⟨_, _, rfl, by omega, by omega⟩
  · exact ⟨_, _, rfl, by omega, by omega⟩
theorem rdN_dg {n : Nat} (h : n < 100) (r : List Nat) : ∀ c t, dgN n = c :: t → rdN 3 [] c (t ++ 46 :: r) = some (.is (n : Int), r) := by
  intro c t e
  unfold dgN at e
  have d46 : isD 46 = false := rfl
  by_cases q : n < 10
  · rw [if_pos q] at e
    cases e
    have d1 : isD (48 + n) = true := decide_eq_true (by omega)
    show rdN 3 [] (48 + n) (46 :: r) = _
    unfold rdN
    rw [if_pos d1]
    simp only
    unfold rdN
    rw [d46]
    simp only [Bool.false_eq_true, if_false]
    unfold fin
    rw [if_neg (by simp)]
    have : valW ([] ++ [48 + n]) = n := by simp [valW]
    rw [this]
  · rw [if_neg q] at e
    cases e
    have d1 : isD (48 + n / 10) = true := decide_eq_true (by omega)
    have d2 : isD (48 + n % 10) = true := decide_eq_true (by omega)
    show rdN 3 [] (48 + n / 10) ((48 + n % 10) :: 46 :: r) = _
    unfold rdN
    rw [if_pos d1]
    simp only
    unfold rdN
    rw [if_pos d2]
    simp only
    unfold rdN
    rw [d46]
    simp only [Bool.false_eq_true, if_false]
    unfold fin
    rw [if_neg (by simp)]
    have : valW ([] ++ [48 + n / 10] ++ [48 + n % 10]) = n := by simp [valW]; omega
    rw [this]
theorem Qp_some : ∀ (d : Nat) (l : List Nat) (p : Pl) (r : List Nat), Qp d l = (some p, r) → l = Wp p ++ r ∧ numOk p ∧ ht p ≤ d
  | d, [], p, r, h => by cases d <;> simp [Qp] at h
  | 0, c :: l, p, r, h => by
    unfold Qp at h
    by_cases e : c = 42
    · rw [if_pos e] at h
      cases h
      exact ⟨by rw [e]; rfl, trivial, Nat.le_refl _⟩
    · rw [if_neg e] at h
      obtain ⟨n, h1, rfl, h3⟩ := nmQ_some h
      refine ⟨by rw [h3]; show _ = (dgN n ++ [46]) ++ r; simp, ?_, Nat.le_refl _⟩
      show (0 : Int) ≤ (n : Int) ∧ (n : Int) ≤ 99
      omega
  | d + 1, c :: l, p, r, h => by
    unfold Qp at h
    by_cases e : c = 42
    · rw [if_pos e] at h
      cases h
      exact ⟨by rw [e]; rfl, trivial, Nat.zero_le _⟩
    · rw [if_neg e] at h
      by_cases e2 : c = 63
      · rw [if_pos e2] at h
        cases z : Qp d l with
        | mk o r1 =>
          rw [z] at h
          cases o with
          | none => simp at h
          | some a =>
            simp only at h
            cases z2 : Qp d r1 with
            | mk o2 r2 =>
              rw [z2] at h
              cases o2 with
              | none => simp at h
              | some b =>
                simp only [Prod.mk.injEq, Option.some.injEq] at h
                obtain ⟨rfl, rfl⟩ := h
                obtain ⟨a1, a2, a3⟩ := Qp_some d l a r1 z
                obtain ⟨b1, b2, b3⟩ := Qp_some d r1 b r2 z2
                refine ⟨?_, ⟨a2, b2⟩, ?_⟩
                · rw [e2, a1, b1]
                  show _ = 63 :: (Wp a ++ Wp b) ++ r2
                  simp
                · show max (ht a) (ht b) + 1 ≤ d + 1
                  omega
      · rw [if_neg e2] at h
        obtain ⟨n, h1, rfl, h3⟩ := nmQ_some h
        refine ⟨by rw [h3]; show _ = (dgN n ++ [46]) ++ r; simp, ?_, Nat.zero_le _⟩
        show (0 : Int) ≤ (n : Int) ∧ (n : Int) ≤ 99
        omega
theorem Qp_W : ∀ (p : Pl) (d : Nat) (r : List Nat), numOk p → ht p ≤ d → Qp d (Wp p ++ r) = (some p, r)
  | .again, d, r, _, _ => by
    show Qp d (42 :: r) = _
    cases d <;> (unfold Qp; rw [if_pos rfl])
  | .is n, d, r, ho, _ => by
    have ho' : (0 : Int) ≤ n ∧ n ≤ 99 := ho
    obtain ⟨m, rfl⟩ : ∃ m : Nat, n = m := ⟨n.toNat, by omega⟩
    obtain ⟨c, t, e, e1, e2⟩ := dg_head (n := m) (by omega)
    have q := nmQ_dg (n := m) (by omega) r
    have ew : Wp (.is (m : Int)) ++ r = c :: (t ++ 46 :: r) := by
      show (dgN (m : Int).toNat ++ [46]) ++ r = _
      rw [show ((m : Int).toNat) = m by omega, e]
      simp
    rw [e] at q
    rw [ew]
    cases d with
    | zero => unfold Qp; rw [if_neg e1]; exact q
    | succ d => unfold Qp; rw [if_neg e1, if_neg e2]; exact q
  | .ask a b, d, r, ho, hh => by
    have hh' : max (ht a) (ht b) + 1 ≤ d := hh
    obtain ⟨d, rfl⟩ : ∃ j, d = j + 1 := ⟨d - 1, by omega⟩
    have q1 := Qp_W a d (Wp b ++ r) ho.1 (by omega)
    have q2 := Qp_W b d r ho.2 (by omega)
    have ew : Wp (.ask a b) ++ r = 63 :: (Wp a ++ (Wp b ++ r)) := by
      show 63 :: (Wp a ++ Wp b) ++ r = _
      simp
    rw [ew]
    unfold Qp
    rw [if_neg (by decide), if_pos rfl, q1]
    simp only
    rw [q2]
theorem Pp_W : ∀ (p : Pl) (d : Nat) (r : List Nat), numOk p → ht p ≤ d → Pp d (Wp p ++ r) = some (p, r)
  | .again, d, r, _, _ => by
    show Pp d (42 :: r) = _
    cases d <;> (unfold Pp; rw [if_pos rfl])
  | .is n, d, r, ho, _ => by
    have ho' : (0 : Int) ≤ n ∧ n ≤ 99 := ho
    obtain ⟨m, rfl⟩ : ∃ m : Nat, n = m := ⟨n.toNat, by omega⟩
    obtain ⟨c, t, e, e1, e2⟩ := dg_head (n := m) (by omega)
    have q := rdN_dg (n := m) (by omega) r c t e
    have ew : Wp (.is (m : Int)) ++ r = c :: (t ++ 46 :: r) := by
      show (dgN (m : Int).toNat ++ [46]) ++ r = _
      rw [show ((m : Int).toNat) = m by omega, e]
      simp
    rw [ew]
    cases d with
    | zero => unfold Pp; rw [if_neg e1, if_neg e2]; exact q
    | succ d => unfold Pp; rw [if_neg e1, if_neg e2]; exact q
  | .ask a b, d, r, ho, hh => by
    have hh' : max (ht a) (ht b) + 1 ≤ d := hh
    obtain ⟨d, rfl⟩ : ∃ j, d = j + 1 := ⟨d - 1, by omega⟩
    have q1 := Pp_W a d (Wp b ++ r) ho.1 (by omega)
    have q2 := Pp_W b d r ho.2 (by omega)
    have ew : Wp (.ask a b) ++ r = 63 :: (Wp a ++ (Wp b ++ r)) := by
      show 63 :: (Wp a ++ Wp b) ++ r = _
      simp
    rw [ew]
    unfold Pp
    rw [if_neg (by decide), if_pos rfl, q1]
    simp only
    rw [q2]
/-- a number of up to three figures -/
theorem valW_ap (w : List Nat) (c : Nat) : valW (w ++ [c]) = valW w * 10 + (c - 48) := by unfold valW; rw [List.foldl_append]; rfl
theorem rdN_some : ∀ (k : Nat) (w : List Nat) (c : Nat) (r : List Nat) (p : Pl) (r1 : List Nat), rdN k w c r = some (p, r1) → valW w * 10 ^ k + 10 ^ k ≤ 1000 → ∃ n : Nat, p = .is (n : Int) ∧ n < 1000 ∧ r1.length ≤ r.length
  | 0, w, c, r, p, r1, h, hv => by
    unfold rdN fin at h
    split at h
    · cases h
    · cases h
      exact ⟨_, rfl, by rw [Nat.pow_zero] at hv; omega, Nat.le_refl _⟩
  | k + 1, w, c, r, p, r1, h, hv => by
    have hp : 0 < 10 ^ k := Nat.pow_pos (by decide)
    rw [Nat.pow_succ] at hv
    unfold rdN at h
    by_cases d : isD c = true
    · rw [if_pos d] at h
      have dc := of_decide_eq_true d
      match r, h with
      | c' :: r', h =>
        simp only at h
        obtain ⟨n, h1, h2, h3⟩ := rdN_some k (w ++ [c]) c' r' p r1 h (by
          rw [valW_ap]
          have m1 : (valW w * 10 + (c - 48)) * 10 ^ k ≤ (valW w * 10 + 9) * 10 ^ k := Nat.mul_le_mul_right _ (by omega)
          have m2 : (valW w * 10 + 9) * 10 ^ k = valW w * (10 ^ k * 10) + 9 * 10 ^ k := by rw [Nat.add_mul]; congr 1; ac_rfl
          omega)
        exact ⟨n, h1, h2, by simp; omega⟩
    · rw [if_neg d] at h
      unfold fin at h
      split at h
      · cases h
      · cases h
        refine ⟨_, rfl, ?_, Nat.le_refl _⟩
        have : valW w * 1 ≤ valW w * (10 ^ k * 10) := Nat.mul_le_mul_left _ (by omega)
        omega
def pos3 : Pl → Prop
  | .is n => 0 ≤ n ∧ n < 1000
  | .again => True
  | .ask a b => pos3 a ∧ pos3 b
theorem Pp_some : ∀ (d : Nat) (l : List Nat) (p : Pl) (r : List Nat), Pp d l = some (p, r) → ht p ≤ d ∧ pos3 p ∧ r.length < l.length
  | d, [], p, r, h => by cases d <;> simp [Pp] at h
  | 0, c :: l, p, r, h => by
    unfold Pp at h
    by_cases e : c = 42
    · rw [if_pos e] at h
      cases h
      exact ⟨Nat.le_refl _, trivial, by simp⟩
    · rw [if_neg e] at h
      by_cases e2 : c = 63
      · rw [if_pos e2] at h; cases h
      · rw [if_neg e2] at h
        obtain ⟨n, rfl, h2, h3⟩ := rdN_some 3 [] c l p r h (by simp [valW])
        exact ⟨Nat.le_refl _, ⟨by omega, by omega⟩, by simp; omega⟩
  | d + 1, c :: l, p, r, h => by
    unfold Pp at h
    by_cases e : c = 42
    · rw [if_pos e] at h
      cases h
      exact ⟨Nat.zero_le _, trivial, by simp⟩
    · rw [if_neg e] at h
      by_cases e2 : c = 63
      · rw [if_pos e2] at h
        cases z : Pp d l with
        | none => rw [z] at h; cases h
        | some q =>
          obtain ⟨a, r1⟩ := q
          rw [z] at h
          simp only at h
          cases z2 : Pp d r1 with
          | none => rw [z2] at h; cases h
          | some q2 =>
            obtain ⟨b, r2⟩ := q2
            rw [z2] at h
            cases h
            obtain ⟨a1, a2, a3⟩ := Pp_some d l a r1 z
            obtain ⟨b1, b2, b3⟩ := Pp_some d r1 b r z2
            exact ⟨by show max (ht a) (ht b) + 1 ≤ d + 1; omega, ⟨a2, b2⟩, by simp; omega⟩
      · rw [if_neg e2] at h
        obtain ⟨n, rfl, h2, h3⟩ := rdN_some 3 [] c l p r h (by simp [valW])
        exact ⟨Nat.zero_le _, ⟨by omega, by omega⟩, by simp; omega⟩
def nOkB : Pl → Bool
  | .is n => decide (0 ≤ n ∧ n ≤ 99)
  | .again => true
  | .ask a b => nOkB a && nOkB b
theorem nOkB_iff : ∀ p : Pl, nOkB p = true ↔ numOk p
  | .is n => by show decide _ = true ↔ _; rw [decide_eq_true_iff]; exact Iff.rfl
  | .again => ⟨fun _ => trivial, fun _ => rfl⟩
  | .ask a b => by
    show (nOkB a && nOkB b) = true ↔ (numOk a ∧ numOk b)
    rw [Bool.and_eq_true, nOkB_iff a, nOkB_iff b]
def toldF (T : List Nat) : Option Pl := match Pp 12 T with
  | some (p, r) => if r = [] ∧ nOkB p = true ∧ Wp p = T then some p else none
  | none => none
def dueF (T : List Nat) : Option Pl := if (Qp 12 T).2 = [] then (Qp 12 T).1 else none
theorem told_due (T : List Nat) : toldF T = dueF T := by
  cases hd : dueF T with
  | some p =>
    unfold dueF at hd
    split at hd
    · rename_i hr
      obtain ⟨h1, h2, h3⟩ := Qp_some 12 T p [] (by rw [← hd, ← hr])
      have w := Pp_W p 12 [] h2 h3
      rw [← h1] at w
      unfold toldF
      rw [w]
      simp only
      rw [if_pos ⟨trivial, (nOkB_iff p).mpr h2, by rw [h1]; simp⟩]
    · cases hd
  | none =>
    cases ht : toldF T with
    | none => rfl
    | some p =>
      unfold toldF at ht
      cases z : Pp 12 T with
      | none => rw [z] at ht; cases ht
      | some q =>
        obtain ⟨p', r⟩ := q
        rw [z] at ht
        simp only at ht
        split at ht
        · rename_i hc
          cases ht
          obtain ⟨h1, _, _⟩ := Pp_some 12 T p r z
          have w := Qp_W p 12 [] ((nOkB_iff p).mp hc.2.1) h1
          rw [List.append_nil, hc.2.2] at w
          unfold dueF at hd
          rw [w, if_pos rfl] at hd
          cases hd
        · cases ht
theorem told_W {p : Pl} (h : numOk p) (hh : ht p ≤ 12) : toldF (Wp p) = some p := by
  have w := Pp_W p 12 [] h hh
  rw [List.append_nil] at w
  unfold toldF
  rw [w]
  simp only
  rw [if_pos ⟨trivial, (nOkB_iff p).mpr h, trivial⟩]

/-! ### k38: texts as the machine has them -/
theorem c_star : ("*" : Str) = tx [42] := by decide +kernel
theorem c_ask : ("?" : Str) = tx [63] := by decide +kernel
theorem c_dot : ("." : Str) = tx [46] := by decide +kernel
theorem c_no : ("" : Str) = tx [] := by decide +kernel
theorem c_0 : ("0" : Str) = tx [48] := by decide +kernel
theorem tx_inj {l m : List Nat} : (tx l = tx m) = (l = m) := by simp
theorem tx_len (l : List Nat) : (tx l).length = l.length := by simp [Str.length]
theorem tx_cps (l : List Nat) : (tx l).cps.toList = l := rfl
theorem tx_app (l m : List Nat) : tx l ++ tx m = tx (l ++ m) := by
  show (⟨l.toArray ++ m.toArray⟩ : Str) = _
  simp
theorem tcut_take (l : List Nat) (k : Nat) : cutS (tx l) none (some (k : Int)) = tx (l.take k) := by
  unfold cutS
  rw [HT.sIx_nat, HT.sIx_none, Nat.sub_zero, List.drop_zero, tx_cps, tx_len]
  by_cases c : k ≤ l.length
  · rw [Nat.min_eq_left c]
  · rw [Nat.min_eq_right (by omega), List.take_of_length_le (Nat.le_refl _), List.take_of_length_le (by omega)]
theorem tcut_drop (l : List Nat) (k : Nat) : cutS (tx l) (some (k : Int)) none = tx (l.drop k) := by
  unfold cutS
  rw [HT.sIx_nat, HT.sIx_none, tx_cps, tx_len]
  by_cases c : k ≤ l.length
  · rw [Nat.min_eq_left c, List.take_of_length_le (by rw [List.length_drop]; omega)]
  · rw [Nat.min_eq_right (by omega), Nat.sub_self, List.take_zero, List.drop_of_length_le (by omega)]
theorem tcut_one (l : List Nat) (k : Nat) : cutS (tx l) (some (k : Int)) (some ((k + 1 : Nat) : Int)) = tx ((l.drop k).take 1) := by
  unfold cutS
  rw [HT.sIx_nat, HT.sIx_nat, tx_cps, tx_len]
  by_cases c : k + 1 ≤ l.length
  · rw [Nat.min_eq_left c, Nat.min_eq_left (by omega), show k + 1 - k = 1 by omega]
  · rw [Nat.min_eq_right (by omega), List.drop_of_length_le (show l.length ≤ k by omega)]
    by_cases d : k = l.length
    · rw [Nat.min_eq_left (by omega), d, List.drop_of_length_le (Nat.le_refl _), Nat.sub_self]; rfl
    · rw [Nat.min_eq_right (by omega), Nat.sub_self]; simp
theorem sl_take {s : Sto} {l : List Nat} {k : Nat} (h : l.length ≤ 1000000) : opSl s (.str (tx l)) none (some (k : Int)) = some (.str (tx (l.take k))) := by
  show (if (tx l).length ≤ LIM then some (D.str (cutS (tx l) none (some (k : Int)))) else none) = _
  rw [if_pos (by rw [tx_len]; exact h), tcut_take]
theorem sl_drop {s : Sto} {l : List Nat} {k : Nat} (h : l.length ≤ 1000000) : opSl s (.str (tx l)) (some (k : Int)) none = some (.str (tx (l.drop k))) := by
  show (if (tx l).length ≤ LIM then some (D.str (cutS (tx l) (some (k : Int)) none)) else none) = _
  rw [if_pos (by rw [tx_len]; exact h), tcut_drop]
theorem sl_one {s : Sto} {l : List Nat} {k : Nat} (h : l.length ≤ 1000000) : opSl s (.str (tx l)) (some (k : Int)) (some ((k : Int) + 1)) = some (.str (tx ((l.drop k).take 1))) := by
  show (if (tx l).length ≤ LIM then some (D.str (cutS (tx l) (some (k : Int)) (some ((k : Int) + 1)))) else none) = _
  rw [if_pos (by rw [tx_len]; exact h), show (k : Int) + 1 = ((k + 1 : Nat) : Int) by omega, tcut_one]
theorem in_D (c : Nat) (s : Sto) : opIn s (.str (tx [c])) (.str "0123456789") = some (.bl (isD c)) := by
  show some (D.bl (!(Builtin.Str.occurrences ("0123456789" : Str) ⟨#[c]⟩ 0 ("0123456789" : Str).length 1).isEmpty)) = _
  rw [PySem.StrLaws.found_one]
  have e : ("0123456789" : Str).cps.toList = [48, 49, 50, 51, 52, 53, 54, 55, 56, 57] := by decide +kernel
  rw [e]
  congr 2
  unfold isD
  rw [decide_eq_decide]
  simp
  omega
theorem it1 : ∀ a : Fin 10, PySem.intText? (tx [48 + a.val]) = some (a.val : Int) := by decide +kernel
theorem it2 : ∀ a b : Fin 10, PySem.intText? (tx [48 + a.val, 48 + b.val]) = some ((a.val * 10 + b.val : Nat) : Int) := by decide +kernel
theorem it3 : ∀ a b c : Fin 10, PySem.intText? (tx [48 + a.val, 48 + b.val, 48 + c.val]) = some (((a.val * 10 + b.val) * 10 + c.val : Nat) : Int) := by decide +kernel
theorem isD_fin {c : Nat} (h : isD c = true) : ∃ a : Fin 10, c = 48 + a.val := by
  have := of_decide_eq_true h
  exact ⟨⟨c - 48, by omega⟩, by simp only; omega⟩
theorem int_W {w : List Nat} (hd : ∀ c ∈ w, isD c = true) (h0 : w ≠ []) (h3 : w.length ≤ 3) (s : Sto) : fIntS s [.str (tx w)] = some (.int (valW w : Int)) := by
  have go : ∀ n : Int, PySem.intText? (tx w) = some n → fIntS s [.str (tx w)] = some (.int n) := fun n h => by
    show (match PySem.intText? (tx w) with | some n => if (tx w).length ≤ 640 then some (D.int n) else none | none => none) = _
    rw [h]
    simp only
    rw [if_pos (by rw [tx_len]; omega)]
  match w, hd, h0, h3 with
  | [a], hd, _, _ =>
    obtain ⟨x, rfl⟩ := isD_fin (hd a (by simp))
    have : valW [48 + x.val] = x.val := by simp [valW]
    rw [go _ (it1 x), this]
  | [a, b], hd, _, _ =>
    obtain ⟨x, rfl⟩ := isD_fin (hd a (by simp))
    obtain ⟨y, rfl⟩ := isD_fin (hd b (by simp))
    have : valW [48 + x.val, 48 + y.val] = x.val * 10 + y.val := by simp [valW]
    rw [go _ (it2 x y), this]
  | [a, b, c], hd, _, _ =>
    obtain ⟨x, rfl⟩ := isD_fin (hd a (by simp))
    obtain ⟨y, rfl⟩ := isD_fin (hd b (by simp))
    obtain ⟨z, rfl⟩ := isD_fin (hd c (by simp))
    have : valW [48 + x.val, 48 + y.val, 48 + z.val] = (x.val * 10 + y.val) * 10 + z.val := by simp [valW]
    rw [go _ (it3 x y z), this]
  | [], _, h0, _ => exact absurd rfl h0
  | _ :: _ :: _ :: _ :: _, _, _, h3 => simp at h3
theorem str_dg : ∀ n : Fin 100, ((toString ((n.val : Nat) : Int) : String) : Str) = tx (dgN n.val) := by decide +kernel
theorem fStr_dg {n : Nat} (h : n < 100) (s : Sto) : fStr s [.int (n : Int)] = some (.str (tx (dgN n))) := by
  have e := str_dg ⟨n, h⟩
  have hl : (n : Int).natAbs.log2 < 1920 := by
    have : (n : Int).natAbs = n := by omega
    rw [this]
    exact Nat.lt_of_le_of_lt (Nat.log2_le_self n) (by omega)
  show (if (n : Int).natAbs.log2 < 1920 then some (D.str (toString (n : Int) : String)) else none) = _
  rw [if_pos hl, e]
theorem tapp {s : Sto} {l m : List Nat} (h : l.length + m.length ≤ 1000000) : opAdd s (.str (tx l)) (.str (tx m)) = some (.str (tx (l ++ m))) := by
  show (if (tx l).length + (tx m).length ≤ LIM then some (D.str (tx l ++ tx m)) else none) = _
  rw [if_pos (by rw [tx_len, tx_len]; exact h), tx_app]
theorem dg_len (n : Nat) : (dgN n).length ≤ 2 := by unfold dgN; split <;> simp
theorem Wp_len : ∀ p : Pl, (Wp p).length + 1 ≤ 4 * 2 ^ ht p
  | .is n => by
    show (dgN n.toNat ++ [46]).length + 1 ≤ 4 * 2 ^ 0
    have := dg_len n.toNat
    rw [List.length_append]
    simp
    omega
  | .again => by show 1 + 1 ≤ 4 * 2 ^ 0; decide
  | .ask a b => by
    have h1 := Wp_len a
    have h2 := Wp_len b
    have e1 : 2 ^ ht a ≤ 2 ^ max (ht a) (ht b) := Nat.pow_le_pow_right (by decide) (by omega)
    have e2 : 2 ^ ht b ≤ 2 ^ max (ht a) (ht b) := Nat.pow_le_pow_right (by decide) (by omega)
    show (63 :: (Wp a ++ Wp b)).length + 1 ≤ 4 * 2 ^ (max (ht a) (ht b) + 1)
    rw [Nat.pow_succ, List.length_cons, List.length_append]
    omega
theorem Wp_bd {p : Pl} (h : ht p ≤ 14) : (Wp p).length ≤ 70000 := by
  have := Wp_len p
  have e : 2 ^ ht p ≤ 2 ^ 14 := Nat.pow_le_pow_right (by decide) h
  have : 2 ^ 14 = 16384 := by decide
  omega
theorem dgN_W {n : Int} (h : 0 ≤ n ∧ n ≤ 99) : ∃ m : Nat, n = m ∧ m < 100 ∧ Wp (.is n) = dgN m ++ [46] := ⟨n.toNat, by omega, by omega, rfl⟩
theorem written_v : ∀ (p : Pl) (f : Nat) (s : Sto), numOk p → ht p ≤ 14 → ht p < f → written_S f [dP p] s = .ok (.str (tx (Wp p))) s
  | .is n, f + 1, s, hn, _, _ => by
    obtain ⟨m, rfl, hm, hw⟩ := dgN_W hn
    have fs := fun s => fStr_dg hm s
    have ap : ∀ s, opAdd s (.str (tx (dgN m))) (.str ".") = some (.str (tx (dgN m ++ [46]))) := fun s => by rw [c_dot]; exact tapp (by have := dg_len m; simp; omega)
    unfold written_S
    rw [fnOf_1, hw]
    generalize tx (dgN m ++ [46]) = T1 at *
    generalize tx (dgN m) = T2 at *
    simp -implicitDefEqProofs [dP, jx0, jx1, fs, ap]
  | .again, f + 1, s, _, _, _ => by
    have ea : ∀ s : Sto, opEq s (.tup [.str "again"]) (.tup [.str "again"]) = some (.bl true) := fun s => by kernel_rfl
    unfold written_S
    rw [fnOf_1]
    show _ = R.ok (D.str (tx [42])) s
    rw [← c_star]
    simp -implicitDefEqProofs [dP, jx0, t1', ea]
  | .ask a b, f + 1, s, hn, h14, hf => by
    have hh : max (ht a) (ht b) + 1 < f + 1 := hf
    have hh2 : max (ht a) (ht b) + 1 ≤ 14 := h14
    have w1 := fun s => written_v a f s hn.1 (by omega) (by omega)
    have w2 := fun s => written_v b f s hn.2 (by omega) (by omega)
    have ea : ∀ s, opEq s (.tup [.str "ask", dP a, dP b]) (.tup [.str "again"]) = some (.bl false) := fun s => opEq_ask (by omega)
    have la := Wp_bd (p := a) (by omega)
    have lb := Wp_bd (p := b) (by omega)
    have a1 : ∀ s, opAdd s (.str "?") (.str (tx (Wp a))) = some (.str (tx ([63] ++ Wp a))) := fun s => by rw [c_ask]; exact tapp (by simp; omega)
    have a2 : ∀ s, opAdd s (.str (tx ([63] ++ Wp a))) (.str (tx (Wp b))) = some (.str (tx (([63] ++ Wp a) ++ Wp b))) := fun s => tapp (by simp; omega)
    have e : Wp (.ask a b) = ([63] ++ Wp a) ++ Wp b := by show 63 :: (Wp a ++ Wp b) = _; simp
    unfold written_S
    rw [fnOf_1, e]
    generalize tx (([63] ++ Wp a) ++ Wp b) = T3 at *
    generalize tx ([63] ++ Wp a) = T1 at *
    generalize tx (Wp a) = TA at *
    generalize tx (Wp b) = TB at *
    show kFnOf _ = _
    have ed : dP (.ask a b) = .tup [.str "ask", dP a, dP b] := rfl
    rw [ed]
    generalize dP a = DA at *
    generalize dP b = DB at *
    simp -implicitDefEqProofs [jx0, jx1, jx2, t2', ea, w1, w2, a1, a2]
theorem say_v : ∀ (p : Pl) (f : Nat) (s : Sto), numOk p → ht p ≤ 14 → ht p < f → law_say_S f [dP p] s = .ok (.str (tx (Wp p))) s
  | .is n, f + 1, s, hn, _, _ => by
    obtain ⟨m, rfl, hm, hw⟩ := dgN_W hn
    have fs := fun s => fStr_dg hm s
    have ap : ∀ s, opAdd s (.str (tx (dgN m))) (.str ".") = some (.str (tx (dgN m ++ [46]))) := fun s => by rw [c_dot]; exact tapp (by have := dg_len m; simp; omega)
    unfold law_say_S
    rw [fnOf_1, hw]
    generalize tx (dgN m ++ [46]) = T1 at *
    generalize tx (dgN m) = T2 at *
    simp -implicitDefEqProofs [dP, jx0, jx1, fs, ap]
  | .again, f + 1, s, _, _, _ => by
    unfold law_say_S
    rw [fnOf_1]
    show _ = R.ok (D.str (tx [42])) s
    rw [← c_star]
    simp -implicitDefEqProofs [dP, jx0, t1']
  | .ask a b, f + 1, s, hn, h14, hf => by
    have hh : max (ht a) (ht b) + 1 < f + 1 := hf
    have hh2 : max (ht a) (ht b) + 1 ≤ 14 := h14
    have w1 := fun s => say_v a f s hn.1 (by omega) (by omega)
    have w2 := fun s => say_v b f s hn.2 (by omega) (by omega)
    have la := Wp_bd (p := a) (by omega)
    have lb := Wp_bd (p := b) (by omega)
    have a1 : ∀ s, opAdd s (.str "?") (.str (tx (Wp a))) = some (.str (tx ([63] ++ Wp a))) := fun s => by rw [c_ask]; exact tapp (by simp; omega)
    have a2 : ∀ s, opAdd s (.str (tx ([63] ++ Wp a))) (.str (tx (Wp b))) = some (.str (tx (([63] ++ Wp a) ++ Wp b))) := fun s => tapp (by simp; omega)
    have e : Wp (.ask a b) = ([63] ++ Wp a) ++ Wp b := by show 63 :: (Wp a ++ Wp b) = _; simp
    unfold law_say_S
    rw [fnOf_1, e]
    generalize tx (([63] ++ Wp a) ++ Wp b) = T3 at *
    generalize tx ([63] ++ Wp a) = T1 at *
    generalize tx (Wp a) = TA at *
    generalize tx (Wp b) = TB at *
    have ed : dP (.ask a b) = .tup [.str "ask", dP a, dP b] := rfl
    rw [ed]
    generalize dP a = DA at *
    generalize dP b = DB at *
    simp -implicitDefEqProofs [jx0, jx1, jx2, t2', t3', w1, w2, a1, a2]
theorem any_plan_g : ∀ (p : Pl) (m k : Nat) (s : Sto), pos3 p → ht p ≤ k → k < m → is_any_plan_S m [dP p, .int (k : Int)] s = .ok (.bl (nOkB p)) s
  | _, 0, k, s, _, _, h => by omega
  | .is n, m + 1, k, s, hn, hk, hm => by
    have h1 : 0 ≤ n := hn.1
    unfold is_any_plan_S
    rw [fnOf_2]
    by_cases h2 : n ≤ 99
    · have e : nOkB (.is n) = true := decide_eq_true ⟨h1, h2⟩
      rw [e]
      simp [dP, jx0, jx1, h1, h2]
    · have e : nOkB (.is n) = false := decide_eq_false (fun z => h2 z.2)
      rw [e]
      simp [dP, jx0, jx1, h1, h2]
  | .again, m + 1, k, s, hn, hk, hm => by
    unfold is_any_plan_S
    rw [fnOf_2]
    have e : nOkB .again = true := rfl
    rw [e]
    simp [dP, jx0, t1']
  | .ask a b, m + 1, k, s, hn, hk, hm => by
    have hk2 : max (ht a) (ht b) + 1 ≤ k := hk
    have e1 := any_plan_g a m (k - 1) s hn.1 (by omega) (by omega)
    have e2 := any_plan_g b m (k - 1) s hn.2 (by omega) (by omega)
    have hi0 : ¬ k = 0 := by omega
    have hi : ((k - 1 : Nat) : Int) = (k : Int) - 1 := by omega
    rw [hi] at e1 e2
    have e : nOkB (.ask a b) = (nOkB a && nOkB b) := rfl
    unfold is_any_plan_S
    rw [fnOf_2, e]
    cases ha : nOkB a with
    | true =>
      rw [ha] at e1
      simp [dP, jx0, jx1, jx2, t2', t3', hi0, e1, e2]
    | false =>
      rw [ha] at e1
      simp [dP, jx0, jx1, jx2, t2', t3', hi0, e1]
theorem is_plan_g {p : Pl} (s : Sto) (hp : pos3 p) (h : ht p ≤ 12) : is_plan_S [dP p] s = .ok (.bl (nOkB p)) s := by
  have e := any_plan_g p 20 12 s hp h (by decide)
  unfold is_plan_S
  rw [fnOf_1]
  rw [show ((12 : Nat) : Int) = 12 from rfl] at e
  generalize dP p = DP at *
  simp -implicitDefEqProofs [e]

/-! ### k38: the reader -/
def rO (T : List Nat) (k : Nat) : Ob := .ins 1 [.str (tx T), .int (k : Int)]
theorem rdN_suf : ∀ (k : Nat) (w : List Nat) (c : Nat) (r : List Nat) (p : Pl) (r1 : List Nat), rdN k w c r = some (p, r1) → ∃ t, r = t ++ r1
  | 0, w, c, r, p, r1, h => by
    unfold rdN fin at h
    split at h
    · cases h
    · cases h; exact ⟨[], rfl⟩
  | k + 1, w, c, r, p, r1, h => by
    unfold rdN at h
    by_cases d : isD c = true
    · rw [if_pos d] at h
      match r, h with
      | c' :: r', h =>
        obtain ⟨t, e⟩ := rdN_suf k (w ++ [c]) c' r' p r1 h
        exact ⟨c' :: t, by rw [e]; rfl⟩
    · rw [if_neg d] at h
      unfold fin at h
      split at h
      · cases h
      · cases h; exact ⟨[], rfl⟩
theorem Pp_suf : ∀ (d : Nat) (l : List Nat) (p : Pl) (r : List Nat), Pp d l = some (p, r) → ∃ t, l = t ++ r
  | d, [], p, r, h => by cases d <;> simp [Pp] at h
  | 0, c :: l, p, r, h => by
    unfold Pp at h
    by_cases e : c = 42
    · rw [if_pos e] at h
      cases h
      exact ⟨[c], rfl⟩
    · rw [if_neg e] at h
      by_cases e2 : c = 63
      · rw [if_pos e2] at h; cases h
      · rw [if_neg e2] at h
        obtain ⟨t, e⟩ := rdN_suf 3 [] c l p r h
        exact ⟨c :: t, by rw [e]; rfl⟩
  | d + 1, c :: l, p, r, h => by
    unfold Pp at h
    by_cases e : c = 42
    · rw [if_pos e] at h
      cases h
      exact ⟨[c], rfl⟩
    · rw [if_neg e] at h
      by_cases e2 : c = 63
      · rw [if_pos e2] at h
        cases z : Pp d l with
        | none => rw [z] at h; cases h
        | some q =>
          obtain ⟨a, r1⟩ := q
          rw [z] at h
          simp only at h
          cases z2 : Pp d r1 with
          | none => rw [z2] at h; cases h
          | some q2 =>
            obtain ⟨b, r2⟩ := q2
            rw [z2] at h
            cases h
            obtain ⟨t1, e1⟩ := Pp_suf d l a r1 z
            obtain ⟨t2, e2⟩ := Pp_suf d r1 b r z2
            exact ⟨c :: (t1 ++ t2), by rw [e1, e2]; simp⟩
      · rw [if_neg e2] at h
        obtain ⟨t, e⟩ := rdN_suf 3 [] c l p r h
        exact ⟨c :: t, by rw [e]; rfl⟩
theorem suf_at {T t r : List Nat} {k : Nat} (hk : k ≤ T.length) (h : T.drop k = t ++ r) : T.drop (T.length - r.length) = r ∧ T.length - r.length ≤ T.length := by
  have hl := congrArg List.length h
  rw [List.length_drop, List.length_append] at hl
  refine ⟨?_, Nat.sub_le _ _⟩
  rw [show T.length - r.length = k + t.length by omega, ← List.drop_drop, h, List.drop_left]
section
variable {T : List Nat} {n : Nat}
theorem sign_v {s : Sto} {k c : Nat} {r : List Nat} (h : s[n]? = some (rO T k)) (hl : T.length ≤ 200000) (hd : T.drop k = c :: r) : Reader_sign_S [.ref n] s = .ok (.str (tx [c])) (s.set n (rO T (k + 1))) := by
  have f0 : fldO s 1 0 (.ref n) = some (.str (tx T)) := fldO_ref h rfl
  have f1 : fldO s 1 1 (.ref n) = some (.int (k : Int)) := fldO_ref h rfl
  have sl := fun s => sl_one (s := s) (l := T) (k := k) (by omega)
  rw [hd] at sl
  have e1 : (c :: r).take 1 = [c] := rfl
  rw [e1] at sl
  have ne : (tx [c] = ("" : Str)) = False := by rw [c_no, tx_inj]; simp
  have p1 := putO_ref (d := .int ((k : Int) + 1)) h (j := 1) (by simp)
  have p1' : putO s 1 1 (.ref n) (.int ((k : Int) + 1)) = some (s.set n (rO T (k + 1))) := by
    rw [p1]
    show some (s.set n (.ins 1 [.str (tx T), .int ((k : Int) + 1)])) = _
    rw [show (k : Int) + 1 = ((k + 1 : Nat) : Int) by omega]
    rfl
  unfold Reader_sign_S
  rw [fnOf_1]
  generalize tx [c] = TC at *
  generalize tx T = TT at *
  simp -implicitDefEqProofs [f0, f1, sl, ne, p1']
theorem sign_no {s : Sto} {k : Nat} (h : s[n]? = some (rO T k)) (hl : T.length ≤ 200000) (hd : T.drop k = []) : Reader_sign_S [.ref n] s = .ex 0 s := by
  have f0 : fldO s 1 0 (.ref n) = some (.str (tx T)) := fldO_ref h rfl
  have f1 : fldO s 1 1 (.ref n) = some (.int (k : Int)) := fldO_ref h rfl
  have sl := fun s => sl_one (s := s) (l := T) (k := k) (by omega)
  rw [hd] at sl
  have e1 : ([] : List Nat).take 1 = [] := rfl
  rw [e1, ← c_no] at sl
  unfold Reader_sign_S
  rw [fnOf_1]
  generalize tx T = TT at *
  simp -implicitDefEqProofs [f0, f1, sl]
theorem dropC {T : List Nat} {k c : Nat} {r : List Nat} (h : T.drop k = c :: r) : T.drop (k + 1) = r ∧ k < T.length := by
  have hk : k < T.length := Nat.lt_of_not_le fun z => by rw [List.drop_of_length_le z] at h; cases h
  refine ⟨?_, hk⟩
  have := congrArg List.tail h
  rw [List.tail_drop] at this
  exact this
/-- the word of a number -/
theorem word_v (hl : T.length ≤ 200000) (e1 e4 : Option D) (m : Nat) : ∀ (kk : Nat) (w : List Nat) (c : Nat) (r : List Nat) (k fuel : Nat) (s : Sto), T.drop k = r → k ≤ T.length → s[n]? = some (rO T k) → w.length + kk = 3 → (∀ x ∈ w, isD x = true) → kk < fuel →
    (rdN kk w c r = none ∧ ∃ env k', sWhile (Reader_plan_t1 m) (Reader_plan_b1 m) fuel [some (.ref n), e1, some (.str (tx [c])), some (.str (tx w)), e4] s = .ex 0 env (s.set n (rO T k'))) ∨
    ∃ w' c' r' k', rdN kk w c r = fin w' c' r' ∧ T.drop k' = r' ∧ k' ≤ T.length ∧ (∀ x ∈ w', isD x = true) ∧ w'.length ≤ 3 ∧
      sWhile (Reader_plan_t1 m) (Reader_plan_b1 m) fuel [some (.ref n), e1, some (.str (tx [c])), some (.str (tx w)), e4] s = .nx [some (.ref n), e1, some (.str (tx [c'])), some (.str (tx w')), e4] (s.set n (rO T k'))
  | kk, w, c, r, k, fuel + 1, s, hd, hk, hs, hw, hD, hf => by
    have sid : s.set n (rO T k) = s := by
      obtain ⟨h1, h2⟩ := List.getElem?_eq_some_iff.mp hs
      rw [← h2]; simp
    have inD := fun s => in_D c s
    have fl : ∀ s, fLen s [.str (tx w)] = some (.int (w.length : Int)) := fun s => by
      show (if (tx w).length ≤ LIM then some (D.int ((tx w).length : Int)) else none) = _
      rw [if_pos (by rw [tx_len]; have : (LIM : Nat) = 1000000 := rfl; omega), tx_len]
    by_cases d : isD c = true
    · cases kk with
      | zero =>
        refine .inr ⟨w, c, r, k, rfl, hd, hk, hD, by omega, ?_⟩
        rw [sid]
        refine while_f (s1 := s) ?_
        have c3 : ¬ (w.length : Int) < 3 := by omega
        have c3' : ¬ w.length < 3 := by omega
        rw [d] at inD
        generalize tx w = TW at *
        generalize tx [c] = TC at *
        generalize (w.length : Int) = WL at *
        simp -implicitDefEqProofs [Reader_plan_t1, inD, fl, c3, LIM]
      | succ kk =>
        have c3 : (w.length : Int) < 3 := by omega
        have tt : Reader_plan_t1 m [some (.ref n), e1, some (.str (tx [c])), some (.str (tx w)), e4] s = .ok true s := by
          rw [d] at inD
          generalize tx w = TW at *
          generalize tx [c] = TC at *
          generalize (w.length : Int) = WL at *
          simp -implicitDefEqProofs [Reader_plan_t1, inD, fl, c3, LIM]
        have ap := fun s => tapp (s := s) (l := w) (m := [c]) (by simp; omega)
        have q := insQ_ref hs
        cases r with
        | nil =>
          have sn := sign_no hs hl hd
          refine .inl ⟨by unfold rdN; rw [if_pos d], ?_⟩
          refine ⟨[some (.ref n), e1, some (.str (tx [c])), some (.str (tx (w ++ [c]))), e4], k, ?_⟩
          rw [sid]
          rw [sWhile_s, tt]
          generalize tx (w ++ [c]) = TWC at *
          generalize tx w = TW at *
          generalize tx [c] = TC at *
          simp -implicitDefEqProofs [Reader_plan_b1, ap, q, sn]
        | cons c' r' =>
          obtain ⟨hd2, hk2⟩ := dropC hd
          have sv := sign_v hs hl hd
          have hs2 : (s.set n (rO T (k + 1)))[n]? = some (rO T (k + 1)) := List.getElem?_set_self (List.getElem?_eq_some_iff.mp hs).1
          have hb : Reader_plan_b1 m [some (.ref n), e1, some (.str (tx [c])), some (.str (tx w)), e4] s = .nx [some (.ref n), e1, some (.str (tx [c'])), some (.str (tx (w ++ [c]))), e4] (s.set n (rO T (k + 1))) := by
            generalize tx (w ++ [c]) = TWC at *
            generalize tx w = TW at *
            generalize tx [c] = TC at *
            generalize tx [c'] = TC' at *
            simp -implicitDefEqProofs [Reader_plan_b1, ap, q, sv]
          have er : rdN (kk + 1) w c (c' :: r') = rdN kk (w ++ [c]) c' r' := by
            show (if isD c then rdN kk (w ++ [c]) c' r' else fin w c (c' :: r')) = _
            rw [if_pos d]
          have hD2 : ∀ x ∈ w ++ [c], isD x = true := fun x hx => by
            rcases List.mem_append.mp hx with hx | hx
            · exact hD x hx
            · rw [List.mem_singleton.mp hx]; exact d
          rcases word_v hl e1 e4 m kk (w ++ [c]) c' r' (k + 1) fuel (s.set n (rO T (k + 1))) hd2 (by omega) hs2 (by simp; omega) hD2 (by omega) with ⟨h1, env, k', h2⟩ | ⟨w', c2, r2, k', h1, h2, h3, h4, h5, h6⟩
          · refine .inl ⟨by rw [er]; exact h1, env, k', ?_⟩
            rw [List.set_set] at h2
            exact while_t tt hb h2
          · refine .inr ⟨w', c2, r2, k', by rw [er]; exact h1, h2, h3, h4, h5, ?_⟩
            rw [List.set_set] at h6
            exact while_t tt hb h6
    · refine .inr ⟨w, c, r, k, ?_, hd, hk, hD, by omega, ?_⟩
      · cases kk with
        | zero => rfl
        | succ kk => unfold rdN; rw [if_neg d]
      rw [sid]
      refine while_f (s1 := s) ?_
      have d' : isD c = false := by cases z : isD c with | true => exact absurd z d | false => rfl
      rw [d'] at inD
      generalize tx w = TW at *
      generalize tx [c] = TC at *
      simp -implicitDefEqProofs [Reader_plan_t1, inD]
theorem plan_v (hl : T.length ≤ 200000) : ∀ (d f : Nat) (k : Nat) (s : Sto), d < f → s[n]? = some (rO T k) → k ≤ T.length →
    (Pp d (T.drop k) = none ∧ ∃ k', Reader_plan_S f [.ref n, .int (d : Int)] s = .ex 0 (s.set n (rO T k'))) ∨
    ∃ p r, Pp d (T.drop k) = some (p, r) ∧ Reader_plan_S f [.ref n, .int (d : Int)] s = .ok (dP p) (s.set n (rO T (T.length - r.length)))
  | d, f + 1, k, s, hf, hs, hk => by
    have sid : s.set n (rO T k) = s := by
      obtain ⟨h1, h2⟩ := List.getElem?_eq_some_iff.mp hs
      rw [← h2]; simp
    have q := insQ_ref hs
    cases hd : T.drop k with
    | nil =>
      have sn := sign_no hs hl hd
      refine .inl ⟨by cases d <;> rfl, k, ?_⟩
      rw [sid]
      unfold Reader_plan_S
      rw [fnOf_2]
      simp -implicitDefEqProofs [q, sn]
    | cons c r =>
      have sv := sign_v hs hl hd
      obtain ⟨hd2, hk2⟩ := dropC hd
      have hnl := (List.getElem?_eq_some_iff.mp hs).1
      have hs2 : (s.set n (rO T (k + 1)))[n]? = some (rO T (k + 1)) := List.getElem?_set_self hnl
      have hrl : T.length - r.length = k + 1 := by
        have := congrArg List.length hd2
        rw [List.length_drop] at this
        omega
      by_cases c1 : c = 42
      · refine .inr ⟨.again, r, by cases d <;> (unfold Pp; rw [if_pos c1]), ?_⟩
        rw [hrl]
        rw [c1, ← c_star] at sv
        unfold Reader_plan_S
        rw [fnOf_2]
        generalize s.set n (rO T (k + 1)) = S1 at *
        simp -implicitDefEqProofs [q, sv, dP]
      · have n1 : (tx [c] = ("*" : Str)) = False := by rw [c_star, tx_inj]; simp [c1]
        by_cases c2 : c = 63
        · have e2 : tx [c] = ("?" : Str) := by rw [c2, c_ask]
          rw [e2] at sv n1
          cases d with
          | zero =>
            refine .inl ⟨by unfold Pp; rw [if_neg c1, if_pos c2], k + 1, ?_⟩
            unfold Reader_plan_S
            rw [fnOf_2]
            generalize s.set n (rO T (k + 1)) = S1 at *
            simp -implicitDefEqProofs [q, sv, n1]
          | succ d =>
            have eP : Pp (d + 1) (c :: r) = (match Pp d r with
                | none => none
                | some (a, r1) => match Pp d r1 with
                  | none => none
                  | some (b, r2) => some (.ask a b, r2)) := by
              rw [c2]; rfl
            have ed : ((d + 1 : Nat) : Int) - 1 = (d : Int) := by omega
            have hd0 : ¬ ((d + 1 : Nat) : Int) = 0 := by omega
            have q2 := insQ_ref hs2
            rcases plan_v hl d f (k + 1) (s.set n (rO T (k + 1))) (by omega) hs2 (by omega) with ⟨h1, k', h2⟩ | ⟨a, r1, h1, h2⟩
            · rw [hd2] at h1
              refine .inl ⟨by rw [eP, h1], k', ?_⟩
              rw [List.set_set] at h2
              unfold Reader_plan_S
              rw [fnOf_2]
              generalize s.set n (rO T (k + 1)) = S1 at *
              generalize s.set n (rO T k') = S2 at *
              generalize ((d + 1 : Nat) : Int) = DD1 at *
              simp -implicitDefEqProofs [q, sv, n1, hd0, q2, ed, h2]
            · rw [hd2] at h1
              obtain ⟨t, et⟩ := Pp_suf d r a r1 h1
              obtain ⟨su1, su2⟩ := suf_at (T := T) (k := k + 1) (by omega) (by rw [hd2]; exact et)
              rw [List.set_set] at h2
              have hs3 : (s.set n (rO T (T.length - r1.length)))[n]? = some (rO T (T.length - r1.length)) := List.getElem?_set_self hnl
              have q3 := insQ_ref hs3
              rcases plan_v hl d f (T.length - r1.length) (s.set n (rO T (T.length - r1.length))) (by omega) hs3 su2 with ⟨g1, k', g2⟩ | ⟨b, r2, g1, g2⟩
              · rw [su1] at g1
                refine .inl ⟨by rw [eP, h1]; simp only; rw [g1], k', ?_⟩
                rw [List.set_set] at g2
                unfold Reader_plan_S
                rw [fnOf_2]
                generalize s.set n (rO T (k + 1)) = S1 at *
                generalize s.set n (rO T (T.length - r1.length)) = S2 at *
                generalize s.set n (rO T k') = S3 at *
                generalize ((d + 1 : Nat) : Int) = DD1 at *
                generalize dP a = DA at *
                simp -implicitDefEqProofs [q, sv, n1, hd0, q2, ed, h2, q3, g2]
              · rw [su1] at g1
                refine .inr ⟨.ask a b, r2, by rw [eP, h1]; simp only; rw [g1], ?_⟩
                rw [List.set_set] at g2
                have ex : dP (.ask a b) = .tup [.str "ask", dP a, dP b] := rfl
                rw [ex]
                unfold Reader_plan_S
                rw [fnOf_2]
                generalize s.set n (rO T (k + 1)) = S1 at *
                generalize s.set n (rO T (T.length - r1.length)) = S2 at *
                generalize s.set n (rO T (T.length - r2.length)) = S3 at *
                generalize ((d + 1 : Nat) : Int) = DD1 at *
                generalize dP a = DA at *
                generalize dP b = DB at *
                simp -implicitDefEqProofs [q, sv, n1, hd0, q2, ed, h2, q3, g2, LIM]
        · have n2 : (tx [c] = ("?" : Str)) = False := by rw [c_ask, tx_inj]; simp [c2]
          have eP : Pp d (c :: r) = rdN 3 [] c r := by cases d <;> (unfold Pp; rw [if_neg c1, if_neg c2])
          have wv := word_v (n := n) hl (some (.int (d : Int))) none f 3 [] c r (k + 1) 100000 (s.set n (rO T (k + 1))) hd2 (by omega) hs2 rfl (fun x hx => by cases hx) (by omega)
          rw [← c_no] at wv
          rw [eP]
          rcases wv with ⟨h1, env, k', h2⟩ | ⟨w', c', r', k', h1, h2, h3, h4, h5, h6⟩
          · refine .inl ⟨h1, k', ?_⟩
            rw [List.set_set] at h2
            unfold Reader_plan_S
            rw [fnOf_2]
            generalize s.set n (rO T (k + 1)) = S1 at *
            generalize s.set n (rO T k') = S2 at *
            generalize tx [c] = TC at *
            simp -implicitDefEqProofs [q, sv, n1, n2, h2]
          · rw [List.set_set] at h6
            by_cases hw : w' = [] ∨ c' ≠ 46
            · refine .inl ⟨by rw [h1]; unfold fin; rw [if_pos hw], k', ?_⟩
              have hcond : (tx w' = ("" : Str)) ∨ ¬ (tx [c'] = ("." : Str)) := by
                rcases hw with hw | hw
                · exact .inl (by rw [hw, c_no])
                · exact .inr (fun z => by rw [c_dot, tx_inj] at z; simp at z; exact hw z)
              unfold Reader_plan_S
              rw [fnOf_2]
              generalize s.set n (rO T (k + 1)) = S1 at *
              generalize s.set n (rO T k') = S2 at *
              generalize tx [c] = TC at *
              generalize tx w' = TW at *
              generalize tx [c'] = TC' at *
              by_cases z : TW = ("" : Str)
              · simp -implicitDefEqProofs [q, sv, n1, n2, h6, z]
              · have z2 : ¬ TC' = ("." : Str) := by
                  rcases hcond with h | h
                  · exact absurd h z
                  · exact h
                simp -implicitDefEqProofs [q, sv, n1, n2, h6, z, z2]
            · have hw1 : w' ≠ [] := fun z => hw (.inl z)
              have hc1 : c' = 46 := by
                by_cases z : c' = 46
                · exact z
                · exact absurd (.inr z) hw
              refine .inr ⟨.is (valW w' : Int), r', by rw [h1]; unfold fin; rw [if_neg hw], ?_⟩
              have hk' : T.length - r'.length = k' := by
                have := congrArg List.length h2
                rw [List.length_drop] at this
                omega
              rw [hk']
              have iv := fun s => int_W h4 hw1 h5 s
              have z1 : (tx w' = ("" : Str)) = False := by rw [c_no, tx_inj]; simp [hw1]
              have z2 : tx [c'] = ("." : Str) := by rw [hc1, c_dot]
              unfold Reader_plan_S
              rw [fnOf_2]
              generalize s.set n (rO T (k + 1)) = S1 at *
              generalize s.set n (rO T k') = S2 at *
              generalize tx [c] = TC at *
              generalize tx w' = TW at *
              generalize tx [c'] = TC' at *
              simp -implicitDefEqProofs [q, sv, n1, n2, h6, z1, z2, iv, dP]
end

/-! ### k38: told and due -/
theorem plain_dP : ∀ (p : Pl) (n : Nat), ht p < n → plainD n (dP p) = true
  | .is i, n + 1, h => rfl
  | .again, n + 1, h => rfl
  | .ask a b, n + 1, h => by
    simp only [ht] at h
    have ha := plain_dP a n (by omega)
    have hb := plain_dP b n (by omega)
    show (decide (3 ≤ LIM) && (plainD n (.str "ask") && (plainD n (dP a) && (plainD n (dP b) && true)))) = true
    rw [ha, hb]
    cases n <;> rfl
theorem same_P {p : Pl} (h : ht p ≤ 14) (s : Sto) : sameS 20 [dP p, dP p] s = .ok (.bl true) s := same_self (ht p + 1) _ s (plain_dP p _ (by omega)) 20 (by omega)
def orD : Option Pl → D
  | none => .str "refused"
  | some p => dP p
def oP : Option Pl → D
  | none => .non
  | some p => dP p
theorem frz_P (S : Sto) (p : Pl) : frz S (dP p) = some (dP p) := by
  have h := noRef_dP p
  cases p with
  | is n =>
    show (if noRef (dP (.is n)) = true then some (dP (.is n)) else none) = _
    rw [if_pos h]
  | again =>
    show (if noRef (dP .again) = true then some (dP .again) else none) = _
    rw [if_pos h]
  | ask a b =>
    show (if noRef (dP (.ask a b)) = true then some (dP (.ask a b)) else none) = _
    rw [if_pos h]
theorem fLen_tx {l : List Nat} (h : l.length ≤ 1000000) (s : Sto) : fLen s [.str (tx l)] = some (.int (l.length : Int)) := by
  show (if (tx l).length ≤ LIM then some (D.int ((tx l).length : Int)) else none) = _
  rw [if_pos (by rw [tx_len]; exact h), tx_len]
theorem rinit_v (T : List Nat) : Reader_init_S [.ref 0, .str (tx T)] [.ins 1 []] = .ok .non [rO T 0] := by
  have p1 := putO_end (s := [.ins 1 []]) (n := 0) (c := 1) (fs := []) (d := .str (tx T)) rfl (j := 0) rfl
  have p2 := putO_end (s := [.ins 1 [.str (tx T)]]) (n := 0) (c := 1) (fs := [.str (tx T)]) (d := .int 0) rfl (j := 1) rfl
  have p1' : putO [Ob.ins 1 []] 1 0 (.ref 0) (.str (tx T)) = some [.ins 1 [.str (tx T)]] := p1
  have p2' : putO [Ob.ins 1 [.str (tx T)]] 1 1 (.ref 0) (.int 0) = some [.ins 1 [.str (tx T), .int 0]] := p2
  unfold Reader_init_S rO
  rw [fnOf_2]
  generalize tx T = TT at *
  simp -implicitDefEqProofs [p1', p2']
theorem read_v {T : List Nat} (hl : T.length ≤ 200000) (s : Sto) : iso read_S [.str (tx T)] s = (match toldF T with | some p => .ok (dP p) s | none => .ex 0 s) := by
  have ri := rinit_v T
  have q0 := insQ_ref (s := [rO T 0]) (n := 0) (c := 1) (fs := [.str (tx T), .int ((0 : Nat) : Int)]) rfl
  have fl := fun s => fLen_tx (l := T) (by omega) s
  rcases plan_v (n := 0) hl 12 20 0 [rO T 0] (by decide) rfl (Nat.zero_le _) with ⟨h1, k', h2⟩ | ⟨p, r, h1, h2⟩
  · rw [List.drop_zero] at h1
    have e : toldF T = none := by unfold toldF; rw [h1]
    rw [e]
    simp only [List.set_cons_zero] at h2
    refine iso_ex (s' := [rO T k']) rfl ?_ s
    rw [show ((12 : Nat) : Int) = 12 from rfl] at h2
    unfold read_S
    rw [fnOf_1]
    generalize rO T 0 = R0 at *
    generalize rO T k' = R1 at *
    generalize tx T = TT at *
    simp -implicitDefEqProofs [ri, q0, h2]
  · rw [List.drop_zero] at h1
    simp only [List.set_cons_zero] at h2
    rw [show ((12 : Nat) : Int) = 12 from rfl] at h2
    obtain ⟨g1, g2, g3⟩ := Pp_some 12 T p r h1
    have f1 : fldO [rO T (T.length - r.length)] 1 1 (.ref 0) = some (.int ((T.length - r.length : Nat) : Int)) := fldO_ref (n := 0) (fs := [.str (tx T), .int ((T.length - r.length : Nat) : Int)]) rfl rfl
    have ip := fun s => is_plan_g (p := p) s g2 g1
    have hat : (((T.length - r.length : Nat) : Int) = (T.length : Int)) ↔ r = [] := by
      constructor
      · intro h; exact List.eq_nil_of_length_eq_zero (by omega)
      · intro h; rw [h]; simp
    by_cases c1 : r = []
    · have c1' := hat.mpr c1
      cases hb : nOkB p with
      | false =>
        have e : toldF T = none := by
          unfold toldF; rw [h1]; simp only; rw [if_neg (by rw [hb]; simp)]
        rw [hb] at ip
        rw [e]
        refine iso_ex (s' := [rO T (T.length - r.length)]) rfl ?_ s
        unfold read_S
        rw [fnOf_1]
        generalize rO T 0 = R0 at *
        generalize rO T (T.length - r.length) = R1 at *
        generalize tx T = TT at *
        generalize ((T.length - r.length : Nat) : Int) = P1 at *
        generalize (T.length : Int) = P2 at *
        generalize dP p = DP at *
        simp -implicitDefEqProofs [ri, q0, h2, f1, fl, c1', ip]
      | true =>
        have hn := (nOkB_iff p).mp hb
        rw [hb] at ip
        have wr := fun s => written_v p 20 s hn (by omega) (by omega)
        by_cases c2 : Wp p = T
        · have e : toldF T = some p := by
            unfold toldF; rw [h1]; simp only; rw [if_pos ⟨c1, hb, c2⟩]
          rw [e]
          rw [c2] at wr
          refine iso_ok (d := dP p) (d' := dP p) (s' := [rO T (T.length - r.length)]) rfl ?_ (frz_P _ _) s
          unfold read_S
          rw [fnOf_1]
          generalize rO T 0 = R0 at *
          generalize rO T (T.length - r.length) = R1 at *
          generalize tx T = TT at *
          generalize ((T.length - r.length : Nat) : Int) = P1 at *
          generalize (T.length : Int) = P2 at *
          generalize dP p = DP at *
          simp -implicitDefEqProofs [ri, q0, h2, f1, fl, c1', ip, wr]
        · have e : toldF T = none := by
            unfold toldF; rw [h1]; simp only; rw [if_neg (fun z => c2 z.2.2)]
          rw [e]
          have ne : (tx (Wp p) = tx T) = False := by rw [tx_inj]; simp [c2]
          refine iso_ex (s' := [rO T (T.length - r.length)]) rfl ?_ s
          unfold read_S
          rw [fnOf_1]
          generalize rO T 0 = R0 at *
          generalize rO T (T.length - r.length) = R1 at *
          generalize tx (Wp p) = TW at *
          generalize tx T = TT at *
          generalize ((T.length - r.length : Nat) : Int) = P1 at *
          generalize (T.length : Int) = P2 at *
          generalize dP p = DP at *
          simp -implicitDefEqProofs [ri, q0, h2, f1, fl, c1', ip, wr, ne]
    · have c1' : ¬ (((T.length - r.length : Nat) : Int) = (T.length : Int)) := fun z => c1 (hat.mp z)
      have e : toldF T = none := by
        unfold toldF; rw [h1]; simp only; rw [if_neg (fun z => c1 z.1)]
      rw [e]
      refine iso_ex (s' := [rO T (T.length - r.length)]) rfl ?_ s
      unfold read_S
      rw [fnOf_1]
      generalize rO T 0 = R0 at *
      generalize rO T (T.length - r.length) = R1 at *
      generalize tx T = TT at *
      generalize ((T.length - r.length : Nat) : Int) = P1 at *
      generalize (T.length : Int) = P2 at *
      generalize dP p = DP at *
      simp -implicitDefEqProofs [ri, q0, h2, f1, fl, c1']
theorem told_v {T : List Nat} (hl : T.length ≤ 200000) (s : Sto) : law_told_S [.str (tx T)] s = .ok (orD (toldF T)) s := by
  have rv := fun s => read_v hl s
  unfold law_told_S
  rw [fnOf_1]
  cases h : toldF T with
  | some p =>
    rw [h] at rv
    simp only at rv
    show _ = R.ok (dP p) s
    generalize tx T = TT at *
    generalize dP p = DP at *
    simp -implicitDefEqProofs [rv]
  | none =>
    rw [h] at rv
    simp only at rv
    show _ = R.ok (D.str "refused") s
    generalize tx T = TT at *
    simp -implicitDefEqProofs [rv]
/-! by hand -/
theorem dig_c (c : Nat) : ("0123456789" : Str).cps.contains c = isD c := by
  have e : ("0123456789" : Str).cps = #[48, 49, 50, 51, 52, 53, 54, 55, 56, 57] := by decide +kernel
  rw [e, Bool.eq_iff_iff]
  unfold isD
  rw [decide_eq_true_iff]
  simp
  omega
theorem dig_f : ("0123456789" : Str).cps.contains = isD := by funext c; exact dig_c c
theorem strip1 (c : Nat) : (Txt.stripChars (tx [c]) "0123456789" = ("" : Str)) = (isD c = true) := by
  unfold Txt.stripChars
  rw [PyProof.Rows.stripBy_eq, dig_f, c_no]
  unfold stripHi stripLo
  cases h : isD c with
  | true => simp [h, Str.length, Builtin.Str.strSub, List.takeWhile]
  | false => simp [h, Str.length, Builtin.Str.strSub, List.takeWhile]
theorem strip2 (a b : Nat) : (Txt.stripChars (tx [a, b]) "0123456789" = ("" : Str)) = (isD a = true ∧ isD b = true) := by
  unfold Txt.stripChars
  rw [PyProof.Rows.stripBy_eq, dig_f, c_no]
  unfold stripHi stripLo
  cases h : isD a <;> cases h2 : isD b <;> simp [h, h2, Str.length, Builtin.Str.strSub, List.takeWhile]

/-! ### k38: read by hand -/
theorem Qp_len : ∀ (d : Nat) (l : List Nat), (Qp d l).2.length ≤ l.length
  | d, [] => by cases d <;> simp [Qp]
  | 0, c :: l => by
    unfold Qp
    by_cases e : c = 42
    · rw [if_pos e]; simp
    · rw [if_neg e]; exact nmQ_len _
  | d + 1, c :: l => by
    unfold Qp
    by_cases e : c = 42
    · rw [if_pos e]; simp
    · rw [if_neg e]
      by_cases e2 : c = 63
      · rw [if_pos e2]
        have h1 := Qp_len d l
        cases z : Qp d l with
        | mk o r1 =>
          rw [z] at h1
          cases o with
          | none => simp
          | some a =>
            simp only at h1 ⊢
            have h2 := Qp_len d r1
            cases z2 : Qp d r1 with
            | mk o2 r2 =>
              rw [z2] at h2
              cases o2 with
              | none => simp only [List.length_cons] at h2 ⊢; omega
              | some b => simp only [List.length_cons] at h2 ⊢; omega
      · rw [if_neg e2]; exact nmQ_len _
where
  nmQ_len : ∀ l : List Nat, (nmQ l).2.length ≤ l.length
  | [] => Nat.le_refl _
  | [a] => by simp [nmQ]
  | c :: c2 :: r => by
    rw [nmQ_2]
    split
    · simp only [List.length_cons]; omega
    · match r with
      | [] => simp
      | c3 :: r3 =>
        simp only
        split
        · simp only [List.length_cons]; omega
        · simp
theorem st_v {w : List Nat} (h : w.length ≤ 1000000) (s : Sto) : gStripC s (.str (tx w)) [.str "0123456789"] = some (.str (Txt.stripChars (tx w) "0123456789")) := by
  show (if (tx w).length ≤ LIM then some (D.str (Txt.stripChars (tx w) "0123456789")) else none) = _
  rw [if_pos (by rw [tx_len]; exact h)]
theorem ixt0 {c : Nat} {w : List Nat} (h : (c :: w).length ≤ 1000000) (s : Sto) : opIx s (.str (tx (c :: w))) (.int 0) = some (.str (tx [c])) := by
  show (if (tx (c :: w)).length ≤ LIM then (atI (tx (c :: w)).cps.toList 0).map fun c => D.str ⟨#[c]⟩ else none) = _
  rw [if_pos (by rw [tx_len]; exact h), tx_cps]
  have : atI (c :: w) 0 = some c := atI_nat (k := 0) rfl rfl
  rw [this]
  rfl
theorem eTM_e {g : Sto → D → List D → Option D} {fo : EF} {fa : AF} {env : Sx.Env} {s : Sto} {z : Str} {as : List D} (h1 : fo env s = .ok (.str z) s) (h2 : fa env s = .ok as s) : eTM g fo fa env s = R.of (g s (.str z) as) s := by
  unfold eTM
  rw [h1]
  show (fa env s).bind _ = _
  rw [h2]
  rfl
theorem eTM_l {env : Sx.Env} {s : Sto} {z : Str} (h : env[3]? = some (some (.str z))) : eTM gStripC (eVar 3) (aCons (eC (.str "0123456789")) aNil) env s = R.of (gStripC s (.str z) [.str "0123456789"]) s := by
  refine eTM_e ?_ rfl
  show (match env[3]? with | some (some d) => R.ok d s | _ => .no) = _
  rw [h]
theorem num_v (m : Nat) : ∀ (l : List Nat) (v1 : Option D) (s : Sto), l.length ≤ 200000 →
    (nmQ l = (none, []) ∧ ∃ env, forL (gVar 2) (law_read_b1 m) [.int 1, .int 2] [some (.str (tx l)), v1, none, none, none, none, none] s = .nx env s) ∨
    forL (gVar 2) (law_read_b1 m) [.int 1, .int 2] [some (.str (tx l)), v1, none, none, none, none, none] s = .rt (.tup [oP (nmQ l).1, .str (tx (nmQ l).2)]) s := by
  intro l v1 s hl
  have s1 : ∀ s, opSl s (.str (tx l)) none (some 1) = some (.str (tx (l.take 1))) := fun s => sl_take (k := 1) (by omega)
  have s2 : ∀ s, opSl s (.str (tx l)) none (some 2) = some (.str (tx (l.take 2))) := fun s => sl_take (k := 2) (by omega)
  have s12 : ∀ s, opSl s (.str (tx l)) (some 1) (some 2) = some (.str (tx ((l.drop 1).take 1))) := fun s => sl_one (k := 1) (by omega)
  have s23 : ∀ s, opSl s (.str (tx l)) (some 2) (some 3) = some (.str (tx ((l.drop 2).take 1))) := fun s => sl_one (k := 2) (by omega)
  have d2 : ∀ s, opSl s (.str (tx l)) (some 2) none = some (.str (tx (l.drop 2))) := fun s => sl_drop (k := 2) (by omega)
  have d3 : ∀ s, opSl s (.str (tx l)) (some 3) none = some (.str (tx (l.drop 3))) := fun s => sl_drop (k := 3) (by omega)
  have f1 := fun s => fLen_tx (l := l.take 1) (by have := List.length_take_le 1 l; omega) s
  have f2 := fun s => fLen_tx (l := l.take 2) (by have := List.length_take_le 2 l; omega) s
  have t1 := fun s => st_v (w := l.take 1) (by have := List.length_take_le 1 l; omega) s
  have t2 := fun s => st_v (w := l.take 2) (by have := List.length_take_le 2 l; omega) s
  have two : ∀ (P : Prop), forL (gVar 2) (law_read_b1 m) [.int 1, .int 2] [some (.str (tx l)), v1, none, none, none, none, none] s = kFor (law_read_b1 m) (forL (gVar 2) (law_read_b1 m) [.int 2]) (some ([some (.str (tx l)), v1, some (.int 1), none, none, none, none], s)) := fun _ => by rw [forL_cons]; rfl
  have one : ∀ v3, forL (gVar 2) (law_read_b1 m) [.int 2] [some (.str (tx l)), v1, some (.int 1), v3, none, none, none] s = kFor (law_read_b1 m) (forL (gVar 2) (law_read_b1 m) []) (some ([some (.str (tx l)), v1, some (.int 2), v3, none, none, none], s)) := fun v3 => by rw [forL_cons]; rfl
  have go1 : (∃ v3, law_read_b1 m [some (.str (tx l)), v1, some (.int 1), none, none, none, none] s = .nx [some (.str (tx l)), v1, some (.int 1), v3, none, none, none] s ∧
      ((∃ v3', law_read_b1 m [some (.str (tx l)), v1, some (.int 2), v3, none, none, none] s = .nx [some (.str (tx l)), v1, some (.int 2), v3', none, none, none] s ∧ nmQ l = (none, [])) ∨
        law_read_b1 m [some (.str (tx l)), v1, some (.int 2), v3, none, none, none] s = .rt (.tup [oP (nmQ l).1, .str (tx (nmQ l).2)]) s)) ∨
      law_read_b1 m [some (.str (tx l)), v1, some (.int 1), none, none, none, none] s = .rt (.tup [oP (nmQ l).1, .str (tx (nmQ l).2)]) s := by
    match l, hl, s1, s2, s12, s23, d2, d3, f1, f2, t1, t2 with
    | [], hl, s1, s2, s12, s23, d2, d3, f1, f2, t1, t2 =>
      simp only [List.take_nil, List.length_nil] at s1 s2 f1 f2
      refine .inl ⟨some (.str (tx [])), ?_, .inl ⟨some (.str (tx [])), ?_, rfl⟩⟩
      · simp -implicitDefEqProofs [law_read_b1, eTM_l, s1, f1, LIM]
      · simp -implicitDefEqProofs [law_read_b1, eTM_l, s2, f2, LIM]
    | [c], hl, s1, s2, s12, s23, d2, d3, f1, f2, t1, t2 =>
      have e1 : [c].take 1 = [c] := rfl
      have e2 : [c].take 2 = [c] := rfl
      have e3 : ([c].drop 1).take 1 = [] := rfl
      rw [e1] at s1 f1 t1
      rw [e2] at s2 f2
      rw [e3] at s12
      have nd : (tx [] = ("." : Str)) = False := by rw [c_dot, tx_inj]; simp
      have st := strip1 c
      simp only [List.length_cons, List.length_nil] at f1 f2
      refine .inl ⟨some (.str (tx [c])), ?_, .inl ⟨some (.str (tx [c])), ?_, rfl⟩⟩
      · generalize Txt.stripChars (tx [c]) "0123456789" = ST at *
        generalize tx [c] = TC at *
        generalize tx [] = TE at *
        by_cases z : ST = ("" : Str)
        · simp -implicitDefEqProofs [law_read_b1, eTM_l, s1, f1, t1, z, s12, nd, LIM]
        · simp -implicitDefEqProofs [law_read_b1, eTM_l, s1, f1, t1, z, s12, nd, LIM]
      · generalize tx [c] = TC at *
        simp -implicitDefEqProofs [law_read_b1, eTM_l, s2, f2, LIM]
    | c :: c2 :: r, hl, s1, s2, s12, s23, d2, d3, f1, f2, t1, t2 =>
      have e1 : (c :: c2 :: r).take 1 = [c] := rfl
      have e2 : (c :: c2 :: r).take 2 = [c, c2] := rfl
      have e3 : ((c :: c2 :: r).drop 1).take 1 = [c2] := rfl
      have e4 : (c :: c2 :: r).drop 2 = r := rfl
      rw [e1] at s1 f1 t1
      rw [e2] at s2 f2 t2
      rw [e3] at s12
      rw [e4] at s23 d2
      have st := strip1 c
      have stt := strip2 c c2
      have dt : (tx [c2] = ("." : Str)) = (c2 = 46) := by rw [c_dot, tx_inj]; simp
      simp only [List.length_cons, List.length_nil] at f1 f2
      have nQ := nmQ_2 c c2 r
      by_cases q : isD c = true ∧ c2 = 46
      · rw [if_pos q] at nQ
        refine .inr ?_
        rw [nQ]
        have iv := fun s => int_W (w := [c]) (by intro x hx; rw [List.mem_singleton.mp hx]; exact q.1) (by simp) (by simp) s
        have ev : valW [c] = c - 48 := by simp [valW]
        rw [ev] at iv
        have st' : Txt.stripChars (tx [c]) "0123456789" = ("" : Str) := by rw [st]; exact q.1
        have dt' : tx [c2] = ("." : Str) := by rw [dt]; exact q.2
        rw [st'] at t1
        rw [dt'] at s12
        show _ = SR.rt (D.tup [.tup [.str "is", .int ((c - 48 : Nat) : Int)], .str (tx r)]) s
        generalize tx [c] = TC at *
        generalize tx r = TR at *
        generalize tx (c :: c2 :: r) = TL at *
        generalize ((c - 48 : Nat) : Int) = CV at *
        simp -implicitDefEqProofs [law_read_b1, eTM_l, s1, f1, t1, s12, iv, d2, LIM]
      · rw [if_neg q] at nQ
        have b1 : law_read_b1 m [some (.str (tx (c :: c2 :: r))), v1, some (.int 1), none, none, none, none] s = .nx [some (.str (tx (c :: c2 :: r))), v1, some (.int 1), some (.str (tx [c])), none, none, none] s := by
          generalize hST : Txt.stripChars (tx [c]) "0123456789" = ST at *
          by_cases z : ST = ("" : Str)
          · have hc : isD c = true := by rw [← st]; exact z
            have n46 : (tx [c2] = ("." : Str)) = False := by rw [dt]; exact eq_false fun z => q ⟨hc, z⟩
            generalize tx [c] = TC at *
            generalize tx [c2] = TC2 at *
            generalize tx (c :: c2 :: r) = TL at *
            simp -implicitDefEqProofs [law_read_b1, eTM_l, s1, f1, t1, z, s12, n46, LIM]
          · generalize tx [c] = TC at *
            generalize tx [c2] = TC2 at *
            generalize tx (c :: c2 :: r) = TL at *
            simp -implicitDefEqProofs [law_read_b1, eTM_l, s1, f1, t1, z, LIM]
        refine .inl ⟨some (.str (tx [c])), b1, ?_⟩
        match r, hl, s1, s2, s12, s23, d2, d3, nQ with
        | [], hl, s1, s2, s12, s23, d2, d3, nQ =>
          refine .inl ⟨some (.str (tx [c, c2])), ?_, nQ⟩
          have e5 : ([] : List Nat).take 1 = [] := rfl
          rw [e5] at s23
          have nd : (tx [] = ("." : Str)) = False := by rw [c_dot, tx_inj]; simp
          generalize hST : Txt.stripChars (tx [c, c2]) "0123456789" = ST at *
          generalize tx [] = TE at *
          generalize tx [c, c2] = TC at *
          by_cases z : ST = ("" : Str)
          · simp -implicitDefEqProofs [law_read_b1, eTM_l, s2, f2, t2, z, s23, nd, LIM]
          · simp -implicitDefEqProofs [law_read_b1, eTM_l, s2, f2, t2, z, LIM]
        | c3 :: r3, hl, s1, s2, s12, s23, d2, d3, nQ =>
          have e5 : (c3 :: r3).take 1 = [c3] := rfl
          have e6 : (c :: c2 :: c3 :: r3).drop 3 = r3 := rfl
          rw [e5] at s23
          rw [e6] at d3
          have dt3 : (tx [c3] = ("." : Str)) = (c3 = 46) := by rw [c_dot, tx_inj]; simp
          simp only at nQ
          by_cases q2 : isD c = true ∧ isD c2 = true ∧ c3 = 46
          · rw [if_pos q2] at nQ
            refine .inr ?_
            rw [nQ]
            have st' : Txt.stripChars (tx [c, c2]) "0123456789" = ("" : Str) := by rw [stt]; exact ⟨q2.1, q2.2.1⟩
            have dt' : tx [c3] = ("." : Str) := by rw [dt3]; exact q2.2.2
            rw [st'] at t2
            rw [dt'] at s23
            have ix := fun s => ixt0 (c := c) (w := [c2]) (by simp) s
            by_cases z : c ≠ 48
            · rw [if_pos z]
              have n0 : (tx [c] = ("0" : Str)) = False := by rw [c_0, tx_inj]; simp [z]
              have iv := fun s => int_W (w := [c, c2]) (by intro x hx; rcases List.mem_cons.mp hx with rfl | hx; exact q2.1; rw [List.mem_singleton.mp hx]; exact q2.2.1) (by simp) (by simp) s
              have ev : valW [c, c2] = (c - 48) * 10 + (c2 - 48) := by simp [valW]
              rw [ev] at iv
              show _ = SR.rt (D.tup [.tup [.str "is", .int (((c - 48) * 10 + (c2 - 48) : Nat) : Int)], .str (tx r3)]) s
              generalize tx [c] = TC at *
              generalize tx [c, c2] = TCC at *
              generalize tx r3 = TR at *
              generalize tx (c :: c2 :: c3 :: r3) = TL at *
              generalize (((c - 48) * 10 + (c2 - 48) : Nat) : Int) = CV at *
              simp -implicitDefEqProofs [law_read_b1, eTM_l, s2, f2, t2, s23, ix, n0, iv, d3, LIM]
            · rw [if_neg z]
              have z0 : tx [c] = ("0" : Str) := by
                rw [c_0, tx_inj]
                have : c = 48 := Classical.byContradiction fun h => z h
                rw [this]
              rw [z0] at ix
              show _ = SR.rt (D.tup [.non, .str (tx r3)]) s
              generalize tx [c, c2] = TCC at *
              generalize tx r3 = TR at *
              generalize tx (c :: c2 :: c3 :: r3) = TL at *
              simp -implicitDefEqProofs [law_read_b1, eTM_l, s2, f2, t2, s23, ix, d3, LIM]
          · rw [if_neg q2] at nQ
            refine .inl ⟨some (.str (tx [c, c2])), ?_, nQ⟩
            generalize hST : Txt.stripChars (tx [c, c2]) "0123456789" = ST at *
            by_cases z : ST = ("" : Str)
            · have hcc : isD c = true ∧ isD c2 = true := by rw [← stt]; exact z
              have n46 : (tx [c3] = ("." : Str)) = False := by rw [dt3]; exact eq_false fun z => q2 ⟨hcc.1, hcc.2, z⟩
              generalize tx [c, c2] = TC at *
              generalize tx [c3] = TC3 at *
              generalize tx (c :: c2 :: c3 :: r3) = TL at *
              simp -implicitDefEqProofs [law_read_b1, eTM_l, s2, f2, t2, z, s23, n46, LIM]
            · generalize tx [c, c2] = TC at *
              generalize tx [c3] = TC3 at *
              generalize tx (c :: c2 :: c3 :: r3) = TL at *
              simp -implicitDefEqProofs [law_read_b1, eTM_l, s2, f2, t2, z, LIM]
  rw [two True]
  rcases go1 with ⟨v3, h1, h2 | h2⟩ | h1
  · obtain ⟨v3', h3, h4⟩ := h2
    refine .inl ⟨h4, [some (.str (tx l)), v1, some (.int 2), v3', none, none, none], ?_⟩
    rw [kFor_some, h1, kTurn_nx, one, kFor_some, h3, kTurn_nx]
    rfl
  · refine .inr ?_
    rw [kFor_some, h1, kTurn_nx, one, kFor_some, h2]
    rfl
  · refine .inr ?_
    rw [kFor_some, h1]
    rfl
theorem hand_v : ∀ (d f : Nat) (l : List Nat) (s : Sto), d < f → l.length ≤ 200000 → law_read_S f [.str (tx l), .int (d : Int)] s = .ok (.tup [oP (Qp d l).1, .str (tx (Qp d l).2)]) s
  | d, f + 1, l, s, hf, hl => by
    have s1 : ∀ s, opSl s (.str (tx l)) none (some 1) = some (.str (tx (l.take 1))) := fun s => sl_take (k := 1) (by omega)
    have d1 : ∀ s, opSl s (.str (tx l)) (some 1) none = some (.str (tx (l.drop 1))) := fun s => sl_drop (k := 1) (by omega)
    have nv := num_v f l (some (.int (d : Int))) s hl
    have num : (tx (l.take 1) = ("*" : Str)) = False → ((tx (l.take 1) = ("?" : Str)) = False ∨ d = 0) → Qp d l = nmQ l → law_read_S (f + 1) [.str (tx l), .int (d : Int)] s = .ok (.tup [oP (Qp d l).1, .str (tx (Qp d l).2)]) s := fun n1 n2 hQ => by
      rw [hQ]
      unfold law_read_S
      rw [fnOf_2]
      rcases nv with ⟨h1, env, h2⟩ | h2
      · rw [h1]
        show _ = R.ok (D.tup [.non, .str (tx [])]) s
        rw [← c_no]
        generalize tx (l.take 1) = T1 at *
        generalize tx l = TL at *
        rcases n2 with n2 | n2
        · simp -implicitDefEqProofs [s1, n1, n2, h2, LIM]
        · subst n2
          simp only [Int.natCast_zero] at h2 ⊢
          by_cases z : T1 = ("?" : Str)
          · rw [z] at s1 n1
            simp -implicitDefEqProofs [s1, n1, h2, LIM]
          · simp -implicitDefEqProofs [s1, n1, z, h2, LIM]
      · generalize oP (nmQ l).1 = O1 at *
        generalize tx (nmQ l).2 = TQ at *
        generalize tx (l.take 1) = T1 at *
        generalize tx l = TL at *
        rcases n2 with n2 | n2
        · simp -implicitDefEqProofs [s1, n1, n2, h2, LIM]
        · subst n2
          simp only [Int.natCast_zero] at h2 ⊢
          by_cases z : T1 = ("?" : Str)
          · rw [z] at s1 n1
            simp -implicitDefEqProofs [s1, n1, h2, LIM]
          · simp -implicitDefEqProofs [s1, n1, z, h2, LIM]
    cases l with
    | nil =>
      refine num ?_ (.inl ?_) (by cases d <;> rfl)
      · rw [c_star, tx_inj]; simp
      · rw [c_ask, tx_inj]; simp
    | cons c r =>
      have e1 : (c :: r).take 1 = [c] := rfl
      have e2 : (c :: r).drop 1 = r := rfl
      rw [e2] at d1
      by_cases c1 : c = 42
      · have hQ : Qp d (c :: r) = (some .again, r) := by cases d <;> (unfold Qp; rw [if_pos c1])
        rw [hQ]
        rw [e1, c1, ← c_star] at s1
        have ex : oP (some .again) = .tup [.str "again"] := rfl
        rw [ex]
        unfold law_read_S
        rw [fnOf_2]
        subst c1
        generalize tx (42 :: r) = TL at *
        generalize tx r = TR at *
        simp -implicitDefEqProofs [s1, d1, LIM]
      · have n1 : (tx ((c :: r).take 1) = ("*" : Str)) = False := by rw [e1, c_star, tx_inj]; simp [c1]
        by_cases c2 : c = 63
        · cases d with
          | zero => exact num n1 (.inr rfl) (by unfold Qp; rw [if_neg c1])
          | succ d =>
            have hrl : r.length ≤ 200000 := by simp at hl; omega
            have ih1 := fun s => hand_v d f r s (by omega) hrl
            have eQ : Qp (d + 1) (c :: r) = (match Qp d r with
                | (none, _) => (none, [])
                | (some a, r1) => match Qp d r1 with
                  | (none, r2) => (none, r2)
                  | (some b, r2) => (some (.ask a b), r2)) := by rw [c2]; rfl
            have ed : ((d + 1 : Nat) : Int) - 1 = (d : Int) := by omega
            have hd0 : (0 : Int) < ((d + 1 : Nat) : Int) := by omega
            rw [e1, c2, ← c_ask] at s1
            rw [e1, c2, ← c_ask] at n1
            have hl1 := Qp_len d r
            rw [eQ]
            subst c2
            cases z : Qp d r with
            | mk o r1 =>
              rw [z] at ih1 hl1
              simp only at ih1 hl1
              cases o with
              | none =>
                simp only
                show _ = R.ok (D.tup [.non, .str (tx [])]) s
                rw [← c_no]
                have eo : oP none = .non := rfl
                rw [eo] at ih1
                unfold law_read_S
                rw [fnOf_2]
                generalize tx (63 :: r) = TL at *
                generalize tx r1 = TR1 at *
                generalize tx r = TR at *
                generalize ((d + 1 : Nat) : Int) = DD1 at *
                simp -implicitDefEqProofs [s1, n1, hd0, d1, ed, ih1, LIM]
              | some a =>
                simp only
                have ih2 := fun s => hand_v d f r1 s (by omega) (by omega)
                cases z2 : Qp d r1 with
                | mk o2 r2 =>
                  rw [z2] at ih2
                  simp only at ih2
                  have ea : oP (some a) = dP a := rfl
                  rw [ea] at ih1
                  have na : ∀ (env : Sx.Env) (s : Sto), env[4]? = some (some (dP a)) → eNotN (eVar 4) env s = .ok (.bl true) s := fun env s he => by
                    have : eVar 4 env s = .ok (dP a) s := by
                      show (match env[4]? with | some (some d) => R.ok d s | _ => .no) = _
                      rw [he]
                    cases a <;> simp [he, dP]
                  cases o2 with
                  | none =>
                    simp only
                    show _ = R.ok (D.tup [.non, .str (tx r2)]) s
                    have eo : oP none = .non := rfl
                    rw [eo] at ih2
                    unfold law_read_S
                    rw [fnOf_2]
                    generalize tx (63 :: r) = TL at *
                    generalize tx r1 = TR1 at *
                    generalize tx r2 = TR2 at *
                    generalize tx r = TR at *
                    generalize ((d + 1 : Nat) : Int) = DD1 at *
                    cases a <;> simp -implicitDefEqProofs [dP] at ih1 <;> simp -implicitDefEqProofs [s1, n1, hd0, d1, ed, ih1, ih2, LIM]
                  | some b =>
                    simp only
                    show _ = R.ok (D.tup [.tup [.str "ask", dP a, dP b], .str (tx r2)]) s
                    have eo : oP (some b) = dP b := rfl
                    rw [eo] at ih2
                    unfold law_read_S
                    rw [fnOf_2]
                    generalize tx (63 :: r) = TL at *
                    generalize tx r1 = TR1 at *
                    generalize tx r2 = TR2 at *
                    generalize tx r = TR at *
                    generalize ((d + 1 : Nat) : Int) = DD1 at *
                    cases a <;> cases b <;> simp -implicitDefEqProofs [dP] at ih1 ih2 ⊢ <;> simp -implicitDefEqProofs [s1, n1, hd0, d1, ed, ih1, ih2, LIM]
        · have n2 : (tx ((c :: r).take 1) = ("?" : Str)) = False := by rw [e1, c_ask, tx_inj]; simp [c2]
          exact num n1 (.inl n2) (by cases d <;> (unfold Qp; rw [if_neg c1]; try rw [if_neg c2]))
theorem due_v {T : List Nat} (hl : T.length ≤ 200000) (s : Sto) : law_due_S [.str (tx T)] s = .ok (oP (dueF T)) s := by
  have hv := fun s => hand_v 12 20 T s (by decide) hl
  rw [show ((12 : Nat) : Int) = 12 from rfl] at hv
  unfold law_due_S
  rw [fnOf_1]
  by_cases c : (Qp 12 T).2 = []
  · have e : dueF T = (Qp 12 T).1 := by unfold dueF; rw [if_pos c]
    rw [e]
    rw [c, ← c_no] at hv
    generalize oP (Qp 12 T).1 = O1 at *
    generalize tx T = TT at *
    simp -implicitDefEqProofs [hv]
  · have e : dueF T = none := by unfold dueF; rw [if_neg c]
    rw [e]
    have ne : (tx (Qp 12 T).2 = ("" : Str)) = False := by rw [c_no, tx_inj]; simp [c]
    show _ = R.ok D.non s
    generalize oP (Qp 12 T).1 = O1 at *
    generalize tx (Qp 12 T).2 = T2 at *
    generalize tx T = TT at *
    simp -implicitDefEqProofs [hv, ne]
theorem or_v (o : Option Pl) (s : Sto) : law_or_S [oP o] s = .ok (orD o) s := by
  unfold law_or_S
  rw [fnOf_1]
  cases o with
  | none =>
    show _ = R.ok (D.str "refused") s
    have e : oP none = .non := rfl
    rw [e]
    simp
  | some p =>
    have e : oP (some p) = dP p := rfl
    have e2 : orD (some p) = dP p := rfl
    rw [e, e2]
    cases p <;> simp [dP]

/-! ### k38 itself -/
def TXT (L : List D) : Prop := ∀ d ∈ L, ∃ l : List Nat, d = .str (tx l) ∧ l.length ≤ 200000
theorem txt_str (z : Str) : z = tx z.cps.toList := by
  obtain ⟨a⟩ := z
  rfl
theorem ones_v {ns : List Int} {n : Nat} {l : List Nat} {rest : Sto} (hn : n < 900000) (hx : 0 < l.length) (hl : l.length ≤ 1000) : ∃ c : Nat, oneS [.scr ns, .ref 0, .str (tx l)] (tw n :: rest) = .ok (.str (tx [c])) (tw (n + 1) :: rest) := by
  have hli : 0 < (l.length : Int) := by omega
  have h0 := drawv_nn (ns := ns) (n := n) hli
  have h1 := drawv_lt (ns := ns) (n := n) hli
  have dv := draw_v (ns := ns) (n := n) (many := (l.length : Int)) (rest := rest) hn hli
  generalize drawv ns n (l.length : Int) = A at *
  obtain ⟨k, rfl⟩ : ∃ k : Nat, A = k := ⟨A.toNat, by omega⟩
  have hk : k < l.length := by omega
  have fl := fun s => fLen_tx (l := l) (by omega) s
  refine ⟨l[k], ?_⟩
  have e : opIx (tw (n + 1) :: rest) (.str (tx l)) (.int (k : Int)) = some (.str (tx [l[k]])) := by
    show (if (tx l).length ≤ LIM then (atI (tx l).cps.toList (k : Int)).map fun c => D.str ⟨#[c]⟩ else none) = _
    rw [if_pos (by rw [tx_len]; have : (LIM : Nat) = 1000000 := rfl; omega), tx_cps]
    have : atI l (k : Int) = some l[k] := atI_nat (k := k) (List.getElem?_eq_getElem hk) rfl
    rw [this]
    rfl
  unfold oneS
  rw [fnOf_3]
  generalize tx [l[k]] = TC at *
  generalize tx l = TL at *
  simp -implicitDefEqProofs [fl, dv, e]
theorem comb_v (ns : List Int) (R : Sto) (m n : Nat) (hm : m ≤ 14) (hn : n < 800000) : ∃ p n', n' ≤ n + 20 ∧ numOk p ∧ ht p ≤ m ∧ law_comb_S [.scr ns, .ref 0, .int (m : Int)] (tw n :: R) = .ok (dP p) (tw n' :: R) := by
  obtain ⟨A, d1, a1, a2⟩ : ∃ A : Int, drawS [.scr ns, .ref 0, .int 100] (tw n :: R) = .ok (.int A) (tw (n + 1) :: R) ∧ 0 ≤ A ∧ A < 100 := ⟨_, draw_v (by omega) (by decide), drawv_nn (by decide), drawv_lt (by decide)⟩
  obtain ⟨e1, s1, l1, p, v4, hp, hh, rfl, rfl⟩ := forL_inv (gt := gVar 4) (b := law_comb_b1) (ds := rangeD 0 (m : Int)) (fun i env s => ∃ (p : Pl) (v4 : Option D), numOk p ∧ ht p ≤ i ∧ env = [some (.scr ns), some (.ref 0), some (.int (m : Int)), some (dP p), v4] ∧ s = tw (n + 1 + i) :: R) (fun i d env s hd hI => by
    obtain ⟨hi, rfl⟩ := rangeD_get hd
    obtain ⟨p, v4, hp, hh, rfl, rfl⟩ := hI
    have hi2 : i < 14 := by omega
    obtain ⟨B, d2⟩ : ∃ B : Int, drawS [.scr ns, .ref 0, .int 2] (tw (n + 1 + i) :: R) = .ok (.int B) (tw (n + 1 + i + 1) :: R) := ⟨_, draw_v (by omega) (by decide)⟩
    by_cases c : B = 0
    · refine ⟨_, rfl, _, tw (n + 1 + i + 1) :: R, .inl ?_, .ask .again p, some (.int (0 + (i : Int))), ⟨trivial, hp⟩, by simp only [ht]; omega, rfl, rfl⟩
      show law_comb_b1 [some (.scr ns), some (.ref 0), some (.int (m : Int)), some (dP p), some (.int (0 + (i : Int)))] (tw (n + 1 + i) :: R) = .nx [some (.scr ns), some (.ref 0), some (.int (m : Int)), some (.tup [.str "ask", .tup [.str "again"], dP p]), some (.int (0 + (i : Int)))] _
      generalize dP p = DP at *
      simp -implicitDefEqProofs [law_comb_b1, d2, c, LIM]
    · refine ⟨_, rfl, _, tw (n + 1 + i + 1) :: R, .inl ?_, .ask p (.is (0 + (i : Int))), some (.int (0 + (i : Int))), ⟨hp, ⟨by omega, by omega⟩⟩, by simp only [ht]; omega, rfl, rfl⟩
      show law_comb_b1 [some (.scr ns), some (.ref 0), some (.int (m : Int)), some (dP p), some (.int (0 + (i : Int)))] (tw (n + 1 + i) :: R) = .nx [some (.scr ns), some (.ref 0), some (.int (m : Int)), some (.tup [.str "ask", dP p, .tup [.str "is", .int (0 + (i : Int))]]), some (.int (0 + (i : Int)))] _
      generalize dP p = DP at *
      generalize (0 + (i : Int)) = I at *
      simp -implicitDefEqProofs [law_comb_b1, d2, c, LIM])
    (env := [some (.scr ns), some (.ref 0), some (.int (m : Int)), some (dP (.is A)), none]) (s := tw (n + 1) :: R) ⟨.is A, none, ⟨by omega, by omega⟩, Nat.le_refl _, rfl, rfl⟩
  have hk : (rangeD 0 (m : Int)).length = m := by rw [rangeD_len]; omega
  rw [hk] at hh l1
  refine ⟨p, n + 1 + m, by omega, hp, hh, ?_⟩
  have hr : rOk (m : Int) = true := rOk_v (by omega) (by omega)
  unfold law_comb_S
  rw [fnOf_3]
  have ed : dP (.is A) = .tup [.str "is", .int A] := rfl
  rw [ed] at l1
  generalize dP p = DP at *
  simp -implicitDefEqProofs [d1, hr, l1, LIM]
theorem cl_len (z : Str) : z.cps.toList.length = z.length := by
  obtain ⟨a⟩ := z
  rfl
/-- a text turned round -/
theorem rev_v {w : List Nat} (h : w.length ≤ 200000) : ∃ l : List Nat, l.length ≤ w.length ∧ opStS (.str (tx w)) none none (some (-1)) = some (.str (tx l)) := by
  refine ⟨(stepT (tx w) none none (-1)).cps.toList, ?_, ?_⟩
  · have := stepT_le (tx w) none none (-1) (by decide)
    rw [tx_len] at this
    rw [cl_len]
    exact this
  · show (if (-1 : Int) ≠ 0 ∧ (-1 : Int) ≠ 1 ∧ (tx w).length ≤ LIM then some (D.str (stepT (tx w) none none (-1))) else none) = _
    rw [if_pos ⟨by decide, by decide, by rw [tx_len]; have : (LIM : Nat) = 1000000 := rfl; omega⟩, ← txt_str]
theorem turn1_v (ns : List Int) (n : Nat) (R : Sto) (hn : n < 800000) (v2 v3 v6 v7 v8 v9 v10 : Option D) {T : List Nat} (hT : T.length ≤ 20000) {m : Nat} {L : List D} (hm : (tw n :: R)[m + 1]? = some (.lst L)) (hL : TXT L) (hLl : L.length ≤ 1000) :
    ∃ (R' : Sto) (m' : Nat) (L' : List D) (w8 w9 : Option D), (tw (n + 2) :: R')[m' + 1]? = some (.lst L') ∧ TXT L' ∧ L'.length = L.length + 4 ∧
      law_b1 [some (.scr ns), some (.ref 0), v2, v3, some (.str (tx T)), some (.ref (m + 1)), v6, v7, v8, v9, v10] (tw n :: R) = .nx [some (.scr ns), some (.ref 0), v2, v3, some (.str (tx T)), some (.ref (m' + 1)), v6, v7, w8, w9, v10] (tw (n + 2) :: R') := by
  have fl := fun s => fLen_tx (l := T) (by omega) s
  obtain ⟨A, d1, a1, a2⟩ : ∃ A : Int, drawS [.scr ns, .ref 0, .int ((T.length : Int) + 1)] (tw n :: R) = .ok (.int A) (tw (n + 1) :: R) ∧ 0 ≤ A ∧ A < (T.length : Int) + 1 := ⟨_, draw_v (by omega) (by omega), drawv_nn (by omega), drawv_lt (by omega)⟩
  obtain ⟨k, rfl⟩ : ∃ k : Nat, A = k := ⟨A.toNat, by omega⟩
  have ec : ("0123456789.?*.?* -+_,aZ~!" : Str) = tx ("0123456789.?*.?* -+_,aZ~!" : Str).cps.toList := txt_str _
  have hcl : ("0123456789.?*.?* -+_,aZ~!" : Str).cps.toList.length = 25 := by decide +kernel
  obtain ⟨c, o1⟩ := ones_v (ns := ns) (n := n + 1) (l := ("0123456789.?*.?* -+_,aZ~!" : Str).cps.toList) (rest := R) (by omega) (by rw [hcl]; decide) (by rw [hcl]; decide)
  rw [← ec] at o1
  have s1 : ∀ s, opSl s (.str (tx T)) none (some (k : Int)) = some (.str (tx (T.take k))) := fun s => sl_take (by omega)
  have s2 : ∀ s, opSl s (.str (tx T)) (some (k : Int)) none = some (.str (tx (T.drop k))) := fun s => sl_drop (by omega)
  have s3 : ∀ s, opSl s (.str (tx T)) (some ((k : Int) + 1)) none = some (.str (tx (T.drop (k + 1)))) := fun s => by
    rw [show (k : Int) + 1 = ((k + 1 : Nat) : Int) by omega]; exact sl_drop (by omega)
  have s4 : ∀ s, opSl s (.str (tx T)) (some ((k : Int) + 2)) none = some (.str (tx (T.drop (k + 2)))) := fun s => by
    rw [show (k : Int) + 2 = ((k + 2 : Nat) : Int) by omega]; exact sl_drop (by omega)
  obtain ⟨M, hM, s5⟩ : ∃ M : List Nat, M.length ≤ 20000 ∧ ∀ s, opSl s (.str (tx T)) (some (k : Int)) (some ((k : Int) + 2)) = some (.str (tx M)) := by
    refine ⟨(cutS (tx T) (some (k : Int)) (some ((k : Int) + 2))).cps.toList, ?_, fun s => ?_⟩
    · have := cutS_length (tx T) (some (k : Int)) (some ((k : Int) + 2))
      rw [tx_len] at this
      rw [cl_len]
      exact Nat.le_trans this hT
    · show (if (tx T).length ≤ LIM then some (D.str (cutS (tx T) (some (k : Int)) (some ((k : Int) + 2)))) else none) = _
      rw [if_pos (by rw [tx_len]; have : (LIM : Nat) = 1000000 := rfl; omega), ← txt_str]
  obtain ⟨V, hV, rv⟩ := rev_v (w := M) (by omega)
  have hV2 : V.length ≤ 20000 := Nat.le_trans hV hM
  have l1 : (T.take k).length ≤ 20000 := by have := List.length_take_le' k T; omega
  have l2 : (T.drop k).length ≤ 20000 := by rw [List.length_drop]; omega
  have l3 : (T.drop (k + 1)).length ≤ 20000 := by rw [List.length_drop]; omega
  have l4 : (T.drop (k + 2)).length ≤ 20000 := by rw [List.length_drop]; omega
  have a1 : ∀ s, opAdd s (.str (tx (T.take k))) (.str (tx [c])) = some (.str (tx (T.take k ++ [c]))) := fun s => tapp (by simp only [List.length_cons, List.length_nil]; omega)
  have a2' : ∀ s, opAdd s (.str (tx (T.take k ++ [c]))) (.str (tx (T.drop k))) = some (.str (tx (T.take k ++ [c] ++ T.drop k))) := fun s => tapp (by rw [List.length_append]; simp only [List.length_cons, List.length_nil]; omega)
  have a3 : ∀ s, opAdd s (.str (tx (T.take k))) (.str (tx (T.drop (k + 1)))) = some (.str (tx (T.take k ++ T.drop (k + 1)))) := fun s => tapp (by omega)
  have a4 : ∀ s, opAdd s (.str (tx (T.take k ++ [c]))) (.str (tx (T.drop (k + 1)))) = some (.str (tx (T.take k ++ [c] ++ T.drop (k + 1)))) := fun s => tapp (by rw [List.length_append]; simp only [List.length_cons, List.length_nil]; omega)
  have a5 : ∀ s, opAdd s (.str (tx (T.take k))) (.str (tx V)) = some (.str (tx (T.take k ++ V))) := fun s => tapp (by omega)
  have a6 : ∀ s, opAdd s (.str (tx (T.take k ++ V))) (.str (tx (T.drop (k + 2)))) = some (.str (tx (T.take k ++ V ++ T.drop (k + 2)))) := fun s => tapp (by rw [List.length_append]; omega)
  have hm1 : (tw (n + 1 + 1) :: R)[m + 1]? = some (.lst L) := hm
  have lsA : lstOf (tw (n + 1 + 1) :: R) (.ref (m + 1)) = some L := by
    show (match (tw (n + 1 + 1) :: R)[m + 1]? with | some (.lst xs) => some xs | _ => none) = _
    rw [hm1]
  have mk3 : ∀ x y z : D, kAddN2 (.ref (m + 1)) (.ok (.lst [x, y, z]) (tw (n + 1 + 1) :: R)) = .ok (.ref (R.length + 1)) (tw (n + 1 + 1) :: (R ++ [.lst (L ++ [x, y, z])])) := fun x y z => by
    rw [kAddN2_v lsA (show lstOf (tw (n + 1 + 1) :: R) (.lst [x, y, z]) = some [x, y, z] from rfl) (by have : (LIM : Nat) = 1000000 := rfl; simp; omega)]
    rfl
  have g2 : ∀ X : List D, (tw (n + 1 + 1) :: (R ++ [.lst X]))[R.length + 1]? = some (.lst X) := fun X => by simp
  refine ⟨R ++ [.lst (L ++ [.str (tx (T.take k ++ [c] ++ T.drop k)), .str (tx (T.take k ++ T.drop (k + 1))), .str (tx (T.take k ++ [c] ++ T.drop (k + 1)))] ++ [.str (tx (T.take k ++ V ++ T.drop (k + 2)))])], R.length, _, some (.int (k : Int)), some (.str (tx [c])), g2 _, ?_, by simp, ?_⟩
  · intro d hd
    rcases List.mem_append.mp hd with hd | hd
    · rcases List.mem_append.mp hd with hd | hd
      · exact hL d hd
      · simp only [List.mem_cons, List.mem_nil_iff, or_false] at hd
        rcases hd with rfl | rfl | rfl
        · exact ⟨_, rfl, by rw [List.length_append, List.length_append]; simp only [List.length_cons, List.length_nil]; omega⟩
        · exact ⟨_, rfl, by rw [List.length_append]; omega⟩
        · exact ⟨_, rfl, by rw [List.length_append, List.length_append]; simp only [List.length_cons, List.length_nil]; omega⟩
    · rw [List.mem_singleton.mp hd]
      exact ⟨_, rfl, by rw [List.length_append, List.length_append]; omega⟩
  · generalize hX : L ++ [.str (tx (T.take k ++ [c] ++ T.drop k)), .str (tx (T.take k ++ T.drop (k + 1))), .str (tx (T.take k ++ [c] ++ T.drop (k + 1)))] = X at *
    have hXl : X.length < LIM := by rw [← hX]; have : (LIM : Nat) = 1000000 := rfl; simp; omega
    have mk := mk3 (.str (tx (T.take k ++ [c] ++ T.drop k))) (.str (tx (T.take k ++ T.drop (k + 1)))) (.str (tx (T.take k ++ [c] ++ T.drop (k + 1))))
    rw [hX] at mk
    have ap := mAppend_v (d := .str (tx (T.take k ++ V ++ T.drop (k + 2)))) (g2 X) hXl
    have est : (tw (n + 1 + 1) :: (R ++ [.lst X])).set (R.length + 1) (.lst (X ++ [.str (tx (T.take k ++ V ++ T.drop (k + 2)))])) = tw (n + 1 + 1) :: (R ++ [.lst (X ++ [.str (tx (T.take k ++ V ++ T.drop (k + 2)))])]) := by
      rw [List.set_cons_succ, List.set_append_right _ _ (Nat.le_refl _)]
      simp
    rw [est] at ap
    have lsX : lstOf (tw (n + 1 + 1) :: (R ++ [.lst X])) (.ref (R.length + 1)) = some X := by
      show (match (tw (n + 1 + 1) :: (R ++ [.lst X]))[R.length + 1]? with | some (.lst xs) => some xs | _ => none) = _
      rw [g2]
    have est2 : eStS (eSl (eVar 4) (oSome (eVar 8)) (oSome (eOp opAdd (eVar 8) (eC (.int 2))))) oNo oNo (oSome (eUn opNeg (eC (.int 1)))) [some (.scr ns), some (.ref 0), v2, v3, some (.str (tx T)), some (.ref (R.length + 1)), v6, v7, some (.int (k : Int)), some (.str (tx [c])), v10] (tw (n + 1 + 1) :: (R ++ [.lst X])) = .ok (.str (tx V)) (tw (n + 1 + 1) :: (R ++ [.lst X])) := by
      have h1 : eSl (eVar 4) (oSome (eVar 8)) (oSome (eOp opAdd (eVar 8) (eC (.int 2)))) [some (.scr ns), some (.ref 0), v2, v3, some (.str (tx T)), some (.ref (R.length + 1)), v6, v7, some (.int (k : Int)), some (.str (tx [c])), v10] (tw (n + 1 + 1) :: (R ++ [.lst X])) = .ok (.str (tx M)) (tw (n + 1 + 1) :: (R ++ [.lst X])) := by
        generalize tx T = TT at *
        generalize tx M = TM at *
        generalize tx [c] = TC at *
        generalize tw (n + 1 + 1) :: (R ++ [.lst X]) = SS at *
        simp -implicitDefEqProofs [s5, LIM]
      rw [eStS_v (s1 := tw (n + 1 + 1) :: (R ++ [.lst X])) h1 (show oSome (eUn opNeg (eC (.int 1))) _ _ = .ok (some (-1)) _ from rfl), rv]
      rfl
    rw [show n + 2 = n + 1 + 1 from rfl]
    generalize tx (T.take k ++ V ++ T.drop (k + 2)) = T6 at *
    generalize tx (T.take k ++ V) = T5 at *
    generalize tx (T.take k ++ [c] ++ T.drop (k + 1)) = T4 at *
    generalize tx (T.take k ++ T.drop (k + 1)) = T3 at *
    generalize tx (T.take k ++ [c] ++ T.drop k) = T2 at *
    generalize tx (T.take k ++ [c]) = T1 at *
    generalize tx (T.take k) = TA at *
    generalize tx (T.drop k) = TB at *
    generalize tx (T.drop (k + 1)) = TB1 at *
    generalize tx (T.drop (k + 2)) = TB2 at *
    generalize tx V = TV at *
    generalize tx [c] = TC at *
    generalize tx T = TT at *
    generalize hST : eStS (eSl (eVar 4) (oSome (eVar 8)) (oSome (eOp opAdd (eVar 8) (eC (.int 2))))) oNo oNo (oSome (eUn opNeg (eC (.int 1)))) = STS at *
    unfold law_b1
    rw [hST]
    simp -implicitDefEqProofs [fl, d1, o1, s1, s2, s3, s4, a1, a2', a3, a4, mk, lsX, est2, a5, a6, ap, LIM]

/-! ### texts read, and the whole -/
theorem forV_step {gt : GF} {b : SF} {n N k : Nat} {env e1 e2 : Sx.Env} {s s1 s2 : Sto} {d : D} (h1 : lvAt s n N (N - (k + 1)) = some d) (h2 : gt d env s = some (e1, s1)) (h3 : b e1 s1 = .nx e2 s2) : forV gt b n N (k + 1) env s = forV gt b n N k e2 s2 := by
  simp only [forV, h1, SR.ofG, h2, h3]
theorem forV_nil {gt : GF} {b : SF} {n N : Nat} {env : Sx.Env} {s : Sto} (h : lvOk s n N = true) : forV gt b n N 0 env s = .nx env s := by
  simp only [forV, h, if_true]
theorem same_orD (o : Option Pl) (h : ∀ p, o = some p → ht p ≤ 12) (s : Sto) : sameS 20 [orD o, orD o] s = .ok (.bl true) s := by
  cases o with
  | none => exact same_s _ s
  | some p => exact same_P (by have := h p rfl; omega) s
theorem due_ht {T : List Nat} {p : Pl} (h : dueF T = some p) : ht p ≤ 12 := by
  unfold dueF at h
  split at h
  · rename_i hr
    exact (Qp_some 12 T p [] (by rw [← h, ← hr])).2.2
  · cases h
theorem text_step (v0 v1 v2 v3 v4 v5 v6 v8 v9 v10 : Option D) {l : List Nat} (hl : l.length ≤ 200000) (s : Sto) : law_b2 [v0, v1, v2, v3, v4, v5, v6, some (.str (tx l)), v8, v9, v10] s = .nx [v0, v1, v2, v3, v4, v5, v6, some (.str (tx l)), v8, v9, v10] s := by
  have t := fun s => told_v hl s
  have d := fun s => due_v hl s
  have sm := fun s => same_orD (dueF l) (fun p h => due_ht h) s
  rw [told_due l] at t
  have o1 := fun s => or_v (dueF l) s
  generalize dueF l = o at *
  generalize orD o = OD at *
  generalize oP o = OP at *
  generalize tx l = TL at *
  simp -implicitDefEqProofs [law_b2, t, d, o1, sm]
theorem text_loop {L : List D} (hL : TXT L) {n : Nat} {s : Sto} (hs : s[n]? = some (.lst L)) (v0 v1 v2 v3 v4 v5 v6 v8 v9 v10 : Option D) : ∀ (k : Nat) (v7 : Option D), k ≤ L.length → ∃ w7, forV (gVar 7) law_b2 n L.length k [v0, v1, v2, v3, v4, v5, v6, v7, v8, v9, v10] s = .nx [v0, v1, v2, v3, v4, v5, v6, w7, v8, v9, v10] s
  | 0, v7, _ => ⟨v7, forV_nil (lvOk_l hs)⟩
  | k + 1, v7, h => by
    have hlt : L.length - (k + 1) < L.length := by omega
    obtain ⟨l, e, hl⟩ := hL _ (List.getElem_mem hlt)
    have lv : lvAt s n L.length (L.length - (k + 1)) = some (.str (tx l)) := by
      unfold lvAt
      rw [hs]
      simp only [if_true]
      rw [List.getElem?_eq_getElem hlt, e]
    obtain ⟨w7, ih⟩ := text_loop hL hs v0 v1 v2 v3 v4 v5 v6 v8 v9 v10 k (some (.str (tx l))) (by omega)
    exact ⟨w7, (forV_step lv (show gVar 7 (.str (tx l)) [v0, v1, v2, v3, v4, v5, v6, v7, v8, v9, v10] s = some ([v0, v1, v2, v3, v4, v5, v6, some (.str (tx l)), v8, v9, v10], s) from rfl) (text_step v0 v1 v2 v3 v4 v5 v6 v8 v9 v10 hl s)).trans ih⟩
def MKe : EF := eIf (tV (eOp opEq (eVar 2) (eC (.int 0)))) (eCall law_comb_S (aCons (eVar 0) (aCons (eVar 1) (aCons (eC (.int 12)) aNil)))) (eCall (law_plan_S 20) (aCons (eVar 0) (aCons (eVar 1) (aCons (eC (.int 6)) aNil))))
def BKe : EF := eStS (eVar 4) oNo oNo (oSome (eUn opNeg (eC (.int 1))))
def E1 : EF := eNewL (aCons (eOp opAdd (eVar 4) (eVar 4)) (aCons (eOp opAdd (eC (.str " ")) (eVar 4)) (aCons (eOp opAdd (eVar 4) (eC (.str " "))) (aCons BKe (aCons (eC (.str "")) (aCons (eC (.str "?")) (aCons (eC (.str "*")) (aCons (eC (.str "**")) (aCons (eC (.str "?**")) aNil)))))))))
def E2 : EF := eAddN (eVar 5) (eLst (aCons (eC (.str "??***")) (aCons (eC (.str "100.")) (aCons (eC (.str "007.")) (aCons (eC (.str "00.")) aNil)))))
def LCe : EF := eLc (iRow (eTup (aCons (eC (.int 11)) (aCons (eC (.int 13)) (aCons (eC (.int 14)) aNil))))) (gVar 10) tTrue (eCall (law_say_S 20) (aCons (eCall law_comb_S (aCons (eVar 0) (aCons (eVar 1) (aCons (eVar 10) aNil)))) aNil)) [10]
def E3 : EF := eAddN (eVar 5) LCe
def CKs : SF := sIf (tOr (tNot (tTru (eCall (sameS 20) (aCons (eCall (written_S 20) (aCons (eVar 3) aNil)) (aCons (eVar 4) aNil))))) (tNot (tTru (eCall (sameS 20) (aCons (eCall law_told_S (aCons (eVar 4) aNil)) (aCons (eVar 3) aNil))))))
    (sRet (eC (.bl false)))
    sNext
theorem b3_e : law_b3 = sSeq (sAsg MKe (gVar 3)) (sSeq (sAsg (eCall (law_say_S 20) (aCons (eVar 3) aNil)) (gVar 4)) (sSeq CKs (sSeq (sAsg E1 (gVar 5)) (sSeq (sAsg E2 (gVar 5)) (sSeq (sAsg E3 (gVar 5)) (sSeq (sFor (iRng1 (aCons (eC (.int 8)) aNil)) (gVar 6) law_b1) (sForV (eVar 5) (gVar 7) law_b2))))))) := rfl
theorem MK_v (ns : List Int) (n : Nat) (R : Sto) (hn : n < 700000) (i : Int) (v3 v4 v5 v6 v7 v8 v9 v10 : Option D) : ∃ (p : Pl) (n' : Nat), n' ≤ n + 400 ∧ numOk p ∧ ht p ≤ 12 ∧ MKe [some (.scr ns), some (.ref 0), some (.int i), v3, v4, v5, v6, v7, v8, v9, v10] (tw n :: R) = .ok (dP p) (tw n' :: R) := by
  by_cases c : i = 0
  · obtain ⟨p, n', h1, h2, h3, h4⟩ := comb_v ns R 12 n (by decide) (by omega)
    rw [show ((12 : Nat) : Int) = 12 from rfl] at h4
    refine ⟨p, n', by omega, h2, h3, ?_⟩
    subst c
    generalize dP p = DP at *
    simp -implicitDefEqProofs [MKe, h4]
  · obtain ⟨p, n', h1, h2, h3, h4⟩ := law_plan_n ns 20 6 n 6 R rfl (by decide) (by omega)
    refine ⟨p, n', by omega, h3, by omega, ?_⟩
    generalize dP p = DP at *
    simp -implicitDefEqProofs [MKe, c, h4]
def TX (d : D) : Prop := ∃ l : List Nat, d = .str (tx l) ∧ l.length ≤ 200000
theorem tx_c (z : Str) (h : z.cps.toList.length ≤ 200000) : TX (.str z) := ⟨_, by rw [← txt_str z], h⟩
theorem TXT_nil : TXT [] := fun d h => by cases h
theorem TXT_cons {d : D} {L : List D} (h : TX d) (hL : TXT L) : TXT (d :: L) := fun e he => by
  rcases List.mem_cons.mp he with rfl | he
  · exact h
  · exact hL e he
theorem TXT_app {L M : List D} (h : TXT L) (hL : TXT M) : TXT (L ++ M) := fun e he => by
  rcases List.mem_append.mp he with he | he
  · exact h e he
  · exact hL e he
theorem lst_last {n : Nat} {R : Sto} {X : List D} : (tw n :: (R ++ [Ob.lst X]))[R.length + 1]? = some (.lst X) := by simp
theorem lsOf_last {n : Nat} {R : Sto} {X : List D} : lstOf (tw n :: (R ++ [Ob.lst X])) (.ref (R.length + 1)) = some X := by
  show (match (tw n :: (R ++ [Ob.lst X]))[R.length + 1]? with | some (.lst xs) => some xs | _ => none) = _
  rw [lst_last]
theorem E1_v (n : Nat) (R : Sto) {T : List Nat} (hT : T.length ≤ 20000) (v0 v1 v2 v3 v5 v6 v7 v8 v9 v10 : Option D) : ∃ L : List D, L.length = 9 ∧ TXT L ∧ E1 [v0, v1, v2, v3, some (.str (tx T)), v5, v6, v7, v8, v9, v10] (tw n :: R) = .ok (.ref (R.length + 1)) (tw n :: (R ++ [Ob.lst L])) := by
  obtain ⟨V, hV, rv⟩ := rev_v (w := T) (by omega)
  have es : (" " : Str) = tx [32] := by decide
  have a1 : ∀ s, opAdd s (.str (tx T)) (.str (tx T)) = some (.str (tx (T ++ T))) := fun s => tapp (by omega)
  have a2 : ∀ s, opAdd s (.str " ") (.str (tx T)) = some (.str (tx ([32] ++ T))) := fun s => by rw [es]; exact tapp (by simp only [List.length_cons, List.length_nil]; omega)
  have a3 : ∀ s, opAdd s (.str (tx T)) (.str " ") = some (.str (tx (T ++ [32]))) := fun s => by rw [es]; exact tapp (by simp only [List.length_cons, List.length_nil]; omega)
  have bk : BKe [v0, v1, v2, v3, some (.str (tx T)), v5, v6, v7, v8, v9, v10] (tw n :: R) = .ok (.str (tx V)) (tw n :: R) := by
    have h1 : eVar 4 [v0, v1, v2, v3, some (.str (tx T)), v5, v6, v7, v8, v9, v10] (tw n :: R) = .ok (.str (tx T)) (tw n :: R) := by
      generalize tx T = TT at *
      simp -implicitDefEqProofs []
    unfold BKe
    rw [eStS_v (s1 := tw n :: R) h1 (show oSome (eUn opNeg (eC (.int 1))) _ _ = .ok (some (-1)) _ from rfl), rv]
    rfl
  refine ⟨[.str (tx (T ++ T)), .str (tx ([32] ++ T)), .str (tx (T ++ [32])), .str (tx V), .str "", .str "?", .str "*", .str "**", .str "?**"], rfl, ?_, ?_⟩
  · refine TXT_cons ⟨_, rfl, by rw [List.length_append]; omega⟩ (TXT_cons ⟨_, rfl, by rw [List.length_append]; simp only [List.length_cons, List.length_nil]; omega⟩ (TXT_cons ⟨_, rfl, by rw [List.length_append]; simp only [List.length_cons, List.length_nil]; omega⟩ (TXT_cons ⟨_, rfl, by omega⟩ ?_)))
    exact TXT_cons (tx_c _ (by decide)) (TXT_cons (tx_c _ (by decide)) (TXT_cons (tx_c _ (by decide)) (TXT_cons (tx_c _ (by decide)) (TXT_cons (tx_c _ (by decide)) TXT_nil))))
  · generalize tx (T ++ T) = T1 at *
    generalize tx ([32] ++ T) = T2 at *
    generalize tx (T ++ [32]) = T3 at *
    generalize tx V = TV at *
    generalize tx T = TT at *
    generalize hB : BKe = BB at *
    simp -implicitDefEqProofs [E1, hB, a1, a2, a3, bk, LIM]
theorem E2_v (n : Nat) (R : Sto) {L : List D} (hl : L.length = 9) (hL : TXT L) (v0 v1 v2 v3 v4 v6 v7 v8 v9 v10 : Option D) : ∃ L' : List D, L'.length = 13 ∧ TXT L' ∧ E2 [v0, v1, v2, v3, v4, some (.ref (R.length + 1)), v6, v7, v8, v9, v10] (tw n :: (R ++ [Ob.lst L])) = .ok (.ref ((R ++ [Ob.lst L]).length + 1)) (tw n :: ((R ++ [Ob.lst L]) ++ [Ob.lst L'])) := by
  refine ⟨L ++ [.str "??***", .str "100.", .str "007.", .str "00."], by rw [List.length_append, hl]; rfl, TXT_app hL (TXT_cons (tx_c _ (by decide)) (TXT_cons (tx_c _ (by decide)) (TXT_cons (tx_c _ (by decide)) (TXT_cons (tx_c _ (by decide)) TXT_nil)))), ?_⟩
  have mk := kAddN2_v (a := .ref (R.length + 1)) (b := .lst [.str "??***", .str "100.", .str "007.", .str "00."]) (lsOf_last (n := n) (R := R) (X := L)) (show lstOf (tw n :: (R ++ [Ob.lst L])) (.lst [.str "??***", .str "100.", .str "007.", .str "00."]) = some [.str "??***", .str "100.", .str "007.", .str "00."] from rfl) (by have : (LIM : Nat) = 1000000 := rfl; simp only [List.length_cons, List.length_nil]; omega)
  have e1 : (tw n :: (R ++ [Ob.lst L])).length = (R ++ [Ob.lst L]).length + 1 := rfl
  have e2 : (tw n :: (R ++ [Ob.lst L])) ++ [Ob.lst (L ++ [.str "??***", .str "100.", .str "007.", .str "00."])] = tw n :: ((R ++ [Ob.lst L]) ++ [Ob.lst (L ++ [.str "??***", .str "100.", .str "007.", .str "00."])]) := rfl
  rw [e1, e2] at mk
  generalize tw n :: ((R ++ [Ob.lst L]) ++ [Ob.lst (L ++ [.str "??***", .str "100.", .str "007.", .str "00."])]) = S2 at *
  generalize (R ++ [Ob.lst L]).length + 1 = z at *
  generalize tw n :: (R ++ [Ob.lst L]) = S1 at *
  simp -implicitDefEqProofs [E2, mk, LIM]
theorem E3_v (ns : List Int) (n : Nat) (R : Sto) (hn : n < 720000) {L : List D} (hl : L.length = 13) (hL : TXT L) (v2 v3 v4 v6 v7 v8 v9 v10 : Option D) : ∃ (L' : List D) (n' : Nat), n' ≤ n + 60 ∧ L'.length ≤ 16 ∧ TXT L' ∧ E3 [some (.scr ns), some (.ref 0), v2, v3, v4, some (.ref (R.length + 1)), v6, v7, v8, v9, v10] (tw n :: (R ++ [Ob.lst L])) = .ok (.ref ((R ++ [Ob.lst L]).length + 1)) (tw n' :: ((R ++ [Ob.lst L]) ++ [Ob.lst L'])) := by
  obtain ⟨ys, s', e1, hy, hT, n', hn', rfl⟩ := lcL_inv (gt := gVar 10) (t := tTrue) (f := eCall (law_say_S 20) (aCons (eCall law_comb_S (aCons (eVar 0) (aCons (eVar 1) (aCons (eVar 10) aNil)))) aNil)) (env := [some (.scr ns), some (.ref 0), v2, v3, v4, some (.ref (R.length + 1)), v6, v7, v8, v9, none])
    (fun i s => ∃ m, m ≤ n + 20 * i ∧ s = tw m :: (R ++ [Ob.lst L])) TX (ds := [.int 11, .int 13, .int 14]) (n := 0) (s := tw n :: (R ++ [Ob.lst L])) (fun i d s hd hJ => by
      obtain ⟨m, hm, rfl⟩ := hJ
      obtain ⟨k, rfl, hk, hi⟩ : ∃ k : Nat, d = .int (k : Int) ∧ k ≤ 14 ∧ i < 3 := by
        rcases i with _ | _ | _ | i
        · cases hd; exact ⟨11, rfl, by decide, by decide⟩
        · cases hd; exact ⟨13, rfl, by decide, by decide⟩
        · cases hd; exact ⟨14, rfl, by decide, by decide⟩
        · simp at hd
      obtain ⟨p, m', hm', hp, hh, cb⟩ := comb_v ns (R ++ [Ob.lst L]) k m hk (by omega)
      have sy := say_v p 20 (tw m' :: (R ++ [Ob.lst L])) hp (by omega) (by omega)
      have wb := Wp_bd (p := p) (by omega)
      refine ⟨([some (.scr ns), some (.ref 0), v2, v3, v4, some (.ref (R.length + 1)), v6, v7, v8, v9, some (.int (k : Int))], _), rfl, true, _, rfl, (fun _ => ⟨.str (tx (Wp p)), tw m' :: (R ++ [Ob.lst L]), ?_, ⟨_, rfl, by omega⟩, m', by omega, rfl⟩), (fun h => by cases h)⟩
      generalize tx (Wp p) = TW at *
      generalize dP p = DP at *
      generalize tw m' :: (R ++ [Ob.lst L]) = S2 at *
      generalize tw m :: (R ++ [Ob.lst L]) = S1 at *
      generalize R.length + 1 = z at *
      simp -implicitDefEqProofs [cb, sy]) ⟨n, by omega, rfl⟩
  have hy' : ys.length ≤ 3 := hy
  have hn2 : n' ≤ n + 20 * 3 := by simpa using hn'
  refine ⟨L ++ ys, n', by omega, by rw [List.length_append]; omega, TXT_app hL hT, ?_⟩
  have mk := kAddN2_v (a := .ref (R.length + 1)) (b := .lst ys) (lsOf_last (n := n') (R := R) (X := L)) (show lstOf (tw n' :: (R ++ [Ob.lst L])) (.lst ys) = some ys from rfl) (by have : (LIM : Nat) = 1000000 := rfl; omega)
  have q1 : (tw n' :: (R ++ [Ob.lst L])).length = (R ++ [Ob.lst L]).length + 1 := rfl
  have q2 : (tw n' :: (R ++ [Ob.lst L])) ++ [Ob.lst (L ++ ys)] = tw n' :: ((R ++ [Ob.lst L]) ++ [Ob.lst (L ++ ys)]) := rfl
  rw [q1, q2] at mk
  generalize tw n' :: ((R ++ [Ob.lst L]) ++ [Ob.lst (L ++ ys)]) = S2 at *
  generalize (R ++ [Ob.lst L]).length + 1 = z at *
  generalize tw n :: (R ++ [Ob.lst L]) = S1 at *
  generalize tw n' :: (R ++ [Ob.lst L]) = S3 at *
  generalize R.length + 1 = w at *
  simp -implicitDefEqProofs [E3, LCe, wipeE, e1, mk, LIM]
theorem turn_v (ns : List Int) (n : Nat) (R : Sto) (hn : n < 700000) (i : Int) (v3 v4 v5 v6 v7 v8 v9 v10 : Option D) : ∃ (n' : Nat) (R' : Sto) (w3 w4 w5 w6 w7 w8 w9 : Option D), n' ≤ n + 500 ∧
    law_b3 [some (.scr ns), some (.ref 0), some (.int i), v3, v4, v5, v6, v7, v8, v9, v10] (tw n :: R) = .nx [some (.scr ns), some (.ref 0), some (.int i), w3, w4, w5, w6, w7, w8, w9, v10] (tw n' :: R') := by
  obtain ⟨p, n1, hn1, hp, hh, mk⟩ := MK_v ns n R hn i v3 v4 v5 v6 v7 v8 v9 v10
  have hT : (Wp p).length ≤ 20000 := by
    have := Wp_len p
    have e : 2 ^ ht p ≤ 2 ^ 12 := Nat.pow_le_pow_right (by decide) hh
    have : 2 ^ 12 = 4096 := by decide
    omega
  have sy := say_v p 20 (tw n1 :: R) hp (by omega) (by omega)
  have wr := written_v p 20 (tw n1 :: R) hp (by omega) (by omega)
  have s1 := same_s (tx (Wp p)) (tw n1 :: R)
  have td := told_v (T := Wp p) (by omega) (tw n1 :: R)
  rw [told_W hp hh] at td
  have td : law_told_S [.str (tx (Wp p))] (tw n1 :: R) = .ok (dP p) (tw n1 :: R) := td
  have s2 := same_P (p := p) (by omega) (tw n1 :: R)
  have ck : CKs [some (.scr ns), some (.ref 0), some (.int i), some (dP p), some (.str (tx (Wp p))), v5, v6, v7, v8, v9, v10] (tw n1 :: R) = .nx [some (.scr ns), some (.ref 0), some (.int i), some (dP p), some (.str (tx (Wp p))), v5, v6, v7, v8, v9, v10] (tw n1 :: R) := by
    generalize tx (Wp p) = TW at *
    generalize dP p = DP at *
    generalize tw n1 :: R = S1 at *
    simp -implicitDefEqProofs [CKs, wr, s1, td, s2]
  obtain ⟨L1, l1, x1, e1⟩ := E1_v n1 R hT (some (.scr ns)) (some (.ref 0)) (some (.int i)) (some (dP p)) v5 v6 v7 v8 v9 v10
  obtain ⟨L2, l2, x2, e2⟩ := E2_v n1 R l1 x1 (some (.scr ns)) (some (.ref 0)) (some (.int i)) (some (dP p)) (some (.str (tx (Wp p)))) v6 v7 v8 v9 v10
  obtain ⟨L3, n2, hn2, l3, x3, e3⟩ := E3_v ns n1 (R ++ [Ob.lst L1]) (by omega) l2 x2 (some (.int i)) (some (dP p)) (some (.str (tx (Wp p)))) v6 v7 v8 v9 v10
  obtain ⟨ev, s', h1, R', m', L', v6', v8', v9', rfl, rfl, hm', hx', hl'⟩ := forL_inv (gt := gVar 6) (b := law_b1) (ds := rangeD 0 8) (fun j env s => ∃ (R' : Sto) (m' : Nat) (L' : List D) (v6 v8 v9 : Option D), env = [some (.scr ns), some (.ref 0), some (.int i), some (dP p), some (.str (tx (Wp p))), some (.ref (m' + 1)), v6, v7, v8, v9, v10] ∧ s = tw (n2 + 2 * j) :: R' ∧ (tw (n2 + 2 * j) :: R')[m' + 1]? = some (.lst L') ∧ TXT L' ∧ L'.length ≤ 16 + 4 * j) (fun j d env s hd hI => by
    obtain ⟨hj, rfl⟩ := rangeD_get hd
    obtain ⟨R', m', L', v6, v8, v9, rfl, rfl, hm', hx', hl'⟩ := hI
    have hj2 : j < 8 := by omega
    obtain ⟨R2, m2, L2, w8, w9, g1, g2, g3, g4⟩ := turn1_v ns (n2 + 2 * j) R' (by omega) (some (.int i)) (some (dP p)) (some (.int (0 + (j : Int)))) v7 v8 v9 v10 hT hm' hx' (by omega)
    exact ⟨_, rfl, _, _, .inl g4, R2, m2, L2, _, w8, w9, rfl, rfl, g1, g2, by omega⟩)
    (env := [some (.scr ns), some (.ref 0), some (.int i), some (dP p), some (.str (tx (Wp p))), some (.ref ((R ++ [Ob.lst L1] ++ [Ob.lst L2]).length + 1)), v6, v7, v8, v9, v10]) (s := tw n2 :: (R ++ [Ob.lst L1] ++ [Ob.lst L2] ++ [Ob.lst L3]))
    ⟨_, _, L3, _, _, _, rfl, rfl, lst_last, x3, by omega⟩
  have h8 : (rangeD 0 8).length = 8 := rfl
  rw [h8] at h1 hm' hl'
  obtain ⟨w7, tl⟩ := text_loop hx' hm' (some (.scr ns)) (some (.ref 0)) (some (.int i)) (some (dP p)) (some (.str (tx (Wp p)))) (some (.ref (m' + 1))) v6' v8' v9' v10 L'.length v7 (Nat.le_refl _)
  have kl := kLiV_ref hm'
  have hfv : sForV (eVar 5) (gVar 7) law_b2 [some (.scr ns), some (.ref 0), some (.int i), some (dP p), some (.str (tx (Wp p))), some (.ref (m' + 1)), v6', v7, v8', v9', v10] (tw (n2 + 2 * 8) :: R') = .nx [some (.scr ns), some (.ref 0), some (.int i), some (dP p), some (.str (tx (Wp p))), some (.ref (m' + 1)), v6', w7, v8', v9', v10] (tw (n2 + 2 * 8) :: R') := by
    unfold sForV
    rw [liV_v]
    have e1 : eVar 5 [some (.scr ns), some (.ref 0), some (.int i), some (dP p), some (.str (tx (Wp p))), some (.ref (m' + 1)), v6', v7, v8', v9', v10] (tw (n2 + 2 * 8) :: R') = .ok (.ref (m' + 1)) (tw (n2 + 2 * 8) :: R') := rfl
    rw [e1, kl]
    exact tl
  refine ⟨n2 + 2 * 8, R', some (dP p), some (.str (tx (Wp p))), some (.ref (m' + 1)), v6', w7, v8', v9', by omega, ?_⟩
  have hr8 : rOk 8 = true := by decide
  rw [b3_e]
  generalize hFV : sForV (eVar 5) (gVar 7) law_b2 = FV at *
  generalize MKe = A0 at *
  generalize CKs = A1 at *
  generalize E1 = A2 at *
  generalize E2 = A3 at *
  generalize E3 = A4 at *
  generalize tx (Wp p) = TW at *
  generalize dP p = DP at *
  generalize tw (n2 + 2 * 8) :: R' = S9 at *
  generalize tw n2 :: (R ++ [Ob.lst L1] ++ [Ob.lst L2] ++ [Ob.lst L3]) = S4 at *
  generalize (R ++ [Ob.lst L1] ++ [Ob.lst L2]).length + 1 = z3 at *
  generalize tw n1 :: (R ++ [Ob.lst L1] ++ [Ob.lst L2]) = S3 at *
  generalize (R ++ [Ob.lst L1]).length + 1 = z2 at *
  generalize tw n1 :: (R ++ [Ob.lst L1]) = S2 at *
  generalize R.length + 1 = z1 at *
  generalize tw n1 :: R = S1 at *
  simp -implicitDefEqProofs [mk, sy, ck, e1, e2, e3, hr8, h1, hfv, LIM]
theorem holds : ∀ ns : List Int, ns.length ≤ 63 → ∃ s, law_S [.scr ns] [] = .ok (.bl true) s := by
  intro ns hl
  obtain ⟨e1, s1, h1, n, R, v2, v3, v4, v5, v6, v7, v8, v9, hn, rfl, rfl⟩ := forL_inv (gt := gVar 2) (b := law_b3) (ds := rangeD 0 6) (fun j env s => ∃ (n : Nat) (R : Sto) (v2 v3 v4 v5 v6 v7 v8 v9 : Option D), n ≤ 500 * j ∧ env = [some (.scr ns), some (.ref 0), v2, v3, v4, v5, v6, v7, v8, v9, none] ∧ s = tw n :: R) (fun j d env s hd hI => by
    obtain ⟨hj, rfl⟩ := rangeD_get hd
    obtain ⟨n, R, v2, v3, v4, v5, v6, v7, v8, v9, hn, rfl, rfl⟩ := hI
    have hj2 : j < 6 := by omega
    obtain ⟨n', R', w3, w4, w5, w6, w7, w8, w9, hn', g⟩ := turn_v ns n R (by omega) (0 + (j : Int)) v3 v4 v5 v6 v7 v8 v9 none
    exact ⟨_, rfl, _, _, .inl g, n', R', _, w3, w4, w5, w6, w7, w8, w9, by omega, rfl, rfl⟩)
    (env := [some (.scr ns), some (.ref 0), none, none, none, none, none, none, none, none, none]) (s := [tw 0]) ⟨0, [], _, _, _, _, _, _, _, _, by omega, rfl, rfl⟩
  refine ⟨tw n :: R, ?_⟩
  have hr6 : rOk 6 = true := by decide
  have h1' : forL (gVar 2) law_b3 (rangeD 0 6) [some (.scr ns), some (.ref 0), none, none, none, none, none, none, none, none, none] [.lst []] = .nx [some (.scr ns), some (.ref 0), v2, v3, v4, v5, v6, v7, v8, v9, none] (tw n :: R) := h1
  unfold law_S
  rw [fnOf_1]
  generalize tw n :: R = SS at *
  simp -implicitDefEqProofs [hr6, h1', LIM]

end Gen

open PySem PySem.W PyProof.Rows in
set_option maxRecDepth 100000 in
set_option maxHeartbeats 0 in
theorem PySem.Challenge.cw_bitdraws_k38_whole_plans_as_texts_holds : PySem.Challenge.rw_bitdraws_k38_whole_plans_as_texts.Holds := by
  w_on; o_law; k_head; (case hw => w_witness2)
  k_fill
  refine Gen.walk Gen.holds (l := PySem.Challenge.rw_bitdraws_k38_whole_plans_as_texts) rfl rfl (fun w h Y => PySem.W.kIn_of Y) ?F
  case F =>
    intro w mg fa h KX G hmg
    refine' Gen.all_mk KX G hmg ?aC0 ?pg0 ?hd0 ?po0 ?sa0 ?mk0 ?kc0 ?nC0_0 ?nC0_1 ?a0 ?l0 ?c0 ?k0 ?a1 ?l1 ?c1 ?k1 ?a2 ?l2 ?c2 ?k2 ?a3 ?i3 ?l3 ?c3 ?k3 ?a4 ?i4 ?l4 ?c4 ?k4 ?a5 ?i5 ?l5 ?c5 ?k5 ?a6 ?l6 ?c6 ?k6 ?a7 ?l7 ?c7 ?k7 ?a8 ?l8 ?c8 ?k8 ?a9 ?l9 ?c9 ?k9 ?a10 ?l10 ?c10 ?k10 ?a11 ?l11 ?c11 ?k11 ?a12 ?l12 ?c12 ?k12 ?a13 ?l13 ?c13 ?k13 ?a14 ?l14 ?c14 ?k14 ?a15 ?l15 ?c15 ?k15 ?a16 ?l16 ?c16 ?k16 ?a17 ?l17 ?c17 ?k17 ?g_AGAIN ?lt_AGAIN ?g_DEEP_MOST ?g_FIGURES ?g_NUMBER_MOST ?gx0 ?xx0 ?kx0 ?bx0 ?tx0 ?ix0 ?sx0_0 ?z_all ?z_bool ?z_int ?z_isinstance ?z_len ?z_range ?z_str ?z_tuple ?z_zip
    (case aC0 => k_is)
    (case pg0 => k_is)
    (case hd0 => k_is)
    (case po0 => k_is)
    (case sa0 => k_is)
    (case mk0 => k_is)
    (case kc0 => k_is)
    (case nC0_0 => k_is)
    (case nC0_1 => k_is)
    (case a0 => k_is)
    (case l0 => k_is)
    (case c0 => k_is)
    (case k0 => k_is)
    (case a1 => k_is)
    (case l1 => k_is)
    (case c1 => k_is)
    (case k1 => k_is)
    (case a2 => k_is)
    (case l2 => k_is)
    (case c2 => k_is)
    (case k2 => k_is)
    (case a3 => k_is)
    (case i3 => k_is)
    (case l3 => k_is)
    (case c3 => k_is)
    (case k3 => k_is)
    (case a4 => k_is)
    (case i4 => k_is)
    (case l4 => k_is)
    (case c4 => k_is)
    (case k4 => k_is)
    (case a5 => k_is)
    (case i5 => k_is)
    (case l5 => k_is)
    (case c5 => k_is)
    (case k5 => k_is)
    (case a6 => k_is)
    (case l6 => k_is)
    (case c6 => k_is)
    (case k6 => k_is)
    (case a7 => k_is)
    (case l7 => k_is)
    (case c7 => k_is)
    (case k7 => k_is)
    (case a8 => k_is)
    (case l8 => k_is)
    (case c8 => k_is)
    (case k8 => k_is)
    (case a9 => k_is)
    (case l9 => k_is)
    (case c9 => k_is)
    (case k9 => k_is)
    (case a10 => k_is)
    (case l10 => k_is)
    (case c10 => k_is)
    (case k10 => k_is)
    (case a11 => k_is)
    (case l11 => k_is)
    (case c11 => k_is)
    (case k11 => k_is)
    (case a12 => k_is)
    (case l12 => k_is)
    (case c12 => k_is)
    (case k12 => k_is)
    (case a13 => k_is)
    (case l13 => k_is)
    (case c13 => k_is)
    (case k13 => k_is)
    (case a14 => k_is)
    (case l14 => k_is)
    (case c14 => k_is)
    (case k14 => k_is)
    (case a15 => k_is)
    (case l15 => k_is)
    (case c15 => k_is)
    (case k15 => k_is)
    (case a16 => k_is)
    (case l16 => k_is)
    (case c16 => k_is)
    (case k16 => k_is)
    (case a17 => k_is)
    (case l17 => k_is)
    (case c17 => k_is)
    (case k17 => k_is)
    (case g_AGAIN => k_is)
    (case lt_AGAIN => k_is)
    (case g_DEEP_MOST => k_is)
    (case g_FIGURES => k_is)
    (case g_NUMBER_MOST => k_is)
    (case gx0 => k_is)
    (case xx0 => k_exc)
    (case kx0 => k_is)
    (case bx0 => k_is)
    (case tx0 => k_is)
    (case ix0 => k_is)
    (case sx0_0 => k_is)
    (case z_all => k_is)
    (case z_bool => k_is)
    (case z_int => k_is)
    (case z_isinstance => k_is)
    (case z_len => k_is)
    (case z_range => k_is)
    (case z_str => k_is)
    (case z_tuple => k_is)
    (case z_zip => k_is)
