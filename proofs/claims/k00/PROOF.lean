import PyProof.Rows.All
import Wide.All
import OpenK.AllK
import Wide.FinOn
import HandS.ForMost
import KE.SortData
import HandS.Conv
import HandS.HeadHook4
import HandS.Exc
import HandS.Lambda
import HandS.ExcInit
import KE.KExcSuper
import HandS.ExcIs
import HandS.ExcField
import HandS.WordsExc
import HandS.Deep
import HandS.Style
import HandS.IsInst
import HandS.Text
import HandS.TupAny
import HandS.TupMul
import PyProof.RowDictHeap
import HandS.Property
import HandS.TryOnly
import HandS.Star
import HandS.Flow
import HandS.Dict
import HandS.More
import HandS.Iter
import HandS.HeadWalk
import PyProof.ReprRoads
import KE.GoesEnum
import HandS.Zip
import HandS.NoneIn
import HandS.Small
import HandS.ListItems
import HandS.TupSets
import HandS.Codes
import HandS.EndBits
import HandS.HeadHook1
import HandS.HeadHook2
import HandS.Head0
import HandS.Head1
import HandS.Head2
import KE.KStateDown
import PySem.Challenge.RW_wallbooks_k00_errors_and_what_they_keep
set_option Elab.async false
set_option linter.all false
set_option maxRecDepth 100000
/-! Vm, part 1: own syntax, plain data, the weakest preconditions. -/
namespace Vm
open PySem PySem.Spec L2

/-- plain data: everything but ref is never changed -/
inductive D where
  | non | bl (b : Bool) | int (i : Int) | str (x : Str)
  | tup (xs : List D) | lst (xs : List D)
  | dct (kvs : List (Key × D)) | dcT (kvs : List (List Key × D))
  | obj (c : Str) (fs : List (Str × D))
  | exc (c : Str) (v : D)
  | ref (n : Nat)
  | glo (x : Str)
  | ty (n : String)
  | scr (xs : List Int)
/-- a store's object -/
inductive O where
  | lst (xs : List D) | dct (kvs : List (Key × D)) | dcT (kvs : List (List Key × D))
  | ins (c : Str) (fs : List (Str × D))
  | dead
abbrev Sto := List O
abbrev Slots := List (Option D)

mutual
/-- all refs lie below n -/
def D.lim (n : Nat) : D → Bool
  | .tup xs | .lst xs => limL n xs
  | .dct kvs => limK n kvs
  | .dcT kvs => limT n kvs
  | .obj _ fs => limF n fs
  | .exc _ v => v.lim n
  | .ref m => decide (m < n)
  | _ => true
def limL (n : Nat) : List D → Bool
  | [] => true
  | x :: r => x.lim n && limL n r
def limK (n : Nat) : List (Key × D) → Bool
  | [] => true
  | (_, x) :: r => x.lim n && limK n r
def limT (n : Nat) : List (List Key × D) → Bool
  | [] => true
  | (_, x) :: r => x.lim n && limT n r
def limF (n : Nat) : List (Str × D) → Bool
  | [] => true
  | (_, x) :: r => x.lim n && limF n r
end
def O.lim (n : Nat) : O → Bool
  | .lst xs => limL n xs
  | .dct kvs => limK n kvs
  | .dcT kvs => limT n kvs
  | .ins _ fs => limF n fs
  | .dead => true

/-! ### data of the library -/
mutual
def D.data : D → Option PyData
  | .non => some .none
  | .bl b => some (.bool b)
  | .int i => some (.int i)
  | .str x => some (.str x)
  | .tup xs => (dataL xs).map .tuple
  | .lst xs => (dataL xs).map .list
  | _ => none
def dataL : List D → Option (List PyData)
  | [] => some []
  | x :: r => (x.data).bind fun d => (dataL r).map fun ds => d :: ds
end

def keyP : Key → PyData
  | .inl i => .int i
  | .inr x => .str x
mutual
/-- .. dicts too -/
def D.dat2 : D → Option PyData
  | .non => some .none
  | .bl b => some (.bool b)
  | .int i => some (.int i)
  | .str x => some (.str x)
  | .tup xs => (dat2L xs).map .tuple
  | .lst xs => (dat2L xs).map .list
  | .dct kvs => (dat2K kvs).map .dict
  | _ => none
def dat2L : List D → Option (List PyData)
  | [] => some []
  | x :: r => (x.dat2).bind fun d => (dat2L r).map fun ds => d :: ds
def dat2K : List (Key × D) → Option (List (PyData × PyData))
  | [] => some []
  | (k, x) :: r => (x.dat2).bind fun d => (dat2K r).map fun ds => (keyP k, d) :: ds
end

/-! ### syntax -/
inductive BinO where | add | sub | mul | fdiv | mod | pow
  deriving DecidableEq
inductive CmpO where | eq | ne | lt | le | gt | ge | isin | notin
  deriving DecidableEq
inductive Bi where | len | int | abs | min | max | list | tuple | sorted | all | any | sum | repr | str | isinst | dict
  deriving DecidableEq
inductive Bm where | append | extend | pop | index | split | join | replace | upper | strip | get | update
  deriving DecidableEq
inductive T where
  | nm (i : Nat)
  | tup (a : T) (r : T)      -- the target a, then those of r
  | nil
mutual
inductive E where
  | var (i : Nat)
  | int (i : Int) | str (x : Str) | bl (b : Bool) | non
  | glo (x : Str)
  | bty (n : String)
  | bin (o : BinO) (a b : E)
  | neg (a : E)
  | cmp (o : CmpO) (a b : E)
  | cmp2 (o o2 : CmpO) (a b c : E)
  | isN (pos : Bool) (a : E)
  | isB (pos b : Bool) (a : E)
  | bop (isAnd : Bool) (es : Es)
  | not (a : E)
  | ite (c a b : E)
  | call (f : Str) (es : Es)
  | make (c : Str) (es : Es)
  | meth (m : Str) (o : E) (es : Es)
  | bi (f : Bi) (al : Bool) (es : Es)
  | bm (m : Bm) (o : E) (es : Es)
  | attr (f : Str) (o : E)
  | idx (o i : E)
  | slc (o : E) (lo hi : Eo)
  | tup (es : Es)
  | lst (al : Bool) (es : Es)
  | dic (al : Bool) (kvs : Es)     -- key, value, key, value ..
  | comp (al : Bool) (own : List Nat) (elt : E) (t : T) (s : Sr) (ifs : Es)
  | comp2 (al : Bool) (own own2 : List Nat) (elt : E) (t : T) (s : Sr) (ifs : Es) (t2 : T) (s2 : Sr) (ifs2 : Es)
  | dcomp (al : Bool) (own : List Nat) (k v : E) (t : T) (s : Sr) (ifs : Es)
  | told (e : E)
  | rngl (al : Bool) (es : Es)
  | rev (o : E)
  | dcop (al : Bool) (e : E)
  | exv (c : Str) (e : E)
  | lens (e : E)
  | ssrt (al : Bool) (e : E)
inductive Es where
  | nil
  | cons (e : E) (r : Es)
  | star (e : E) (r : Es)
inductive Eo where
  | none
  | some (e : E)
inductive Sr where
  | ex (e : E)
  | rng (es : Es)
  | enu (e : E)
  | zip (a b : E)
end
mutual
inductive S where
  | set (t : T) (e : E)
  | par (t : T) (es : Es)
  | setA (o : E) (f : Str) (e : E)
  | setI (o i e : E)
  | aug (i : Nat) (o : BinO) (e : E)
  | exp (e : E)
  | ret (e : E)
  | ifs (c : E) (a b : Ss)
  | for_ (t : T) (s : Sr) (b : Ss)
  | whil (c : E) (b : Ss)
  | raise (c : Str) (e : E)
  | try_ (b : Ss) (c : Str) (i : Option Nat) (h : Ss)
  | brk | cont | pass | dead
inductive Ss where
  | nil
  | cons (s : S) (r : Ss)
  | frz (i : Nat) (r : Ss)
end

/-! ### what the text tells besides the defs -/
structure Cl where
  name : Str
  mths : List (Str × Str) := []
  prps : List (Str × Str) := []
  flds : List Str := []
structure Ctx where
  cls : List Cl
  exs : List (Str × List Str)
  glo : List (Str × D)
def Ctx.cl (C : Ctx) (c : Str) : Option Cl := C.cls.find? fun l => l.name == c
def Ctx.mth (C : Ctx) (c m : Str) : Option Str := (C.cl c).bind fun l => l.mths.lookup m
def Ctx.prp (C : Ctx) (c m : Str) : Option Str := (C.cl c).bind fun l => l.prps.lookup m

def Ctx.fld (C : Ctx) (c f : Str) : Bool := match C.cl c with
  | some l => l.flds.contains f
  | none => false

abbrev QD := D → Sto → Prop
/-- what a def does: by its name, to arguments and store; the wanted end, the wanted exception -/
abbrev Fn := Str → List D → Sto → QD → QD → Prop

/-! ### looks at values -/
/-- the items of a list or tuple -/
def seqOf (st : Sto) : D → Option (List D)
  | .tup xs | .lst xs => some xs
  | .ref n => match st[n]? with
    | some (.lst xs) => some xs
    | _ => none
  | _ => none
def isLst (st : Sto) : D → Bool
  | .lst _ => true
  | .ref n => match st[n]? with
    | some (.lst _) => true
    | _ => false
  | _ => false
def insOf (st : Sto) : D → Option (Str × List (Str × D))
  | .obj c fs => some (c, fs)
  | .ref n => match st[n]? with
    | some (.ins c fs) => some (c, fs)
    | _ => none
  | _ => none
def dctOf (st : Sto) : D → Option (List (Key × D))
  | .dct kvs => some kvs
  | .ref n => match st[n]? with
    | some (.dct kvs) => some kvs
    | _ => none
  | _ => none
def dcTOf (st : Sto) : D → Option (List (List Key × D))
  | .dcT kvs => some kvs
  | .ref n => match st[n]? with
    | some (.dcT kvs) => some kvs
    | _ => none
  | _ => none
/-- as data, refs of lists read -/
def dataOf (st : Sto) : D → Option PyData
  | .ref n => match st[n]? with
    | some (.lst xs) => (dataL xs).map .list
    | _ => none
  | d => d.data
/-- .. dicts too -/
def dataOf2 (st : Sto) : D → Option PyData
  | .ref n => match st[n]? with
    | some (.lst xs) => (dat2L xs).map .list
    | some (.dct kvs) => (dat2K kvs).map .dict
    | _ => none
  | d => d.dat2
def keyOf : D → Option Key
  | .int i => some (.inl i)
  | .str x => some (.inr x)
  | _ => none
def keysOf : List D → Option (List Key)
  | [] => some []
  | d :: r => (keyOf d).bind fun k => (keysOf r).map fun ks => k :: ks
/-- a set's members; those that come later stand ahead -/
def hasK (ks : List Key) (k : Key) : Bool := ks.any fun j => decide (j = k)
def addK (ks : List Key) (k : Key) : List Key := if hasK ks k = true then ks else k :: ks
def dedK (ks : List Key) : List Key := ks.foldl addK []
def dK : Key → D
  | .inl i => .int i
  | .inr x => .str x
def oneK (ks : List Key) : Prop := (∀ k ∈ ks, ∃ i, k = .inl i) ∨ ∀ k ∈ ks, ∃ x, k = .inr x
def sLen : Nat := sizeLine
def sStr : List D → Option (List Str)
  | [] => some []
  | .str x :: r => (sStr r).map fun xs => x :: xs
  | _ => none
def sBl : List D → Option (List Bool)
  | [] => some []
  | .bl x :: r => (sBl r).map fun xs => x :: xs
  | _ => none
def sInt : List D → Option (List Int)
  | [] => some []
  | .int x :: r => (sInt r).map fun xs => x :: xs
  | _ => none
/-- a dict's value, a value stored -/
def valD {κ : Type} [DecidableEq κ] (kvs : List (κ × D)) (k : κ) : Option D := (kvs.find? fun kv => decide (kv.1 = k)).map (·.2)
def putD {κ : Type} [DecidableEq κ] (kvs : List (κ × D)) (k : κ) (v : D) : List (κ × D) :=
  if (kvs.any fun kv => decide (kv.1 = k)) = true then kvs.map (fun kv => if kv.1 = k then (kv.1, v) else kv) else kvs ++ [(k, v)]
def shapedD (st : Sto) (x : D) : Option PyData := (dataOf st x).bind fun d => if SeqAt.shaped d then some d else none

/-- is it None -/
def isND (st : Sto) : D → Option Bool
  | .non => some true
  | .ref n => match st[n]? with
    | none => none
    | some .dead => none
    | some _ => some false
  | _ => some false
/-! ### operators -/
def cutL {α : Type} (xs : List α) (lo hi : Option Int) : List α := (xs.drop (HT.sIx xs.length 0 lo)).take (HT.sIx xs.length xs.length hi - HT.sIx xs.length 0 lo)
def addD (st : Sto) (x y : D) (Q : D → Prop) : Prop :=
  match x with
  | .int i => ∃ j, y = .int j ∧ Q (.int (i + j))
  | .str a => ∃ b, y = .str b ∧ a.length + b.length ≤ sizeLine ∧ Q (.str (a ++ b))
  | .tup xs => ∃ ys, y = .tup ys ∧ xs.length + ys.length ≤ sizeLine ∧ Q (.tup (xs ++ ys))
  | x => ∃ xs ys, isLst st x = true ∧ isLst st y = true ∧ seqOf st x = some xs ∧ seqOf st y = some ys ∧ xs.length + ys.length ≤ sizeLine ∧ Q (.lst (xs ++ ys))
def arith (x y : D) (Q : Int → Int → Prop) : Prop := ∃ i j, x = .int i ∧ y = .int j ∧ Q i j
/-- ** with room for what comes out -/
def PowOk (i j : Int) : Prop := 0 ≤ j ∧ ((i.natAbs.log2 : Int) + 1) * j ≤ 134217728
/-- numbers, a tuple or list so many times -/
def mulD (st : Sto) (x y : D) (Q : D → Prop) : Prop :=
  match x with
  | .int i => ∃ j, y = .int j ∧ CMul i j ∧ Q (.int (i * j))
  | .tup xs => ∃ k, y = .int k ∧ xs ≠ [] ∧ 2 ≤ k ∧ k ≤ 1000 ∧ xs.length ≤ 1000 ∧ Q (.tup (List.replicate k.toNat xs).flatten)
  | x => ∃ k xs, y = .int k ∧ isLst st x = true ∧ seqOf st x = some xs ∧ -(2 ^ 62) ≤ k ∧ k < 2 ^ 62 ∧ xs.length * k.toNat ≤ sizeLine ∧ Q (.lst (List.replicate k.toNat xs).flatten)
def binD (st : Sto) (o : BinO) (x y : D) (Q : D → Prop) : Prop :=
  match o with
  | .add => addD st x y Q
  | .sub => arith x y fun i j => Q (.int (i - j))
  | .mul => mulD st x y Q
  | .fdiv => arith x y fun i j => CDiv i j ∧ Q (.int (i / j))
  | .mod => arith x y fun i j => 0 < j ∧ Q (.int (i % j))
  | .pow => arith x y fun i j => PowOk i j ∧ Q (.int (i ^ j.toNat))
/-- a comparison that needs no def -/
def ltD (x y : D) (Q : Bool → Prop) : Prop :=
  match x with
  | .int i => ∃ j, y = .int j ∧ Q (decide (i < j))
  | .str a => ∃ b, y = .str b ∧ Q (decide (a.cps.toList < b.cps.toList))
  | _ => False
def eqDD (st : Sto) (x y : D) (Q : Bool → Prop) : Prop := (∃ a b, x = .str a ∧ y = .str b ∧ Q (decide (a = b))) ∨ ∃ a b, shapedD st x = some a ∧ shapedD st y = some b ∧ Q (PyData.eqv a b)
/-! ### built-in functions -/
def lenD (st : Sto) (x : D) : Option Nat :=
  match seqOf st x with
  | some xs => some xs.length
  | none => match x with
    | .str s => if s.length ≤ sizeLine then some s.length else none
    | .scr xs => some xs.length
    | x => match dctOf st x with
      | some kvs => some kvs.length
      | none => none
/-- the built-in class of a value -/
def kindOf (st : Sto) : D → Option String
  | .non => some "NoneType"
  | .bl _ => some "bool"
  | .int _ => some "int"
  | .str _ => some "str"
  | .tup _ => some "tuple"
  | .lst _ => some "list"
  | .dct _ | .dcT _ => some "dict"
  | .ref n => match st[n]? with
    | some (.lst _) => some "list"
    | some (.dct _) | some (.dcT _) => some "dict"
    | _ => none
  | _ => none
def tyNms : List String := ["str", "int", "bool", "tuple", "list", "dict", "ValueError", "TypeError"]
def isTy (C : Ctx) (st : Sto) (n : String) (x : D) : Option Bool :=
  match kindOf st x with
  | some k => some (k == n || (k == "bool" && n == "int"))
  | none => (insOf st x).bind fun p => if (C.cl p.1).isSome = true then some false else none
def isCl (C : Ctx) (st : Sto) (c : Str) (x : D) : Option Bool :=
  match kindOf st x with
  | some _ => some false
  | none => (insOf st x).bind fun p => if (C.cl p.1).isSome = true then some (p.1 == c) else none
def excOf : D → Option Str
  | .exc c _ => some c
  | _ => none
/-- the names of the classes over an exception's class -/
def ancOf (C : Ctx) (x : D) : Option (List Str) := (excOf x).bind fun c => C.exs.lookup c
/-- an exception, or a value of a built-in class, against an own exception class -/
def isXc (C : Ctx) (st : Sto) (c : Str) (x : D) : Option Bool :=
  match kindOf st x with
  | some _ => some false
  | none => (ancOf C x).map fun anc => anc.contains c
def isI (C : Ctx) (st : Sto) (x t : D) : Option Bool :=
  match t with
  | .ty n => if tyNms.contains n = true then (match ancOf C x with
    | some anc => some (anc.contains (PySem.Str.ofString n))
    | none => isTy C st n x) else none
  | .glo c => if (C.cl c).isSome = true then isCl C st c x else if (C.exs.lookup c).isSome = true then isXc C st c x else none
  | _ => none
def encD (d : D) : PyData := d.data.getD .none
def sortD (xs : List D) : List D := xs.mergeSort (PySem.W.dataLe false encD)
def retL (al : Bool) (xs : List D) (st : Sto) (Q : QD) : Prop :=
  xs.length ≤ sizeLine ∧ if al = true then Q (.ref st.length) (st ++ [.lst xs]) else Q (.lst xs) st
def retK (al : Bool) (kvs : List (Key × D)) (st : Sto) (Q : QD) : Prop :=
  kvs.length ≤ sizeLine ∧ if al = true then Q (.ref st.length) (st ++ [.dct kvs]) else Q (.dct kvs) st
def one (ds : List D) (k : D → Prop) : Prop := ∃ x, ds = [x] ∧ k x
def two (ds : List D) (k : D → D → Prop) : Prop := ∃ x y, ds = [x, y] ∧ k x y
def intOf (x : D) (st : Sto) (Q : QD) : Prop :=
  match x with
  | .int i => Q (.int i) st
  | .bl b => Q (.int (if b = true then 1 else 0)) st
  | .str s => ∃ n, PySem.intText? s = some n ∧ s.length ≤ 640 ∧ Q (.int n) st
  | _ => False
def strOf (x : D) (st : Sto) (Q : QD) : Prop :=
  match x with
  | .int i => i.natAbs.log2 < 1920 ∧ Q (.str (toString i)) st
  | _ => False
def wBi (Φ : Fn) (C : Ctx) (f : Bi) (al : Bool) (ds : List D) (st : Sto) (Q EX : QD) : Prop :=
  match f with
  | .len => one ds fun x => match insOf st x with
    | some p => ∃ g, C.mth p.1 "__len__" = some g ∧ Φ g [x] st (fun d st' => ∃ n : Nat, d = .int n ∧ n < 2 ^ 62 ∧ Q d st') EX
    | none => ∃ n : Nat, lenD st x = some n ∧ Q (.int n) st
  | .int => one ds fun x => intOf x st Q
  | .abs => one ds fun x => ∃ i, x = .int i ∧ Q (.int (if i < 0 then -i else i)) st
  | .min => two ds fun x y => arith x y fun i j => Q (.int (if j < i then j else i)) st
  | .max => two ds fun x y => arith x y fun i j => Q (.int (if j > i then j else i)) st
  | .list => one ds fun x => ∃ xs, seqOf st x = some xs ∧ retL al xs st Q
  | .tuple => one ds fun x => ∃ xs, seqOf st x = some xs ∧ Q (.tup xs) st
  | .sorted => one ds fun x => ∃ xs ps, isLst st x = true ∧ seqOf st x = some xs ∧ dataL xs = some ps ∧ PySem.W.AllAlike ps ∧ PySem.W.Sortable ps ∧ (∀ p ∈ ps, p.depth ≤ 60) ∧ retL al (sortD xs) st Q
  | .all => one ds fun x => ∃ xs bs, isLst st x = true ∧ seqOf st x = some xs ∧ sBl xs = some bs ∧ Q (.bl (bs.all id)) st
  | .any => one ds fun x => ∃ xs bs, isLst st x = true ∧ seqOf st x = some xs ∧ sBl xs = some bs ∧ Q (.bl (bs.any id)) st
  | .sum => one ds fun x => ∃ xs is, isLst st x = true ∧ seqOf st x = some xs ∧ sInt xs = some is ∧ Q (.int is.sum) st
  | .repr => one ds fun x => ∃ p, dataOf2 st x = some p ∧ p.showable = true ∧ p.depth ≤ 60 ∧ p.shown.length ≤ sizeLine ∧ Q (.str p.shown) st
  | .str => one ds fun x => strOf x st Q
  | .isinst => two ds fun x t => ∃ b, isI C st x t = some b ∧ Q (.bl b) st
  | .dict => False
def lstAt (st : Sto) (o : D) (k : Nat → List D → Prop) : Prop := ∃ n xs, o = .ref n ∧ st[n]? = some (.lst xs) ∧ k n xs
/-- the receiver of a method -/
def bmOk (m : Bm) (st : Sto) (x : D) : Bool :=
  match m with
  | .append | .extend | .pop => isLst st x
  | .split | .join => match x with
    | .str _ => true
    | _ => false
  | _ => false
def wBm (m : Bm) (o : D) (ds : List D) (st : Sto) (Q : QD) : Prop :=
  match m with
  | .append => one ds fun x => lstAt st o fun n xs => xs.length < sizeLine ∧ Q .non (st.set n (.lst (xs ++ [x])))
  | .extend => one ds fun y => lstAt st o fun n xs => ∃ ys, isLst st y = true ∧ seqOf st y = some ys ∧ xs.length + ys.length ≤ sizeLine ∧ Q .non (st.set n (.lst (xs ++ ys)))
  | .pop => one ds fun y => lstAt st o fun n xs => ∃ i k x, y = .int i ∧ -(2 ^ 63) ≤ i ∧ i < 2 ^ 63 ∧ seqIndex? i xs.length = some k ∧ xs[k]? = some x ∧ Q x (st.set n (.lst (xs.eraseIdx k)))
  | .split => one ds fun y => ∃ a b, o = .str a ∧ y = .str b ∧ (b.length == 0) = false ∧ a.length + 2 ≤ sizeLine ∧ Q (.lst ((Txt.split a b).map .str)) st
  | .join => one ds fun y => ∃ a ys zs, o = .str a ∧ seqOf st y = some ys ∧ sStr ys = some zs ∧ (zs.map (·.length)).sum + zs.length * a.length ≤ 16777216 ∧ Q (.str (Txt.join a zs)) st
  | _ => False
/-- v in o, where o is an own instance that tells it, or data -/
def inSeq (st : Sto) (x y : D) (Q : Bool → Prop) : Prop := ∃ p ys ps, shapedD st x = some p ∧ seqOf st y = some ys ∧ dataL ys = some ps ∧ SeqAt.shaped (.list ps) = true ∧ Q (ps.any fun z => PyData.eqv z p)
def inData (st : Sto) (x y : D) (Q : Bool → Prop) : Prop :=
  match y with
  | .str b => ∃ a, x = .str a ∧ Q (!(Builtin.Str.occurrences b a 0 b.length 1).isEmpty)
  | y => match dctOf st y with
    | some kvs => ∃ k, keyOf x = some k ∧ Q (valD kvs k).isSome
    | none => inSeq st x y Q
def wIn (Φ : Fn) (C : Ctx) (x y : D) (st : Sto) (Q : Bool → Sto → Prop) (EX : QD) : Prop :=
  match insOf st y with
  | some p => ∃ g, C.mth p.1 "__contains__" = some g ∧ Φ g [y, x] st (fun r st' => ∃ b, r = .bl b ∧ Q b st') EX
  | none => inData st x y fun b => Q b st
/-- a value whose class is known -/
def tyOk (C : Ctx) (st : Sto) (x : D) : Bool := (kindOf st x).isSome || match insOf st x with
  | some p => (C.cl p.1).isSome
  | none => false
/-- == of two values, an own __eq__ at the left -/
def wEq (Φ : Fn) (C : Ctx) (x y : D) (st : Sto) (Q : Bool → Sto → Prop) (EX : QD) : Prop :=
  match insOf st x with
  | some p => tyOk C st y = true ∧ ∃ g, C.mth p.1 "__eq__" = some g ∧ Φ g [x, y] st (fun r st' => ∃ b, r = .bl b ∧ Q b st') EX
  | none => eqDD st x y fun b => Q b st
def wCmp (Φ : Fn) (C : Ctx) (o : CmpO) (x y : D) (st : Sto) (Q : Bool → Sto → Prop) (EX : QD) : Prop :=
  match o with
  | .isin => wIn Φ C x y st Q EX
  | .notin => wIn Φ C x y st (fun b st' => Q (!b) st') EX
  | .eq => wEq Φ C x y st Q EX
  | .ne => wEq Φ C x y st (fun b st' => Q (!b) st') EX
  | .lt => ltD x y fun b => Q b st
  | .le => arith x y fun i j => Q (decide (i ≤ j)) st
  | .gt => arith x y fun i j => Q (decide (j < i)) st
  | .ge => arith x y fun i j => Q (decide (j ≤ i)) st
/-! ### targets, steps -/
def bindT : T → D → Sto → Slots → (Slots → Prop) → Prop
  | .nm i, d, _, env, k => i < env.length ∧ k (env.set i (some d))
  | .nil, d, _, env, k => d = .tup [] ∧ k env
  | .tup a r, d, st, env, k => match seqOf st d with
    | some (x :: xs) => bindT a x st env fun env' => bindT r (.tup xs) st env' k
    | _ => False
def wipeE (env : Slots) : List Nat → Slots
  | [] => env
  | v :: vs => (wipeE env vs).set v none
/-- each item, from the left: what is made so far, the store -/
def each {α : Type} (g : Sto → Prop) (step : D → α → Sto → (α → Sto → Prop) → Prop) : List D → α → Sto → (α → Sto → Prop) → Prop
  | [], acc, st, Q => g st ∧ Q acc st
  | x :: xs, acc, st, Q => g st ∧ step x acc st fun acc' st' => each g step xs acc' st' Q
/-- what is walked still stands -/
def live (x : D) (xs : List D) (st : Sto) : Prop := match x with
  | .ref n => st[n]? = some (.lst xs)
  | _ => True
def enumFrom (i : Nat) : List D → List D
  | [] => []
  | x :: xs => .tup [.int i, x] :: enumFrom (i + 1) xs
def zipD : List D → List D → List D
  | x :: xs, y :: ys => .tup [x, y] :: zipD xs ys
  | _, _ => []
def rngD (lo hi : Int) : List D := (List.range (hi - lo).toNat).map fun (i : Nat) => .int (lo + i)
def attrD (Φ : Fn) (C : Ctx) (f : Str) (x : D) (st : Sto) (Q EX : QD) : Prop :=
  match insOf st x with
  | some p => match C.prp p.1 f with
    | some g => Φ g [x] st Q fun _ _ => False
    | none => ∃ v, C.fld p.1 f = true ∧ p.2.lookup f = some v ∧ Q v st
  | none => ∃ c v, x = .exc c v ∧ (C.exs.lookup c).isSome = true ∧ f = "value" ∧ Q v st
def idxD (x i : D) (st : Sto) (Q : QD) : Prop :=
  match seqOf st x with
  | some xs => ∃ k v, i = .int k ∧ atI xs k = some v ∧ Q v st
  | none => match dctOf st x with
    | some kvs => ∃ k v, keyOf i = some k ∧ valD kvs k = some v ∧ Q v st
    | none => (∃ s k c, x = .str s ∧ i = .int k ∧ s.length ≤ sizeLine ∧ atI s.cps.toList k = some c ∧ Q (.str ⟨#[c]⟩) st) ∨ ∃ xs k c, x = .scr xs ∧ i = .int k ∧ atI xs k = some c ∧ Q (.int c) st
def slcD (x : D) (lo hi : Option Int) (st : Sto) (Q : QD) : Prop :=
  match x with
  | .tup xs => Q (.tup (cutL xs lo hi)) st
  | .str s => s.length ≤ sizeLine ∧ Q (.str (cutS s lo hi)) st
  | x => ∃ xs, isLst st x = true ∧ seqOf st x = some xs ∧ Q (.lst (cutL xs lo hi)) st
/-- x[::-1] -/
def revD (x : D) (st : Sto) (Q : QD) : Prop :=
  match x with
  | .tup xs => Q (.tup xs.reverse) st
  | .str s => s.length ≤ sizeLine ∧ Q (.str ⟨s.cps.reverse⟩) st
  | x => ∃ xs, isLst st x = true ∧ seqOf st x = some xs ∧ Q (.lst xs.reverse) st
def pairsK : List D → Option (List (Key × D))
  | [] => some []
  | k :: v :: r => (keyOf k).bind fun k => (pairsK r).map fun ps => (k, v) :: ps
  | _ => none
def mrgK (acc : List (Key × D)) : List (Key × D) → List (Key × D)
  | [] => acc
  | (k, v) :: r => mrgK (putD acc k v) r

mutual
def wE (Φ : Fn) (C : Ctx) : E → Slots → Sto → QD → QD → Prop
  | .var i, env, st, Q, _ => ∃ d, env[i]? = some (some d) ∧ Q d st
  | .int i, _, st, Q, _ => Q (.int i) st
  | .str x, _, st, Q, _ => Q (.str x) st
  | .bl b, _, st, Q, _ => Q (.bl b) st
  | .non, _, st, Q, _ => Q .non st
  | .glo x, _, st, Q, _ => ∃ d, C.glo.lookup x = some d ∧ Q d st
  | .bty n, _, st, Q, _ => Q (.ty n) st
  | .bin o a b, env, st, Q, EX => wE Φ C a env st (fun x st1 => wE Φ C b env st1 (fun y st2 => binD st2 o x y fun r => Q r st2) EX) EX
  | .neg a, env, st, Q, EX => wE Φ C a env st (fun x st1 => ∃ i, x = .int i ∧ Q (.int (-i)) st1) EX
  | .cmp o a b, env, st, Q, EX => wE Φ C a env st (fun x st1 => wE Φ C b env st1 (fun y st2 => wCmp Φ C o x y st2 (fun r st3 => Q (.bl r) st3) EX) EX) EX
  | .cmp2 o o2 a b c, env, st, Q, EX => wE Φ C a env st (fun x st1 => wE Φ C b env st1 (fun y st2 => wCmp Φ C o x y st2 (fun r st3 =>
      if r = true then wE Φ C c env st3 (fun z st4 => wCmp Φ C o2 y z st4 (fun r st5 => Q (.bl r) st5) EX) EX else Q (.bl false) st3) EX) EX) EX
  | .isN pos a, env, st, Q, EX => wE Φ C a env st (fun x st1 => ∃ b, isND st1 x = some b ∧ Q (.bl (b == pos)) st1) EX
  | .isB pos b a, env, st, Q, EX => wE Φ C a env st (fun x st1 => ∃ c, x = .bl c ∧ Q (.bl ((c == b) == pos)) st1) EX
  | .bop isAnd es, env, st, Q, EX => wBop Φ C isAnd es env st Q EX
  | .not a, env, st, Q, EX => wE Φ C a env st (fun x st1 => ∃ b, x = .bl b ∧ Q (.bl (!b)) st1) EX
  | .ite c a b, env, st, Q, EX => wE Φ C c env st (fun x st1 => ∃ r, x = .bl r ∧ if r = true then wE Φ C a env st1 Q EX else wE Φ C b env st1 Q EX) EX
  | .call f es, env, st, Q, EX => wEs Φ C es env st (fun ds st1 => Φ f ds st1 Q EX) EX
  | .make c es, env, st, Q, EX => wEs Φ C es env st (fun ds st1 => Φ c ds st1 Q EX) EX
  | .meth m o es, env, st, Q, EX => wE Φ C o env st (fun x st1 => ∃ c fs g, insOf st1 x = some (c, fs) ∧ fs.lookup m = none ∧ C.mth c m = some g ∧ wEs Φ C es env st1 (fun ds st2 => Φ g (x :: ds) st2 Q EX) EX) EX
  | .bi f al es, env, st, Q, EX => wEs Φ C es env st (fun ds st1 => wBi Φ C f al ds st1 Q EX) EX
  | .bm m o es, env, st, Q, EX => wE Φ C o env st (fun x st1 => bmOk m st1 x = true ∧ wEs Φ C es env st1 (fun ds st2 => wBm m x ds st2 Q) EX) EX
  | .attr f o, env, st, Q, EX => wE Φ C o env st (fun x st1 => attrD Φ C f x st1 Q EX) EX
  | .idx o i, env, st, Q, EX => wE Φ C o env st (fun x st1 => wE Φ C i env st1 (fun y st2 => idxD x y st2 Q) EX) EX
  | .slc o lo hi, env, st, Q, EX => wE Φ C o env st (fun x st1 => wEo Φ C lo env st1 (fun l st2 => wEo Φ C hi env st2 (fun h st3 => slcD x l h st3 Q) EX) EX) EX
  | .tup es, env, st, Q, EX => wEs Φ C es env st (fun ds st1 => ds.length ≤ sizeLine ∧ Q (.tup ds) st1) EX
  | .lst al es, env, st, Q, EX => wEs Φ C es env st (fun ds st1 => retL al ds st1 Q) EX
  | .dic al es, env, st, Q, EX => wEs Φ C es env st (fun ds st1 => ∃ ps, pairsK ds = some ps ∧ retK al (mrgK [] ps) st1 Q) EX
  | .comp al own elt t s ifs, env, st, Q, EX => wSr Φ C s env st (fun items g st1 =>
      each g (fun x acc st2 k => bindT t x st2 (wipeE env own) fun env2 => wIfs Φ C ifs env2 st2 fun b st3 =>
        if b = true then wE Φ C elt env2 st3 (fun y st4 => acc.length < sizeLine ∧ k (acc ++ [y]) st4) (fun _ _ => False) else k acc st3) items [] st1 fun acc st5 => retL al acc st5 Q) EX
  | .comp2 al own own2 elt t s ifs t2 s2 ifs2, env, st, Q, EX => wSr Φ C s env st (fun items g st1 =>
      each g (fun x acc st2 k => bindT t x st2 (wipeE env own) fun env2 => wIfs Φ C ifs env2 st2 fun b st3 =>
        if b = true then wSr Φ C s2 env2 st3 (fun items2 g2 st4 =>
          each g2 (fun x2 acc2 st5 k2 => bindT t2 x2 st5 (wipeE env2 own2) fun env3 => wIfs Φ C ifs2 env3 st5 fun b2 st6 =>
            if b2 = true then wE Φ C elt env3 st6 (fun y st7 => acc2.length < sizeLine ∧ k2 (acc2 ++ [y]) st7) (fun _ _ => False) else k2 acc2 st6) items2 acc st4 k) (fun _ _ => False)
        else k acc st3) items [] st1 fun acc st8 => retL al acc st8 Q) EX
  | .dcomp al own kx vx t s ifs, env, st, Q, EX => wSr Φ C s env st (fun items g st1 =>
      each g (fun x acc st2 k => bindT t x st2 (wipeE env own) fun env2 => wIfs Φ C ifs env2 st2 fun b st3 =>
        if b = true then wE Φ C kx env2 st3 (fun y st4 => wE Φ C vx env2 st4 (fun z st5 => acc.length < sizeLine ∧ ∃ ky, keyOf y = some ky ∧ k (putD acc ky z) st5) (fun _ _ => False)) (fun _ _ => False) else k acc st3) items [] st1 fun acc st6 => retK al acc st6 Q) EX
  | .rngl al es, env, st, Q, EX => wEs Φ C es env st (fun ds st1 => ∃ lo hi, (ds = [.int hi] ∧ lo = 0 ∨ ds = [.int lo, .int hi]) ∧ RgOk lo hi ∧ retL al (rngD lo hi) st1 Q) EX
  | .rev o, env, st, Q, EX => wE Φ C o env st (fun x st1 => revD x st1 Q) EX
  | .dcop al e, env, st, Q, EX => wE Φ C e env st (fun x st1 => ∃ kvs, dctOf st1 x = some kvs ∧ retK al (mrgK [] kvs) st1 Q) EX
  | .lens e, env, st, Q, EX => wE Φ C e env st (fun x st1 => ∃ xs ks, (isLst st1 x = true ∨ ∃ ys, x = .tup ys) ∧ seqOf st1 x = some xs ∧ keysOf xs = some ks ∧ ks.length < 900 ∧ Q (.int (dedK ks).length) st1) EX
  | .ssrt al e, env, st, Q, EX => wE Φ C e env st (fun x st1 => ∃ xs ks, (isLst st1 x = true ∨ ∃ ys, x = .tup ys) ∧ seqOf st1 x = some xs ∧ keysOf xs = some ks ∧ ks.length < 900 ∧ oneK ks ∧ ∀ bs, bs.Perm ((dedK ks).map dK) → retL al (sortD bs) st1 Q) EX
  | .exv c e, env, st, Q, EX => wE Φ C e env st (fun v st1 => Q (.exc c v) st1) EX
  | .told e, env, st, Q, EX => wE Φ C e env st (fun d st1 => Q (.tup [.non, d]) st1) (fun x st1 => ∃ c v, x = .exc c v ∧ (C.exs.lookup c).isSome = true ∧ Q (.tup [x, .non]) st1)
def wEs (Φ : Fn) (C : Ctx) : Es → Slots → Sto → (List D → Sto → Prop) → QD → Prop
  | .nil, _, st, Q, _ => Q [] st
  | .cons e r, env, st, Q, EX => wE Φ C e env st (fun d st1 => wEs Φ C r env st1 (fun ds st2 => Q (d :: ds) st2) EX) EX
  | .star e r, env, st, Q, EX => wE Φ C e env st (fun d st1 => ∃ xs, seqOf st1 d = some xs ∧ wEs Φ C r env st1 (fun ds st2 => Q (xs ++ ds) st2) EX) EX
def wEo (Φ : Fn) (C : Ctx) : Eo → Slots → Sto → (Option Int → Sto → Prop) → QD → Prop
  | .none, _, st, Q, _ => Q none st
  | .some e, env, st, Q, EX => wE Φ C e env st (fun d st1 => ∃ i, d = .int i ∧ Q (some i) st1) EX
def wBop (Φ : Fn) (C : Ctx) (isAnd : Bool) : Es → Slots → Sto → QD → QD → Prop
  | .nil, _, _, _, _ => False
  | .star _ _, _, _, _, _ => False
  | .cons e .nil, env, st, Q, EX => wE Φ C e env st Q EX
  | .cons e (.cons e2 r), env, st, Q, EX => wE Φ C e env st (fun x st1 => ∃ b, x = .bl b ∧ if b = isAnd then wBop Φ C isAnd (.cons e2 r) env st1 Q EX else Q (.bl b) st1) EX
  | .cons _ (.star _ _), _, _, _, _ => False
def wIfs (Φ : Fn) (C : Ctx) : Es → Slots → Sto → (Bool → Sto → Prop) → Prop
  | .nil, _, st, Q => Q true st
  | .star _ _, _, _, _ => False
  | .cons e r, env, st, Q => wE Φ C e env st (fun x st1 => ∃ b, x = .bl b ∧ if b = true then wIfs Φ C r env st1 Q else Q false st1) fun _ _ => False
def wSr (Φ : Fn) (C : Ctx) : Sr → Slots → Sto → (List D → (Sto → Prop) → Sto → Prop) → QD → Prop
  | .ex e, env, st, Q, EX => wE Φ C e env st (fun x st1 => match x with
    | .str s => Q (s.cps.toList.map fun c => .str ⟨#[c]⟩) (fun _ => True) st1
    | x => ∃ xs, seqOf st1 x = some xs ∧ Q xs (live x xs) st1) EX
  | .rng es, env, st, Q, EX => wEs Φ C es env st (fun ds st1 => ∃ lo hi, (ds = [.int hi] ∧ lo = 0 ∨ ds = [.int lo, .int hi]) ∧ -(2 ^ 62) ≤ lo ∧ lo < 2 ^ 62 ∧ -(2 ^ 62) ≤ hi ∧ hi < 2 ^ 62 ∧ Q (rngD lo hi) (fun _ => True) st1) EX
  | .enu e, env, st, Q, EX => wE Φ C e env st (fun x st1 => ∃ xs, seqOf st1 x = some xs ∧ Q (enumFrom 0 xs) (live x xs) st1) EX
  | .zip a b, env, st, Q, EX => wE Φ C a env st (fun x st1 => wE Φ C b env st1 (fun y st2 => ∃ xs ys, isLst st2 x = isLst st2 y ∧ seqOf st2 x = some xs ∧ seqOf st2 y = some ys ∧ Q (zipD xs ys) (fun st => live x xs st ∧ live y ys st) st2) EX) EX
end

/-! ### statements -/
structure Kt where
  nx : Slots → Sto → Prop
  rt : QD
  bk : Slots → Sto → Prop
  ct : Slots → Sto → Prop
  ex : D → Slots → Sto → Prop
def eachS (g : Sto → Prop) (t : T) (body : Slots → Sto → Kt → Prop) : List D → Slots → Sto → Kt → Prop
  | [], env, st, K => g st ∧ K.nx env st
  | x :: xs, env, st, K => g st ∧ bindT t x st env fun env' => body env' st { K with nx := fun env2 st2 => eachS g t body xs env2 st2 K, ct := fun env2 st2 => eachS g t body xs env2 st2 K, bk := K.nx }
def whileN (test : Slots → Sto → (Bool → Sto → Prop) → Prop) (body : Slots → Sto → Kt → Prop) (K : Kt) : Nat → Slots → Sto → Prop
  | 0, _, _ => False
  | n + 1, env, st => test env st fun b st1 => if b = true then body env st1 { K with nx := whileN test body K n, ct := whileN test body K n, bk := K.nx } else K.nx env st1
def setIx (st : Sto) (x i v : D) (k : Sto → Prop) : Prop := ∃ n o, x = .ref n ∧ st[n]? = some o ∧
  match o with
  | .lst xs => ∃ j p, i = .int j ∧ ixN xs.length j = some p ∧ k (st.set n (.lst (xs.set p v)))
  | .dct kvs => kvs.length < sizeLine ∧ ∃ q, keyOf i = some q ∧ k (st.set n (.dct (putD kvs q v)))
  | _ => False
/-- a field stored -/
def putF' (f : Str) (v : D) : List (Str × D) → List (Str × D)
  | [] => [(f, v)]
  | (g, w) :: r => if g = f then (g, v) :: r else (g, w) :: putF' f v r
def Kt.without (K : Kt) (i : Nat) : Kt := { nx := fun env2 => K.nx (env2.set i none), rt := K.rt, bk := fun env2 => K.bk (env2.set i none), ct := fun env2 => K.ct (env2.set i none), ex := fun x env2 => K.ex x (env2.set i none) }
/-- an exception meets a clause -/
def catchD (C : Ctx) (c : Str) (x : D) (yes : Unit → Prop) (no : Prop) : Prop :=
  ∃ d v anc, x = .exc d v ∧ C.exs.lookup d = some anc ∧ if List.contains anc c = true then yes () else no
mutual
def wS (Φ : Fn) (C : Ctx) : S → Slots → Sto → Kt → Prop
  | .set t e, env, st, K => wE Φ C e env st (fun d st1 => bindT t d st1 env fun env' => K.nx env' st1) fun x st1 => K.ex x env st1
  | .par t es, env, st, K => wEs Φ C es env st (fun ds st1 => bindT t (.tup ds) st1 env fun env' => K.nx env' st1) fun x st1 => K.ex x env st1
  | .setA o f e, env, st, K => wE Φ C e env st (fun d st1 => wE Φ C o env st1 (fun x st2 => ∃ n c fs, x = .ref n ∧ st2[n]? = some (.ins c fs) ∧ (C.cl c).isSome = true ∧ C.fld c f = true ∧ fs.length < 1000 ∧ K.nx env (st2.set n (.ins c (putF' f d fs)))) fun x st2 => K.ex x env st2) fun x st1 => K.ex x env st1
  | .setI o i e, env, st, K => wE Φ C e env st (fun d st1 => wE Φ C o env st1 (fun x st2 => wE Φ C i env st2 (fun y st3 => setIx st3 x y d fun st4 => K.nx env st4) fun x st3 => K.ex x env st3) fun x st2 => K.ex x env st2) fun x st1 => K.ex x env st1
  | .aug i o e, env, st, K => ∃ d, env[i]? = some (some d) ∧ wE Φ C e env st (fun y st1 => isLst st1 d = false ∧ binD st1 o d y fun r => K.nx (env.set i (some r)) st1) fun x st1 => K.ex x env st1
  | .exp e, env, st, K => wE Φ C e env st (fun _ st1 => K.nx env st1) fun x st1 => K.ex x env st1
  | .ret e, env, st, K => wE Φ C e env st K.rt fun x st1 => K.ex x env st1
  | .ifs c a b, env, st, K => wE Φ C c env st (fun x st1 => ∃ r, x = .bl r ∧ if r = true then wSs Φ C a env st1 K else wSs Φ C b env st1 K) fun x st1 => K.ex x env st1
  | .for_ t s b, env, st, K => wSr Φ C s env st (fun items g st1 => eachS g t (fun env2 st2 K2 => wSs Φ C b env2 st2 K2) items env st1 K) fun x st1 => K.ex x env st1
  | .whil c b, env, st, K => ∃ n, whileN (fun env2 st2 k => wE Φ C c env2 st2 (fun x st3 => ∃ r, x = .bl r ∧ k r st3) fun x st3 => K.ex x env2 st3) (fun env2 st2 K2 => wSs Φ C b env2 st2 K2) K n env st
  | .raise c e, env, st, K => wE Φ C e env st (fun v st1 => K.ex (.exc c v) env st1) fun x st1 => K.ex x env st1
  | .try_ b c i h, env, st, K => wSs Φ C b env st { K with ex := fun x env1 st1 => catchD C c x (fun _ => match i with
        | none => wSs Φ C h env1 st1 K
        | some i => wSs Φ C h (env1.set i (some x)) st1 (K.without i)) (K.ex x env1 st1) }
  | .brk, env, st, K => K.bk env st
  | .cont, env, st, K => K.ct env st
  | .pass, env, st, K => K.nx env st
  | .dead, _, _, _ => False
def wSs (Φ : Fn) (C : Ctx) : Ss → Slots → Sto → Kt → Prop
  | .nil, env, st, K => K.nx env st
  | .cons s .nil, env, st, K => wS Φ C s env st K
  | .cons s r, env, st, K => wS Φ C s env st { K with nx := fun env1 st1 => wSs Φ C r env1 st1 K }
  | .frz i r, env, st, K => ∃ n o, env[i]? = some (some (.ref n)) ∧ st[n]? = some o ∧ (match o with
    | .lst xs => wSs Φ C r (env.set i (some (.lst xs))) (st.set n .dead) K
    | .dct kvs => wSs Φ C r (env.set i (some (.dct kvs))) (st.set n .dead) K
    | .dcT kvs => wSs Φ C r (env.set i (some (.dcT kvs))) (st.set n .dead) K
    | _ => False)
end

/-! ### defs -/
mutual
inductive Fz (st : Sto) (n : Nat) : D → D → Prop where
  | keep {d : D} : d.lim n = true → Fz st n d d
  | tup {xs ys : List D} : FzL st n xs ys → Fz st n (.tup xs) (.tup ys)
  | lst {xs ys : List D} : FzL st n xs ys → Fz st n (.lst xs) (.lst ys)
  | exc {c : Str} {v w : D} : Fz st n v w → Fz st n (.exc c v) (.exc c w)
  | rlst {k : Nat} {xs ys : List D} : n ≤ k → st[k]? = some (.lst xs) → FzL st n xs ys → Fz st n (.ref k) (.lst ys)
  | rdct {k : Nat} {xs ys : List (Key × D)} : n ≤ k → st[k]? = some (.dct xs) → FzK st n xs ys → Fz st n (.ref k) (.dct ys)
  | rdcT {k : Nat} {xs ys : List (List Key × D)} : n ≤ k → st[k]? = some (.dcT xs) → FzT st n xs ys → Fz st n (.ref k) (.dcT ys)
  | rins {k : Nat} {c : Str} {xs ys : List (Str × D)} : n ≤ k → st[k]? = some (.ins c xs) → FzF st n xs ys → Fz st n (.ref k) (.obj c ys)
inductive FzL (st : Sto) (n : Nat) : List D → List D → Prop where
  | nil : FzL st n [] []
  | cons {x y : D} {xs ys : List D} : Fz st n x y → FzL st n xs ys → FzL st n (x :: xs) (y :: ys)
inductive FzK (st : Sto) (n : Nat) : List (Key × D) → List (Key × D) → Prop where
  | nil : FzK st n [] []
  | cons {k : Key} {x y : D} {xs ys : List (Key × D)} : Fz st n x y → FzK st n xs ys → FzK st n ((k, x) :: xs) ((k, y) :: ys)
inductive FzT (st : Sto) (n : Nat) : List (List Key × D) → List (List Key × D) → Prop where
  | nil : FzT st n [] []
  | cons {k : List Key} {x y : D} {xs ys : List (List Key × D)} : Fz st n x y → FzT st n xs ys → FzT st n ((k, x) :: xs) ((k, y) :: ys)
inductive FzF (st : Sto) (n : Nat) : List (Str × D) → List (Str × D) → Prop where
  | nil : FzF st n [] []
  | cons {k : Str} {x y : D} {xs ys : List (Str × D)} : Fz st n x y → FzF st n xs ys → FzF st n ((k, x) :: xs) ((k, y) :: ys)
end
/-- the end of a def: what was made and isn't kept is frozen or forgotten -/
def wExit (st : Sto) (Q : QD) (d : D) (st' : Sto) : Prop :=
  ∃ n r, st.length ≤ n ∧ n ≤ st'.length ∧ (∀ i o, i < n → st'[i]? = some o → st[i]? = some o ∨ o.lim n = true) ∧ Fz st' n d r ∧ Q r (st'.take n)
inductive Df where
  | fn (ar loc : Nat) (body : Ss)
  | cls (init : Str)
abbrev Prog := List (Str × Df)
def start (ds : List D) (loc : Nat) : Slots := ds.map some ++ List.replicate (loc - ds.length) none
def bodyKt (st : Sto) (Q EX : QD) : Kt := { nx := fun _ st' => wExit st Q .non st', rt := wExit st Q, bk := fun _ _ => False, ct := fun _ _ => False, ex := fun x _ st' => wExit st EX x st' }
def wDf (Φ : Fn) (C : Ctx) (c : Str) : Df → List D → Sto → QD → QD → Prop
  | .fn ar loc body, ds, st, Q, EX => ds.length = ar ∧ ar ≤ loc ∧ wSs Φ C body (start ds loc) st (bodyKt st Q EX)
  | .cls init, ds, st, Q, EX => Φ init (.ref st.length :: ds) (st ++ [.ins c []]) (fun d st' => d = .non ∧ wExit st Q (.ref st.length) st') EX
/-- what the defs do, calls nested less than n deep -/
def wPr (C : Ctx) (P : Prog) : Nat → Fn
  | 0 => fun _ _ _ _ _ => False
  | n + 1 => fun f ds st Q EX => match P.lookup f with
    | some d => wDf (wPr C P n) C f d ds st Q EX
    | none => False
end Vm

set_option Elab.async false
set_option linter.all false
set_option maxRecDepth 100000
/-! Vm, part 2: how plain data lies in the abstract heap. -/
namespace Vm
open PySem PySem.Spec PyProof.Rows L2

/-- the tables of the code objects that stand in lambdas: empty ones are left out of K -/
def lamT (K : PySem.W.Frag) : List (Addr × Str) := K.filterMap fun q => match q.2.data with
  | .func fd => (match fd.code with
    | .ref c => if (PySem.W.codeHdIn K c (He.tabOf K c) && (K.lookup (He.tabOf K c)).isNone) = true then some (He.tabOf K c, fd.qualname ++ ".<locals>." ++ "<lambda>") else none
    | _ => none)
  | _ => none
/-- where the store's objects lie; none: frozen since -/
abbrev Wm := List (Option Addr)
/-- an exception object that was caught, its own dict -/
def ExcO (C a dd : Addr) : HO := .ext fun h => ∃ (oe : Obj) (vs : Array Value), h.get? a = some oe ∧ oe.cls = .ref C ∧ oe.dict = some dd ∧ oe.data = .fields vs

section
variable (K : PySem.W.Frag) (mg : Str → Option Value)
mutual
inductive Rp (m : Wm) (H : Hp) : V → D → Prop where
  | non : Rp m H .non .non
  | bl (b : Bool) : Rp m H (.bl b) (.bl b)
  | int (i : Int) : Rp m H (.int i) (.int i)
  | str (x : Str) : Rp m H (.str x) (.str x)
  | ty (n : String) : Rp m H (.ty n) (.ty n)
  | glo {x : Str} {a : Addr} : mg x = some (.ref a) → He.ga K x = a → Rp m H (.ref a) (.glo x)
  | tup {a : Addr} {vs : List V} {ds : List D} : SqT K H a vs → RpL m H vs ds → Rp m H (.ref a) (.tup ds)
  | lst {a : Addr} {vs : List V} {ds : List D} : H a = some (.lst vs) → some a ∉ m → RpL m H vs ds → Rp m H (.ref a) (.lst ds)
  | dct {a : Addr} {vs : List (Key × V)} {ds : List (Key × D)} : H a = some (.dK vs) → some a ∉ m → RpK m H vs ds → Rp m H (.ref a) (.dct ds)
  | dcT {a : Addr} {vs : List (List Key × V)} {ds : List (List Key × D)} : H a = some (.dT vs) → some a ∉ m → RpT m H vs ds → Rp m H (.ref a) (.dcT ds)
  | obj {a dx : Addr} {c : Str} {vs : List (Str × V)} {ds : List (Str × D)} : H a = some (.ins (He.ga K c) dx vs) → some a ∉ m → RpF m H vs ds → Rp m H (.ref a) (.obj c ds)
  | exc {a dd : Addr} {c : Str} {v : V} {d : D} : H a = some (ExcO (He.ga K c) a dd) → H dd = some (.xd [("value", v)]) → Rp m H v d → Rp m H (.ref a) (.exc c d)
  | scr {a : Addr} {xs : List Int} : SqL K (fun _ => none) a (xs.map V.int) ∨ (∃ o, H a = some (.frz o (.lst (xs.map V.int)))) → Rp m H (.ref a) (.scr xs)
  | ref {v : V} {n : Nat} : n < m.length → (∀ a, m[n]? = some (some a) → v = .ref a) → Rp m H v (.ref n)
inductive RpL (m : Wm) (H : Hp) : List V → List D → Prop where
  | nil : RpL m H [] []
  | cons {v : V} {vs : List V} {d : D} {ds : List D} : Rp m H v d → RpL m H vs ds → RpL m H (v :: vs) (d :: ds)
inductive RpK (m : Wm) (H : Hp) : List (Key × V) → List (Key × D) → Prop where
  | nil : RpK m H [] []
  | cons {k : Key} {v : V} {vs : List (Key × V)} {d : D} {ds : List (Key × D)} : Rp m H v d → RpK m H vs ds → RpK m H ((k, v) :: vs) ((k, d) :: ds)
inductive RpT (m : Wm) (H : Hp) : List (List Key × V) → List (List Key × D) → Prop where
  | nil : RpT m H [] []
  | cons {k : List Key} {v : V} {vs : List (List Key × V)} {d : D} {ds : List (List Key × D)} : Rp m H v d → RpT m H vs ds → RpT m H ((k, v) :: vs) ((k, d) :: ds)
inductive RpF (m : Wm) (H : Hp) : List (Str × V) → List (Str × D) → Prop where
  | nil : RpF m H [] []
  | cons {k : Str} {v : V} {vs : List (Str × V)} {d : D} {ds : List (Str × D)} : Rp m H v d → RpF m H vs ds → RpF m H ((k, v) :: vs) ((k, d) :: ds)
end
/-- an object of the store -/
inductive RpO (m : Wm) (H : Hp) (a : Addr) : O → Prop where
  | lst {vs : List V} {ds : List D} : H a = some (.lst vs) → RpL K mg m H vs ds → RpO m H a (.lst ds)
  | dct {vs : List (Key × V)} {ds : List (Key × D)} : H a = some (.dK vs) → RpK K mg m H vs ds → RpO m H a (.dct ds)
  | dcT {vs : List (List Key × V)} {ds : List (List Key × D)} : H a = some (.dT vs) → RpT K mg m H vs ds → RpO m H a (.dcT ds)
  | ins {dx : Addr} {c : Str} {vs : List (Str × V)} {ds : List (Str × D)} : H a = some (.ins (He.ga K c) dx vs) → RpF K mg m H vs ds → RpO m H a (.ins c ds)
structure RpS (m : Wm) (H : Hp) (st : Sto) : Prop where
  len : m.length = st.length
  at_ : ∀ (n : Nat) (a : Addr), m[n]? = some (some a) → ∃ o, st[n]? = some o ∧ RpO K mg m H a o
  inj : ∀ (i j : Nat) (a : Addr), m[i]? = some (some a) → m[j]? = some (some a) → i = j
  dead : ∀ n : Nat, m[n]? = some none → st[n]? = some .dead
  tab : LamX.Tabs (lamT K) H
def RpE (m : Wm) (H : Hp) (σ : L2.St) (env : Slots) : Prop := env.length = σ.length ∧ ∀ (i : Nat) (d : D), env[i]? = some (some d) → ∃ v, σ[i]? = some (some v) ∧ Rp K mg m H v d
end

/-- from one state to a later one -/
structure Wl (m : Wm) (H : Hp) (m' : Wm) (H' : Hp) : Prop where
  len : m.length ≤ m'.length
  old : ∀ n : Nat, n < m.length → m'[n]? = m[n]? ∨ m'[n]? = some none
  stay : ∀ a o, H a = some o → some a ∉ m → (∀ ps, o ≠ .tbl ps) → H' a = some o
  here : ∀ a o, H a = some o → (∀ ps, o ≠ .tbl ps) → ∃ o', H' a = some o' ∧ ∀ ps, o' ≠ .tbl ps
  new : ∀ a, some a ∈ m' → some a ∈ m ∨ H a = none ∨ ∃ ps, H a = some (.tbl ps)
theorem Wl.refl (m : Wm) (H : Hp) : Wl m H m H := ⟨Nat.le_refl _, fun _ _ => .inl rfl, fun _ _ h _ _ => h, fun _ o h n => ⟨o, h, n⟩, fun _ h => .inl h⟩
theorem Wl.trans {m m1 m2 : Wm} {H H1 H2 : Hp} (a : Wl m H m1 H1) (b : Wl m1 H1 m2 H2) : Wl m H m2 H2 := by
  have out : ∀ {x : Addr} {o : HO}, some x ∉ m → H x = some o → (∀ ps, o ≠ .tbl ps) → some x ∉ m1 := fun {x o} hm h ht q => by
    rcases a.new x q with q | q | ⟨ps, q⟩
    · exact hm q
    · rw [q] at h; cases h
    · rw [q] at h; cases h; exact ht ps rfl
  refine ⟨Nat.le_trans a.len b.len, fun n hn => ?_, fun x o h hm ht => ?_, fun x o h n => ?_, fun x hx => ?_⟩
  · rcases b.old n (Nat.lt_of_lt_of_le hn a.len) with e | e
    · rcases a.old n hn with e' | e'
      · exact .inl (e.trans e')
      · exact .inr (e.trans e')
    · exact .inr e
  · exact b.stay x o (a.stay x o h hm ht) (out hm h ht) ht
  · obtain ⟨o1, h1, n1⟩ := a.here x o h n
    exact b.here x o1 h1 n1
  · cases e : H x with
    | none => exact .inr (.inl rfl)
    | some o =>
      by_cases ht : ∃ ps, o = .tbl ps
      · obtain ⟨ps, rfl⟩ := ht
        exact .inr (.inr ⟨ps, rfl⟩)
      · left
        have ht : ∀ ps, o ≠ .tbl ps := fun ps z => ht ⟨ps, z⟩
        rcases b.new x hx with q | q | ⟨ps, q⟩
        · rcases a.new x q with z | z | ⟨ps, z⟩
          · exact z
          · rw [z] at e; cases e
          · rw [z] at e; cases e; exact (ht ps rfl).elim
        · obtain ⟨o1, h1, _⟩ := a.here x o e ht
          rw [q] at h1; cases h1
        · obtain ⟨o1, h1, n1⟩ := a.here x o e ht
          rw [q] at h1; cases h1
          exact (n1 ps rfl).elim
section
variable {K : PySem.W.Frag} {mg : Str → Option Value} {m m' : Wm} {H H' : Hp}
theorem Wl.notin (w : Wl m H m' H') {a : Addr} {o : HO} (h : H a = some o) (hm : some a ∉ m) (ht : ∀ ps, o ≠ .tbl ps := by intro ps z; cases z) : some a ∉ m' := fun q => by
  rcases w.new a q with q | q | ⟨ps, q⟩
  · exact hm q
  · rw [q] at h; cases h
  · rw [q] at h; cases h; exact ht ps rfl
theorem TabS.ne {P : Addr} {q : Str} (t : LamX.TabS H P q) (e : ∀ b o, H b = some o → ((∃ ps, o = .tbl ps) ∨ o = LamX.CodeO b q) → H' b = some o) : LamX.TabS H' P q := by
  obtain ⟨ps, h1, h2, h3⟩ := t
  refine ⟨ps, e _ _ h1 (.inl ⟨ps, rfl⟩), h2, fun pos cv hc => ?_⟩
  obtain ⟨c, e1, e2⟩ := h3 pos cv hc
  exact ⟨c, e1, e _ _ e2 (.inr rfl)⟩
/-- tables stay where but lists, dicts, instances are written -/
theorem tabs_ne {T : List (Addr × Str)} (t : LamX.Tabs T H) (e : ∀ b o, H b = some o → ((∃ ps, o = .tbl ps) ∨ ∃ q, o = LamX.CodeO b q) → H' b = some o) : LamX.Tabs T H' := fun p hp => TabS.ne (t p hp) fun b o h z => e b o h (z.imp id fun z => ⟨_, z⟩)
theorem tabs_upd {T : List (Addr × Str)} {p : Addr} {o : HO} (hp : H p = none) (t : LamX.Tabs T H) : LamX.Tabs T (L2.upd H p o) := tabs_ne t fun b u h _ => by rw [upd_ne (ne_of_none h hp)]; exact h
theorem codeO_ne_tbl {c : Addr} {q : Str} {P : HO} (h : LamX.CodeO c q = P) (hl : (∃ xs, P = .lst xs) ∨ (∃ xs, P = .dK xs) ∨ (∃ xs, P = .dT xs) ∨ ∃ a b c, P = .ins a b c) : False := by
  unfold LamX.CodeO at h
  rcases hl with ⟨_, rfl⟩ | ⟨_, rfl⟩ | ⟨_, rfl⟩ | ⟨_, _, _, rfl⟩ <;> cases h
theorem exco_tbl {C a d : Addr} (ps : Array Value) : ExcO C a d ≠ .tbl ps := fun z => by
  unfold ExcO at z
  cases z
/-- what is no list, dict, instance isn't in the store -/
def RpS.not {st : Sto} (s : RpS K mg m H st) {a : Addr} {o : HO} (h : H a = some o) (ne : ∀ ds, RpO K mg m H a ds → False) : some a ∉ m := fun q => by
  obtain ⟨n, hn⟩ := List.mem_iff_getElem?.mp q
  obtain ⟨o', _, r⟩ := s.at_ n a hn
  exact ne _ r
theorem sqT_wl {st : Sto} (s : RpS K mg m H st) (w : Wl m H m' H') {a : Addr} {vs : List V} (h : SqT K H a vs) : SqT K H' a vs := by
  rcases h with h | h
  · rcases h with h | ⟨o, h⟩
    · exact .inl (.inl (w.stay a _ h (s.not h fun ds r => by cases r <;> (rename_i e _; rw [h] at e; cases e)) fun ps z => by cases z))
    · exact .inl (.inr ⟨o, w.stay a _ h (s.not h fun ds r => by cases r <;> (rename_i e _; rw [h] at e; cases e)) fun ps z => by cases z⟩)
  · exact .inr h
mutual
theorem Rp.wl {st : Sto} (s : RpS K mg m H st) (w : Wl m H m' H') : ∀ {d : D} {v : V}, Rp K mg m H v d → Rp K mg m' H' v d
  | .non, _, .non => .non
  | .bl _, _, .bl b => .bl b
  | .int _, _, .int i => .int i
  | .str _, _, .str x => .str x
  | .ty _, _, .ty n => .ty n
  | .glo _, _, .glo h e => .glo h e
  | .scr _, _, .scr h => .scr (h.imp id fun ⟨o, h⟩ => ⟨o, w.stay _ _ h (s.not h fun ds r => by cases r <;> (rename_i e _; rw [h] at e; cases e)) fun ps z => by cases z⟩)
  | .tup _, _, .tup h r => .tup (sqT_wl s w h) (RpL.wl s w r)
  | .lst _, _, .lst h hm r => .lst (w.stay _ _ h hm fun ps z => by cases z) (w.notin h hm) (RpL.wl s w r)
  | .dct _, _, .dct h hm r => .dct (w.stay _ _ h hm fun ps z => by cases z) (w.notin h hm) (RpK.wl s w r)
  | .dcT _, _, .dcT h hm r => .dcT (w.stay _ _ h hm fun ps z => by cases z) (w.notin h hm) (RpT.wl s w r)
  | .obj _ _, _, .obj h hm r => .obj (w.stay _ _ h hm fun ps z => by cases z) (w.notin h hm) (RpF.wl s w r)
  | .exc _ _, _, .exc h h2 r => .exc (w.stay _ _ h (s.not h fun ds r => by cases r <;> (rename_i e _; rw [h] at e; cases e)) exco_tbl) (w.stay _ _ h2 (s.not h2 fun ds r => by cases r <;> (rename_i e _; rw [h2] at e; cases e)) fun ps z => by cases z) (Rp.wl s w r)
  | .ref _, _, .ref h e => .ref (Nat.lt_of_lt_of_le h w.len) fun a q => by
    rcases w.old _ h with z | z
    · exact e a (z ▸ q)
    · rw [z] at q; cases q
theorem RpL.wl {st : Sto} (s : RpS K mg m H st) (w : Wl m H m' H') : ∀ {ds : List D} {vs : List V}, RpL K mg m H vs ds → RpL K mg m' H' vs ds
  | [], _, .nil => .nil
  | _ :: _, _, .cons r t => .cons (Rp.wl s w r) (RpL.wl s w t)
theorem RpK.wl {st : Sto} (s : RpS K mg m H st) (w : Wl m H m' H') : ∀ {ds : List (Key × D)} {vs : List (Key × V)}, RpK K mg m H vs ds → RpK K mg m' H' vs ds
  | [], _, .nil => .nil
  | _ :: _, _, .cons r t => .cons (Rp.wl s w r) (RpK.wl s w t)
theorem RpT.wl {st : Sto} (s : RpS K mg m H st) (w : Wl m H m' H') : ∀ {ds : List (List Key × D)} {vs : List (List Key × V)}, RpT K mg m H vs ds → RpT K mg m' H' vs ds
  | [], _, .nil => .nil
  | _ :: _, _, .cons r t => .cons (Rp.wl s w r) (RpT.wl s w t)
theorem RpF.wl {st : Sto} (s : RpS K mg m H st) (w : Wl m H m' H') : ∀ {ds : List (Str × D)} {vs : List (Str × V)}, RpF K mg m H vs ds → RpF K mg m' H' vs ds
  | [], _, .nil => .nil
  | _ :: _, _, .cons r t => .cons (Rp.wl s w r) (RpF.wl s w t)
end
theorem RpE.wl {st : Sto} {σ : L2.St} {env : Slots} (s : RpS K mg m H st) (w : Wl m H m' H') (r : RpE K mg m H σ env) : RpE K mg m' H' σ env :=
  ⟨r.1, fun i d h => let ⟨v, h1, h2⟩ := r.2 i d h; ⟨v, h1, h2.wl s w⟩⟩
/-- a new object that the store doesn't know -/
theorem Wl.upd {p : Addr} {o : HO} (hp : H p = none) : Wl m H m (L2.upd H p o) :=
  ⟨Nat.le_refl _, fun _ _ => .inl rfl, fun a u h _ _ => by rw [upd_ne (ne_of_none h hp)]; exact h, fun a u h n => ⟨u, by rw [upd_ne (ne_of_none h hp)]; exact h, n⟩, fun _ h => .inl h⟩
theorem RpS.upd {st : Sto} {p : Addr} {o : HO} (s : RpS K mg m H st) (hp : H p = none) : RpS K mg m (L2.upd H p o) st := by
  have w : Wl m H m (L2.upd H p o) := Wl.upd hp
  refine ⟨s.len, fun n a h => ?_, s.inj, s.dead, tabs_upd hp s.tab⟩
  obtain ⟨ob, h1, h2⟩ := s.at_ n a h
  refine ⟨ob, h1, ?_⟩
  cases h2 with
  | lst e r => exact .lst (by rw [upd_ne (ne_of_none e hp)]; exact e) (r.wl s w)
  | dct e r => exact .dct (by rw [upd_ne (ne_of_none e hp)]; exact e) (r.wl s w)
  | dcT e r => exact .dcT (by rw [upd_ne (ne_of_none e hp)]; exact e) (r.wl s w)
  | ins e r => exact .ins (by rw [upd_ne (ne_of_none e hp)]; exact e) (r.wl s w)
theorem RpO.upd {a p : Addr} {ob : O} {o : HO} {st : Sto} (s : RpS K mg m H st) (hp : H p = none) (w : Wl m H m' (L2.upd H p o)) (h : RpO K mg m H a ob) : RpO K mg m' (L2.upd H p o) a ob := by
  cases h with
  | lst e r => exact .lst (by rw [upd_ne (ne_of_none e hp)]; exact e) (r.wl s w)
  | dct e r => exact .dct (by rw [upd_ne (ne_of_none e hp)]; exact e) (r.wl s w)
  | dcT e r => exact .dcT (by rw [upd_ne (ne_of_none e hp)]; exact e) (r.wl s w)
  | ins e r => exact .ins (by rw [upd_ne (ne_of_none e hp)]; exact e) (r.wl s w)
/-- a new object of the store -/
theorem Wl.push {p : Addr} {o : HO} (hp : H p = none) : Wl m H (m ++ [some p]) (L2.upd H p o) :=
  ⟨by simp, fun n hn => .inl (by rw [List.getElem?_append_left hn]), fun a u h _ _ => by rw [upd_ne (ne_of_none h hp)]; exact h, fun a u h n => ⟨u, by rw [upd_ne (ne_of_none h hp)]; exact h, n⟩, fun a h => by
    rcases List.mem_append.mp h with h | h
    · exact .inl h
    · have : a = p := by simpa using h
      subst this; exact .inr (.inl hp)⟩
theorem RpS.push {st : Sto} {p : Addr} {o : HO} {ob : O} (s : RpS K mg m H st) (hp : H p = none) (h : RpO K mg (m ++ [some p]) (L2.upd H p o) p ob) : RpS K mg (m ++ [some p]) (L2.upd H p o) (st ++ [ob]) := by
  have w : Wl m H (m ++ [some p]) (L2.upd H p o) := Wl.push hp
  have np : some p ∉ m := fun q => by
    obtain ⟨n, hn⟩ := List.mem_iff_getElem?.mp q
    obtain ⟨o', _, r⟩ := s.at_ n p hn
    obtain ⟨u, e⟩ : ∃ u, H p = some u := by
      cases r with
      | lst e _ => exact ⟨_, e⟩
      | dct e _ => exact ⟨_, e⟩
      | dcT e _ => exact ⟨_, e⟩
      | ins e _ => exact ⟨_, e⟩
    rw [hp] at e; cases e
  have key : ∀ (n : Nat) (x : Option Addr), (m ++ [some p])[n]? = some x → (n < m.length ∧ m[n]? = some x) ∨ (n = m.length ∧ x = some p) := fun n x h => by
    by_cases hn : n < m.length
    · rw [List.getElem?_append_left hn] at h; exact .inl ⟨hn, h⟩
    · rw [List.getElem?_append_right (by omega)] at h
      have : n - m.length = 0 := by
        by_cases z : n - m.length = 0
        · exact z
        · rw [List.getElem?_eq_none (by simp; omega)] at h; cases h
      rw [this] at h
      simp at h
      exact .inr ⟨by omega, h.symm⟩
  refine ⟨by simp [s.len], fun n a q => ?_, fun i j a q1 q2 => ?_, fun n q => ?_, tabs_upd hp s.tab⟩
  · rcases key n _ q with ⟨hn, q⟩ | ⟨hn, q⟩
    · obtain ⟨ob', h1, h2⟩ := s.at_ n a q
      exact ⟨ob', by rw [List.getElem?_append_left (by rw [← s.len]; exact hn)]; exact h1, h2.upd s hp w⟩
    · cases q
      exact ⟨ob, by rw [List.getElem?_append_right (by rw [hn, s.len]; exact Nat.le_refl _)]; simp [hn, s.len], h⟩
  · rcases key i _ q1 with ⟨hi, q1⟩ | ⟨hi, e1⟩ <;> rcases key j _ q2 with ⟨hj, q2⟩ | ⟨hj, e2⟩
    · exact s.inj i j a q1 q2
    · cases e2; exact absurd (List.mem_of_getElem? q1) np
    · cases e1; exact absurd (List.mem_of_getElem? q2) np
    · omega
  · rcases key n _ q with ⟨hn, q⟩ | ⟨hn, q⟩
    · rw [List.getElem?_append_left (by rw [← s.len]; exact hn)]; exact s.dead n q
    · cases q
/-- an object of the store is written -/
theorem Wl.set {a : Addr} {o : HO} (ha : some a ∈ m) (hH : ∃ u, H a = some u) (ht : ∀ ps, o ≠ .tbl ps := by intro ps z; cases z) : Wl m H m (L2.upd H a o) := by
  refine ⟨Nat.le_refl _, fun _ _ => .inl rfl, fun b u h hm _ => ?_, fun b u h n => ?_, fun _ h => .inl h⟩
  · rw [upd_ne (fun z => by subst z; exact hm ha)]; exact h
  · by_cases hb : b = a
    · subst hb; exact ⟨o, upd_same, ht⟩
    · exact ⟨u, by rw [upd_ne hb]; exact h, n⟩
theorem RpO.there {a : Addr} {ob : O} (h : RpO K mg m H a ob) : ∃ u, H a = some u := by
  cases h with
  | lst e _ => exact ⟨_, e⟩
  | dct e _ => exact ⟨_, e⟩
  | dcT e _ => exact ⟨_, e⟩
  | ins e _ => exact ⟨_, e⟩
theorem RpO.move {a : Addr} {ob : O} {st : Sto} (s : RpS K mg m H st) (w : Wl m H m' H') (e : ∀ u, H a = some u → H' a = some u) (h : RpO K mg m H a ob) : RpO K mg m' H' a ob := by
  cases h with
  | lst q r => exact .lst (e _ q) (r.wl s w)
  | dct q r => exact .dct (e _ q) (r.wl s w)
  | dcT q r => exact .dcT (e _ q) (r.wl s w)
  | ins q r => exact .ins (e _ q) (r.wl s w)
theorem RpO.upd_ne_tbl {a : Addr} {ob : O} {o : HO} (h : RpO K mg m (L2.upd H a o) a ob) (ps : Array Value) : o ≠ .tbl ps := fun z => by
  subst z
  cases h <;> (rename_i e _; rw [upd_same] at e; cases e)
/-- what the store knows is no table, no code object -/
theorem RpS.tabs_set {st : Sto} {n : Nat} {a : Addr} {o : HO} (s : RpS K mg m H st) (hn : m[n]? = some (some a)) : LamX.Tabs (lamT K) (L2.upd H a o) := by
  obtain ⟨ob0, h0, r0⟩ := s.at_ n a hn
  refine tabs_ne s.tab fun b u h z => ?_
  by_cases hb : b = a
  · subst hb
    exfalso
    rcases z with ⟨ps, rfl⟩ | ⟨q, rfl⟩
    · cases r0 <;> (rename_i e _; rw [h] at e; cases e)
    · cases r0 with
      | lst e _ => rw [h] at e; exact codeO_ne_tbl (Option.some.inj e) (.inl ⟨_, rfl⟩)
      | dct e _ => rw [h] at e; exact codeO_ne_tbl (Option.some.inj e) (.inr (.inl ⟨_, rfl⟩))
      | dcT e _ => rw [h] at e; exact codeO_ne_tbl (Option.some.inj e) (.inr (.inr (.inl ⟨_, rfl⟩)))
      | ins e _ => rw [h] at e; exact codeO_ne_tbl (Option.some.inj e) (.inr (.inr (.inr ⟨_, _, _, rfl⟩)))
  · rw [upd_ne hb]; exact h
theorem RpS.set {st : Sto} {n : Nat} {a : Addr} {o : HO} {ob : O} (s : RpS K mg m H st) (hn : m[n]? = some (some a)) (h : RpO K mg m (L2.upd H a o) a ob) : RpS K mg m (L2.upd H a o) (st.set n ob) := by
  obtain ⟨ob0, h0, r0⟩ := s.at_ n a hn
  have w : Wl m H m (L2.upd H a o) := Wl.set (List.mem_of_getElem? hn) r0.there h.upd_ne_tbl
  have hl : n < st.length := (List.getElem?_eq_some_iff.mp h0).1
  refine ⟨by rw [List.length_set]; exact s.len, fun k b q => ?_, s.inj, fun k q => ?_, s.tabs_set hn⟩
  · by_cases hk : k = n
    · subst hk
      rw [hn] at q; cases q
      exact ⟨ob, by rw [List.getElem?_set_self hl], h⟩
    · obtain ⟨ob1, h1, r1⟩ := s.at_ k b q
      refine ⟨ob1, by rw [List.getElem?_set_ne (Ne.symm hk)]; exact h1, r1.move s w fun u e => ?_⟩
      rw [upd_ne]
      · exact e
      · intro z; subst z; exact hk (s.inj _ _ _ q hn)
  · have hk : k ≠ n := fun z => by subst z; rw [hn] at q; cases q
    rw [List.getElem?_set_ne (Ne.symm hk)]; exact s.dead k q
/-- an object of the store is frozen -/
theorem Wl.freeze {n : Nat} {a : Addr} (hn : m[n]? = some (some a)) : Wl m H (m.set n none) H := by
  refine ⟨by simp, fun k hk => ?_, fun _ _ h _ _ => h, fun _ u h n => ⟨u, h, n⟩, fun b h => .inl ?_⟩
  · by_cases e : k = n
    · subst e; right; rw [List.getElem?_set_self hk]
    · left; rw [List.getElem?_set_ne (Ne.symm e)]
  · obtain ⟨k, hk⟩ := List.mem_iff_getElem?.mp h
    by_cases e : k = n
    · subst e
      have hl : k < m.length := (List.getElem?_eq_some_iff.mp hn).1
      rw [List.getElem?_set_self hl] at hk; cases hk
    · rw [List.getElem?_set_ne (Ne.symm e)] at hk
      exact List.mem_of_getElem? hk
theorem notin_freeze {st : Sto} {n : Nat} {a : Addr} (s : RpS K mg m H st) (hn : m[n]? = some (some a)) : some a ∉ m.set n none := fun h => by
  obtain ⟨k, hk⟩ := List.mem_iff_getElem?.mp h
  by_cases e : k = n
  · subst e
    have hl : k < m.length := (List.getElem?_eq_some_iff.mp hn).1
    rw [List.getElem?_set_self hl] at hk; cases hk
  · rw [List.getElem?_set_ne (Ne.symm e)] at hk
    exact e (s.inj _ _ _ hk hn)
theorem RpS.freeze {st : Sto} {n : Nat} {a : Addr} (s : RpS K mg m H st) (hn : m[n]? = some (some a)) : RpS K mg (m.set n none) H (st.set n .dead) := by
  have w : Wl m H (m.set n none) H := Wl.freeze hn
  have hl : n < m.length := (List.getElem?_eq_some_iff.mp hn).1
  have hs : n < st.length := by rw [← s.len]; exact hl
  refine ⟨by simp [s.len], fun k b q => ?_, fun i j b q1 q2 => ?_, fun k q => ?_, s.tab⟩
  · have hk : k ≠ n := fun z => by subst z; rw [List.getElem?_set_self hl] at q; cases q
    rw [List.getElem?_set_ne (Ne.symm hk)] at q ⊢
    obtain ⟨ob, h1, r⟩ := s.at_ k b q
    exact ⟨ob, h1, r.move s w fun _ e => e⟩
  · have hi : i ≠ n := fun z => by subst z; rw [List.getElem?_set_self hl] at q1; cases q1
    have hj : j ≠ n := fun z => by subst z; rw [List.getElem?_set_self hl] at q2; cases q2
    rw [List.getElem?_set_ne (Ne.symm hi)] at q1
    rw [List.getElem?_set_ne (Ne.symm hj)] at q2
    exact s.inj i j b q1 q2
  · by_cases e : k = n
    · subst e; rw [List.getElem?_set_self hs]
    · rw [List.getElem?_set_ne (Ne.symm e)] at q ⊢
      exact s.dead k q
/-! ### looks -/
theorem RpS.live {st : Sto} (s : RpS K mg m H st) {n : Nat} {o : O} {v : V} (r : Rp K mg m H v (.ref n)) (h : st[n]? = some o) (hd : o ≠ .dead) : ∃ a, v = .ref a ∧ m[n]? = some (some a) ∧ RpO K mg m H a o := by
  cases r with
  | ref hn e =>
    cases q : m[n]? with
    | none => exact absurd q (by simp [hn])
    | some x =>
      cases x with
      | none => have := s.dead n q; rw [h] at this; cases this; exact absurd rfl hd
      | some a =>
        obtain ⟨o', h', r'⟩ := s.at_ n a q
        rw [h] at h'; cases h'
        exact ⟨a, e a q, rfl, r'⟩
theorem Rp.list {st : Sto} (s : RpS K mg m H st) {d : D} {v : V} {xs : List D} (r : Rp K mg m H v d) (hl : isLst st d = true) (h : seqOf st d = some xs) : ∃ a vs, v = .ref a ∧ H a = some (.lst vs) ∧ RpL K mg m H vs xs := by
  cases d with
  | lst ys => cases h; cases r with | lst e _ rl => exact ⟨_, _, rfl, e, rl⟩
  | ref n =>
    have h : (match st[n]? with | some (.lst xs) => some xs | _ => none) = some xs := h
    cases q : st[n]? with
    | none => rw [q] at h; cases h
    | some o =>
      rw [q] at h
      cases o with
      | lst ys =>
        cases h
        obtain ⟨a, rfl, _, ro⟩ := s.live r q (by intro z; cases z)
        cases ro with | lst e rl => exact ⟨a, _, rfl, e, rl⟩
      | _ => cases h
  | _ => cases hl
theorem Rp.seq {st : Sto} (s : RpS K mg m H st) {d : D} {v : V} {xs : List D} (r : Rp K mg m H v d) (h : seqOf st d = some xs) : ∃ a vs, v = .ref a ∧ ((isLst st d = true ∧ H a = some (.lst vs)) ∨ (isLst st d = false ∧ SqT K H a vs)) ∧ RpL K mg m H vs xs := by
  cases d with
  | tup ys => cases h; cases r with | tup e rl => exact ⟨_, _, rfl, .inr ⟨rfl, e⟩, rl⟩
  | lst ys => cases h; cases r with | lst e _ rl => exact ⟨_, _, rfl, .inl ⟨rfl, e⟩, rl⟩
  | ref n =>
    have hl : isLst st (.ref n) = true := by
      have h : (match st[n]? with | some (.lst xs) => some xs | _ => none) = some xs := h
      show (match st[n]? with | some (.lst _) => true | _ => false) = true
      cases q : st[n]? with
      | none => rw [q] at h; cases h
      | some o => rw [q] at h; cases o <;> first | rfl | cases h
    obtain ⟨a, vs, e, e2, rl⟩ := r.list s hl h
    exact ⟨a, vs, e, .inl ⟨hl, e2⟩, rl⟩
  | _ => cases h
theorem RpL.length : ∀ {ds : List D} {vs : List V}, RpL K mg m H vs ds → vs.length = ds.length
  | [], _, .nil => rfl
  | _ :: _, _, .cons _ r => by simp [RpL.length r]
theorem RpL.get : ∀ {ds : List D} {vs : List V} {i : Nat} {d : D}, RpL K mg m H vs ds → ds[i]? = some d → ∃ v, vs[i]? = some v ∧ Rp K mg m H v d
  | [], _, _, _, .nil, h => by simp at h
  | _ :: _, _, 0, _, .cons r _, h => by simp at h; subst h; exact ⟨_, rfl, r⟩
  | _ :: _, _, i + 1, _, .cons _ r, h => by
    obtain ⟨v, h1, h2⟩ := RpL.get (i := i) r (by simpa using h)
    exact ⟨v, by simpa using h1, h2⟩
theorem RpL.append : ∀ {ds es : List D} {vs us : List V}, RpL K mg m H vs ds → RpL K mg m H us es → RpL K mg m H (vs ++ us) (ds ++ es)
  | [], _, _, _, .nil, r => r
  | _ :: _, _, _, _, .cons r t, q => .cons r (RpL.append t q)
theorem RpL.drop : ∀ (n : Nat) {ds : List D} {vs : List V}, RpL K mg m H vs ds → RpL K mg m H (vs.drop n) (ds.drop n)
  | 0, _, _, r => r
  | _ + 1, [], _, .nil => .nil
  | n + 1, _ :: _, _, .cons _ r => RpL.drop n r
theorem RpL.take : ∀ (n : Nat) {ds : List D} {vs : List V}, RpL K mg m H vs ds → RpL K mg m H (vs.take n) (ds.take n)
  | 0, _, _, _ => .nil
  | _ + 1, [], _, .nil => .nil
  | n + 1, _ :: _, _, .cons r t => .cons r (RpL.take n t)
theorem RpL.eraseIdx : ∀ (n : Nat) {ds : List D} {vs : List V}, RpL K mg m H vs ds → RpL K mg m H (vs.eraseIdx n) (ds.eraseIdx n)
  | _, [], _, .nil => .nil
  | 0, _ :: _, _, .cons _ t => t
  | n + 1, _ :: _, _, .cons r t => .cons r (RpL.eraseIdx n t)
theorem RpL.set (n : Nat) {d : D} {v : V} (q : Rp K mg m H v d) : ∀ {ds : List D} {vs : List V}, RpL K mg m H vs ds → RpL K mg m H (vs.set n v) (ds.set n d) := by
  induction n with
  | zero => intro ds vs r; cases r with
    | nil => exact .nil
    | cons _ t => exact .cons q t
  | succ n ih => intro ds vs r; cases r with
    | nil => exact .nil
    | cons r t => exact .cons r (ih t)
theorem RpF.length : ∀ {ds : List (Str × D)} {vs : List (Str × V)}, RpF K mg m H vs ds → vs.length = ds.length
  | [], _, .nil => rfl
  | _ :: _, _, .cons _ t => by simp [RpF.length t]
theorem RpF.put (f : Str) {d : D} {v : V} (q : Rp K mg m H v d) : ∀ {ds : List (Str × D)} {vs : List (Str × V)}, RpF K mg m H vs ds → RpF K mg m H (putF f v vs) (putF' f d ds)
  | [], _, .nil => .cons q .nil
  | (k, e) :: ds, _, .cons (v := u) (vs := us) r t => by
    show RpF K mg m H (if k = f then (k, v) :: us else (k, u) :: putF f v us) (if k = f then (k, d) :: ds else (k, e) :: putF' f d ds)
    by_cases z : k = f
    · rw [if_pos z, if_pos z]; exact .cons q t
    · rw [if_neg z, if_neg z]; exact .cons r (RpF.put f q t)
theorem RpL.one {d : D} {vs : List V} (r : RpL K mg m H vs [d]) : ∃ v, vs = [v] ∧ Rp K mg m H v d := by
  cases r with | cons r t => cases t; exact ⟨_, rfl, r⟩
theorem RpL.two {d e : D} {vs : List V} (r : RpL K mg m H vs [d, e]) : ∃ v w, vs = [v, w] ∧ Rp K mg m H v d ∧ Rp K mg m H w e := by
  cases r with | cons r t => obtain ⟨w, rfl, q⟩ := t.one; exact ⟨_, _, rfl, r, q⟩
end
end Vm

set_option Elab.async false
set_option linter.all false
set_option maxRecDepth 100000
set_option maxHeartbeats 4000000
/-! Vm, part 40: an own exception whose __init__ says super().__init__(value), self.value = value. -/
namespace Vm
open PySem PySem.Spec PyProof.Rows L2
/-- what the written part says of an own exception class C, its __init__ at f, stored in the class at W -/
structure ExC (K : PySem.W.Frag) (f W C : Addr) : Prop where
  T : OexC K C
  cd : (PySem.W.clsIn K C).isSome = true
  mro : PySem.W.mroIn K C (.ref W) = some true
  sup : PySem.W.ks_superIn K C W "__init__" = some (some (.builtin "ValueError.__init__"))
  ve : PySem.W.subIn K (.ref C) (.type "ValueError") = some true
  val : PySem.W.findIn K (.ref C) "value" = some none
/-- .. of the __init__ -/
structure InF (P : Program) (K : PySem.W.Frag) (f W cc cda : Addr) (fd : FuncData) : Prop where
  ex : ∃ (oc ccl cl : Value) (od cdd cld : Option Addr) (qual : Str) (params : Arguments) (scope : Scope) (dV kV doc pm ct : Value) (an : Option Addr) (osl ccs csl : Array (Option Value)) (vs : Array Value) (file : Str) (tf : Tok) (cdD : ClassData) (ar : Arg) (p0 p1 p2 p3 p4 p5 p6 p7 p8 p9 : Pos),
    fd = PySem.W.ksFn "__init__" qual params [.Expr (.Call (.Attribute (.Call (.Name "super" p0) [] [] p1) "__init__" p2) [.Name "value" p3] [] p4) p5, .Assign [.Attribute (.Name "self" p6) "value" p7] (.Name "value" p8) p9] scope dV kV doc pm an (.ref cda) ct cc ∧
    K.lookup f = some ⟨oc, od, .func fd, osl⟩ ∧ PySem.W.codeIn K (.ref cda) qual = true ∧
    K.lookup cda = some ⟨ccl, cdd, .fields vs, ccs⟩ ∧ vs[2]? = some (.str file tf) ∧ ((P.main.file : Str) == file) = true ∧
    K.lookup cc = some ⟨cl, cld, .cell (some (.ref W)), csl⟩ ∧ PySem.W.clsIn K W = some cdD ∧ PySem.W.nsIn K mainGlobals "super" = some none ∧ PySem.W.nsIn K cStatics "thirdparty.any" = some none ∧
    scope.names.lookup ("super" : Str) = some .globalImplicit ∧ scope.names.lookup ("__class__" : Str) = some .free ∧ scope.names.lookup ("self" : Str) = some .local ∧ scope.names.lookup ("value" : Str) = some .local ∧
    (∀ y ∈ scope.names, y.2 ≠ .cell) ∧ (∀ y, scope.names.lookup y = some .free → y = "__class__") ∧ scope.kind = .function ∧ scope.isCoroutine = false ∧ scope.isGenerator = false ∧
    (params.posonlyargs ++ params.args).head? = some ar ∧ ar.arg = "self" ∧ (p2.endLine == p4.line) = true ∧ (P.main.scope.names.lookup ("super" : Str)).isSome = false
def spI (K : PySem.W.Frag) (f W : Addr) : Sp := fun vs H Q _ => ∃ a C v, vs = [.ref a, v] ∧ H a = some (exo a C none) ∧ ExC K f W C ∧ ∀ d, H d = none → d ≠ a → Q .non (upd (upd H d (exd d [("value", v)])) a (exo a C (some d)))
def psI : List Str := ["self", "value"]
theorem boot_super : bootBuiltins "super" = some (.type "super") := by kernel_rfl
theorem if_so_here {α : Type} {M : Model} {A : Around} {E : Value → Shared → Prop} {s : Shared} {c : Bool} {x y : Sem α} {Q : α → Shared → Prop} (e : c = true) (h : wpAny M A x Q E s) : wpAny M A (if c = true then x else y) Q E s := by rw [if_pos e]; exact h
theorem init_fn {CX : CXT} {P : Program} {w : World} {K : PySem.W.Frag} {mg : Str → Option Value} {base : Heap} {k : Nat} {f W cc cda : Addr} {fd : FuncData} (FF : InF P K f W cc cda fd) (kin : K.In base) (ns : base.Ns mainGlobals mg) : FnOk P w K mg base CX (k + 1) f fd psI (spI K f W) := by
  obtain ⟨oc, ccl, cl, od, cdd, cld, qual, params, scope, dV, kV, doc, pm, ct, an, osl, ccs, csl, cvs, file, tf, cdD, ar, p0, p1, p2, p3, p4, p5, p6, p7, p8, p9, rfl, lk, hcd, hcode, hvs, hfile, hcell, hD, hsuper, hst, n1, n2, n3, n4, nocell, free1, hk, hco, hgen, hhead, har, hline, htop⟩ := FF.ex
  refine ⟨fun vs H Q E h => by obtain ⟨a, C, v, rfl, _⟩ := h; rfl, fun A outer s H args us vs Q E hr e0 hb r hsp => ?_⟩
  obtain ⟨a, C, v, rfl, ea, xc, q⟩ := hsp
  have KX : K.In s.heap := e0.mod.kin.keeps fun b o e => (e0.bs b o e).1
  have lim : s.heap.NoLimit := e0.mod.nolimit.keeps fun b o e => (e0.bs b o e).1
  obtain ⟨uv, rfl, rv⟩ : ∃ x, us = [Value.ref a, x] ∧ RelV v x := by
    cases r with
    | cons a1 b =>
      cases b with
      | cons a2 b2 =>
        cases b2
        cases a1
        exact ⟨_, rfl, a2⟩
  have hloc : ∀ x ∈ psI.zip [Value.ref a, uv], scope.names.lookup x.1 = some .local := fun x hx => by
    rcases List.mem_cons.mp hx with rfl | hx
    · exact n3
    · obtain rfl := List.mem_singleton.mp hx
      exact n4
  refine ks_codeAny_call_defAt (fd := PySem.W.ksFn "__init__" qual params _ scope dV kV doc pm an (.ref cda) ct cc) (binds := psI.zip [Value.ref a, uv]) hr.depth (KX _ _ lk) rfl lim (PySem.W.codeRec_of KX hcd) rfl hb nocell hloc (fun h₁ hns hkeep => ?_) hco hgen hk
  let env : PySem.Env := PySem.W.ksEnv qual scope s.heap.objs.size f (.ref cda) cc
  let X : Cx := { prog := P, w := w, K := K, mg := mg, base := base, A := A.deeper env, N := psI, s_0 := s, H_0 := H, env := env, outer := outer, stack := env :: outer, ex := [], fn := fun _ => false, calm := true, pn := [],
                  xe := fun e s' => wpAny (model P w) (A.deeper env) (leaving env e) (fun _ s'' => CR CX outer P w H s Q E (.error e) s'') (fun e' s'' => CR CX outer P w H s Q E (.error e') s'') s' }
  have hcc : H cc = none := (e0.bs cc _ (e0.mod.kin _ _ hcell)).2
  have noA : ∀ b : Addr, b ∉ X.ex := fun b z => absurd (show b ∈ ([] : List Addr) from z) (by simp)
  have cells : ∀ {y : Str} {c : Addr}, X.env.cells.lookup y = some c → y = "__class__" ∧ c = cc := fun {y c} e => by
    have e' : (if (y == PySem.Str.ofString "__class__") = true then some cc else none) = some c := by
      have e2 : List.lookup y [((PySem.Str.ofString "__class__"), cc)] = some c := e
      rw [List.lookup_cons] at e2
      cases z : y == PySem.Str.ofString "__class__" with
      | true => rw [z] at e2; rw [if_pos rfl]; exact e2
      | false => rw [z] at e2; cases e2
    split at e'
    · rename_i z
      exact ⟨beq_iff_eq.mp z, (Option.some.inj e').symm⟩
    · cases e'
  have I : Inv X [] (L2.start psI [.ref a, v]) H { s with heap := h₁, toks := s.toks + 2 } := by
    refine ⟨⟨e0.mod, hk, rfl, rfl, Nat.le_refl _, fun x y c e1 e2 => (cells e1).1.trans (cells e2).1.symm, fun y hy => ?_, fun y c z _ => ?_, fun _ => hr.hd, Around.frames_deeper e0.frames, .inr ⟨rfl, rfl⟩, fun b z => absurd z (noA b), e0.bs, e0.bsz, fun b _ _ => noA b,
        fun b z => absurd z (noA b), e0.funs, e0.frf⟩,
      rfl, e0.bare, Un.kept hkeep, ⟨_, hns, fun i y u e1 e2 e3 => ?_⟩, fun y c e => ?_, e0.hok.fresh (Nat.le_refl _), fun y c e => ?_, fun p hp => absurd (show p ∈ ([] : List (Addr × Obj)) from hp) (by simp), e0.hok.kept hkeep, rfl⟩
    · have hy : scope.names.lookup y = some .cell ∨ scope.names.lookup y = some .free := hy
      rcases hy with hy | hy
      · exact absurd rfl (nocell _ (PySem.mem_of_lookup hy))
      · rw [free1 y hy]
        exact ⟨cc, by kernel_rfl⟩
    · cases (show false = true from z)
    · have e1 : psI[i]? = some y := e1
      have e2 : ([some (V.ref a), some v] : L2.St)[i]? = some (some u) := e2
      match i, e1, e2 with
      | 0, e1, e2 =>
        cases e1
        cases e2
        exact ⟨.ref a, rfl, .inl ⟨n3, by kernel_rfl⟩⟩
      | 1, e1, e2 =>
        cases e1
        cases e2
        exact ⟨uv, rv, .inl ⟨n4, by kernel_rfl⟩⟩
      | i + 2, e1, e2 => cases e1
    · obtain ⟨rfl, rfl⟩ := cells e
      exact ⟨_, _, hkeep _ _ (KX _ _ hcell), rfl⟩
    · obtain ⟨rfl, rfl⟩ := cells e
      exact hcc
  show _root_.PySem.wpAt (model P w) X.A (.func _ X.env) (execs _ X.env) _ X.xe _
  obtain ⟨oD, hD1, hD2⟩ : ∃ oD, h₁.get? W = some oD ∧ oD.data = .cls cdD := by
    unfold PySem.W.clsIn at hD
    split at hD
    · rename_i c d cd' sl ho
      cases hD
      exact ⟨_, hkeep _ _ (KX _ _ ho), rfl⟩
    · cases hD
  obtain ⟨t1, ho⟩ := exo_at I.hok ea
  obtain ⟨mb, hmb1, hmb2⟩ := I.mod.blt
  have hmg : mg "super" = none := PySem.W.mg_none_of kin ns hsuper
  have he : eval (.Call (.Attribute (.Call (.Name "super" p0) [] [] p1) "__init__" p2) [.Name "value" p3] [] p4) X.env = (do
      let ov ← attributeBase (.Call (.Name "super" p0) [] [] p1) "__init__" X.env (eval (.Call (.Name "super" p0) [] [] p1) X.env)
      standAt p2.atName
      let (f, first) ← holding [ov] (getMethod ov "__init__" (do return (← importBound (.Call (.Name "super" p0) [] [] p1) X.env).getD true))
      callWith p4 f first (backTo p4 (starEach [.Name "value" p3] X.env)) []) := by
    show (do
      let ov ← attributeBase (.Call (.Name "super" p0) [] [] p1) "__init__" X.env (eval (.Call (.Name "super" p0) [] [] p1) X.env)
      standAt p2.atName
      methodCall (.Call (.Name "super" p0) [] [] p1) "__init__" p2 p4 X.env ov 1 (backTo p4 (starEach [.Name "value" p3] X.env)) []) = _
    unfold methodCall methodCallPos
    rw [show methodCallForm 1 (backTo p4 (starEach [.Name "value" p3] X.env)) [] = true from rfl]
    simp only [hline, Bool.not_true, Bool.false_or, if_true, pure_bind]
    rfl
  refine ks_wpAt_execs_cons (ks_wpAt_Expr_any (hi := I.quiet) (ks_wpAt_MethodCall (he := he) ?_))
  refine ks_wpAt_super_base (env := X.env) n1 n2 (by decide) rfl (hkeep _ _ (KX _ _ lk)) rfl hhead rfl (hkeep _ _ (KX _ _ hcode)) rfl hvs hfile htop ?_
  refine PySem.W.ks_loadName_global hk n1 (Calls.loadGlobal_builtin (env := X.env) (I.mod.glob.keeps I.bk) hmg (hmb1.keeps I.bk) ((hmb2 _ (by decide)).trans boot_super) ⟨rfl, ?_⟩)
  refine wpAny_loadName_free (env := X.env) hk n2 (c := cc) (by kernel_rfl) ⟨_, hkeep _ _ (KX _ _ hcell), rfl⟩ ?_
  rw [har]
  refine wpAny_loadName_local (env := X.env) hk n3 hns (v := .ref a) (by kernel_rfl) ?_
  refine ks_wpAny_isType_cls hD1 hD2 ⟨rfl, ?_⟩
  refine ks_wpAny_call_super hD1 hD2 ho rfl (fun c e => by cases e) (PySem.W.looks_mroIn I.kIn xc.mro) (fun h2 hso k2 => ?_)
  have I2 := I.kept (h' := h2) (t' := s.toks + 2) k2
  obtain ⟨cdC, hcC⟩ := Option.isSome_iff_exists.mp xc.cd
  have hsup := xc.sup
  unfold PySem.W.ks_superIn at hsup
  rw [hcC] at hsup
  have IA : PySem.W.InstAt h2 a _ C none := ⟨k2 _ _ ho, rfl, rfl, trivial⟩
  have XK2 : K.In h2 := I2.kIn
  refine PySem.W.kxs_getMethod PySem.W.kxs_ValueError hso (PySem.W.looks_opaque XK2 hst) (l₀ := cdC.mro) (fun A Q E s k q => wpAny_bind ((PySem.W.looks_clsIn XK2 hcC) A _ E s k (wpAny_pure q))) rfl XK2 hsup (IA.type.andThen (PySem.W.looks_subIn XK2 xc.ve)) (PySem.W.ks_ne XK2 IA hcC) (by decide) ?_
  have k3 : ∀ b u, h2.get? b = some u → (h2.push (PySem.W.kxs_mw "ValueError.__init__" a)).get? b = some u := fun b u e => Heap.get?_push_of_some _ e
  have I3 := I2.kept (h' := h2.push (PySem.W.kxs_mw "ValueError.__init__" a)) (t' := s.toks + 2 + 1) k3
  have hu3 : (h2.push (PySem.W.kxs_mw "ValueError.__init__" a)).get? h2.objs.size = some (PySem.W.kxs_mw "ValueError.__init__" a) := Heap.get?_push_at rfl rfl
  have I4 : Inv X [(h2.objs.size, PySem.W.kxs_mw "ValueError.__init__" a)] (L2.start psI [.ref a, v]) H _ := I3.pins_of fun p hp => by
    obtain rfl := List.mem_singleton.mp hp
    exact ⟨hu3, I2.hok.fresh (Nat.le_refl _), Nat.ne_of_gt I2.lt, I2.nofs (Nat.le_refl _), fun v e => by cases e⟩
  have vis : Vis X.env.scope "value" := .inl n4
  have vis2 : Vis X.env.scope "self" := .inl n3
  have pa : PA X [.Name "value" p3] (tCons (tVar 1) tNil) := pa_cons (pe_var (X := X) (i := 1) (x := "value") rfl vis) pa_nil
  refine PySem.W.kxs_callWith (i := "ValueError.__init__") (x := a) rfl (PySem.Calls.evalArgs_plain ?_)
  refine thn (pa.run p4 _ _ _ H (fun vs H1 => vs = [v] ∧ H1 = H) I4 ⟨v, rfl, rfl, rfl⟩) fun us s1 ⟨vs, H1, I5, r1, e1, e2⟩ => ?_
  subst e1 e2
  have hu5 := (I5.pin _ (List.mem_append_right _ (List.mem_singleton.mpr rfl))).1
  refine ⟨hu5, ?_⟩
  obtain ⟨nm, qn, Nn, bs, bm, sn, sub, ab, col, dd, kk0, kk1, kk2, kk3, kk5, hC, hbm⟩ := xc.T.cls
  obtain ⟨t5, ho5⟩ := exo_at I5.hok ea
  have XK5 := I5.kIn
  obtain ⟨h5, g5, d5, t5', os5⟩ := s1
  have hus : us.length ≤ sizeLine := by
    rw [← Paired.length r1, sizeLine_eq]
    show 1 ≤ 16777216
    decide
  show wpAny _ _ (call (.ref h2.objs.size) us) _ _ _
  refine wpAny_call (codeAny_of_tree ?_)
  show wpAny _ X.A.in1 (callAny (.ref h2.objs.size) ⟨us, []⟩) _ _ _
  simp only [callAny]
  refine wpAny_bind (wpAny_load hu5 ?_)
  simp only [PySem.W.kxs_mw, show (Value.type "method-wrapper" == Value.type "method" || Value.type "method-wrapper" == Value.type "builtin_function_or_method" || Value.type "method-wrapper" == Value.type "method-wrapper") = true by decide, if_true]
  refine if_so_here (by decide) ?_
  refine wpAny_bind (PySem.W.check_bound_init F.excBase_ValueError.toExcCallFacts (XK5 _ _ hC) ho5 rfl ?_)
  refine wpAny_bind (wpAny_pure (wpAny_pure ?_))
  refine ⟨plainId_quiet F.excBase_ValueError.init.plain _, codeAny_builtin F.excBase_ValueError.initEntry ?_⟩
  refine PySem.W.exc_init_tree (cls := .ref C) (t0 := t5) (dv := none) (c2 := .none) (c3 := .none) (b4 := .bool false) ho5 hus fun h6 k6 e6 _ => ?_
  have J0 := I5.write (t' := t5') (x := a) (e := a) (o := exo a C none) (by rw [ea]; exact True.intro) (.inl rfl) k6 ⟨_, e6⟩ (exo_ok e6)
  have eu : upd H1 a (exo a C none) = H1 := by
    funext b
    by_cases hb : b = a
    · rw [hb, upd_same, ea]
    · rw [upd_ne hb]
  rw [eu] at J0
  show _root_.PySem.wpAt (model P w) X.A _ (execs [.Assign [.Attribute (.Name "self" p6) "value" p7] (.Name "value" p8) p9] X.env) _ X.xe _
  have ps := ps_ost (X := X) (f := "value") (p' := p7) (pos := p9) (pe_var (X := X) (i := 0) (x := "self") (pos := p6) rfl vis2) (pe_var (X := X) (i := 1) (x := "value") (pos := p8) rfl vis)
  refine ks_wpAt_execs_cons (wpAt_of_wpAny (thn (ps.run _ _ _ _ { nx := fun _ H' => Q .non H', rt := fun _ _ => False } J0 ⟨v, rfl, .ref a, rfl, a, C, rfl, xc.T, xc.val, .inl ⟨ea, fun d e1 e2 => q d e1 e2⟩⟩) fun fl s' hq => ?_))
  cases fl with
  | next =>
    obtain ⟨σ', H', J, q'⟩ := hq
    exact wpAt_of_wpAny (wpAny_pure ⟨.non, H', J.os, J.bare, J.base, J.hok, rfl, q'⟩)
  | ret u =>
    obtain ⟨_, _, _, _, _, z⟩ := hq
    exact z.elim
  | brk =>
    obtain ⟨_, _, _, z⟩ := hq
    exact z.elim
  | cont =>
    obtain ⟨_, _, _, z⟩ := hq
    exact z.elim
end Vm

set_option Elab.async false
set_option linter.all false
set_option maxRecDepth 100000
set_option maxHeartbeats 4000000
/-! Vm, part 41: a caught exception that has a dict: isinstance, its value. -/
namespace PySem.W
open PySem PySem.Spec PySem.Calls Builtin Builtin.ObjectAttr
section
variable {prog : Program} {w : World} {A : Around} {E : Value → Shared → Prop} {s : Shared} {K : Frag} {x D : Addr} {ox od : Obj}
/-- .. __class__, asked by isinstance -/
theorem vm_classE {Q : Option Value → Shared → Prop} (C : L2.ExcC K D) (X : K.In s.heap) (I : InstAt s.heap x ox D (some od)) (h : Q (some (.ref D)) { s with toks := s.toks + 1 }) : wpAny (model prog w) A (getAttr? (.ref x) "__class__") Q E s := by
  have hcl : (clsIn K D).isSome = true := by obtain ⟨cd, hc, _⟩ := any_some C.hd; rw [hc]; rfl
  have hf : findObj K D (some od) "__class__" = some (.bind (.builtin "getset_descriptor.__get__") (.builtin "object.__class__")) := findObj_data hcl C.ha C.hn C.ht
  obtain ⟨hp, g, d, t, os⟩ := s
  have lT := I.type (M := model prog w)
  have lF := looks_find (M := model prog w) X I hf
  have ne : (Value.builtin "BaseException.__getattribute__" == Value.builtin "object.__getattribute__") = false := by decide +kernel
  unfold getAttr? getAttrBy? getAttrBy
  refine wpAny_bind (wpAny_mkText (wpAny_bind (wpAny_attempt (wpAny_holding (wpAny_bind (lT.at (wpAny_bind ((looks_findIn (M := model prog w) X C.hg).at ?_))))))))
  show wpAny _ _ (if (onTheHeap (Value.ref D) && Value.builtin "BaseException.__getattribute__" == Value.builtin "object.__getattribute__") = true then _ else _) _ _ _
  rw [ne, Bool.and_false, if_neg Bool.false_ne_true]
  unfold getAttrByItsOwn hookBefore
  refine wpAny_bind ?_
  rw [if_pos (show onTheHeap (Value.ref D) = true from rfl)]
  refine (looks_findIn (M := model prog w) X C.hk).at ?_
  refine wpAny_bind (wpAny_attempt (wpAny_holding ?_))
  unfold callGetattribute
  rw [show (false && onTheHeap (Value.builtin "BaseException.__getattribute__")) = false from rfl, if_neg Bool.false_ne_true]
  unfold boundAndCalled
  rw [PySem.F.excAttr_ValueError.ga.bind (.ref x)]
  refine wpAny_bind (wpAny_pure ?_)
  show wpAny _ _ (call (.builtin "BaseException.__getattribute__") [.ref x, .str "__class__" t]) _ _ _
  refine wpAny_call (codeAny_call_builtin PySem.F.excAttr_ValueError.ga.plain PySem.F.entry_bexc_ga ?_)
  refine @check_slot (model prog w) _ _ ⟨hp, g, d, t + 1, os⟩ "BaseException.__getattribute__" "BaseException" "__getattribute__" (.ref x) [.str "__class__" t] [] _ (by decide +kernel) (by decide +kernel) (lT.andThen (looks_subIn X C.hs)) (PySem.F.args_bexc_ga (.ref x) (.str "__class__" t)) ?_
  unfold Builtin.«object.__getattribute__»
  refine wpAny_bind (wpAny_of_eq (a := ((Value.ref x : Value), [Value.str "__class__" t])) (by first | rfl | (simp only [slotArgs]; rfl)) ?_)
  refine wpAny_bind (wpAny_pure (wpAny_bind (lT.at (wpAny_bind (lF.at ?_)))))
  show wpAny _ _ (holding [Value.builtin "object.__class__"] (call (.builtin "getset_descriptor.__get__") [.builtin "object.__class__", .ref x, .ref D]) >>= ret) _ _ _
  refine wpAny_bind (wpAny_holding (wpAny_call (class_get (s := ⟨hp, g, d, t + 1, os⟩) (ox := ox) (od := some od) X I C.hm ?_)))
  refine wpAny_pure ?_
  show wpAny _ _ (handedOut (.ref D)) _ _ _
  rw [handedOut_of (v := .ref D) rfl]
  first
    | exact wpAny_pure (wpAny_pure h)
    | exact wpAny_pure h
    | exact wpAny_pure (wpAny_bind (wpAny_pure (wpAny_pure h)))
theorem vm_kit_exc (C : L2.ExcC K D) : KitX K (.ref x) (.ref D) (fun h => InstAt h x ox D (some od)) where
  ty := fun _ _ _ I => I.type
  it := fun _ _ X _ => by
    obtain ⟨cd, hc, _⟩ := any_some C.hd
    unfold clsIn at hc
    split at hc
    · rename_i ho
      intro A' Q' E' s' k q
      unfold isType loadHead
      exact wpAny_bind (wpAny_loadPart (k _ _ (X _ _ ho)) (wpAny_pure q))
    · cases hc
  ne := fun h tp dd its n sl X htp => by
    obtain ⟨cd, hc, _⟩ := any_some C.hd
    refine Bool.eq_false_iff.mpr fun q => ?_
    have e : D = tp := Value.ref.inj (beq_iff_eq.mp q)
    subst e
    unfold clsIn at hc
    split at hc
    · rename_i ho
      have z := (X _ _ ho).symm.trans htp
      cases z
    · cases hc
  ca := fun X I k => vm_classE C X I k
end
end PySem.W
namespace Vm
open PySem PySem.Spec PyProof.Rows L2
/-- what is known of an own exception class -/
structure ExK (K : PySem.W.Frag) (C : Addr) : Prop where
  c : ExcC K C
  f : XfC K C
  val : PySem.W.findIn K (.ref C) "value" = some none
section
variable {X : Cx} {pins : List (Addr × Obj)} {σ : L2.St} {H : Hp} {s : Shared} {C a dd : Addr} {w : V}
/-- the exception that H tells of -/
theorem exc_inst (I : L2.Inv X pins σ H s) (h : H a = some (ExcO C a dd)) (h2 : H dd = some (.xd [("value", w)])) :
    ∃ ox od u, PySem.W.InstAt s.heap a ox C (some od) ∧ RelV w u ∧ PySem.W.lookIn "value" od = some (some u) := by
  obtain ⟨oe, vs, e1, e2, e3, e4⟩ := (show ObjOk X.prog X.w H s.heap a (ExcO C a dd) from I.hok a _ h).1
  obtain ⟨mA, hns, hr⟩ := (show ObjOk X.prog X.w H s.heap dd (.xd [("value", w)]) from I.hok dd _ h2)
  obtain ⟨od, ho, hl⟩ := lookIn_ns hns
  obtain ⟨u, hu, ru⟩ := RelO.some_of (v := w) (o := mA "value") (hr "value")
  exact ⟨oe, od, u, ⟨e1, e2, by unfold PySem.W.notCls; rw [e4] <;> rfl, by rw [e3]; exact ho⟩, ru, by rw [hl, hu]⟩
/-- e.value -/
theorem exc_value (T : ExK X.K C) (I : L2.Inv X pins σ H s) (h : H a = some (ExcO C a dd)) (h2 : H dd = some (.xd [("value", w)])) {E : Value → Shared → Prop} {b : Bool} {Q : Value → Shared → Prop} (k : ∀ u s', L2.Inv X pins σ H s' → RelV w u → Q u s') :
    wpAny (model X.prog X.w) X.A (getAttr (.ref a) "value" b) Q E s := by
  obtain ⟨ox, od, u, J, ru, hl⟩ := exc_inst I h h2
  exact HandSPX.exc_get I.kIn J T.f.ga T.f.gg T.f.exC (PySem.W.findObj_own T.f.hdC T.val rfl hl) (handed_of ru) (k u _ (I.tok _) ru)
/-- isinstance(e, c) -/
theorem exc_isi (T : ExK X.K C) (I : L2.Inv X pins σ H s) (h : H a = some (ExcO C a dd)) (h2 : H dd = some (.xd [("value", w)])) {cv : Value} {b : Bool} (hk : PySem.W.kitOne X.K (.ref C) cv = some b) {E : Value → Shared → Prop} {Q : Value → Shared → Prop} (k : ∀ s', L2.Inv X pins σ H s' → Q (.bool b) s') :
    wpAny (model X.prog X.w) X.A (call (.builtin "isinstance") [.ref a, cv]) Q E s := by
  obtain ⟨ox, od, u, J, _, _⟩ := exc_inst I h h2
  exact PySem.W.kia_one (PySem.W.vm_kit_exc T.c) I.kIn J hk (fun z => nomatch z) fun tk => k _ (I.kept (t' := tk) fun _ _ z => z)
end
end Vm

set_option Elab.async false
set_option linter.all false
set_option maxRecDepth 100000
set_option maxHeartbeats 1000000
/-! Vm, part 3: operators, by values. -/
namespace Vm
open PySem PySem.Spec PyProof.Rows L2
variable {X : Cx} {pins : List (Addr × Obj)} {σ : L2.St} {H : Hp} {s : Shared} {m : Wm} {st : Sto}

/-- what is left behind an expression -/
def EQ (X : Cx) (m : Wm) (H : Hp) (Q0 : QD) : VK := fun v H' => ∃ d st' m', Q0 d st' ∧ Wl m H m' H' ∧ RpS X.K X.mg m' H' st' ∧ Rp X.K X.mg m' H' v d
theorem EQ.of {Q0 : QD} {v : V} {d : D} (rs : RpS X.K X.mg m H st) (r : Rp X.K X.mg m H v d) (q : Q0 d st) : EQ X m H Q0 v H := ⟨d, st, m, q, Wl.refl m H, rs, r⟩
theorem notin_new {st : Sto} {K : PySem.W.Frag} {mg : Str → Option Value} (rs : RpS K mg m H st) {p : Addr} (hp : H p = none) : some p ∉ m := fun q => by
  obtain ⟨n, hn⟩ := List.mem_iff_getElem?.mp q
  obtain ⟨o', _, r⟩ := rs.at_ n p hn
  obtain ⟨u, e⟩ := r.there
  rw [hp] at e; cases e
/-- a new frozen list -/
theorem new_lst {K : PySem.W.Frag} {mg : Str → Option Value} {p : Addr} {vs : List V} {ds : List D} (rs : RpS K mg m H st) (hp : H p = none) (r : RpL K mg m H vs ds) : Rp K mg m (L2.upd H p (.lst vs)) (.ref p) (.lst ds) :=
  .lst upd_same (notin_new rs hp) (r.wl rs (Wl.upd hp))
theorem new_tup {K : PySem.W.Frag} {mg : Str → Option Value} {p : Addr} {vs : List V} {ds : List D} (rs : RpS K mg m H st) (hp : H p = none) (r : RpL K mg m H vs ds) : Rp K mg m (L2.upd H p (.tup vs)) (.ref p) (.tup ds) :=
  .tup (SqT.of upd_same) (r.wl rs (Wl.upd hp))
theorem EQ.tup {Q0 : QD} {p : Addr} {vs : List V} {ds : List D} (rs : RpS X.K X.mg m H st) (hp : H p = none) (r : RpL X.K X.mg m H vs ds) (q : Q0 (.tup ds) st) : EQ X m H Q0 (.ref p) (L2.upd H p (.tup vs)) :=
  ⟨_, st, m, q, Wl.upd hp, rs.upd hp, new_tup rs hp r⟩
/-- a new list, frozen or in the store -/
theorem EQ.lst {Q0 : QD} {al : Bool} {p : Addr} {vs : List V} {ds : List D} (rs : RpS X.K X.mg m H st) (hp : H p = none) (r : RpL X.K X.mg m H vs ds) (q : retL al ds st Q0) : EQ X m H Q0 (.ref p) (L2.upd H p (.lst vs)) := by
  obtain ⟨_, q⟩ := q
  cases al with
  | false => exact ⟨_, st, m, q, Wl.upd hp, rs.upd hp, new_lst rs hp r⟩
  | true =>
    have q : Q0 (.ref st.length) (st ++ [.lst ds]) := q
    refine ⟨.ref st.length, st ++ [.lst ds], m ++ [some p], q, Wl.push hp, rs.push hp (.lst upd_same (r.wl rs (Wl.push hp))), .ref (by simp [rs.len]) fun a e => ?_⟩
    rw [← rs.len, List.getElem?_append_right (Nat.le_refl _)] at e
    simp at e
    rw [e]
def opOf : BinO → Operator
  | .add => .Add | .sub => .Sub | .mul => .Mult | .fdiv => .FloorDiv | .mod => .Mod | .pow => .Pow
theorem op_powW : OpR X (binaryOp .Pow) (rI PowOk fun i j => .int (i ^ j.toNat)) := opI fun _ _ i j _ _ _ hc q => by
  obtain ⟨h1, h2⟩ := hc
  refine pow_int h1 ?_ q
  have b : ∀ x : Int, Builtin.Int.intBits x ≤ x.natAbs.log2 + 1 := fun x => by
    unfold Builtin.Int.intBits
    split <;> omega
  refine Int.le_trans (Int.mul_le_mul_of_nonneg_right ?_ h1) (Int.le_trans h2 (by decide))
  exact Int.ofNat_le.mpr (b _)
theorem RpL.rep {K : PySem.W.Frag} {mg : Str → Option Value} {vs : List V} {ds : List D} (r : RpL K mg m H vs ds) : ∀ {k : Nat}, RpL K mg m H (List.replicate k vs).flatten (List.replicate k ds).flatten
  | 0 => .nil
  | k + 1 => by
    rw [List.replicate_succ, List.replicate_succ, List.flatten_cons, List.flatten_cons]
    exact r.append (RpL.rep r)
theorem flatten_rep_len {α : Type} {xs : List α} : ∀ {k : Nat}, ((List.replicate k xs).flatten).length = k * xs.length
  | 0 => by simp
  | k + 1 => by
    rw [List.replicate_succ, List.flatten_cons, List.length_append, flatten_rep_len, Nat.succ_mul]
    omega
theorem bin_ok {o : BinO} {x y : V} {v u : Value} {dx dy : D} {Q0 : QD} (I : Inv X pins σ H s) (rs : RpS X.K X.mg m H st) (rx : RelV x v) (ry : RelV y u) (px : Rp X.K X.mg m H x dx) (py : Rp X.K X.mg m H y dy)
    (h : binD st o dx dy fun r => Q0 r st) : wpAny (model X.prog X.w) X.A (binaryOp (opOf o) v u) (EP X pins σ (EQ X m H Q0)) X.xe s := by
  cases o with
  | add =>
    have h : addD st dx dy fun r => Q0 r st := h
    have gen : (∃ xs ys, isLst st dx = true ∧ isLst st dy = true ∧ seqOf st dx = some xs ∧ seqOf st dy = some ys ∧ xs.length + ys.length ≤ sizeLine ∧ Q0 (.lst (xs ++ ys)) st) → wpAny (model X.prog X.w) X.A (binaryOp (opOf .add) v u) (EP X pins σ (EQ X m H Q0)) X.xe s := fun h => by
      obtain ⟨xs, ys, l1, l2, e1, e2, z, q⟩ := h
      obtain ⟨a, vs, rfl, ha, ra⟩ := px.list rs l1 e1
      obtain ⟨b, us, rfl, hb, rb⟩ := py.list rs l2 e2
      refine op_cat pins s σ H _ _ v u _ I rx ry ⟨_, _, _, _, rfl, rfl, ha, hb, by rw [ra.length, rb.length]; exact z, fun p hp => ?_⟩
      exact EQ.lst (al := false) rs hp (ra.append rb) ⟨by rw [List.length_append]; exact z, q⟩
    cases dx with
    | int i => obtain ⟨j, rfl, q⟩ := h; cases px; cases py; exact op_add pins s σ H _ _ v u _ I rx ry ⟨_, _, rfl, rfl, EQ.of rs (.int _) q⟩
    | str a => obtain ⟨j, rfl, z, q⟩ := h; cases px; cases py; exact op_add_str pins s σ H _ _ v u _ I rx ry ⟨_, _, rfl, rfl, z, EQ.of rs (.str _) q⟩
    | tup xs =>
      obtain ⟨ys, rfl, z, q⟩ := h
      have rx' := px
      have ry' := py
      cases px with
      | tup ha ra => cases py with
        | tup hb rb =>
          refine op_catA pins s σ H _ _ v u _ I rx ry ⟨_, _, _, _, rfl, rfl, ha, hb, by rw [ra.length, rb.length]; exact z, fun e => ?_, fun _ e => ?_, fun _ _ p hp => ?_⟩
          · subst e
            cases ra
            exact EQ.of rs ry' q
          · subst e
            cases rb
            rw [List.append_nil] at q
            exact EQ.of rs rx' q
          · exact EQ.tup rs hp (ra.append rb) q
    | _ => exact gen h
  | sub => obtain ⟨i, j, rfl, rfl, q⟩ := h; cases px; cases py; exact op_sub pins s σ H _ _ v u _ I rx ry ⟨_, _, rfl, rfl, EQ.of rs (.int _) q⟩
  | mul =>
    have h : mulD st dx dy fun r => Q0 r st := h
    have gen : (∃ k xs, dy = .int k ∧ isLst st dx = true ∧ seqOf st dx = some xs ∧ -(2 ^ 62) ≤ k ∧ k < 2 ^ 62 ∧ xs.length * k.toNat ≤ sizeLine ∧ Q0 (.lst (List.replicate k.toNat xs).flatten) st) → wpAny (model X.prog X.w) X.A (binaryOp (opOf .mul) v u) (EP X pins σ (EQ X m H Q0)) X.xe s := fun h => by
      obtain ⟨k, xs, rfl, l1, e1, k1, k2, z, q⟩ := h
      cases py
      obtain ⟨a, vs, rfl, ha, ra⟩ := px.list rs l1 e1
      refine op_rep pins s σ H _ _ v u _ I rx ry ⟨_, _, _, rfl, rfl, ha, by omega, by omega, by rw [ra.length]; exact z, fun p hp => ?_⟩
      refine EQ.lst (al := false) rs hp (RpL.rep ra) ⟨?_, q⟩
      rw [flatten_rep_len]
      rw [Nat.mul_comm]
      exact z
    cases dx with
    | int i => obtain ⟨j, rfl, c, q⟩ := h; cases px; cases py; exact op_mul pins s σ H _ _ v u _ I rx ry ⟨_, _, rfl, rfl, c, EQ.of rs (.int _) q⟩
    | tup xs =>
      obtain ⟨k, rfl, ne, k1, k2, z, q⟩ := h
      cases py
      cases px with
      | tup ha ra =>
        refine op_repT pins s σ H _ _ v u _ I rx ry ⟨_, _, _, rfl, rfl, ha, fun e => ?_, k1, k2, by rw [ra.length]; exact z, fun p hp => ?_⟩
        · subst e
          cases ra
          exact ne rfl
        · exact EQ.tup rs hp (RpL.rep ra) q
    | _ => exact gen h
  | fdiv => obtain ⟨i, j, rfl, rfl, q⟩ := h; cases px; cases py; exact op_fdiv pins s σ H _ _ v u _ I rx ry ⟨_, _, rfl, rfl, q.1, EQ.of rs (.int _) q.2⟩
  | mod => obtain ⟨i, j, rfl, rfl, q⟩ := h; cases px; cases py; exact op_mod pins s σ H _ _ v u _ I rx ry ⟨_, _, rfl, rfl, q.1, EQ.of rs (.int _) q.2⟩
  | pow => obtain ⟨i, j, rfl, rfl, q⟩ := h; cases px; cases py; exact op_powW pins s σ H _ _ v u _ I rx ry ⟨_, _, rfl, rfl, q.1, EQ.of rs (.int _) q.2⟩

/-! ### data -/
mutual
theorem Rp.reads (I : Inv X pins σ H s) : ∀ (d : D) (p : PyData) (v : V) (u : Value), Rp X.K X.mg m H v d → d.data = some p → RelV v u → ∃ as, Reads s.heap u p as
  | .non, _, _, _, q, h, r => by cases q; cases h; cases r; exact ⟨_, Reads.none⟩
  | .bl _, _, _, _, q, h, r => by cases q; cases h; cases r; exact ⟨_, Reads.bool _⟩
  | .int _, _, _, _, q, h, r => by cases q; cases h; obtain ⟨t, rfl⟩ := r; exact ⟨_, Reads.int _ t⟩
  | .str _, _, _, _, q, h, r => by cases q; cases h; obtain ⟨t, rfl⟩ := r; exact ⟨_, Reads.str _ t⟩
  | .tup ds, p, _, _, q, h, r => by
    cases q with
    | tup hs rl =>
      cases r
      obtain ⟨ps, e, rfl⟩ := Option.map_eq_some_iff.mp (show (dataL ds).map PyData.tuple = some p from h)
      obtain ⟨its, rv, ⟨o, ho, hc, n, hd⟩, _⟩ := I.tuple hs
      obtain ⟨as, hr⟩ := RpL.reads I ds ps _ _ rl e rv
      exact ⟨_, Reads.tuple ho hc hd hr⟩
  | .lst ds, p, _, _, q, h, r => by
    cases q with
    | lst hs _ rl =>
      cases r
      obtain ⟨ps, e, rfl⟩ := Option.map_eq_some_iff.mp (show (dataL ds).map PyData.list = some p from h)
      obtain ⟨its, rv, ⟨o, n, ho, hc, _, hd⟩, _⟩ := I.list (SqL.of hs)
      obtain ⟨as, hr⟩ := RpL.reads I ds ps _ _ rl e rv
      exact ⟨_, Reads.list ho hc hd hr⟩
  | .dct _, _, _, _, _, h, _ => by cases h
  | .dcT _, _, _, _, _, h, _ => by cases h
  | .obj _ _, _, _, _, _, h, _ => by cases h
  | .exc _ _, _, _, _, _, h, _ => by cases h
  | .ref _, _, _, _, _, h, _ => by cases h
  | .glo _, _, _, _, _, h, _ => by cases h
  | .ty _, _, _, _, _, h, _ => by cases h
  | .scr _, _, _, _, _, h, _ => by cases h
theorem RpL.reads (I : Inv X pins σ H s) : ∀ (ds : List D) (ps : List PyData) (vs : List V) (us : List Value), RpL X.K X.mg m H vs ds → dataL ds = some ps → Vals vs us → ∃ as, ReadsAll s.heap us ps as
  | [], _, _, _, q, h, r => by cases q; cases h; cases r; exact ⟨_, .nil⟩
  | d :: ds, _, _, _, q, h, r => by
    cases q with
    | cons q t =>
      cases r with
      | cons r1 r2 =>
        obtain ⟨p, e1, h⟩ := Option.bind_eq_some_iff.mp (show (d.data).bind (fun d => (dataL ds).map fun ds => d :: ds) = _ from h)
        obtain ⟨ps, e2, rfl⟩ := Option.map_eq_some_iff.mp h
        obtain ⟨as, a1⟩ := Rp.reads I d p _ _ q e1 r1
        obtain ⟨bs, b1⟩ := RpL.reads I ds ps _ _ t e2 r2
        exact ⟨_, .cons a1 b1⟩
end
theorem Rp.readsO (I : Inv X pins σ H s) (rs : RpS X.K X.mg m H st) {d : D} {p : PyData} {v : V} {u : Value} (q : Rp X.K X.mg m H v d) (h : dataOf st d = some p) (r : RelV v u) : ∃ as, Reads s.heap u p as := by
  cases d with
  | ref n =>
    have h : (match st[n]? with | some (.lst xs) => (dataL xs).map .list | _ => none) = some p := h
    cases e : st[n]? with
    | none => rw [e] at h; cases h
    | some o =>
      rw [e] at h
      cases o with
      | lst xs =>
        obtain ⟨a, rfl, _, ro⟩ := rs.live q e (by intro z; cases z)
        cases ro with
        | lst hs rl =>
          cases r
          obtain ⟨ps, e, rfl⟩ := Option.map_eq_some_iff.mp h
          obtain ⟨its, rv, ⟨o, n, ho, hc, _, hd⟩, _⟩ := I.list (SqL.of hs)
          obtain ⟨as, hr⟩ := RpL.reads I _ ps _ _ rl e rv
          exact ⟨_, Reads.list ho hc hd hr⟩
      | _ => cases h
  | _ => exact Rp.reads I _ p v u q h r
end Vm

set_option Elab.async false
set_option linter.all false
set_option maxRecDepth 100000
set_option maxHeartbeats 1000000
/-! Vm, part 44: data with dicts is read; the lists and dicts read are told of. -/
namespace Vm
open PySem PySem.Spec PyProof.Rows L2
section
variable {X : Cx} {pins : List (Addr × Obj)} {σ : L2.St} {H : Hp} {s : Shared} {m : Wm} {st : Sto}
abbrev KnH (H : Hp) (as : List Addr) : Prop := ∀ b ∈ as, ∃ o, H b = some o
theorem keyRead {P : Program} {w : World} {h : Heap} : ∀ (k : Key) (v : Value), (mixKind P w).is k v = true → Reads h v (keyP k) [] := fun k v e => by
  rcases keyIs_shape (k := k) (v := v) e with ⟨i, t, rfl, rfl⟩ | ⟨x, t, rfl, rfl⟩
  · exact Reads.int i t
  · exact Reads.str x t
mutual
theorem Rp.reads2 (I : L2.Inv X pins σ H s) : ∀ (d : D) (p : PyData) (v : V) (u : Value), Rp X.K X.mg m H v d → d.dat2 = some p → RelV v u → ∃ as, Reads s.heap u p as ∧ KnH H as
  | .non, _, _, _, q, h, r => by cases q; cases h; cases r; exact ⟨_, Reads.none, fun b hb => by cases hb⟩
  | .bl _, _, _, _, q, h, r => by cases q; cases h; cases r; exact ⟨_, Reads.bool _, fun b hb => by cases hb⟩
  | .int _, _, _, _, q, h, r => by cases q; cases h; obtain ⟨t, rfl⟩ := r; exact ⟨_, Reads.int _ t, fun b hb => by cases hb⟩
  | .str _, _, _, _, q, h, r => by cases q; cases h; obtain ⟨t, rfl⟩ := r; exact ⟨_, Reads.str _ t, fun b hb => by cases hb⟩
  | .tup ds, p, _, _, q, h, r => by
    cases q with
    | tup hs rl =>
      cases r
      obtain ⟨ps, e, rfl⟩ := Option.map_eq_some_iff.mp (show (dat2L ds).map PyData.tuple = some p from h)
      obtain ⟨its, rv, ⟨o, ho, hc, n, hd⟩, _⟩ := I.tuple hs
      obtain ⟨as, hr, hk⟩ := RpL.reads2 I ds ps _ _ rl e rv
      exact ⟨_, Reads.tuple ho hc hd hr, hk⟩
  | .lst ds, p, _, _, q, h, r => by
    cases q with
    | lst hs _ rl =>
      cases r
      obtain ⟨ps, e, rfl⟩ := Option.map_eq_some_iff.mp (show (dat2L ds).map PyData.list = some p from h)
      obtain ⟨its, rv, ⟨o, n, ho, hc, _, hd⟩, _⟩ := I.list (SqL.of hs)
      obtain ⟨as, hr, hk⟩ := RpL.reads2 I ds ps _ _ rl e rv
      refine ⟨_, Reads.list ho hc hd hr, fun b hb => ?_⟩
      rcases List.mem_cons.mp hb with z | z
      · rw [z]; exact ⟨_, hs⟩
      · exact hk b z
  | .dct kvs, p, _, _, q, h, r => by
    cases q with
    | dct hs _ rk =>
      cases r
      obtain ⟨ps, e, rfl⟩ := Option.map_eq_some_iff.mp (show (dat2K kvs).map PyData.dict = some p from h)
      obtain ⟨_, _, vs, kv, hd⟩ := (show ObjOk X.prog X.w H s.heap _ (.dK _) from I.hok _ _ hs)
      obtain ⟨as, hr, hk⟩ := RpK.reads2 I kvs ps _ _ rk e kv
      refine ⟨_, PyProof.V.reads_dictOf (enc := keyP) keyRead hd hr, fun b hb => ?_⟩
      rcases List.mem_cons.mp hb with z | z
      · rw [z]; exact ⟨_, hs⟩
      · exact hk b z
  | .dcT _, _, _, _, _, h, _ => by cases h
  | .obj _ _, _, _, _, _, h, _ => by cases h
  | .exc _ _, _, _, _, _, h, _ => by cases h
  | .ref _, _, _, _, _, h, _ => by cases h
  | .glo _, _, _, _, _, h, _ => by cases h
  | .ty _, _, _, _, _, h, _ => by cases h
  | .scr _, _, _, _, _, h, _ => by cases h
theorem RpL.reads2 (I : L2.Inv X pins σ H s) : ∀ (ds : List D) (ps : List PyData) (vs : List V) (us : List Value), RpL X.K X.mg m H vs ds → dat2L ds = some ps → Vals vs us → ∃ as, ReadsAll s.heap us ps as ∧ KnH H as
  | [], _, _, _, q, h, r => by cases q; cases h; cases r; exact ⟨_, .nil, fun b hb => by cases hb⟩
  | d :: ds, _, _, _, q, h, r => by
    cases q with
    | cons q t =>
      cases r with
      | cons r1 r2 =>
        obtain ⟨p, e1, h⟩ := Option.bind_eq_some_iff.mp (show (d.dat2).bind (fun d => (dat2L ds).map fun ds => d :: ds) = _ from h)
        obtain ⟨ps, e2, rfl⟩ := Option.map_eq_some_iff.mp h
        obtain ⟨as, a1, k1⟩ := Rp.reads2 I d p _ _ q e1 r1
        obtain ⟨bs, b1, k2⟩ := RpL.reads2 I ds ps _ _ t e2 r2
        refine ⟨_, .cons a1 b1, fun b hb => ?_⟩
        rcases List.mem_append.mp hb with z | z
        · exact k1 b z
        · exact k2 b z
theorem RpK.reads2 (I : L2.Inv X pins σ H s) : ∀ (kvs : List (Key × D)) (ps : List (PyData × PyData)) (vs : List (Key × V)) (us : List (Key × Value)), RpK X.K X.mg m H vs kvs → dat2K kvs = some ps → KV vs us → ∃ as, PyProof.V.PairsRead s.heap keyP us ps as ∧ KnH H as
  | [], _, _, _, q, h, r => by cases q; cases h; cases r; exact ⟨_, .nil, fun b hb => by cases hb⟩
  | (k, d) :: kvs, _, _, _, q, h, r => by
    cases q with
    | cons q t =>
      cases r with
      | @cons _ y _ ys r1 r2 =>
        obtain ⟨k', u⟩ := y
        obtain ⟨p, e1, h⟩ := Option.bind_eq_some_iff.mp (show (d.dat2).bind (fun d => (dat2K kvs).map fun ds => (keyP k, d) :: ds) = _ from h)
        obtain ⟨ps, e2, rfl⟩ := Option.map_eq_some_iff.mp h
        obtain ⟨ek, rv⟩ := r1
        obtain ⟨as, a1, k1⟩ := Rp.reads2 I d p _ _ q e1 rv
        obtain ⟨bs, b1, k2⟩ := RpK.reads2 I kvs ps _ _ t e2 r2
        have ek : k = k' := ek
        subst ek
        refine ⟨_, .cons a1 b1, fun b hb => ?_⟩
        rcases List.mem_append.mp hb with z | z
        · exact k1 b z
        · exact k2 b z
end
theorem Rp.readsO2 (I : L2.Inv X pins σ H s) (rs : RpS X.K X.mg m H st) {d : D} {p : PyData} {v : V} {u : Value} (q : Rp X.K X.mg m H v d) (h : dataOf2 st d = some p) (r : RelV v u) : ∃ as, Reads s.heap u p as ∧ KnH H as := by
  cases d with
  | ref n =>
    have h : (match st[n]? with | some (.lst xs) => (dat2L xs).map .list | some (.dct kvs) => (dat2K kvs).map .dict | _ => none) = some p := h
    cases e : st[n]? with
    | none => rw [e] at h; cases h
    | some o =>
      rw [e] at h
      cases o with
      | lst xs =>
        obtain ⟨a, rfl, _, ro⟩ := rs.live q e (by intro z; cases z)
        cases ro with
        | lst hs rl =>
          cases r
          obtain ⟨ps, e, rfl⟩ := Option.map_eq_some_iff.mp h
          obtain ⟨its, rv, ⟨o, n, ho, hc, _, hd⟩, _⟩ := I.list (SqL.of hs)
          obtain ⟨as, hr, hk⟩ := RpL.reads2 I _ ps _ _ rl e rv
          refine ⟨_, Reads.list ho hc hd hr, fun b hb => ?_⟩
          rcases List.mem_cons.mp hb with z | z
          · rw [z]; exact ⟨_, hs⟩
          · exact hk b z
      | dct kvs =>
        obtain ⟨a, rfl, _, ro⟩ := rs.live q e (by intro z; cases z)
        cases ro with
        | dct hs rk =>
          cases r
          obtain ⟨ps, e, rfl⟩ := Option.map_eq_some_iff.mp h
          obtain ⟨_, _, vs, kv, hd⟩ := (show ObjOk X.prog X.w H s.heap _ (.dK _) from I.hok _ _ hs)
          obtain ⟨as, hr, hk⟩ := RpK.reads2 I kvs ps _ _ rk e kv
          refine ⟨_, PyProof.V.reads_dictOf (enc := keyP) keyRead hd hr, fun b hb => ?_⟩
          rcases List.mem_cons.mp hb with z | z
          · rw [z]; exact ⟨_, hs⟩
          · exact hk b z
      | _ => cases h
  | _ => exact Rp.reads2 I _ p v u q h r
mutual
theorem dat2_of : ∀ {d : D} {p : PyData}, d.data = some p → d.dat2 = some p
  | .non, _, h => h
  | .bl _, _, h => h
  | .int _, _, h => h
  | .str _, _, h => h
  | .tup ds, p, h => by
    obtain ⟨ps, e, rfl⟩ := Option.map_eq_some_iff.mp (show (dataL ds).map PyData.tuple = some p from h)
    show (dat2L ds).map _ = _
    rw [dat2L_of e]; rfl
  | .lst ds, p, h => by
    obtain ⟨ps, e, rfl⟩ := Option.map_eq_some_iff.mp (show (dataL ds).map PyData.list = some p from h)
    show (dat2L ds).map _ = _
    rw [dat2L_of e]; rfl
  | .dct _, _, h => by cases h
  | .dcT _, _, h => by cases h
  | .obj _ _, _, h => by cases h
  | .exc _ _, _, h => by cases h
  | .ref _, _, h => by cases h
  | .glo _, _, h => by cases h
  | .ty _, _, h => by cases h
  | .scr _, _, h => by cases h
theorem dat2L_of : ∀ {ds : List D} {ps : List PyData}, dataL ds = some ps → dat2L ds = some ps
  | [], _, h => h
  | d :: ds, ps, h => by
    obtain ⟨p, e1, h⟩ := Option.bind_eq_some_iff.mp (show (d.data).bind (fun d => (dataL ds).map fun ds => d :: ds) = _ from h)
    obtain ⟨qs, e2, rfl⟩ := Option.map_eq_some_iff.mp h
    show (d.dat2).bind _ = _
    rw [dat2_of e1, Option.bind_some, dat2L_of e2]; rfl
end
theorem dataOf2_of {st : Sto} {d : D} {p : PyData} (h : dataOf st d = some p) : dataOf2 st d = some p := by
  cases d with
  | ref n =>
    have h : (match st[n]? with | some (.lst xs) => (dataL xs).map PyData.list | _ => none) = some p := h
    show (match st[n]? with | some (.lst xs) => (dat2L xs).map PyData.list | some (.dct kvs) => (dat2K kvs).map PyData.dict | _ => none) = some p
    cases e : st[n]? with
    | none => rw [e] at h; cases h
    | some o =>
      rw [e] at h
      cases o with
      | lst xs =>
        obtain ⟨ps, e, rfl⟩ := Option.map_eq_some_iff.mp h
        show (dat2L xs).map _ = _
        rw [dat2L_of e]; rfl
      | _ => cases h
  | _ => exact dat2_of h
end
end Vm

set_option Elab.async false
set_option linter.all false
set_option maxRecDepth 100000
set_option maxHeartbeats 1000000
/-! Vm, part 4: defs that keep a promise, also where the guards of repr are known. -/
namespace Vm
open PySem PySem.Spec PyProof.Rows L2

abbrev Gd (g : Bool) (A : Around) : Prop := g = true → A.guards = some []
/-- as FnOk, for calls that come with the guards known where g says so; what is raised lies as L2.CX says -/
structure FnG (P : Program) (w : World) (K : PySem.W.Frag) (mg : Str → Option Value) (base : Heap) (g : Bool) (k : Nat) (f : Addr) (fd : FuncData) (ps : List Str) (sp : Sp) : Prop where
  len : ∀ vs H Q E, sp vs H Q E → vs.length = ps.length
  run : ∀ (A : Around) (fr : List Env) (s : Shared) (H : Hp) (args : Args) (us : List Value) (vs : List V) (Q : VK) (E : XK),
    Room k A → Gd g A → Env0 P w K mg base A fr s H → BindsTo s fd args (ps.zip us) → Vals vs us → sp vs H Q E →
      codeAny (model P w) A (.call (.ref f) args) (CR (L2.CX P w) fr P w H s Q E) s
theorem FnG.up {P : Program} {w : World} {K : PySem.W.Frag} {mg : Str → Option Value} {base : Heap} {g : Bool} {j k : Nat} {f : Addr} {fd : FuncData} {ps : List Str} {sp : Sp} (F : FnG P w K mg base g j f fd ps sp) (h : j ≤ k) :
    FnG P w K mg base g k f fd ps sp := ⟨F.len, fun A fr s H args us vs Q E hr => F.run A fr s H args us vs Q E (hr.mono h)⟩
/-- a def by its body -/
theorem FnG.body {P : Program} {w : World} {K : PySem.W.Frag} {mg : Str → Option Value} {base : Heap} {g : Bool} {k : Nat} {f : Addr} {nm qual : Str} {pms : Arguments} {body : List Stmt} {sc : Scope} {dV kV doc pm cdv ct oc : Value} {an od : Option Addr}
    {osl : Array (Option Value)} {N ps : List Str} {sp : Sp} (lk : K.lookup f = some ⟨oc, od, .func (PySem.W.fnOf nm qual pms body sc dV kV doc pm an cdv ct), osl⟩) (hcd : PySem.W.codeIn K cdv qual = true) (S : FnScope N ps sc)
    (hl : ∀ vs H Q E, sp vs H Q E → vs.length = ps.length)
    (hb : ∀ (A : Around) (fr : List Env) (s : Shared) (H : Hp) (vs : List V) (Q : VK) (E : XK), Room k (A.deeper (envOfC qual sc s.heap.objs.size f cdv)) → Gd g A → sp vs H Q E →
      ∃ t, PSs (cxOf (L2.CX P w) P w K mg base N qual sc f cdv A fr s H E) body t ∧ t { nx := fun _ H' => Q .non H', rt := Q } (L2.start N vs) H) :
    FnG P w K mg base g (k + 1) f (PySem.W.fnOf nm qual pms body sc dV kV doc pm an cdv ct) ps sp := by
  refine ⟨hl, fun A fr s H args us vs Q E room gd e0 bd rv h => ?_⟩
  have keep : ∀ b o, base.get? b = some o → s.heap.get? b = some o := fun b o e => (e0.bs b o e).1
  have kin : K.In s.heap := e0.mod.kin.keeps keep
  have nolim : s.heap.NoLimit := e0.mod.nolimit.keeps keep
  have kinds : ∀ y ∈ ps.zip us, sc.names.lookup y.1 = some .local ∨ (sc.names.lookup y.1 = some .cell ∧ ((cellsFrom (s.heap.objs.size + 1) sc.names []).lookup y.1).isSome = true) := by
    rintro ⟨n, v⟩ hy
    exact (S.par n (List.of_mem_zip hy).1).imp id fun q => ⟨q, PySem.W.cellsFrom_some _ _ _ (.inl q)⟩
  refine codeAny_call_function room.depth (kin _ _ lk) rfl S.co S.gen rfl (PySem.W.codeRec_of kin hcd) (bd _ _ _ _ ?_)
  refine wpAny_newFunctionEnv_cells S.kind kinds fun env he s1 ic => ?_
  subst he
  refine ⟨nolim.keeps ic.toInCall.keep, codeAny_func ?_⟩
  obtain ⟨t, pt, ht⟩ := hb A fr s H vs Q E (room.deeper _) gd h
  have I : Inv (cxOf (L2.CX P w) P w K mg base N qual sc f cdv A fr s H E) [] (L2.start N vs) H s1 := inv_start S room.hd e0 (hl _ _ _ _ h) rv ic
  refine wpAny_mono (pt.run [] s1 _ H _ I ht) (fun fl s' z => ?_) fun _ _ z => z
  cases fl with
  | next => obtain ⟨σ', H', J, q⟩ := z; exact ⟨.non, H', J.os, J.bare, J.base, J.hok, rfl, q⟩
  | ret u => obtain ⟨v, σ', H', J, r, q⟩ := z; exact ⟨v, H', J.os, J.bare, J.base, J.hok, r, q⟩
  | brk => obtain ⟨_, _, _, q⟩ := z; exact q.elim
  | cont => obtain ⟨_, _, _, q⟩ := z; exact q.elim
section
variable {X : Cx} {pins : List (Addr × Obj)} {σ : L2.St} {H : Hp} {s : Shared} {g : Bool} {k : Nat} {f : Addr} {fd : FuncData} {ps : List Str} {sp : Sp} {Q : VK} {E : XK} {W : WX}
/-- how a call's end is ours -/
theorem cr_end (tk : Takes X W) (hW : ∀ cls d H', E cls d H' → W cls d σ H') (I : Inv X pins σ H s) {P : Value → Shared → Prop} (hP : ∀ u s', EP X pins σ Q u s' → P u s') {r : Result} {s' : Shared} (h : CR (L2.CX X.prog X.w) X.stack X.prog X.w H s Q E r s') :
    match r with
    | .ok (.ret u) => P u s'
    | .ok _ => False
    | .error e => X.xe e s' := by
  cases r with
  | error e => exact tk _ _ (XE.of_call I hW h)
  | ok fl =>
    cases fl with
    | ret u => exact hP u s' (I.after h)
    | next => exact h
    | brk => exact h
    | cont => exact h
theorem runG (F : FnG X.prog X.w X.K X.mg X.base g k f fd ps sp) (room : Room k X.A) (gd : Gd g X.A) (bd : Binds X.K fd ps []) (tk : Takes X W) (hW : ∀ cls d H', E cls d H' → W cls d σ H')
    (I : Inv X pins σ H s) {us : List Value} {vs : List V} (r : Vals vs us) (h : sp vs H Q E) : wpAny (model X.prog X.w) X.A (call (.ref f) us) (EP X pins σ Q) X.xe s := by
  have hl : (us ++ []).length = ps.length := by rw [List.append_nil, ← r.length]; exact F.len _ _ _ _ h
  have b := bd s us I.kIn hl
  rw [List.append_nil] at b
  refine wpAny_call (codeAny_mono (F.run X.A X.stack s H ⟨us, []⟩ us vs Q E room gd I.env0 b r h) fun res s' z => ?_)
  have e := cr_end tk hW I (fun _ _ z => z) z
  cases res with
  | error e' => exact e
  | ok fl => cases fl <;> exact e
/-- C(..) -/
theorem runMk {C : Addr} (M : Mk X.K C f) (F : FnG X.prog X.w X.K X.mg X.base g k f fd ps sp) (room : Room (k + 1) X.A) (gd : Gd g X.A) (bd : Binds X.K fd ps []) (tk : Takes X W) (hW : ∀ cls d H', E cls d H' → W cls d σ H')
    (I : Inv X pins σ H s) {us : List Value} {vs : List V} (r : Vals vs us)
    (h : ∀ x dx, H x = none → H dx = none → dx ≠ x → sp (.ref x :: vs) (L2.upd (L2.upd H dx (.own x)) x (.ins C dx [])) (fun v H2 => v = .non ∧ Q (.ref x) H2) E) :
    wpAny (model X.prog X.w) X.A (call (.ref C) us) (EP X pins σ Q) X.xe s := by
  have h1 := h (s.heap.objs.size + 1) s.heap.objs.size (I.hok.fresh (Nat.le_succ _)) (I.hok.fresh (Nat.le_refl _)) (Nat.ne_of_lt (Nat.lt_succ_self _))
  have J := Inv.made (C := C) I
  have rr : Vals (V.ref (s.heap.objs.size + 1) :: vs) (Value.ref (s.heap.objs.size + 1) :: us) := .cons rfl r
  have b := bd _ (Value.ref (s.heap.objs.size + 1) :: us) J.kIn (by rw [List.append_nil, ← rr.length]; exact F.len _ _ _ _ h1)
  rw [List.append_nil] at b
  refine wpAny_call (make_map (f := f) I.kIn M.makes M.init (beq_iff_eq.mp M.fn) (codeAny_mono (F.run _ X.stack _ _ _ _ _ _ E (room.make C us []) gd (J.env0.make C us []) b rr h1) fun res s' z => ?_))
  have e := cr_end tk hW J (fun _ _ z => z) z
  cases res with
  | error e' => exact e
  | ok fl =>
    cases fl with
    | ret u =>
      obtain ⟨v, H', I3, rv, ev, q3⟩ := (show EP X pins σ (fun v H2 => v = .non ∧ Q (.ref (s.heap.objs.size + 1)) H2) u s' from e)
      subst ev
      exact ⟨rv, ⟨.ref (s.heap.objs.size + 1), H', I3, rfl, q3⟩⟩
    | next => exact False.elim e
    | brk => exact False.elim e
    | cont => exact False.elim e
/-- a property read -/
theorem runProp {C p a dx : Addr} {fs : List (Str × V)} {x : Str} {b : Bool} {E' : Value → Shared → Prop} (I : Inv X pins σ H s) (ea : H a = some (.ins C dx fs)) (c : Cls X.K C) (hp : PropOf X.K C x p f)
    (F : FnG X.prog X.w X.K X.mg X.base g k f fd ps sp) (room : Room (k + 1) X.A) (gd : Gd g X.A) (bd : Binds X.K fd ps []) (h : sp [.ref a] H Q fun _ _ _ => False) :
    wpAny (model X.prog X.w) X.A (getAttr (.ref a) x b) (EP X pins σ Q) E' s := by
  obtain ⟨mA, O, _, _, _, _⟩ := ins_get I.hok ea
  obtain ⟨od, J, _⟩ := O.look
  obtain ⟨rest, hrec⟩ := hp.rec_
  have hl := F.len _ _ _ _ h
  have cl : (PySem.W.clsIn X.K C).isSome = true := by
    obtain ⟨cd, e, _⟩ := PySem.W.any_some c.hd
    rw [e]; rfl
  refine PySem.W.get_bind I.kIn J (PySem.W.plainGet_of (c.get x)).1 (PySem.W.findObj_data cl hp.at_ hp.get hp.tak) (PySem.W.plainGet_of (c.get x)).2 (wpAny_call (PySem.W.prop_get (s := { s with toks := s.toks + 1 }) I.kIn hrec ?_))
  have b1 := bd { s with toks := s.toks + 1 } [.ref a] I.kIn (by simpa using hl)
  refine codeAny_mono (F.run X.A.in1 X.stack { s with toks := s.toks + 1 } H ⟨[.ref a], []⟩ [.ref a] [.ref a] Q _ room.in1 gd (I.tok (s.toks + 1)).env0.in1 (by simpa using b1) (.cons rfl .nil) h) fun res s' z => ?_
  cases res with
  | error er => obtain ⟨_, _, _, _, _, _, _, _, _, _, _, _, z⟩ := z; exact z.elim
  | ok fl =>
    cases fl with
    | ret u =>
      obtain ⟨v, H', I3, rv, q3⟩ := (I.tok (s.toks + 1)).after z
      show wpAny _ _ (handedOut u) _ _ _
      rw [PySem.W.handedOut_of (handed_of rv)]
      exact wpAny_pure ⟨v, H', I3, rv, q3⟩
    | next => exact False.elim z
    | brk => exact False.elim z
    | cont => exact False.elim z
end
end Vm

set_option Elab.async false
set_option linter.all false
set_option maxRecDepth 100000
set_option maxHeartbeats 1000000
/-! Vm, part 5: which text is which own syntax. -/
namespace Vm
open PySem PySem.Spec PyProof.Rows L2

/-- the names of the text -/
structure Lx where
  fns : List Str
  cls : List Str
  exs : List Str := []
  told : Bool := false
  xv : Bool := false
/-- within blocks and lambdas no lambda is handed on -/
def Lx.off (L : Lx) : Lx := { L with told := false, xv := false }
def biNm : Bi → Str
  | .len => "len" | .int => "int" | .abs => "abs" | .min => "min" | .max => "max" | .list => "list" | .tuple => "tuple" | .sorted => "sorted" | .all => "all" | .any => "any" | .sum => "sum" | .repr => "repr" | .str => "str" | .isinst => "isinstance" | .dict => "dict"
def bmNm : Bm → Str
  | .append => "append" | .extend => "extend" | .pop => "pop" | .index => "index" | .split => "split" | .join => "join" | .replace => "replace" | .upper => "upper" | .strip => "strip" | .get => "get" | .update => "update"
def bltNms : List Str := ["len", "int", "abs", "min", "max", "list", "tuple", "sorted", "all", "any", "sum", "repr", "str", "isinstance", "dict", "range", "enumerate", "zip", "bool", "ValueError", "TypeError", "set"]
def visB (sc : Scope) (x : Str) : Bool := match sc.names.lookup x with
  | some .local | some .cell | some .free => true
  | _ => false
def gloB (sc : Scope) (x : Str) : Bool := (match sc.names.lookup x with
  | some .globalImplicit => true
  | _ => false) && !(x == ("__debug__" : Str)) && !(x == ("__name__" : Str))
/-- o in o.f: no call of a name without arguments (super) -/
def call0 : Expr → Bool
  | .Call (.Name _ _) [] [] _ => true
  | _ => false
def isStar : Expr → Bool
  | .Starred _ _ => true
  | _ => false
def isTup : Expr → Bool
  | .Tuple _ _ _ => true
  | _ => false
def rngArgs : Expr → Option (Str × List Expr)
  | .Call (.Name h _) args [] _ => some (h, args)
  | _ => none
def isComp : Expr → Bool
  | .ListComp _ _ _ _ | .SetComp _ _ _ _ | .DictComp _ _ _ _ _ => true
  | _ => false
def opB (o : BinO) (p : Operator) : Bool := decide (opOf o = p)
def cmOf : CmpO → CmpOp
  | .eq => .Eq | .ne => .NotEq | .lt => .Lt | .le => .LtE | .gt => .Gt | .ge => .GtE | .isin => .In | .notin => .NotIn
def plainIx : Expr → Bool
  | .Slice _ _ _ _ => false
  | _ => true
mutual
/-- a target of names -/
def mT (N : List Str) (sc : Scope) : T → Expr → Bool
  | .nm i, ex => match ex with
    | .Name x _ => decide (N[i]? = some x) && (match sc.names.lookup x with | some .local | some .cell => true | _ => false)
    | _ => false
  | .nil, _ => false
  | .tup a r, ex => match ex with
    | .Tuple (e :: es) _ _ => mT N sc a e && mTs N sc r es
    | _ => false
def mTs (N : List Str) (sc : Scope) : T → List Expr → Bool
  | .nil, es => es.isEmpty
  | .nm _, _ => false
  | .tup a r, es => match es with
    | e :: es => mT N sc a e && mTs N sc r es
    | [] => false
end
def tgtNms : T → List Nat
  | .nm i => [i]
  | .nil => []
  | .tup a r => tgtNms a ++ tgtNms r
mutual
def mE (L : Lx) (N : List Str) (sc : Scope) : E → Expr → Bool
  | .var i, ex => match ex with
    | .Name x _ => decide (N[i]? = some x) && visB sc x && !(x == ("__debug__" : Str)) && !(x == ("__classdict__" : Str))
    | _ => false
  | .int i, ex => match ex with
    | .Constant (.int j) _ _ => decide (i = j)
    | _ => false
  | .str z, ex => match ex with
    | .Constant (.str y) _ _ => decide (z = y)
    | _ => false
  | .bl b, ex => match ex with
    | .Constant (.bool c) _ _ => b == c
    | _ => false
  | .non, ex => match ex with
    | .Constant .none _ _ => true
    | _ => false
  | .glo x, ex => match ex with
    | .Name y _ => decide (x = y) && gloB sc x
    | _ => false
  | .bty n, ex => match ex with
    | .Name y _ => decide (y = PySem.Str.ofString n) && gloB sc y && tyNms.contains n
    | _ => false
  | .bin o a b, ex => match ex with
    | .BinOp l p r _ => opB o p && mE L N sc a l && mE L N sc b r
    | _ => false
  | .neg a, ex => match ex with
    | .UnaryOp .USub l _ => mE L N sc a l
    | _ => false
  | .cmp o a b, ex => match ex with
    | .Compare l [p] [r] _ => decide (cmOf o = p) && mE L N sc a l && mE L N sc b r && !(behindInMarks p r)
    | _ => false
  | .cmp2 o o2 a b c, ex => match ex with
    | .Compare l [p, p2] [r, r2] _ => decide (cmOf o = p) && decide (cmOf o2 = p2) && mE L N sc a l && mE L N sc b r && mE L N sc c r2 && !(behindInMarks p r) && !(behindInMarks p2 r2)
    | _ => false
  | .isN pos a, ex => match ex with
    | .Compare l [p] [.Constant .none _ _] _ => decide ((if pos = true then CmpOp.Is else CmpOp.IsNot) = p) && mE L N sc a l
    | _ => false
  | .isB _ _ _, _ => false
  | .bop isAnd es, ex => match ex with
    | .BoolOp op vs _ => decide ((if isAnd = true then BoolOp.And else BoolOp.Or) = op) && mEs L N sc es vs
    | _ => false
  | .not a, ex => match ex with
    | .UnaryOp .Not l _ => mE L N sc a l
    | _ => false
  | .ite c a b, ex => match ex with
    | .IfExp l r q _ => mE L N sc c l && mE L N sc a r && mE L N sc b q
    | _ => false
  | .call f es, ex => match ex with
    | .Call (.Name g _) args [] _ => decide (f = g) && gloB sc g && L.fns.contains f && mEs L N sc es args && !(args.any isStar)
    | _ => false
  | .make f es, ex => match ex with
    | .Call (.Name g _) args [] _ => decide (f = g) && gloB sc g && L.cls.contains f && mEs L N sc es args && !(args.any isStar)
    | _ => false
  | .meth f o es, ex => match ex with
    | .Call (.Attribute l g apos) args [] pos => decide (f = g) && mE L N sc o l && !(call0 l) && (apos.endLine == pos.line) && decide (args.length < 29) && mEs L N sc es args && !(args.any isStar)
    | _ => false
  | .bi f _ es, ex => match ex with
    | .Call (.Name g _) args [] _ => decide (biNm f = g) && gloB sc g && mEs L N sc es args && !(args.any isStar) && !args.isEmpty
    | _ => false
  | .bm f o es, ex => match ex with
    | .Call (.Attribute l g apos) args [] pos => decide (bmNm f = g) && mE L N sc o l && !(call0 l) && (apos.endLine == pos.line) && decide (args.length < 29) && mEs L N sc es args && !(args.any isStar)
    | _ => false
  | .attr f o, ex => match ex with
    | .Attribute l g _ => decide (f = g) && mE L N sc o l && !(call0 l)
    | _ => false
  | .idx o i, ex => match ex with
    | .Subscript l r _ => mE L N sc o l && mE L N sc i r && plainIx r
    | _ => false
  | .slc o lo hi, ex => match ex with
    | .Subscript l (.Slice a b none _) _ => mE L N sc o l && mEo L N sc lo a && mEo L N sc hi b
    | _ => false
  | .tup es, ex => match ex with
    | .Tuple xs _ _ => mEs L N sc es xs
    | _ => false
  | .lst _ es, ex => match ex with
    | .List xs _ => mEs L N sc es xs
    | _ => false
  | .dic _ es, ex => match ex with
    | .Dict ks vs _ => mPs L N sc es ks vs && decide (ks.length ≤ 15)
    | _ => false
  | .comp _ own elt t s ifs, ex => match ex with
    | .ListComp el [⟨tg, it, fs, 0⟩] scope _ => blkC N sc scope (own.map fun i => (N.getD i "", i)) && mT N scope t tg && mSr L N sc s it tg && mEs L.off N scope ifs fs && mE L.off N scope elt el && ((tgtNms t).all fun i => own.contains i) && decide (fs.length ≤ 1)
    | _ => false
  | .comp2 _ _ _ _ _ _ _ _ _ _, _ => false
  | .dcomp _ _ _ _ _ _ _, _ => false
  | .told e, ex => match ex with
    | .Call (.Name g _) [.Lambda ⟨[], [], none, [], [], none, []⟩ body scope _] [] _ => L.told && decide (("_law_told" : Str) = g) && gloB sc g && LamX.lamSB sc scope && mE L.off N scope e body
    | _ => false
  | .rev o, ex => match ex with
    | .Subscript l (.Slice none none (some (.UnaryOp .USub (.Constant (.int 1) _ _) _)) _) _ => mE L N sc o l
    | _ => false
  | .dcop _ e, ex => match ex with
    | .Call (.Name g _) [.Call (.Name g2 _) [.Call (.Attribute l m apos) [] [] cpos] [] _] [] _ => decide (("dict" : Str) = g) && gloB sc g && decide (("list" : Str) = g2) && gloB sc g2 && decide (("items" : Str) = m) && (apos.endLine == cpos.line) && !(call0 l) && mE L N sc e l
    | _ => false
  | .lens e, ex => match ex with
    | .Call (.Name g _) [.Call (.Name g2 _) [x] [] _] [] _ => decide (("len" : Str) = g) && gloB sc g && decide (("set" : Str) = g2) && gloB sc g2 && mE L N sc e x && !(isStar x)
    | _ => false
  | .ssrt _ e, ex => match ex with
    | .Call (.Name g _) [.Call (.Name g2 _) [x] [] _] [] _ => decide (("sorted" : Str) = g) && gloB sc g && decide (("set" : Str) = g2) && gloB sc g2 && mE L N sc e x && !(isStar x)
    | _ => false
  | .exv c e, ex => match ex with
    | .Call (.Name g _) [x] [] _ => decide (c = g) && gloB sc g && L.xv && L.exs.contains c && mE L N sc e x && !(isStar x)
    | _ => false
  | .rngl _ es, ex => match ex with
    | .Call (.Name g _) [y] [] _ => decide (("list" : Str) = g) && gloB sc g && (match rngArgs y with
      | some p => decide (("range" : Str) = p.1) && gloB sc p.1 && mEs L N sc es p.2 && !(p.2.any isStar) && (p.2.length == 1 || p.2.length == 2)
      | none => false)
    | _ => false
def mEs (L : Lx) (N : List Str) (sc : Scope) : Es → List Expr → Bool
  | .nil, xs => xs.isEmpty
  | .cons e r, xs => match xs with
    | x :: xs => mE L N sc e x && mEs L N sc r xs
    | [] => false
  | .star e r, xs => match xs with
    | .Starred x _ :: xs => mE L N sc e x && mEs L N sc r xs
    | _ => false
def mPs (L : Lx) (N : List Str) (sc : Scope) : Es → List (Option Expr) → List Expr → Bool
  | .nil, ks, vs => ks.isEmpty && vs.isEmpty
  | .cons k (.cons v r), ks, vs => match ks, vs with
    | some x :: ks, y :: vs => mE L N sc k x && mE L N sc v y && mPs L N sc r ks vs
    | _, _ => false
  | .cons _ .nil, _, _ => false
  | .cons _ (.star _ _), _, _ => false
  | .star _ _, _, _ => false
def mEo (L : Lx) (N : List Str) (sc : Scope) : Eo → Option Expr → Bool
  | .none, x => x.isNone
  | .some e, x => match x with
    | some x => mE L N sc e x
    | none => false
def mSr (L : Lx) (N : List Str) (sc : Scope) : Sr → Expr → Expr → Bool
  | .ex e, x, _ => mE L N sc e x
  | .rng es, x, _ => match x with
    | .Call (.Name g _) args [] _ => decide (("range" : Str) = g) && gloB sc g && mEs L N sc es args && !(args.any isStar) && (args.length == 1 || args.length == 2)
    | _ => false
  | .enu e, x, tg => match x with
    | .Call (.Name g _) [a] [] _ => decide (("enumerate" : Str) = g) && gloB sc g && mE L N sc e a && isTup tg
    | _ => false
  | .zip e e2, x, tg => match x with
    | .Call (.Name g _) [a, b] [] _ => decide (("zip" : Str) = g) && gloB sc g && mE L N sc e a && mE L N sc e2 b && isTup tg
    | _ => false
end
theorem rngArgs_of {y : Expr} {p : Str × List Expr} (h : rngArgs y = some p) : ∃ q r, y = .Call (.Name p.1 q) p.2 [] r := by
  cases y with
  | Call fn xs ks r =>
    cases fn with
    | Name g q =>
      cases ks with
      | nil => cases h; exact ⟨q, r, rfl⟩
      | cons _ _ => cases h
    | _ => cases h
  | _ => cases h
theorem notStar {L : Lx} {N : List Str} {sc : Scope} : ∀ {e : E} {x : Expr}, mE L N sc e x = true → isStar x = false := by
  intro e x h
  cases x with
  | Starred a p => cases e <;> cases h
  | _ => rfl
theorem starEach_plain {x : Expr} {xs : List Expr} {env : PySem.Env} (h : isStar x = false) : starEach (x :: xs) env = (false, eval x env) :: starEach xs env := by
  cases x with
  | Starred a p => cases h
  | _ => rfl
theorem plain_any {xs : List Expr} {env : PySem.Env} {pos : Pos} (h : xs.any isStar = false) : (backTo pos (starEach xs env)).any (·.1) = false := by
  induction xs with
  | nil => rfl
  | cons x xs ih =>
    rw [List.any_cons, Bool.or_eq_false_iff] at h
    rw [starEach_plain h.1]
    show (false || (backTo pos (starEach xs env)).any (·.1)) = false
    rw [ih h.2]; rfl
theorem base_plain {o : Expr} {f : Str} {env : PySem.Env} (h : call0 o = false) : attributeBase o f env (eval o env) = eval o env := by
  cases o with
  | Call fn as ks p =>
    cases fn with
    | Name x q =>
      cases as with
      | nil => cases ks with
        | nil => cases h
        | cons k ks => rfl
      | cons a as => rfl
    | _ => rfl
  | _ => rfl
end Vm

set_option Elab.async false
set_option linter.all false
set_option maxRecDepth 100000
set_option maxHeartbeats 1000000
/-! Vm, part 6: an expression does what its weakest precondition says. -/
namespace Vm
open PySem PySem.Spec PyProof.Rows L2

/-- an exception as a handler, a caller gets it -/
def RpX (K : PySem.W.Frag) (mg : Str → Option Value) (m : Wm) (H : Hp) (cls : Value) (dx : Option Addr) (x : D) : Prop :=
  ∃ c v dd w, x = .exc c v ∧ cls = .ref (He.ga K c) ∧ dx = some dd ∧ H dd = some (.xd [("value", w)]) ∧ Rp K mg m H w v
def AfQ (K : PySem.W.Frag) (mg : Str → Option Value) (m : Wm) (H : Hp) (Q0 : QD) (Q : VK) : Prop :=
  ∀ d st' m' H' v, Q0 d st' → Wl m H m' H' → RpS K mg m' H' st' → Rp K mg m' H' v d → Q v H'
def AfX (K : PySem.W.Frag) (mg : Str → Option Value) (m : Wm) (H : Hp) (EX0 : QD) (E : XK) : Prop :=
  ∀ x st' m' H' cls dx, EX0 x st' → Wl m H m' H' → RpS K mg m' H' st' → RpX K mg m' H' cls dx x → E cls dx H'
/-- the promise of a def that does what φ says -/
def spOf (K : PySem.W.Frag) (mg : Str → Option Value) (n : Nat) (φ : List D → Sto → QD → QD → Prop) : Sp := fun vs H Q E =>
  vs.length = n ∧ ∃ m st ds Q0 EX0, RpS K mg m H st ∧ RpL K mg m H vs ds ∧ φ ds st Q0 EX0 ∧ AfQ K mg m H Q0 Q ∧ AfX K mg m H EX0 E
theorem AfQ.wl {K : PySem.W.Frag} {mg : Str → Option Value} {m m' : Wm} {H H' : Hp} {Q0 : QD} {Q : VK} (w : Wl m H m' H') (a : AfQ K mg m H Q0 Q) : AfQ K mg m' H' Q0 Q :=
  fun d st' m2 H2 v q w2 s r => a d st' m2 H2 v q (w.trans w2) s r
theorem AfX.wl {K : PySem.W.Frag} {mg : Str → Option Value} {m m' : Wm} {H H' : Hp} {EX0 : QD} {E : XK} (w : Wl m H m' H') (a : AfX K mg m H EX0 E) : AfX K mg m' H' EX0 E :=
  fun x st' m2 H2 cls dx q w2 s r => a x st' m2 H2 cls dx q (w.trans w2) s r

/-- what is known where X runs -/
structure OkX (X : Cx) (N : List Str) (sc : Scope) : Prop where
  hN : X.N = N
  nd : N.Nodup
  calm : X.calm = true
  hsc : ∀ x k, sc.names.lookup x = some k → X.env.scope.names.lookup x = some k ∨ (k = .free ∧ X.env.scope.names.lookup x = some .cell)
  hfn : ∀ x, sc.names.lookup x = some NameKind.cell → X.fn x = true
  un : X.A.units + 100 < cLine
  gd : X.A.guards = some []
structure Callee (X : Cx) (a : Addr) (φ : List D → Sto → QD → QD → Prop) (more : Nat) : Prop where
  ok : ∃ g k fd ps n, FnG X.prog X.w X.K X.mg X.base g k a fd ps (spOf X.K X.mg n φ) ∧ ps.length = n ∧ (∀ ds st Q EX, φ ds st Q EX → ds.length = n) ∧ Room (k + more) X.A ∧ Gd g X.A ∧ Binds X.K fd ps []
/-- what is known of an own class -/
structure ClsI (K : PySem.W.Frag) (a : Addr) : Prop where
  cl : Cls K a
  ha : PySem.W.findIn K (.ref a) "__class__" = some (some (.builtin "object.__class__"))
  hn : PySem.W.specialIn K (.builtin "object.__class__") "__get__" = some (some (.builtin "getset_descriptor.__get__"))
  ht : PySem.W.takesIn K (.builtin "object.__class__") = some true
  hm : PySem.W.mroIn K a (.type "object") = some true
def kdNms : List String := ["NoneType", "bool", "int", "str", "tuple", "list", "dict"]
structure Knows (X : Cx) (L : Lx) (C : Ctx) (Φ : Fn) : Prop where
  blt : ∀ x ∈ bltNms, X.mg x = none
  glo : ∀ x d, C.glo.lookup x = some d → ∃ u v, X.mg x = some u ∧ RelV v u ∧ ∀ m H, Rp X.K X.mg m H v d
  fns : ∀ f, L.fns.contains f = true → ∃ a, X.mg f = some (.ref a) ∧ PySem.W.keepIn X.K (.ref a) = true ∧ Callee X a (Φ f) 0
  mkc : ∀ c, L.cls.contains c = true → X.mg c = some (.ref (He.ga X.K c)) ∧ ∃ f φ, Mk X.K (He.ga X.K c) f ∧ Callee X f φ 1 ∧
    ∀ ds st Q EX, Φ c ds st Q EX → φ (.ref st.length :: ds) (st ++ [.ins c []]) (fun d st' => d = .non ∧ wExit st Q (.ref st.length) st') EX
  mth : ∀ c q f, C.mth c q = some f → (C.cl c).isSome = true ∧ C.fld c q = false ∧ ∃ a, Meth X.K (He.ga X.K c) q a ∧ Callee X a (Φ f) 0
  len : ∀ c f, C.mth c "__len__" = some f → ∃ a, Meth X.K (He.ga X.K c) "__len__" a ∧ Callee X a (Φ f) 1
  prp : ∀ c q f, C.prp c q = some f → (C.cl c).isSome = true ∧ ∃ p a, PropOf X.K (He.ga X.K c) q p a ∧ Callee X a (Φ f) 1
  fld : ∀ c f, C.fld c f = true → NoAttr X.K (He.ga X.K c) f
  cls : ∀ c, (C.cl c).isSome = true → ClsI X.K (He.ga X.K c)
  kTC : ∀ n ∈ kdNms, ∀ c, (C.cl c).isSome = true → PySem.W.kitOne X.K (.type n) (.ref (He.ga X.K c)) = some false
  kCC : ∀ c c', (C.cl c).isSome = true → (C.cl c').isSome = true → PySem.W.kitOne X.K (.ref (He.ga X.K c)) (.ref (He.ga X.K c')) = some (c == c')
  kCT : ∀ c, (C.cl c).isSome = true → ∀ n ∈ tyNms, PySem.W.kitOne X.K (.ref (He.ga X.K c)) (.type n) = some false
  nfT : ∀ c, (C.cl c).isSome = true → ∀ n ∈ kdNms, PySem.W.notFirst X.K (He.ga X.K c) (.type n) = true
  nfC : ∀ c c', (C.cl c).isSome = true → (C.cl c').isSome = true → PySem.W.notFirst X.K (He.ga X.K c) (.ref (He.ga X.K c')) = true
  exk : ∀ c, (C.exs.lookup c).isSome = true → ExK X.K (He.ga X.K c)
  kTX : ∀ n ∈ kdNms, ∀ c, (C.exs.lookup c).isSome = true → PySem.W.kitOne X.K (.type n) (.ref (He.ga X.K c)) = some false
  kXT : ∀ c anc, C.exs.lookup c = some anc → ∀ n ∈ tyNms, PySem.W.kitOne X.K (.ref (He.ga X.K c)) (.type n) = some (anc.contains (PySem.Str.ofString n))
  kXX : ∀ c anc c', C.exs.lookup c = some anc → (C.exs.lookup c').isSome = true → PySem.W.kitOne X.K (.ref (He.ga X.K c)) (.ref (He.ga X.K c')) = some (anc.contains c')
  rai : ∀ c, L.exs.contains c = true → X.mg c = some (.ref (He.ga X.K c)) ∧ ∃ f W fd, ExC X.K f W (He.ga X.K c) ∧ PySem.W.findIn X.K (.ref (He.ga X.K c)) "__init__" = some (some (.ref f)) ∧ PySem.W.typeIn X.K (.ref f) = some (.type "function") ∧
    FnOk X.prog X.w X.K X.mg X.base (L2.CX X.prog X.w) 1 f fd psI (spI X.K f W) ∧ Binds X.K fd psI []
  ne : ∀ c f, C.mth c "__eq__" = some f → PySem.W.findIn X.K (.ref (He.ga X.K c)) "__ne__" = some (some (.builtin "object.__ne__")) ∧ ∃ a, Meth X.K (He.ga X.K c) "__eq__" a ∧ Callee X a (Φ f) 1
  sys : ∃ o, X.base.get? sysModules = some o
/-- the same program, elsewhere: of the calls only the room counts -/
abbrev KnX (X : Cx) (L : Lx) (C : Ctx) (Φ : Fn) (k : Nat) : Prop := ∀ Y : Cx, Y.prog = X.prog → Y.w = X.w → Y.K = X.K → Y.mg = X.mg → Y.base = X.base → Room k Y.A → Y.A.guards = some [] → Knows Y L C Φ
/-- the def that calls what it got: the text of _law_told -/
def toldB : List Stmt → Bool
  | [.Assign [.Tuple [.Name c1 q1, .Name b1 q2] _ _] (.Tuple [.Constant .none _ _, .Constant .none _ _] _ _) q3, .Try [.Assign [.Name b2 _] (.Call (.Name l _) [] [] _) _] [.ExceptHandler (some (.Name w _)) (some e1) [.Assign [.Name c2 _] (.Name e2 _) _] _] [] [] _, .Return (some (.Tuple [.Name c3 _, .Name b3 _] _ _)) _] =>
    decide (c1 = "caught") && decide (b1 = "back") && decide (b2 = "back") && decide (l = "look") && decide (w = "WallError") && decide (e1 = "error") && decide (c2 = "caught") && decide (e2 = "error") && decide (c3 = "caught") && decide (b3 = "back") && (q1.line == q2.line)
  | _ => false
def toldN : List Str := ["look", "caught", "back", "error"]
def toldS (sg : Scope) : Bool := decide (sg.names.lookup ("WallError" : Str) = some .globalImplicit) && decide (sg.names.lookup ("look" : Str) = some .local) && decide (sg.names.lookup ("caught" : Str) = some .local) && decide (sg.names.lookup ("back" : Str) = some .local) && decide (sg.names.lookup ("error" : Str) = some .local)
/-- what a def in which lambdas are handed on has -/
structure LamK (X : Cx) (L : Lx) (C : Ctx) (Φ : Fn) : Prop where
  kn : ∃ k, KnX X L C Φ k ∧ Room (k + 2) X.A ∧ 1 ≤ k
  tb : ∃ c, X.env.code = .ref c ∧ LamX.TabB X.base X.mg c (He.tabOf X.K c) ∧ (He.tabOf X.K c, X.env.qual ++ "<lambda>") ∈ lamT X.K ∧ ∀ p ∈ lamT X.K, p.1 = He.tabOf X.K c → p.2 = X.env.qual ++ "<lambda>"
  fn : ∃ (g : Addr) (pg : Arguments) (bg : List Stmt) (sg : Scope) (dV kV doc pm cdv ct oc : Value) (an od : Option Addr) (osl : Array (Option Value)),
    X.mg "_law_told" = some (.ref g) ∧ PySem.W.keepIn X.K (.ref g) = true ∧ X.K.lookup g = some ⟨oc, od, .func (PySem.W.fnOf "_law_told" "_law_told" pg bg sg dV kV doc pm an cdv ct), osl⟩ ∧ PySem.W.codeIn X.K cdv "_law_told" = true ∧
    L2.Binds X.K (PySem.W.fnOf "_law_told" "_law_told" pg bg sg dV kV doc pm an cdv ct) ["look"] [] ∧ FnScope toldN ["look"] sg ∧ toldS sg = true ∧ toldB bg = true
  we : X.mg "WallError" = some (.ref (He.ga X.K "WallError"))
  wx : ∀ c, (C.exs.lookup c).isSome = true → PySem.W.exmOne X.K (.ref (He.ga X.K c)) (.ref (He.ga X.K "WallError")) = some true
variable {X : Cx} {L : Lx} {C : Ctx} {Φ : Fn} {W : WX} {N : List Str} {sc : Scope}
def tE (X : Cx) (C : Ctx) (Φ : Fn) (W : WX) (e : E) : TE := fun σ H Q => ∃ m env st Q0 EX0, RpE X.K X.mg m H σ env ∧ RpS X.K X.mg m H st ∧ wE Φ C e env st Q0 EX0 ∧ AfX X.K X.mg m H EX0 (fun c d H' => W c d σ H') ∧ AfQ X.K X.mg m H Q0 Q
section
variable {pins : List (Addr × Obj)} {σ : L2.St} {H : Hp} {s : Shared} {m : Wm} {st : Sto} {env : Slots} {Q0 EX0 : QD}
/-- run a part -/
theorem runE {e : E} {x : Expr} (h : PE X x (tE X C Φ W e)) (I : L2.Inv X pins σ H s) (re : RpE X.K X.mg m H σ env) (rs : RpS X.K X.mg m H st) {Q1 : QD} (w : wE Φ C e env st Q1 EX0) (ax : AfX X.K X.mg m H EX0 (fun c d H' => W c d σ H'))
    {P : Value → Shared → Prop} (k : ∀ u s1 v H1 d st1 m1, L2.Inv X pins σ H1 s1 → RelV v u → Q1 d st1 → Wl m H m1 H1 → RpS X.K X.mg m1 H1 st1 → Rp X.K X.mg m1 H1 v d → P u s1) : wpAny (model X.prog X.w) X.A (eval x X.env) P X.xe s := by
  refine thn (h.run pins s σ H (EQ X m H Q1) I ⟨m, env, st, Q1, EX0, re, rs, w, ax, fun d st' m' H' v q w s r => ⟨d, st', m', q, w, s, r⟩⟩) fun u s1 z => ?_
  obtain ⟨v, H1, I1, rv, d, st1, m1, q, w1, rs1, rd⟩ := z
  exact k u s1 v H1 d st1 m1 I1 rv q w1 rs1 rd
theorem eqEP {Q : VK} (aq : AfQ X.K X.mg m H Q0 Q) {m1 : Wm} {H1 : Hp} (w1 : Wl m H m1 H1) {u : Value} {s1 : Shared} (h : EP X pins σ (EQ X m1 H1 Q0) u s1) : EP X pins σ Q u s1 := by
  obtain ⟨v, H2, I2, rv, d, st2, m2, q, w2, rs2, rd⟩ := h
  exact ⟨v, H2, I2, rv, aq d st2 m2 H2 v q (w1.trans w2) rs2 rd⟩
end
/-! ### names, constants -/
theorem vis_of (o : OkX X N sc) {x : Str} (h : visB sc x = true) : Vis X.env.scope x := by
  unfold visB at h
  split at h
  · rename_i e; rcases o.hsc x _ e with e | ⟨z, e⟩
    · exact .inl e
    · cases z
  · rename_i e; rcases o.hsc x _ e with e | ⟨z, e⟩
    · exact .inr (.inl e)
    · cases z
  · rename_i e; rcases o.hsc x _ e with e | ⟨z, e⟩
    · exact .inr (.inr e)
    · exact .inr (.inl e)
  · cases h
theorem glo_of (o : OkX X N sc) {x : Str} (h : gloB sc x = true) : Gl X x ∧ (x == ("__debug__" : Str)) = false ∧ x ≠ "__name__" := by
  unfold gloB at h
  simp only [Bool.and_eq_true, Bool.not_eq_true'] at h
  obtain ⟨⟨h1, h2⟩, h3⟩ := h
  refine ⟨?_, h2, by simpa using h3⟩
  split at h1
  · rename_i e; rcases o.hsc x _ e with e | ⟨z, e⟩
    · exact e
    · cases z
  · cases h1
theorem s_var (o : OkX X N sc) {i : Nat} {x : Str} {p : Pos} (h1 : N[i]? = some x) (h2 : visB sc x = true) (h3 : (x == ("__debug__" : Str)) = false) (h4 : (x == ("__classdict__" : Str)) = false) : PE X (.Name x p) (tE X C Φ W (.var i)) := by
  refine ⟨fun pins s σ H Q I h => ?_⟩
  obtain ⟨m, env, st, Q0, EX0, re, rs, ⟨d, e, q⟩, ax, aq⟩ := h
  obtain ⟨v, e1, r⟩ := re.2 i d e
  exact (pe_var (X := X) (i := i) (x := x) (by rw [o.hN]; exact h1) (vis_of o h2) h3 h4).run pins s σ H Q I ⟨v, e1, aq d st m H v q (Wl.refl _ _) rs r⟩
theorem s_con {ex : Expr} {e : E} {v : V} {d : D} (h : PE X ex (tC v)) (he : ∀ env st Q EX, wE Φ C e env st Q EX → Q d st) (r : ∀ m H, Rp X.K X.mg m H v d) : PE X ex (tE X C Φ W e) := by
  refine ⟨fun pins s σ H Q I hq => ?_⟩
  obtain ⟨m, env, st, Q0, EX0, re, rs, w, ax, aq⟩ := hq
  exact h.run pins s σ H Q I (aq d st m H v (he _ _ _ _ w) (Wl.refl _ _) rs (r m H))
theorem s_glo (o : OkX X N sc) (kn : Knows X L C Φ) {x : Str} {p : Pos} (h : gloB sc x = true) : PE X (.Name x p) (tE X C Φ W (.glo x)) := by
  refine ⟨fun pins s σ H Q I hq => ?_⟩
  obtain ⟨m, env, st, Q0, EX0, re, rs, ⟨d, e, q⟩, ax, aq⟩ := hq
  obtain ⟨u, v, hm, rv, r⟩ := kn.glo x d e
  obtain ⟨g1, g2, _⟩ := glo_of o h
  exact (pe_glob (X := X) g1 hm rv g2).run pins s σ H Q I (aq d st m H v q (Wl.refl _ _) rs (r m H))
theorem s_bty (o : OkX X N sc) (kn : Knows X L C Φ) {n : String} {p : Pos} (h : gloB sc (PySem.Str.ofString n) = true) (hn : tyNms.contains n = true) : PE X (.Name (PySem.Str.ofString n) p) (tE X C Φ W (.bty n)) := by
  obtain ⟨g1, g2, g3⟩ := glo_of o h
  have key : (PySem.Str.ofString n) ∈ bltNms ∧ bootBuiltins (PySem.Str.ofString n) = some (.type n) := by
    simp only [tyNms, List.contains_eq_mem, List.mem_cons, List.not_mem_nil, or_false, decide_eq_true_eq] at hn
    rcases hn with rfl | rfl | rfl | rfl | rfl | rfl | rfl | rfl <;> exact ⟨by decide +kernel, by decide +kernel⟩
  exact s_con (v := .ty n) (d := .ty n) (pe_bltn (X := X) g1 (kn.blt _ key.1) key.2 rfl g3 g2) (fun _ _ _ _ h => h) fun _ _ => .ty n
/-! ### operators -/
theorem s_bin {o : BinO} {a b : E} {x y : Expr} {p : Pos} (ha : PE X x (tE X C Φ W a)) (hb : PE X y (tE X C Φ W b)) : PE X (.BinOp x (opOf o) y p) (tE X C Φ W (.bin o a b)) := by
  refine ⟨fun pins s σ H Q I h => ?_⟩
  obtain ⟨m, env, st, Q0, EX0, re, rs, w, ax, aq⟩ := h
  refine wpAny_BinOp (runE ha I re rs w ax fun v s1 x1 H1 d1 st1 m1 I1 r1 w1 l1 rs1 q1 => ?_)
  refine runE hb I1 (re.wl rs l1) rs1 w1 (ax.wl l1) fun u s2 x2 H2 d2 st2 m2 I2 r2 w2 l2 rs2 q2 => ?_
  exact thn (bin_ok I2 rs2 r1 r2 (q1.wl rs1 l2) q2 w2) fun _ _ z => eqEP aq (l1.trans l2) z
theorem s_neg {a : E} {x : Expr} {p : Pos} (ha : PE X x (tE X C Φ W a)) : PE X (.UnaryOp .USub x p) (tE X C Φ W (.neg a)) := by
  refine ⟨fun pins s σ H Q I h => ?_⟩
  obtain ⟨m, env, st, Q0, EX0, re, rs, w, ax, aq⟩ := h
  refine UnaryOp_ (runE ha I re rs w ax fun v s1 x1 H1 d1 st1 m1 I1 r1 w1 l1 rs1 q1 => ?_)
  obtain ⟨i, rfl, q⟩ := w1
  cases q1
  exact un_neg pins s1 σ H1 _ v Q I1 r1 ⟨_, rfl, aq _ _ m1 H1 _ q l1 rs1 (.int _)⟩
theorem s_not {a : E} {x : Expr} {p : Pos} (ha : PE X x (tE X C Φ W a)) : PE X (.UnaryOp .Not x p) (tE X C Φ W (.not a)) := by
  refine ⟨fun pins s σ H Q I h => ?_⟩
  obtain ⟨m, env, st, Q0, EX0, re, rs, w, ax, aq⟩ := h
  refine UnaryOp_ (runE ha I re rs w ax fun v s1 x1 H1 d1 st1 m1 I1 r1 w1 l1 rs1 q1 => ?_)
  obtain ⟨b, rfl, q⟩ := w1
  cases q1
  cases r1
  exact not_of (wpAny_truthy_bool ⟨.bl (!b), H1, I1, rfl, aq _ _ m1 H1 _ q l1 rs1 (.bl _)⟩)
/-! ### comparisons, by values -/
section
variable {pins : List (Addr × Obj)} {σ : L2.St} {H : Hp} {s : Shared} {m : Wm} {st : Sto}
/-- a bool is left -/
def EB (X : Cx) (m : Wm) (H : Hp) (Q0 : Bool → Sto → Prop) : VK := fun v H' => ∃ b st' m', v = .bl b ∧ Q0 b st' ∧ Wl m H m' H' ∧ RpS X.K X.mg m' H' st'
theorem EB.of {Q0 : Bool → Sto → Prop} {b : Bool} (rs : RpS X.K X.mg m H st) (q : Q0 b st) : EB X m H Q0 (.bl b) H := ⟨b, st, m, rfl, q, Wl.refl m H, rs⟩
theorem shaped_of {d : D} {p : PyData} (h : shapedD st d = some p) : dataOf st d = some p ∧ SeqAt.shaped p = true := by
  obtain ⟨q, e, h⟩ := Option.bind_eq_some_iff.mp h
  by_cases z : SeqAt.shaped q = true
  · rw [if_pos z] at h; cases h; exact ⟨e, z⟩
  · rw [if_neg z] at h; cases h
theorem eq_ok0 {x y : V} {v u : Value} {dx dy : D} {Q0 : Bool → Sto → Prop} (hu : X.A.units + 100 < cLine) (I : L2.Inv X pins σ H s) (rs : RpS X.K X.mg m H st) (rx : RelV x v) (ry : RelV y u) (px : Rp X.K X.mg m H x dx) (py : Rp X.K X.mg m H y dy)
    (h : eqDD st dx dy fun b => Q0 b st) : wpAny (model X.prog X.w) X.A (compareOp .Eq v u) (EP X pins σ (EB X m H Q0)) X.xe s := by
  rcases h with ⟨a, b, rfl, rfl, q⟩ | ⟨a, b, ha, hb, q⟩
  · cases px
    cases py
    exact op_eq _ _ _ _ _ _ _ _ _ I rx ry ⟨rfl, by rw [show decide (V.str a = V.str b) = decide (a = b) from decide_eq_decide.mpr ⟨fun e => by cases e; rfl, fun e => by rw [e]⟩]; exact EB.of rs q⟩
  obtain ⟨ha, sa⟩ := shaped_of ha
  obtain ⟨hb, sb⟩ := shaped_of hb
  obtain ⟨as, r1⟩ := px.readsO I rs ha rx
  obtain ⟨bs, r2⟩ := py.readsO I rs hb ry
  exact SeqAt.compareEq_shaped r1 r2 sa sb (by omega) ⟨.bl _, H, I, rfl, EB.of rs q⟩
theorem ne_ok0 {x y : V} {v u : Value} {dx dy : D} {Q0 : Bool → Sto → Prop} (hu : X.A.units + 100 < cLine) (I : L2.Inv X pins σ H s) (rs : RpS X.K X.mg m H st) (rx : RelV x v) (ry : RelV y u) (px : Rp X.K X.mg m H x dx) (py : Rp X.K X.mg m H y dy)
    (h : eqDD st dx dy fun b => Q0 (!b) st) : wpAny (model X.prog X.w) X.A (compareOp .NotEq v u) (EP X pins σ (EB X m H Q0)) X.xe s := by
  rcases h with ⟨a, b, rfl, rfl, q⟩ | ⟨a, b, ha, hb, q⟩
  · cases px
    cases py
    exact op_ne _ _ _ _ _ _ _ _ _ I rx ry ⟨rfl, by rw [show decide (V.str a = V.str b) = decide (a = b) from decide_eq_decide.mpr ⟨fun e => by cases e; rfl, fun e => by rw [e]⟩]; exact EB.of rs q⟩
  obtain ⟨ha, sa⟩ := shaped_of ha
  obtain ⟨hb, sb⟩ := shaped_of hb
  obtain ⟨as, r1⟩ := px.readsO I rs ha rx
  obtain ⟨bs, r2⟩ := py.readsO I rs hb ry
  exact SeqAt.compareNe_shaped r1 r2 sa sb (by omega) ⟨.bl _, H, I, rfl, EB.of rs q⟩
end
end Vm

set_option Elab.async false
set_option linter.all false
set_option maxRecDepth 100000
set_option maxHeartbeats 1000000
/-! Vm, part 7: calls by values, comparisons. -/
namespace Vm
open PySem PySem.Spec PyProof.Rows L2
variable {X : Cx} {L : Lx} {C : Ctx} {Φ : Fn} {W : WX} {N : List Str} {sc : Scope}
section
variable {pins : List (Addr × Obj)} {σ : L2.St} {H : Hp} {s : Shared} {m : Wm} {st : Sto} {Q0 EX0 : QD}
theorem RpL.vals_len {K : PySem.W.Frag} {mg : Str → Option Value} {vs : List V} {ds : List D} (r : RpL K mg m H vs ds) : vs.length = ds.length := r.length
theorem Callee.run {a : Addr} {φ : List D → Sto → QD → QD → Prop} {j : Nat} (c : Callee X a φ j) (tk : Takes X W) (I : L2.Inv X pins σ H s) {us : List Value} {vs : List V} {ds : List D} (r : Vals vs us) (rs : RpS X.K X.mg m H st) (rl : RpL X.K X.mg m H vs ds)
    (h : φ ds st Q0 EX0) (ax : AfX X.K X.mg m H EX0 (fun c d H' => W c d σ H')) : wpAny (model X.prog X.w) X.A (call (.ref a) us) (EP X pins σ (EQ X m H Q0)) X.xe s := by
  obtain ⟨g, k, fd, ps, n, F, hn, hl, room, gd, bd⟩ := c.ok
  exact runG F (room.mono (Nat.le_add_right k j)) gd bd tk (fun _ _ _ z => z) I r ⟨by rw [rl.length]; exact hl _ _ _ _ h, m, st, ds, Q0, EX0, rs, rl, h, fun d st' m' H' v q w s r => ⟨d, st', m', q, w, s, r⟩, ax⟩
theorem Callee.run1 {a : Addr} {φ : List D → Sto → QD → QD → Prop} (c : Callee X a φ 1) (tk : Takes X W) (I : L2.Inv X pins σ H s) {us : List Value} {vs : List V} {ds : List D} (r : Vals vs us) (rs : RpS X.K X.mg m H st) (rl : RpL X.K X.mg m H vs ds)
    (h : φ ds st Q0 EX0) (ax : AfX X.K X.mg m H EX0 (fun c d H' => W c d σ H')) : wpAny (model X.prog X.w) X.A.in1 (call (.ref a) us) (EP X pins σ (EQ X m H Q0)) X.xe s := by
  obtain ⟨g, k, fd, ps, n, F, hn, hl, room, gd, bd⟩ := c.ok
  have h' : spOf X.K X.mg n φ vs H (EQ X m H Q0) (fun c d H' => W c d σ H') := ⟨by rw [rl.length]; exact hl _ _ _ _ h, m, st, ds, Q0, EX0, rs, rl, h, fun d st' m' H' v q w s r => ⟨d, st', m', q, w, s, r⟩, ax⟩
  have b := bd s us I.kIn (by rw [List.append_nil, ← r.length]; exact F.len _ _ _ _ h')
  rw [List.append_nil] at b
  refine wpAny_call (codeAny_mono (F.run X.A.in1 X.stack s H ⟨us, []⟩ us vs _ _ room.in1 gd I.env0.in1 b r h') fun res s' z => ?_)
  have e := cr_end tk (fun _ _ _ z => z) I (fun _ _ z => z) z
  cases res with
  | error e' => exact e
  | ok fl => cases fl <;> exact e
theorem Rp.ins (rs : RpS X.K X.mg m H st) {v : V} {d : D} {c : Str} {fs : List (Str × D)} (r : Rp X.K X.mg m H v d) (h : insOf st d = some (c, fs)) : ∃ a dx vs, v = .ref a ∧ H a = some (.ins (He.ga X.K c) dx vs) ∧ RpF X.K X.mg m H vs fs := by
  cases d with
  | obj c' fs' =>
    cases h
    cases r with | obj e _ q => exact ⟨_, _, _, rfl, e, q⟩
  | ref n =>
    have h : (match st[n]? with | some (.ins c fs) => some (c, fs) | _ => none) = some (c, fs) := h
    cases e : st[n]? with
    | none => rw [e] at h; cases h
    | some o =>
      rw [e] at h
      cases o with
      | ins c' fs' =>
        cases h
        obtain ⟨a, rfl, _, ro⟩ := rs.live r e (by intro z; cases z)
        cases ro with | ins e q => exact ⟨_, _, _, rfl, e, q⟩
      | _ => cases h
  | _ => cases h
theorem instAt (I : L2.Inv X pins σ H s) {a dx : Addr} {Cc : Addr} {vs : List (Str × V)} (e : H a = some (.ins Cc dx vs)) : ∃ ox od, PySem.W.InstAt s.heap a ox Cc od := by
  obtain ⟨mA, O, _⟩ := ins_get I.hok e
  obtain ⟨od, J, _⟩ := O.look
  exact ⟨_, _, J⟩
theorem Rp.dict (rs : RpS X.K X.mg m H st) {v : V} {d : D} {kvs : List (Key × D)} (r : Rp X.K X.mg m H v d) (h : dctOf st d = some kvs) : ∃ a vs, v = .ref a ∧ H a = some (.dK vs) ∧ RpK X.K X.mg m H vs kvs := by
  cases d with
  | dct kvs' =>
    cases h
    cases r with | dct e _ q => exact ⟨_, _, rfl, e, q⟩
  | ref n =>
    have h : (match st[n]? with | some (.dct kvs) => some kvs | _ => none) = some kvs := h
    cases e : st[n]? with
    | none => rw [e] at h; cases h
    | some o =>
      rw [e] at h
      cases o with
      | dct kvs' =>
        cases h
        obtain ⟨a, rfl, _, ro⟩ := rs.live r e (by intro z; cases z)
        cases ro with | dct e q => exact ⟨_, _, rfl, e, q⟩
      | _ => cases h
  | _ => cases h
theorem Rp.key {K : PySem.W.Frag} {mg : Str → Option Value} {v : V} {d : D} {k : Key} (r : Rp K mg m H v d) (h : keyOf d = some k) : v = kV k := by
  cases d with
  | int i => cases h; cases r; rfl
  | str x => cases h; cases r; rfl
  | _ => cases h
theorem RpK.val {K : PySem.W.Frag} {mg : Str → Option Value} (k : Key) : ∀ {ds : List (Key × D)} {vs : List (Key × V)}, RpK K mg m H vs ds → (valD ds k = none ∧ valV vs k = none) ∨ ∃ d v, valD ds k = some d ∧ valV vs k = some v ∧ Rp K mg m H v d
  | [], _, .nil => .inl ⟨rfl, rfl⟩
  | (q, d) :: ds, _, .cons (v := v) r t => by
    by_cases e : q = k
    · exact .inr ⟨d, v, by simp [valD, List.find?_cons, e], by simp [valV, List.find?_cons, e], r⟩
    · rcases RpK.val k t with ⟨h1, h2⟩ | ⟨d', v', h1, h2, h3⟩
      · exact .inl ⟨by simpa [valD, List.find?_cons, e] using h1, by simpa [valV, List.find?_cons, e] using h2⟩
      · exact .inr ⟨d', v', by simpa [valD, List.find?_cons, e] using h1, by simpa [valV, List.find?_cons, e] using h2, h3⟩
theorem RpK.len {K : PySem.W.Frag} {mg : Str → Option Value} : ∀ {ds : List (Key × D)} {vs : List (Key × V)}, RpK K mg m H vs ds → vs.length = ds.length
  | [], _, .nil => rfl
  | _ :: _, _, .cons _ t => by simp [RpK.len t]
theorem RpK.any {K : PySem.W.Frag} {mg : Str → Option Value} (k : Key) : ∀ {ds : List (Key × D)} {vs : List (Key × V)}, RpK K mg m H vs ds → (vs.any fun kv => decide (kv.1 = k)) = ds.any fun kv => decide (kv.1 = k)
  | [], _, .nil => rfl
  | _ :: _, _, .cons _ t => by simp [RpK.any k t]
theorem RpK.app {K : PySem.W.Frag} {mg : Str → Option Value} : ∀ {ds es : List (Key × D)} {vs us : List (Key × V)}, RpK K mg m H vs ds → RpK K mg m H us es → RpK K mg m H (vs ++ us) (ds ++ es)
  | [], _, _, _, .nil, r => r
  | _ :: _, _, _, _, .cons r t, q => .cons r (RpK.app t q)
theorem RpK.put {K : PySem.W.Frag} {mg : Str → Option Value} {k : Key} {v : V} {d : D} (r : Rp K mg m H v d) {ds : List (Key × D)} {vs : List (Key × V)} (t : RpK K mg m H vs ds) : RpK K mg m H (L2.putK vs k v) (putD ds k d) := by
  have mp : ∀ {ds : List (Key × D)} {vs : List (Key × V)}, RpK K mg m H vs ds → RpK K mg m H (vs.map fun kv => if kv.1 = k then (kv.1, v) else kv) (ds.map fun kv => if kv.1 = k then (kv.1, d) else kv) := by
    intro ds
    induction ds with
    | nil => intro vs t; cases t; exact .nil
    | cons p ds ih =>
      intro vs t
      cases t with
      | cons r' t' =>
        rename_i q _ _ _
        by_cases e : q = k
        · simp only [List.map_cons, if_pos e]; exact .cons r (ih t')
        · simp only [List.map_cons, if_neg e]; exact .cons r' (ih t')
  unfold L2.putK putD
  rw [t.any k]
  split
  · exact mp t
  · exact t.app (.cons r .nil)
end
section
variable {pins : List (Addr × Obj)} {σ : L2.St} {H : Hp} {s : Shared} {m : Wm} {st : Sto}
theorem in_ok {x y : V} {v u : Value} {dx dy : D} {Q0 : Bool → Sto → Prop} (hu : X.A.units + 100 < cLine) (I : L2.Inv X pins σ H s) (rs : RpS X.K X.mg m H st) (rx : RelV x v) (ry : RelV y u) (px : Rp X.K X.mg m H x dx) (py : Rp X.K X.mg m H y dy)
    (h : inData st dx dy fun b => Q0 b st) : wpAny (model X.prog X.w) X.A (compareOp .In v u) (EP X pins σ (EB X m H Q0)) X.xe s := by
  have gen : (match dctOf st dy with | some kvs => ∃ k, keyOf dx = some k ∧ Q0 (valD kvs k).isSome st | none => inSeq st dx dy fun b => Q0 b st) → wpAny (model X.prog X.w) X.A (compareOp .In v u) (EP X pins σ (EB X m H Q0)) X.xe s := fun h => by
    cases e : dctOf st dy with
    | some kvs =>
      rw [e] at h
      obtain ⟨k, ek, q⟩ := h
      obtain ⟨a, vs, rfl, ha, rk⟩ := py.dict rs e
      have := px.key ek
      subst this
      cases ry
      refine d_in (by omega) I (DGet.k ha) rx fun s1 I1 => ⟨.bl _, H, I1, rfl, ?_⟩
      have : (valV vs k).isSome = (valD kvs k).isSome := by
        rcases rk.val k with ⟨h1, h2⟩ | ⟨d, v', h1, h2, _⟩ <;> rw [h1, h2] <;> rfl
      rw [this]
      exact EB.of rs q
    | none =>
      rw [e] at h
      obtain ⟨p, ys, ps, hp, hy, hd, hs, q⟩ := h
      obtain ⟨hp, sp⟩ := shaped_of hp
      obtain ⟨as, r1⟩ := px.readsO I rs hp rx
      obtain ⟨a, vs, rfl, hl, rl⟩ := py.seq rs hy
      cases ry
      rcases hl with ⟨_, hl⟩ | ⟨_, hl⟩
      · obtain ⟨its, rv, ⟨o, n, ho, hc, _, hd'⟩, _⟩ := I.list (SqL.of hl)
        obtain ⟨bs, r2⟩ := RpL.reads I ys ps vs its rl hd rv
        exact SeqAt.in_list_reads (Reads.list ho hc hd' r2) r1 (SeqAt.canLay_of_shaped hs) (SeqAt.canLay_of_shaped sp) (room_in_shaped sp (by omega)) ⟨.bl _, H, I, rfl, EB.of rs q⟩
      · obtain ⟨its, rv, ⟨o, ho, hc, n, hd'⟩, _⟩ := I.tuple hl
        obtain ⟨bs, r2⟩ := RpL.reads I ys ps vs its rl hd rv
        exact SeqAt.in_tuple_reads (Reads.tuple ho hc hd' r2) r1 (SeqAt.canLay_of_shaped hs) (SeqAt.canLay_of_shaped sp) (room_in_shaped sp (by omega)) ⟨.bl _, H, I, rfl, EB.of rs q⟩
  cases dy with
  | str b =>
    obtain ⟨a, rfl, q⟩ := h
    cases px; cases py
    exact op_in_str pins s σ H _ _ v u _ I rx ry ⟨_, _, rfl, rfl, EB.of rs q⟩
  | _ => exact gen h
theorem notin_ok {x y : V} {v u : Value} {dx dy : D} {Q0 : Bool → Sto → Prop} (hu : X.A.units + 100 < cLine) (I : L2.Inv X pins σ H s) (rs : RpS X.K X.mg m H st) (rx : RelV x v) (ry : RelV y u) (px : Rp X.K X.mg m H x dx) (py : Rp X.K X.mg m H y dy)
    (h : inData st dx dy fun b => Q0 (!b) st) : wpAny (model X.prog X.w) X.A (compareOp .NotIn v u) (EP X pins σ (EB X m H Q0)) X.xe s := by
  have gen : (match dctOf st dy with | some kvs => ∃ k, keyOf dx = some k ∧ Q0 (!(valD kvs k).isSome) st | none => inSeq st dx dy fun b => Q0 (!b) st) → wpAny (model X.prog X.w) X.A (compareOp .NotIn v u) (EP X pins σ (EB X m H Q0)) X.xe s := fun h => by
    cases e : dctOf st dy with
    | some kvs =>
      rw [e] at h
      obtain ⟨k, ek, q⟩ := h
      obtain ⟨a, vs, rfl, ha, rk⟩ := py.dict rs e
      have := px.key ek
      subst this
      cases ry
      refine d_notIn (by omega) I (DGet.k ha) rx fun s1 I1 => ⟨.bl _, H, I1, rfl, ?_⟩
      have : (valV vs k).isSome = (valD kvs k).isSome := by
        rcases rk.val k with ⟨h1, h2⟩ | ⟨d, v', h1, h2, _⟩ <;> rw [h1, h2] <;> rfl
      rw [this]
      exact EB.of rs q
    | none =>
      rw [e] at h
      obtain ⟨p, ys, ps, hp, hy, hd, hs, q⟩ := h
      obtain ⟨hp, sp⟩ := shaped_of hp
      obtain ⟨as, r1⟩ := px.readsO I rs hp rx
      obtain ⟨a, vs, rfl, hl, rl⟩ := py.seq rs hy
      cases ry
      rcases hl with ⟨_, hl⟩ | ⟨_, hl⟩
      · obtain ⟨its, rv, ⟨o, n, ho, hc, _, hd'⟩, _⟩ := I.list (SqL.of hl)
        obtain ⟨bs, r2⟩ := RpL.reads I ys ps vs its rl hd rv
        exact SeqAt.notIn_list_reads (Reads.list ho hc hd' r2) r1 (SeqAt.canLay_of_shaped hs) (SeqAt.canLay_of_shaped sp) (room_in_shaped sp (by omega)) ⟨.bl _, H, I, rfl, EB.of rs q⟩
      · obtain ⟨its, rv, ⟨o, ho, hc, n, hd'⟩, _⟩ := I.tuple hl
        obtain ⟨bs, r2⟩ := RpL.reads I ys ps vs its rl hd rv
        exact SeqAt.notIn_tuple_reads (Reads.tuple ho hc hd' r2) r1 (SeqAt.canLay_of_shaped hs) (SeqAt.canLay_of_shaped sp) (room_in_shaped sp (by omega)) ⟨.bl _, H, I, rfl, EB.of rs q⟩
  cases dy with
  | str b =>
    obtain ⟨a, rfl, q⟩ := h
    cases px; cases py
    exact op_notIn_str pins s σ H _ _ v u _ I rx ry ⟨_, _, rfl, rfl, EB.of rs q⟩
  | _ => exact gen h
/-- its class -/
theorem ty_of (kn : Knows X L C Φ) (rs : RpS X.K X.mg m H st) {v : V} {d : D} (r : Rp X.K X.mg m H v d) :
    (∀ n, kindOf st d = some n → n ∈ kdNms ∧ L2.TyX X.K H v (.type n)) ∧ (∀ c fs, insOf st d = some (c, fs) → (C.cl c).isSome = true → L2.TyX X.K H v (.ref (He.ga X.K c))) := by
  refine ⟨fun n h => ?_, fun c fs h hc => ?_⟩
  · cases d with
    | non => cases h; cases r; exact ⟨by decide, .base .non⟩
    | bl b => cases h; cases r; exact ⟨by decide, .base (.bl _)⟩
    | int b => cases h; cases r; exact ⟨by decide, .base (.int _)⟩
    | str b => cases h; cases r; exact ⟨by decide, .base (.str _)⟩
    | tup b =>
      cases h
      cases r with
      | tup hs _ =>
        refine ⟨by decide, ?_⟩
        rcases hs with (hs | ⟨o, hs⟩) | ⟨o, its, n, h1, h2, _⟩
        · exact .base (.tup hs)
        · exact .fTuple hs
        · exact .kTuple h1 h2
    | lst b => cases h; cases r with | lst hs _ _ => exact ⟨by decide, .base (.lst hs)⟩
    | dct b => cases h; cases r with | dct hs _ _ => exact ⟨by decide, .base (.dK hs)⟩
    | dcT b => cases h; cases r with | dcT hs _ _ => exact ⟨by decide, .base (.dT hs)⟩
    | ref k =>
      have h : (match st[k]? with | some (.lst _) => some "list" | some (.dct _) | some (.dcT _) => some "dict" | _ => none) = some n := h
      cases e : st[k]? with
      | none => rw [e] at h; cases h
      | some o =>
        rw [e] at h
        cases o with
        | lst xs => cases h; obtain ⟨a, rfl, _, ro⟩ := rs.live r e (by intro z; cases z); cases ro with | lst hs _ => exact ⟨by decide, .base (.lst hs)⟩
        | dct xs => cases h; obtain ⟨a, rfl, _, ro⟩ := rs.live r e (by intro z; cases z); cases ro with | dct hs _ => exact ⟨by decide, .base (.dK hs)⟩
        | dcT xs => cases h; obtain ⟨a, rfl, _, ro⟩ := rs.live r e (by intro z; cases z); cases ro with | dcT hs _ => exact ⟨by decide, .base (.dT hs)⟩
        | _ => cases h
    | _ => cases h
  · obtain ⟨a, dx, vs, rfl, ha, _⟩ := r.ins rs h
    have i := kn.cls c hc
    exact .base (.ins ha i.cl i.ha i.hn i.ht i.hm)
theorem looks_of (kn : Knows X L C Φ) (I : L2.Inv X pins σ H s) (rs : RpS X.K X.mg m H st) {v : V} {u : Value} {d : D} (ru : RelV v u) (r : Rp X.K X.mg m H v d) (h : tyOk C st d = true) {c : Str} (hc : (C.cl c).isSome = true) :
    ∃ tb, PySem.W.Looks (model X.prog X.w) s.heap (typeOf u) tb ∧ PySem.W.notFirst X.K (He.ga X.K c) tb = true := by
  obtain ⟨t1, t2⟩ := ty_of kn rs r
  cases e : kindOf st d with
  | some n =>
    obtain ⟨hn, ty⟩ := t1 n e
    obtain ⟨P, Z, p, _⟩ := kit_of I ru ty
    exact ⟨_, Z.ty _ _ I.kIn p, kn.nfT c hc n hn⟩
  | none =>
    cases e2 : insOf st d with
    | none => unfold tyOk at h; rw [e, e2] at h; cases h
    | some q =>
      have own : (C.cl q.1).isSome = true := by unfold tyOk at h; rw [e, e2] at h; exact h
      have ty := t2 q.1 q.2 e2 own
      obtain ⟨P, Z, p, _⟩ := kit_of I ru ty
      exact ⟨_, Z.ty _ _ I.kIn p, kn.nfC c q.1 hc own⟩
/-- != where the class has an __eq__ of its own alone -/
theorem ifBound_objNe {prog : Program} {w : World} {A : Around} {E : Value → Shared → Prop} {s : Shared} {K : PySem.W.Frag} {x Cc : Addr} {ox : Obj} {od : Option Obj} {args : List Value} {Q : Option Value → Shared → Prop} (Xi : K.In s.heap) (I : PySem.W.InstAt s.heap x ox Cc od) (hs : PySem.W.findIn K (.ref Cc) "__ne__" = some (some (.builtin "object.__ne__")))
    (h : wpAny (model prog w) A (call (.builtin "object.__ne__") (.ref x :: args)) (fun v => Q (some v)) E s) : wpAny (model prog w) A (callSpecialIfBound? (.ref x) "__ne__" args) Q E s := by
  simp only [callSpecialIfBound?, bindSpecialIfBound?]
  refine wpAny_holding (wpAny_bind (wpAny_bind (wpAny_bind (I.type.here ((PySem.W.looks_findIn Xi hs).here ?_)))))
  refine wpAny_bind (wpAny_askSetting (wpAny_ite ?_))
  have fin : wpAny (model prog w) A (call (.builtin "object.__ne__") ([.ref x] ++ args) >>= fun v => pure (some v)) Q E s := wpAny_bind (wpAny_mono h (fun v s' h' => wpAny_pure h') fun _ _ h' => h')
  split
  · exact wpAny_bind (wpAny_of_eq (F.cmp_object.ne.bind _) (wpAny_pure (by exact fin)))
  · exact wpAny_tryCatch (wpAny_bind (wpAny_of_eq (F.cmp_object.ne.bind _) (wpAny_pure (by exact fin))))
theorem ne_K {prog : Program} {w : World} {A : Around} {E : Value → Shared → Prop} {s : Shared} {K : PySem.W.Frag} {x Cc f : Addr} {ox : Obj} {od : Option Obj} {b tb : Value} {Q : Value → Shared → Prop} (hu : A.units + 100 < cLine) (Xi : K.In s.heap) (I : PySem.W.InstAt s.heap x ox Cc od) (hb : PySem.W.Looks (model prog w) s.heap (typeOf b) tb) (hn : PySem.W.notFirst K Cc tb = true)
    (hm : PySem.W.mroIn K Cc (.type "object") = some true) (hs : PySem.W.findIn K (.ref Cc) "__ne__" = some (some (.builtin "object.__ne__"))) (hq : PySem.W.findIn K (.ref Cc) "__eq__" = some (some (.ref f))) (hf : PySem.W.isFn K (.ref f) = true)
    (h : wpAny (model prog w) A.in1 (call (.ref f) [.ref x, b]) (fun v s' => ∃ c, v = .bool c ∧ Q (.bool (!c)) s') E s) : wpAny (model prog w) A (compareOp .NotEq (.ref x) b) Q E s := by
  have body : wpAny (model prog w) A (call (.builtin "object.__ne__") [.ref x, b]) (fun v s' => ∃ c, v = .bool c ∧ Q (.bool c) s') E s := by
    refine wpAny_call (codeAny_call_builtin F.cmp_object.ne.plain F.cmpEntry_ne (PySem.W.check_slot F.cmpKind_ne F.cmpSplit_ne (I.type.andThen (PySem.W.looks_mroIn Xi hm)) (F.cmpArgs_ne _ _) ?_))
    unfold Builtin.«object.__ne__»
    refine wpAny_bind (wpAny_of_eq (a := ((Value.ref x : Value), [b])) (by first | rfl | (simp only [Builtin.slotArgs]; rfl)) ?_)
    refine wpAny_bind (wpAny_cRoomFor (by show A.units + 1 < cLine; omega) ?_)
    refine wpAny_bind (PySem.W.ifBound_K Xi I hq hf (wpAny_mono h (fun v s' z => ?_) fun _ _ z => z))
    obtain ⟨c, rfl, q⟩ := z
    refine wpAny_bind (wpAny_truthy_bool (wpAny_pure ?_))
    exact ⟨_, rfl, q⟩
  have one : wpAny (model prog w) A (tryCompare (.ref x) "__ne__" b) (fun r s' => ∃ v, r = some v ∧ Q v s') E s := by
    unfold tryCompare
    refine wpAny_bind (ifBound_objNe Xi I hs (wpAny_mono body (fun v s' z => ?_) fun _ _ e => e))
    obtain ⟨c, rfl, q⟩ := z
    exact wpAny_pure ⟨_, rfl, q⟩
  show wpAny _ _ (richCompare .NotEq (.ref x) b) _ _ _
  unfold richCompare
  simp only [oneThing_ref]
  refine wpAny_holding (wpAny_bind (wpAny_cRoomFor (by omega) ?_))
  refine wpAny_bind (I.type.here (wpAny_bind (hb.here ?_)))
  split
  · rename_i q
    have e : PySem.W.subIn K tb (.ref Cc) = some false := by
      rcases Bool.or_eq_true_iff.mp hn with e | e
      · rw [beq_iff_eq.mp e] at q; simp at q
      · exact beq_iff_eq.mp e
    refine wpAny_bind ((PySem.W.looks_subIn Xi e).here ?_)
    simp only [Bool.false_eq_true, if_false]
    refine wpAny_bind (wpAny_mono one (fun r s' z => ?_) fun _ _ e => e)
    obtain ⟨v, rfl, hq⟩ := z
    exact wpAny_pure hq
  · refine wpAny_bind (wpAny_pure ?_)
    simp only [Bool.false_eq_true, if_false]
    refine wpAny_bind (wpAny_mono one (fun r s' z => ?_) fun _ _ e => e)
    obtain ⟨v, rfl, hq⟩ := z
    exact wpAny_pure hq
/-- a comparison of any kind -/
theorem cmp_ok (kn : Knows X L C Φ) (hu : X.A.units + 100 < cLine) (tk : Takes X W) {o : CmpO} {x y : V} {v u : Value} {dx dy : D} {Q0 : Bool → Sto → Prop} {EX0 : QD} (I : L2.Inv X pins σ H s) (rs : RpS X.K X.mg m H st) (rx : RelV x v) (ry : RelV y u) (px : Rp X.K X.mg m H x dx) (py : Rp X.K X.mg m H y dy)
    (h : wCmp Φ C o dx dy st Q0 EX0) (ax : AfX X.K X.mg m H EX0 (fun c d H' => W c d σ H')) : wpAny (model X.prog X.w) X.A (compareOp (cmOf o) v u) (EP X pins σ (EB X m H Q0)) X.xe s := by
  have own : ∀ {c fs g} {Q1 : Bool → Sto → Prop}, insOf st dy = some (c, fs) → C.mth c "__contains__" = some g → Φ g [dy, dx] st (fun r st' => ∃ b, r = .bl b ∧ Q1 b st') EX0 →
      ∃ a f, u = .ref a ∧ PySem.W.findIn X.K (.ref (He.ga X.K c)) "__contains__" = some (some (.ref f)) ∧ PySem.W.isFn X.K (.ref f) = true ∧ (∃ ox od, PySem.W.InstAt s.heap a ox (He.ga X.K c) od) ∧
        wpAny (model X.prog X.w) X.A (call (.ref f) [u, v]) (fun r s' => ∃ b H' m' st', r = .bool b ∧ L2.Inv X pins σ H' s' ∧ Q1 b st' ∧ Wl m H m' H' ∧ RpS X.K X.mg m' H' st') X.xe s := fun {c fs g Q1} e hm hf => by
    obtain ⟨a, dx', vs, rfl, ha, rf⟩ := py.ins rs e
    cases ry
    obtain ⟨_, _, f, M, cal⟩ := kn.mth c _ g hm
    refine ⟨a, f, rfl, M.at_, M.fn, instAt I ha, ?_⟩
    refine thn (cal.run (vs := [.ref a, x]) tk I (.cons rfl (.cons rx .nil)) rs (.cons py (.cons px .nil)) hf ax) fun r s' z => ?_
    obtain ⟨w, H', I', rw', d, st', m', ⟨b, rfl, q⟩, wl, rs', rd⟩ := z
    cases rd; cases rw'
    exact ⟨b, H', m', st', rfl, I', q, wl, rs'⟩
  obtain ⟨mm, hF⟩ := I.fr
  have hu0 : X.A.units < cLine := by omega
  cases o with
  | isin =>
    have h : (match insOf st dy with | some p => ∃ g, C.mth p.1 "__contains__" = some g ∧ Φ g [dy, dx] st (fun r st' => ∃ b, r = .bl b ∧ Q0 b st') EX0 | none => inData st dx dy fun b => Q0 b st) := h
    cases e : insOf st dy with
    | none => rw [e] at h; exact in_ok hu I rs rx ry px py h
    | some p =>
      rw [e] at h
      obtain ⟨g, hm, hf⟩ := h
      obtain ⟨a, f, rfl, h1, h2, ⟨ox, od, J⟩, h3⟩ := own e hm hf
      refine PySem.W.in_K hF I.ok.mod.kin J h1 h2 (thn h3 fun r s' z => ?_)
      obtain ⟨b, H', m', st', rfl, I', q, wl, rs'⟩ := z
      exact wpAny_truthy_bool ⟨.bl b, H', I', rfl, b, st', m', rfl, q, wl, rs'⟩
  | notin =>
    have h : (match insOf st dy with | some p => ∃ g, C.mth p.1 "__contains__" = some g ∧ Φ g [dy, dx] st (fun r st' => ∃ b, r = .bl b ∧ Q0 (!b) st') EX0 | none => inData st dx dy fun b => Q0 (!b) st) := h
    cases e : insOf st dy with
    | none => rw [e] at h; exact notin_ok hu I rs rx ry px py h
    | some p =>
      rw [e] at h
      obtain ⟨g, hm, hf⟩ := h
      obtain ⟨a, f, rfl, h1, h2, ⟨ox, od, J⟩, h3⟩ := own (Q1 := fun b st' => Q0 (!b) st') e hm hf
      refine PySem.W.notIn_K hF I.ok.mod.kin J h1 h2 (thn h3 fun r s' z => ?_)
      obtain ⟨b, H', m', st', rfl, I', q, wl, rs'⟩ := z
      exact wpAny_truthy_bool ⟨.bl (!b), H', I', rfl, !b, st', m', rfl, q, wl, rs'⟩
  | eq =>
    have h : (match insOf st dx with | some p => tyOk C st dy = true ∧ ∃ g, C.mth p.1 "__eq__" = some g ∧ Φ g [dx, dy] st (fun r st' => ∃ b, r = .bl b ∧ Q0 b st') EX0 | none => eqDD st dx dy fun b => Q0 b st) := h
    cases e : insOf st dx with
    | none => rw [e] at h; exact eq_ok0 hu I rs rx ry px py h
    | some p =>
      rw [e] at h
      obtain ⟨c, fs⟩ := p
      obtain ⟨ht, g, hm, hf⟩ := h
      obtain ⟨a, dx', vs, rfl, ha, rf⟩ := px.ins rs e
      cases rx
      obtain ⟨ic, _, f, M, cal⟩ := kn.mth c _ g hm
      obtain ⟨ox, od, J⟩ := instAt I ha
      obtain ⟨tb, hb, hn⟩ := looks_of kn I rs ry py ht ic
      show wpAny _ _ (richCompare .Eq (.ref a) u) _ _ _
      refine PySem.W.cmp_K hu0 hF I.ok.mod.kin J hb hn M.at_ M.fn (thn (cal.run (vs := [.ref a, y]) tk I (.cons rfl (.cons ry .nil)) rs (.cons px (.cons py .nil)) hf ax) fun r s' z => ?_)
      obtain ⟨w, H', I', rw', d, st', m', ⟨b, rfl, q⟩, wl, rs', rd⟩ := z
      cases rd; cases rw'
      exact ⟨.bl b, H', I', rfl, b, st', m', rfl, q, wl, rs'⟩
  | ne =>
    have h : (match insOf st dx with | some p => tyOk C st dy = true ∧ ∃ g, C.mth p.1 "__eq__" = some g ∧ Φ g [dx, dy] st (fun r st' => ∃ b, r = .bl b ∧ Q0 (!b) st') EX0 | none => eqDD st dx dy fun b => Q0 (!b) st) := h
    cases e : insOf st dx with
    | none => rw [e] at h; exact ne_ok0 hu I rs rx ry px py h
    | some p =>
      rw [e] at h
      obtain ⟨c, fs⟩ := p
      obtain ⟨ht, g, hm, hf⟩ := h
      obtain ⟨a, dx', vs, rfl, ha, rf⟩ := px.ins rs e
      cases rx
      obtain ⟨ic, _⟩ := kn.mth c _ g hm
      obtain ⟨hne, f, M, cal⟩ := kn.ne c g hm
      obtain ⟨ox, od, J⟩ := instAt I ha
      obtain ⟨tb, hb, hn⟩ := looks_of kn I rs ry py ht ic
      refine ne_K hu I.kIn J hb hn (kn.cls c ic).hm hne M.at_ M.fn (thn (cal.run1 (vs := [.ref a, y]) tk I (.cons rfl (.cons ry .nil)) rs (.cons px (.cons py .nil)) hf ax) fun r s' z => ?_)
      obtain ⟨w, H', I', rw', d, st', m', ⟨b, rfl, q⟩, wl, rs', rd⟩ := z
      cases rd; cases rw'
      exact ⟨b, rfl, .bl (!b), H', I', rfl, !b, st', m', rfl, q, wl, rs'⟩
  | lt =>
    have h : ltD dx dy fun b => Q0 b st := h
    cases dx with
    | int i => obtain ⟨j, rfl, q⟩ := h; cases px; cases py; exact op_lt pins s σ H _ _ v u _ I rx ry ⟨_, _, rfl, rfl, EB.of rs q⟩
    | str a => obtain ⟨b, rfl, q⟩ := h; cases px; cases py; exact op_lt_str pins s σ H _ _ v u _ I rx ry ⟨_, _, rfl, rfl, EB.of rs q⟩
    | _ => exact h.elim
  | le => obtain ⟨i, j, rfl, rfl, q⟩ := h; cases px; cases py; exact op_le pins s σ H _ _ v u _ I rx ry ⟨_, _, rfl, rfl, EB.of rs q⟩
  | gt => obtain ⟨i, j, rfl, rfl, q⟩ := h; cases px; cases py; exact op_gt pins s σ H _ _ v u _ I rx ry ⟨_, _, rfl, rfl, EB.of rs q⟩
  | ge => obtain ⟨i, j, rfl, rfl, q⟩ := h; cases px; cases py; exact op_ge pins s σ H _ _ v u _ I rx ry ⟨_, _, rfl, rfl, EB.of rs q⟩
end
end Vm

set_option Elab.async false
set_option linter.all false
set_option maxRecDepth 100000
set_option maxHeartbeats 1000000
/-! Vm, part 8: comparisons, tests, calls. -/
namespace Vm
open PySem PySem.Spec PyProof.Rows L2
structure Has (X : Cx) (L : Lx) (C : Ctx) (Φ : Fn) (W : WX) (N : List Str) (sc : Scope) : Prop where
  ok : OkX X N sc
  kn : Knows X L C Φ
  tk : Takes X W
  lam : L.told = true → LamK X L C Φ
  xv : L.xv = true → Room 2 X.A ∧ X.ex = []
variable {X : Cx} {L : Lx} {C : Ctx} {Φ : Fn} {W : WX} {N : List Str} {sc : Scope}
def tT (X : Cx) (C : Ctx) (Φ : Fn) (W : WX) (e : E) : TT := fun σ H Q => ∃ m env st Q0 EX0, RpE X.K X.mg m H σ env ∧ RpS X.K X.mg m H st ∧ wE Φ C e env st Q0 EX0 ∧ AfX X.K X.mg m H EX0 (fun c d H' => W c d σ H') ∧
  ∀ d st' m' H', Q0 d st' → Wl m H m' H' → RpS X.K X.mg m' H' st' → ∃ b, d = .bl b ∧ Q b H'
def tA (X : Cx) (C : Ctx) (Φ : Fn) (W : WX) (es : Es) : TA := fun σ H Q => ∃ m env st Q0 EX0, RpE X.K X.mg m H σ env ∧ RpS X.K X.mg m H st ∧ wEs Φ C es env st Q0 EX0 ∧ AfX X.K X.mg m H EX0 (fun c d H' => W c d σ H') ∧
  ∀ ds st' m' H' vs, Q0 ds st' → Wl m H m' H' → RpS X.K X.mg m' H' st' → RpL X.K X.mg m' H' vs ds → Q vs H'
section
variable {pins : List (Addr × Obj)} {σ : L2.St} {H : Hp} {s : Shared} {m : Wm} {st : Sto} {env : Slots} {EX0 : QD}
theorem runT {e : E} {x : Expr} (h : PT X x (tT X C Φ W e)) (I : L2.Inv X pins σ H s) (re : RpE X.K X.mg m H σ env) (rs : RpS X.K X.mg m H st) {Q1 : QD} (w : wE Φ C e env st Q1 EX0) (ax : AfX X.K X.mg m H EX0 (fun c d H' => W c d σ H')) (bl : ∀ d st', Q1 d st' → ∃ b, d = .bl b)
    {P : Bool → Shared → Prop} (k : ∀ b s1 H1 st1 m1, L2.Inv X pins σ H1 s1 → Q1 (.bl b) st1 → Wl m H m1 H1 → RpS X.K X.mg m1 H1 st1 → P b s1) : wpAny (model X.prog X.w) X.A (isTrue x X.env (eval x X.env)) P X.xe s := by
  refine thn (h.run pins s σ H (fun b H' => ∃ st' m', Q1 (.bl b) st' ∧ Wl m H m' H' ∧ RpS X.K X.mg m' H' st') I ⟨m, env, st, Q1, EX0, re, rs, w, ax, fun d st' m' H' q w' rs' => ?_⟩) fun b s1 z => ?_
  · obtain ⟨b, rfl⟩ := bl d st' q
    exact ⟨b, rfl, st', m', q, w', rs'⟩
  · obtain ⟨H1, I1, st1, m1, q, w1, rs1⟩ := z
    exact k b s1 H1 st1 m1 I1 q w1 rs1
theorem runA {es : Es} {xs : List Expr} {pos : Pos} (h : PA X xs (tA X C Φ W es)) (I : L2.Inv X pins σ H s) (re : RpE X.K X.mg m H σ env) (rs : RpS X.K X.mg m H st) {Q1 : List D → Sto → Prop} (w : wEs Φ C es env st Q1 EX0) (ax : AfX X.K X.mg m H EX0 (fun c d H' => W c d σ H'))
    {P : List Value → Shared → Prop} (k : ∀ us s1 vs H1 ds st1 m1, L2.Inv X pins σ H1 s1 → Vals vs us → Q1 ds st1 → Wl m H m1 H1 → RpS X.K X.mg m1 H1 st1 → RpL X.K X.mg m1 H1 vs ds → P us s1) : wpAny (model X.prog X.w) X.A (spliced (backTo pos (starEach xs X.env))) P X.xe s := by
  refine thn (h.run pos pins s σ H (fun vs H' => ∃ ds st' m', Q1 ds st' ∧ Wl m H m' H' ∧ RpS X.K X.mg m' H' st' ∧ RpL X.K X.mg m' H' vs ds) I ⟨m, env, st, Q1, EX0, re, rs, w, ax, fun ds st' m' H' vs q w s r => ⟨ds, st', m', q, w, s, r⟩⟩) fun us s1 z => ?_
  obtain ⟨vs, H1, I1, rv, ds, st1, m1, q, w1, rs1, rl⟩ := z
  exact k us s1 vs H1 ds st1 m1 I1 rv q w1 rs1 rl
end
/-- a value's truth, where a bool is wanted -/
theorem pt_of {e : E} {x : Expr} (h : PE X x (tE X C Φ W e)) (he : ∀ whole, isTrue x X.env whole = (do let v ← whole; standAt x.pos; holding [v] (truthy v))) : PT X x (tT X C Φ W e) := by
  refine ⟨fun pins s σ H Q I hq => ?_⟩
  obtain ⟨m, env, st, Q0, EX0, re, rs, w, ax, aq⟩ := hq
  refine isTrue_plain (runE h I re rs w ax fun u s1 v H1 d st1 m1 I1 rv q1 w1 rs1 rd => ?_) (he _)
  obtain ⟨b, rfl, q⟩ := aq d st1 m1 H1 q1 w1 rs1
  cases rd; cases rv
  exact wpAny_truthy_bool ⟨H1, I1, q⟩
/-! ### comparisons -/
theorem s_cmp (hs : Has X L C Φ W N sc) {o : CmpO} {a b : E} {x y : Expr} {p : Pos} (ha : PE X x (tE X C Φ W a)) (hb : PE X y (tE X C Φ W b)) (hm : behindInMarks (cmOf o) y = false) : PE X (.Compare x [cmOf o] [y] p) (tE X C Φ W (.cmp o a b)) := by
  refine ⟨fun pins s σ H Q I h => ?_⟩
  obtain ⟨m, env, st, Q0, EX0, re, rs, w, ax, aq⟩ := h
  refine wpAny_Compare1 (runE ha I re rs w ax fun v s1 x1 H1 d1 st1 m1 I1 r1 w1 l1 rs1 q1 => ?_) hm
  refine runE hb I1 (re.wl rs l1) rs1 w1 (ax.wl l1) fun u s2 x2 H2 d2 st2 m2 I2 r2 w2 l2 rs2 q2 => ?_
  refine thn (cmp_ok hs.kn hs.ok.un hs.tk I2 rs2 r1 r2 (q1.wl rs1 l2) q2 w2 (ax.wl (l1.trans l2))) fun c s3 z => ?_
  obtain ⟨z, H3, I3, r3, b, st3, m3, rfl, q, l3, rs3⟩ := z
  exact ⟨.bl b, H3, I3, r3, aq _ st3 m3 H3 _ q (l1.trans (l2.trans l3)) rs3 (.bl b)⟩
theorem t_cmp (hs : Has X L C Φ W N sc) {o : CmpO} {a b : E} {x y : Expr} {p : Pos} (ha : PE X x (tE X C Φ W a)) (hb : PE X y (tE X C Φ W b)) (hm : behindInMarks (cmOf o) y = false) : PT X (.Compare x [cmOf o] [y] p) (tT X C Φ W (.cmp o a b)) := by
  refine ⟨fun pins s σ H Q I h => ?_⟩
  obtain ⟨m, env, st, Q0, EX0, re, rs, w, ax, aq⟩ := h
  refine wpAny_isTrue_Compare1 (runE ha I re rs w ax fun v s1 x1 H1 d1 st1 m1 I1 r1 w1 l1 rs1 q1 => ?_) hm
  refine runE hb I1 (re.wl rs l1) rs1 w1 (ax.wl l1) fun u s2 x2 H2 d2 st2 m2 I2 r2 w2 l2 rs2 q2 => ?_
  refine thn (cmp_ok hs.kn hs.ok.un hs.tk I2 rs2 r1 r2 (q1.wl rs1 l2) q2 w2 (ax.wl (l1.trans l2))) fun c s3 z => ?_
  obtain ⟨z, H3, I3, r3, b, st3, m3, rfl, q, l3, rs3⟩ := z
  cases r3
  obtain ⟨b', e, q⟩ := aq _ st3 m3 H3 q (l1.trans (l2.trans l3)) rs3
  cases e
  exact wpAny_truthy_bool ⟨H3, I3, q⟩
theorem s_cmp2 (hs : Has X L C Φ W N sc) {o o2 : CmpO} {a b c : E} {x y z : Expr} {p : Pos} (ha : PE X x (tE X C Φ W a)) (hb : PE X y (tE X C Φ W b)) (hc : PE X z (tE X C Φ W c)) (hm : behindInMarks (cmOf o2) z = false) : PE X (.Compare x [cmOf o, cmOf o2] [y, z] p) (tE X C Φ W (.cmp2 o o2 a b c)) := by
  refine ⟨fun pins s σ H Q I h => ?_⟩
  obtain ⟨m, env, st, Q0, EX0, re, rs, w, ax, aq⟩ := h
  refine Compare_chain (runE ha I re rs w ax fun v s1 x1 H1 d1 st1 m1 I1 r1 w1 l1 rs1 q1 => ?_) hm
  refine chain_link (runE hb I1 (re.wl rs l1) rs1 w1 (ax.wl l1) fun u s2 x2 H2 d2 st2 m2 I2 r2 w2 l2 rs2 q2 => ?_)
  refine thn (cmp_ok hs.kn hs.ok.un hs.tk I2 rs2 r1 r2 (q1.wl rs1 l2) q2 w2 (ax.wl (l1.trans l2))) fun c s3 z => ?_
  obtain ⟨z, H3, I3, r3, b, st3, m3, rfl, w3, l3, rs3⟩ := z
  cases r3
  refine wpAny_truthy_bool ?_
  have l := l1.trans (l2.trans l3)
  cases b with
  | false => exact ite_ff ⟨.bl false, H3, I3, rfl, aq _ st3 m3 H3 _ w3 l rs3 (.bl false)⟩
  | true =>
    refine ite_tt (chain_last (runE hc I3 (re.wl rs l) rs3 w3 (ax.wl l) fun u' s4 x4 H4 d4 st4 m4 I4 r4 w4 l4 rs4 q4 => ?_))
    refine thn (cmp_ok hs.kn hs.ok.un hs.tk I4 rs4 r2 r4 ((q2.wl rs2 l3).wl rs3 l4) q4 w4 (ax.wl (l.trans l4))) fun c s5 z => ?_
    obtain ⟨z, H5, I5, r5, b, st5, m5, rfl, w5, l5, rs5⟩ := z
    exact ⟨.bl b, H5, I5, r5, aq _ st5 m5 H5 _ w5 (l.trans (l4.trans l5)) rs5 (.bl b)⟩
theorem t_cmp2 (hs : Has X L C Φ W N sc) {o o2 : CmpO} {a b c : E} {x y z : Expr} {p : Pos} (ha : PE X x (tE X C Φ W a)) (hb : PE X y (tE X C Φ W b)) (hc : PE X z (tE X C Φ W c)) (hm : behindInMarks (cmOf o2) z = false) : PT X (.Compare x [cmOf o, cmOf o2] [y, z] p) (tT X C Φ W (.cmp2 o o2 a b c)) := by
  refine ⟨fun pins s σ H Q I h => ?_⟩
  obtain ⟨m, env, st, Q0, EX0, re, rs, w, ax, aq⟩ := h
  refine isTrue_chain (runE ha I re rs w ax fun v s1 x1 H1 d1 st1 m1 I1 r1 w1 l1 rs1 q1 => ?_) hm
  refine test_link (runE hb I1 (re.wl rs l1) rs1 w1 (ax.wl l1) fun u s2 x2 H2 d2 st2 m2 I2 r2 w2 l2 rs2 q2 => ?_)
  refine thn (cmp_ok hs.kn hs.ok.un hs.tk I2 rs2 r1 r2 (q1.wl rs1 l2) q2 w2 (ax.wl (l1.trans l2))) fun c s3 z => ?_
  obtain ⟨z, H3, I3, r3, b, st3, m3, rfl, w3, l3, rs3⟩ := z
  cases r3
  refine wpAny_truthy_bool ?_
  have l := l1.trans (l2.trans l3)
  cases b with
  | false =>
    obtain ⟨b', e, q⟩ := aq _ st3 m3 H3 w3 l rs3
    cases e
    exact ite_ff ⟨H3, I3, q⟩
  | true =>
    refine ite_tt (test_last (runE hc I3 (re.wl rs l) rs3 w3 (ax.wl l) fun u' s4 x4 H4 d4 st4 m4 I4 r4 w4 l4 rs4 q4 => ?_))
    refine thn (cmp_ok hs.kn hs.ok.un hs.tk I4 rs4 r2 r4 ((q2.wl rs2 l3).wl rs3 l4) q4 w4 (ax.wl (l.trans l4))) fun c s5 z => ?_
    obtain ⟨z, H5, I5, r5, b, st5, m5, rfl, w5, l5, rs5⟩ := z
    cases r5
    obtain ⟨b', e, q⟩ := aq _ st5 m5 H5 w5 (l.trans (l4.trans l5)) rs5
    cases e
    exact wpAny_truthy_bool ⟨H5, I5, q⟩
theorem isN_of {K : PySem.W.Frag} {mg : Str → Option Value} {m : Wm} {H : Hp} {st : Sto} {v : V} {u : Value} {d : D} {b : Bool} (rs : RpS K mg m H st) (r : Rp K mg m H v d) (ru : RelV v u) (h : isND st d = some b) : (u == Value.none) = b := by
  have fin : ∀ {b' : Bool}, decide (v = .non) = b' → b' = b → (u == Value.none) = b := fun e1 e2 => by rw [ru.none_iff, e1, e2]
  cases d with
  | non => cases h; cases r; exact fin rfl rfl
  | ref n =>
    have h : (match st[n]? with | none => none | some .dead => none | some _ => some false) = some b := h
    cases e : st[n]? with
    | none => rw [e] at h; cases h
    | some o =>
      rw [e] at h
      have hd : o ≠ .dead := fun z => by subst z; cases h
      obtain ⟨a, rfl, _⟩ := rs.live r e hd
      cases o <;> cases h <;> exact fin rfl rfl
  | _ => cases h; cases r <;> exact fin rfl rfl
theorem s_isN {pos' : Bool} {a : E} {x : Expr} {p p2 : Pos} {j : Nat} (ha : PE X x (tE X C Φ W a)) : PE X (.Compare x [if pos' = true then CmpOp.Is else CmpOp.IsNot] [.Constant .none j p2] p) (tE X C Φ W (.isN pos' a)) := by
  refine ⟨fun pins s σ H Q I h => ?_⟩
  obtain ⟨m, env, st, Q0, EX0, re, rs, w, ax, aq⟩ := h
  refine wpAny_Compare1 (runE ha I re rs w ax fun v s1 x1 H1 d1 st1 m1 I1 r1 w1 l1 rs1 q1 => ?_) (by rfl)
  obtain ⟨b, e, q⟩ := w1
  have e := isN_of rs1 q1 r1 e
  cases pos' with
  | true => exact Constant_none (is_none_gen ⟨.bl _, H1, I1, rfl, aq _ st1 m1 H1 _ (by rw [e]; cases b <;> exact q) l1 rs1 (.bl _)⟩)
  | false => exact Constant_none (isnot_none_gen ⟨.bl _, H1, I1, rfl, aq _ st1 m1 H1 _ (by rw [e]; cases b <;> exact q) l1 rs1 (.bl _)⟩)
theorem t_isN {pos' : Bool} {a : E} {x : Expr} {p p2 : Pos} {j : Nat} (ha : PE X x (tE X C Φ W a)) : PT X (.Compare x [if pos' = true then CmpOp.Is else CmpOp.IsNot] [.Constant .none j p2] p) (tT X C Φ W (.isN pos' a)) := by
  refine ⟨fun pins s σ H Q I h => ?_⟩
  obtain ⟨m, env, st, Q0, EX0, re, rs, w, ax, aq⟩ := h
  refine wpAny_isTrue_Compare1 (runE ha I re rs w ax fun v s1 x1 H1 d1 st1 m1 I1 r1 w1 l1 rs1 q1 => ?_) (by rfl)
  obtain ⟨b, e, q⟩ := w1
  have e := isN_of rs1 q1 r1 e
  obtain ⟨b', e', q⟩ := aq _ st1 m1 H1 q l1 rs1
  cases e'
  cases pos' with
  | true => exact Constant_none (is_none_gen (wpAny_truthy_bool ⟨H1, I1, by rw [e]; cases b <;> exact q⟩))
  | false => exact Constant_none (isnot_none_gen (wpAny_truthy_bool ⟨H1, I1, by rw [e]; cases b <;> exact q⟩))
/-! ### and, or, if -/
theorem s_bop1 {isAnd : Bool} {op : BoolOp} {a : E} {x : Expr} {p : Pos} (ha : PE X x (tE X C Φ W a)) : PE X (.BoolOp op [x] p) (tE X C Φ W (.bop isAnd (.cons a .nil))) :=
  ⟨fun pins s σ H Q I h => BoolOp_one (ha.run pins s σ H Q I h)⟩
theorem s_bop2 {isAnd : Bool} {a b : E} {r : Es} {x y : Expr} {ys : List Expr} {p : Pos} (ha : PE X x (tE X C Φ W a)) (hb : PE X (.BoolOp (if isAnd = true then BoolOp.And else BoolOp.Or) (y :: ys) p) (tE X C Φ W (.bop isAnd (.cons b r)))) :
    PE X (.BoolOp (if isAnd = true then BoolOp.And else BoolOp.Or) (x :: y :: ys) p) (tE X C Φ W (.bop isAnd (.cons a (.cons b r)))) := by
  refine ⟨fun pins s σ H Q I h => ?_⟩
  obtain ⟨m, env, st, Q0, EX0, re, rs, w, ax, aq⟩ := h
  have w : wE Φ C a env st (fun x st1 => ∃ c, x = .bl c ∧ if c = isAnd then wBop Φ C isAnd (.cons b r) env st1 Q0 EX0 else Q0 (.bl c) st1) EX0 := w
  have go : ∀ {c : Bool} {st1 : Sto} {m1 : Wm} {H1 : Hp} {s1 : Shared}, L2.Inv X pins σ H1 s1 → Wl m H m1 H1 → RpS X.K X.mg m1 H1 st1 → c = isAnd → (if c = isAnd then wBop Φ C isAnd (.cons b r) env st1 Q0 EX0 else Q0 (.bl c) st1) →
      wpAny (model X.prog X.w) X.A (eval (.BoolOp (if isAnd = true then BoolOp.And else BoolOp.Or) (y :: ys) p) X.env) (EP X pins σ Q) X.xe s1 := fun {c st1 m1 H1 s1} I1 l1 rs1 e q => by
    rw [if_pos e] at q
    exact hb.run pins s1 σ H1 Q I1 ⟨m1, env, st1, Q0, EX0, re.wl rs l1, rs1, q, ax.wl l1, aq.wl l1⟩
  cases isAnd with
  | true =>
    refine BoolOp_and (runE ha I re rs w ax fun v s1 x1 H1 d1 st1 m1 I1 r1 w1 l1 rs1 q1 => ?_)
    obtain ⟨c, rfl, q⟩ := w1
    cases q1; cases r1
    refine wpAny_truthy_bool ?_
    cases c with
    | true => exact go I1 l1 rs1 rfl q
    | false => exact ⟨.bl false, H1, I1, rfl, aq _ st1 m1 H1 _ q l1 rs1 (.bl _)⟩
  | false =>
    refine BoolOp_or (runE ha I re rs w ax fun v s1 x1 H1 d1 st1 m1 I1 r1 w1 l1 rs1 q1 => ?_)
    obtain ⟨c, rfl, q⟩ := w1
    cases q1; cases r1
    refine wpAny_truthy_bool ?_
    cases c with
    | false => exact go I1 l1 rs1 rfl q
    | true => exact ⟨.bl true, H1, I1, rfl, aq _ st1 m1 H1 _ q l1 rs1 (.bl _)⟩
theorem t_bop1 {isAnd : Bool} {a : E} {x : Expr} {p : Pos} (ha : PT X x (tT X C Φ W a)) : PW X (.BoolOp (if isAnd = true then BoolOp.And else BoolOp.Or) [x] p) (tT X C Φ W (.bop isAnd (.cons a .nil))) := by
  refine ⟨fun wh pins s σ H Q I h => ?_⟩
  cases isAnd with
  | true =>
    refine isTrue_and (thn (ha.run pins s σ H Q I h) fun c s1 e => ?_)
    cases c with
    | true => exact isTrue_and_nil e
    | false => exact e
  | false =>
    refine isTrue_or (thn (ha.run pins s σ H Q I h) fun c s1 e => ?_)
    cases c with
    | false => exact isTrue_or_nil e
    | true => exact e
theorem t_bop2 {isAnd : Bool} {a b : E} {r : Es} {x y : Expr} {ys : List Expr} {p : Pos} (ha : PT X x (tT X C Φ W a)) (hb : PW X (.BoolOp (if isAnd = true then BoolOp.And else BoolOp.Or) (y :: ys) p) (tT X C Φ W (.bop isAnd (.cons b r)))) :
    PW X (.BoolOp (if isAnd = true then BoolOp.And else BoolOp.Or) (x :: y :: ys) p) (tT X C Φ W (.bop isAnd (.cons a (.cons b r)))) := by
  refine ⟨fun wh pins s σ H Q I h => ?_⟩
  obtain ⟨m, env, st, Q0, EX0, re, rs, w, ax, aq⟩ := h
  have w : wE Φ C a env st (fun x st1 => ∃ c, x = .bl c ∧ if c = isAnd then wBop Φ C isAnd (.cons b r) env st1 Q0 EX0 else Q0 (.bl c) st1) EX0 := w
  have go : ∀ {c : Bool} {st1 : Sto} {m1 : Wm} {H1 : Hp} {s1 : Shared}, L2.Inv X pins σ H1 s1 → Wl m H m1 H1 → RpS X.K X.mg m1 H1 st1 → c = isAnd → (if c = isAnd then wBop Φ C isAnd (.cons b r) env st1 Q0 EX0 else Q0 (.bl c) st1) →
      wpAny (model X.prog X.w) X.A (isTrue (.BoolOp (if isAnd = true then BoolOp.And else BoolOp.Or) (y :: ys) p) X.env wh) (TP X pins σ Q) X.xe s1 := fun {c st1 m1 H1 s1} I1 l1 rs1 e q => by
    rw [if_pos e] at q
    exact hb.run wh pins s1 σ H1 Q I1 ⟨m1, env, st1, Q0, EX0, re.wl rs l1, rs1, q, ax.wl l1, fun d st' m' H' q w' rs' => aq d st' m' H' q (l1.trans w') rs'⟩
  cases isAnd with
  | true =>
    refine isTrue_and (runT ha I re rs w ax (fun d st' z => ⟨z.choose, z.choose_spec.1⟩) fun c s1 H1 st1 m1 I1 q1 l1 rs1 => ?_)
    obtain ⟨c', e, q⟩ := q1
    cases e
    cases c with
    | true => exact go I1 l1 rs1 rfl q
    | false =>
      obtain ⟨b', e', q⟩ := aq _ st1 m1 H1 q l1 rs1
      cases e'
      exact ⟨H1, I1, q⟩
  | false =>
    refine isTrue_or (runT ha I re rs w ax (fun d st' z => ⟨z.choose, z.choose_spec.1⟩) fun c s1 H1 st1 m1 I1 q1 l1 rs1 => ?_)
    obtain ⟨c', e, q⟩ := q1
    cases e
    cases c with
    | false => exact go I1 l1 rs1 rfl q
    | true =>
      obtain ⟨b', e', q⟩ := aq _ st1 m1 H1 q l1 rs1
      cases e'
      exact ⟨H1, I1, q⟩
theorem t_not {a : E} {x : Expr} {p : Pos} (ha : PT X x (tT X C Φ W a)) : PT X (.UnaryOp .Not x p) (tT X C Φ W (.not a)) := by
  refine ⟨fun pins s σ H Q I h => ?_⟩
  obtain ⟨m, env, st, Q0, EX0, re, rs, w, ax, aq⟩ := h
  refine isTrue_not (runT ha I re rs w ax (fun d st' z => ⟨z.choose, z.choose_spec.1⟩) fun c s1 H1 st1 m1 I1 q1 l1 rs1 => ?_)
  obtain ⟨c', e, q⟩ := q1
  cases e
  obtain ⟨b', e', q⟩ := aq _ st1 m1 H1 q l1 rs1
  cases e'
  exact ⟨H1, I1, q⟩
theorem s_ite {c a b : E} {x y z : Expr} {p : Pos} (hc : PT X x (tT X C Φ W c)) (ha : PE X y (tE X C Φ W a)) (hb : PE X z (tE X C Φ W b)) : PE X (.IfExp x y z p) (tE X C Φ W (.ite c a b)) := by
  refine ⟨fun pins s σ H Q I h => ?_⟩
  obtain ⟨m, env, st, Q0, EX0, re, rs, w, ax, aq⟩ := h
  refine wpAny_IfExp (runT hc I re rs w ax (fun d st' z => ⟨z.choose, z.choose_spec.1⟩) fun c s1 H1 st1 m1 I1 q1 l1 rs1 => ?_)
  obtain ⟨c', e, q⟩ := q1
  cases e
  cases c with
  | true => exact ha.run pins s1 σ H1 Q I1 ⟨m1, env, st1, Q0, EX0, re.wl rs l1, rs1, q, ax.wl l1, aq.wl l1⟩
  | false => exact hb.run pins s1 σ H1 Q I1 ⟨m1, env, st1, Q0, EX0, re.wl rs l1, rs1, q, ax.wl l1, aq.wl l1⟩
theorem t_ite {c a b : E} {x y z : Expr} {p : Pos} (hc : PT X x (tT X C Φ W c)) (ha : PT X y (tT X C Φ W a)) (hb : PT X z (tT X C Φ W b)) : PT X (.IfExp x y z p) (tT X C Φ W (.ite c a b)) := by
  refine ⟨fun pins s σ H Q I h => ?_⟩
  obtain ⟨m, env, st, Q0, EX0, re, rs, w, ax, aq⟩ := h
  show wpAny _ _ (isTrue x X.env (eval x X.env) >>= fun b => if b = true then isTrue y X.env (eval y X.env) else isTrue z X.env (eval z X.env)) _ _ _
  refine wpAny_bind (runT hc I re rs w ax (fun d st' z => ⟨z.choose, z.choose_spec.1⟩) fun c s1 H1 st1 m1 I1 q1 l1 rs1 => ?_)
  obtain ⟨c', e, q⟩ := q1
  cases e
  cases c with
  | true => exact ha.run pins s1 σ H1 Q I1 ⟨m1, env, st1, Q0, EX0, re.wl rs l1, rs1, q, ax.wl l1, fun d st' m' H' q w' rs' => aq d st' m' H' q (l1.trans w') rs'⟩
  | false => exact hb.run pins s1 σ H1 Q I1 ⟨m1, env, st1, Q0, EX0, re.wl rs l1, rs1, q, ax.wl l1, fun d st' m' H' q w' rs' => aq d st' m' H' q (l1.trans w') rs'⟩
/-! ### argument lists, displays -/
theorem a_nil : PA X [] (tA X C Φ W .nil) := by
  refine ⟨fun pos pins s σ H Q I h => ?_⟩
  obtain ⟨m, env, st, Q0, EX0, re, rs, w, ax, aq⟩ := h
  exact Calls.spliced_nil ⟨[], H, I, .nil, aq [] st m H [] w (Wl.refl _ _) rs .nil⟩
theorem a_cons {e : E} {es : Es} {x : Expr} {xs : List Expr} (hn : isStar x = false) (ha : PE X x (tE X C Φ W e)) (hr : PA X xs (tA X C Φ W es)) : PA X (x :: xs) (tA X C Φ W (.cons e es)) := by
  refine ⟨fun pos pins s σ H Q I h => ?_⟩
  obtain ⟨m, env, st, Q0, EX0, re, rs, w, ax, aq⟩ := h
  rw [starEach_plain hn]
  show wpAny _ _ (spliced ((false, eval x X.env) :: backTo pos (starEach xs X.env))) _ _ s
  refine Calls.spliced_cons (runE ha I re rs w ax fun u s1 x1 H1 d1 st1 m1 I1 r1 w1 l1 rs1 q1 => ?_)
  refine runA hr I1 (re.wl rs l1) rs1 w1 (ax.wl l1) fun us s2 vs H2 ds st2 m2 I2 rv w2 l2 rs2 rl => ?_
  exact ⟨x1 :: vs, H2, I2, .cons r1 rv, aq _ st2 m2 H2 _ w2 (l1.trans l2) rs2 (.cons (q1.wl rs1 l2) rl)⟩
theorem a_star {e : E} {es : Es} {x : Expr} {xs : List Expr} {p : Pos} (ha : PE X x (tE X C Φ W e)) (hr : PA X xs (tA X C Φ W es)) : PA X (.Starred x p :: xs) (tA X C Φ W (.star e es)) := by
  refine ⟨fun pos pins s σ H Q I h => ?_⟩
  obtain ⟨m, env, st, Q0, EX0, re, rs, w, ax, aq⟩ := h
  refine PySem.W.items_star (runE ha I re rs w ax fun u s1 x1 H1 d1 st1 m1 I1 r1 w1 l1 rs1 q1 => ?_) rfl
  obtain ⟨ds1, e1, w1⟩ := w1
  obtain ⟨a, vs1, rfl, hl, rl1⟩ := q1.seq rs1 e1
  obtain rfl : u = Value.ref a := r1
  have hl' : SqT X.K H1 a vs1 ∨ SqL X.K H1 a vs1 := hl.elim (fun z => .inr (SqL.of z.2)) fun z => .inl z.2
  refine StX.star_any I1 hl' fun us1 s2 I2 rv1 => ?_
  refine runA hr I2 (re.wl rs l1) rs1 w1 (ax.wl l1) fun us s3 vs H3 ds st3 m3 I3 rv w3 l3 rs3 rl => ?_
  exact ⟨vs1 ++ vs, H3, I3, rv1.append rv, aq _ st3 m3 H3 _ w3 (l1.trans l3) rs3 ((rl1.wl rs1 l3).append rl)⟩
theorem s_tup {es : Es} {xs : List Expr} {p : Pos} {k} (h : PA X xs (tA X C Φ W es)) : PE X (.Tuple xs k p) (tE X C Φ W (.tup es)) := by
  refine ⟨fun pins s σ H Q I hq => ?_⟩
  obtain ⟨m, env, st, Q0, EX0, re, rs, w, ax, aq⟩ := hq
  refine (pe_tup (t := fun σ H Q => tA X C Φ W es σ H Q) h).run pins s σ H Q I ⟨m, env, st, _, EX0, re, rs, w, ax, fun ds st' m' H' vs q w' rs' rl => ?_⟩
  obtain ⟨z, q⟩ := q
  exact ⟨by rw [rl.length]; exact z, fun p hp => aq _ st' m' _ _ q (w'.trans (Wl.upd hp)) (rs'.upd hp) (new_tup rs' hp rl)⟩
theorem s_lst {al : Bool} {es : Es} {xs : List Expr} {p : Pos} (h : PA X xs (tA X C Φ W es)) : PE X (.List xs p) (tE X C Φ W (.lst al es)) := by
  refine ⟨fun pins s σ H Q I hq => ?_⟩
  obtain ⟨m, env, st, Q0, EX0, re, rs, w, ax, aq⟩ := hq
  refine (pe_lst (t := fun σ H Q => tA X C Φ W es σ H Q) h).run pins s σ H Q I ⟨m, env, st, _, EX0, re, rs, w, ax, fun ds st' m' H' vs q w' rs' rl => ?_⟩
  refine ⟨by rw [rl.length]; exact q.1, fun p hp => ?_⟩
  obtain ⟨d, st2, m2, q2, w2, rs2, r2⟩ := EQ.lst (X := X) rs' hp rl q
  exact aq _ st2 m2 _ _ q2 (w'.trans w2) rs2 r2
end Vm

set_option Elab.async false
set_option linter.all false
set_option maxRecDepth 100000
set_option maxHeartbeats 1000000
/-! Vm, part 9: the end of a def, what it made and does not keep. -/
namespace Vm
open PySem PySem.Spec PyProof.Rows L2
section
variable {K : PySem.W.Frag} {mg : Str → Option Value} {m : Wm} {H : Hp} {n : Nat}
theorem take_get {m : Wm} {k : Nat} {a : Addr} (h : (m.take n)[k]? = some (some a)) : m[k]? = some (some a) ∧ k < n := by
  rw [List.getElem?_take] at h
  split at h
  · exact ⟨h, by assumption⟩
  · cases h
theorem take_mem {m : Wm} {a : Addr} (h : some a ∈ m.take n) : some a ∈ m := List.mem_of_mem_take h
mutual
/-- refs below n: the store above it may be cut off -/
theorem Rp.cut (hn : n ≤ m.length) : ∀ {d : D} {v : V}, Rp K mg m H v d → d.lim n = true → Rp K mg (m.take n) H v d
  | .non, _, .non, _ => .non
  | .bl _, _, .bl b, _ => .bl b
  | .int _, _, .int i, _ => .int i
  | .str _, _, .str x, _ => .str x
  | .ty _, _, .ty n, _ => .ty n
  | .glo _, _, .glo h e, _ => .glo h e
  | .scr _, _, .scr h, _ => .scr h
  | .tup ds, _, .tup h r, l => .tup h (RpL.cut hn r (show limL n ds = true from l))
  | .lst ds, _, .lst h hm r, l => .lst h (fun q => hm (take_mem q)) (RpL.cut hn r (show limL n ds = true from l))
  | .dct ds, _, .dct h hm r, l => .dct h (fun q => hm (take_mem q)) (RpK.cut hn r (show limK n ds = true from l))
  | .dcT ds, _, .dcT h hm r, l => .dcT h (fun q => hm (take_mem q)) (RpT.cut hn r (show limT n ds = true from l))
  | .obj _ ds, _, .obj h hm r, l => .obj h (fun q => hm (take_mem q)) (RpF.cut hn r (show limF n ds = true from l))
  | .exc _ d, _, .exc h h2 r, l => .exc h h2 (Rp.cut hn r (show d.lim n = true from l))
  | .ref k, _, .ref hk h, l => .ref (by have : k < n := of_decide_eq_true l; rw [List.length_take]; omega) fun a e => h a (take_get e).1
theorem RpL.cut (hn : n ≤ m.length) : ∀ {ds : List D} {vs : List V}, RpL K mg m H vs ds → limL n ds = true → RpL K mg (m.take n) H vs ds
  | [], _, .nil, _ => .nil
  | _ :: _, _, .cons r t, l => .cons (Rp.cut hn r (Bool.and_eq_true_iff.mp l).1) (RpL.cut hn t (Bool.and_eq_true_iff.mp l).2)
theorem RpK.cut (hn : n ≤ m.length) : ∀ {ds : List (Key × D)} {vs : List (Key × V)}, RpK K mg m H vs ds → limK n ds = true → RpK K mg (m.take n) H vs ds
  | [], _, .nil, _ => .nil
  | _ :: _, _, .cons r t, l => .cons (Rp.cut hn r (Bool.and_eq_true_iff.mp l).1) (RpK.cut hn t (Bool.and_eq_true_iff.mp l).2)
theorem RpT.cut (hn : n ≤ m.length) : ∀ {ds : List (List Key × D)} {vs : List (List Key × V)}, RpT K mg m H vs ds → limT n ds = true → RpT K mg (m.take n) H vs ds
  | [], _, .nil, _ => .nil
  | _ :: _, _, .cons r t, l => .cons (Rp.cut hn r (Bool.and_eq_true_iff.mp l).1) (RpT.cut hn t (Bool.and_eq_true_iff.mp l).2)
theorem RpF.cut (hn : n ≤ m.length) : ∀ {ds : List (Str × D)} {vs : List (Str × V)}, RpF K mg m H vs ds → limF n ds = true → RpF K mg (m.take n) H vs ds
  | [], _, .nil, _ => .nil
  | _ :: _, _, .cons r t, l => .cons (Rp.cut hn r (Bool.and_eq_true_iff.mp l).1) (RpF.cut hn t (Bool.and_eq_true_iff.mp l).2)
end
theorem RpO.cut (hn : n ≤ m.length) {a : Addr} {o : O} (r : RpO K mg m H a o) (l : o.lim n = true) : RpO K mg (m.take n) H a o := by
  cases r with
  | lst h r => exact .lst h (r.cut hn l)
  | dct h r => exact .dct h (r.cut hn l)
  | dcT h r => exact .dcT h (r.cut hn l)
  | ins h r => exact .ins h (r.cut hn l)
mutual
/-- what stands has its refs within the store -/
theorem Rp.lims (hn : m.length ≤ n) : ∀ {d : D} {v : V}, Rp K mg m H v d → d.lim n = true
  | .non, _, _ => rfl
  | .bl _, _, _ => rfl
  | .int _, _, _ => rfl
  | .str _, _, _ => rfl
  | .ty _, _, _ => rfl
  | .glo _, _, _ => rfl
  | .scr _, _, _ => rfl
  | .tup ds, _, .tup h r => (show limL n ds = true from RpL.lims hn r)
  | .lst ds, _, .lst h hm r => (show limL n ds = true from RpL.lims hn r)
  | .dct ds, _, .dct h hm r => (show limK n ds = true from RpK.lims hn r)
  | .dcT ds, _, .dcT h hm r => (show limT n ds = true from RpT.lims hn r)
  | .obj _ ds, _, .obj h hm r => (show limF n ds = true from RpF.lims hn r)
  | .exc _ d, _, .exc h h2 r => (show d.lim n = true from Rp.lims hn r)
  | .ref k, _, .ref hk h => decide_eq_true (Nat.lt_of_lt_of_le hk hn)
theorem RpL.lims (hn : m.length ≤ n) : ∀ {ds : List D} {vs : List V}, RpL K mg m H vs ds → limL n ds = true
  | [], _, .nil => rfl
  | _ :: _, _, .cons r t => Bool.and_eq_true_iff.mpr ⟨Rp.lims hn r, RpL.lims hn t⟩
theorem RpK.lims (hn : m.length ≤ n) : ∀ {ds : List (Key × D)} {vs : List (Key × V)}, RpK K mg m H vs ds → limK n ds = true
  | [], _, .nil => rfl
  | _ :: _, _, .cons r t => Bool.and_eq_true_iff.mpr ⟨Rp.lims hn r, RpK.lims hn t⟩
theorem RpT.lims (hn : m.length ≤ n) : ∀ {ds : List (List Key × D)} {vs : List (List Key × V)}, RpT K mg m H vs ds → limT n ds = true
  | [], _, .nil => rfl
  | _ :: _, _, .cons r t => Bool.and_eq_true_iff.mpr ⟨Rp.lims hn r, RpT.lims hn t⟩
theorem RpF.lims (hn : m.length ≤ n) : ∀ {ds : List (Str × D)} {vs : List (Str × V)}, RpF K mg m H vs ds → limF n ds = true
  | [], _, .nil => rfl
  | _ :: _, _, .cons r t => Bool.and_eq_true_iff.mpr ⟨Rp.lims hn r, RpF.lims hn t⟩
end
theorem RpO.lims (hn : m.length ≤ n) {a : Addr} {o : O} (r : RpO K mg m H a o) : o.lim n = true := by
  cases r with
  | lst h r => exact r.lims hn
  | dct h r => exact r.lims hn
  | dcT h r => exact r.lims hn
  | ins h r => exact r.lims hn
theorem cut_out {st : Sto} (rs : RpS K mg m H st) {k : Nat} {a : Addr} (hk : m[k]? = some (some a)) (hn : n ≤ k) : some a ∉ m.take n := fun q => by
  obtain ⟨i, hi⟩ := List.mem_iff_getElem?.mp q
  obtain ⟨h1, h2⟩ := take_get hi
  have := rs.inj i k a h1 hk
  omega
mutual
theorem Rp.fz {st : Sto} (rs : RpS K mg m H st) (hn : n ≤ m.length) : ∀ {d r : D} {v : V}, Fz st n d r → Rp K mg m H v d → Rp K mg (m.take n) H v r
  | _, _, _, .keep l, q => q.cut hn l
  | _, _, _, .tup h, q => by cases q with | tup hs r => exact .tup hs (RpL.fz rs hn h r)
  | _, _, _, .lst h, q => by cases q with | lst hs hm r => exact .lst hs (fun z => hm (take_mem z)) (RpL.fz rs hn h r)
  | _, _, _, .exc h, q => by cases q with | exc h1 h2 r => exact .exc h1 h2 (Rp.fz rs hn h r)
  | _, _, _, .rlst hk e h, q => by
    obtain ⟨a, rfl, hm, ro⟩ := rs.live q e (by intro z; cases z)
    cases ro with | lst ha r => exact .lst ha (cut_out rs hm hk) (RpL.fz rs hn h r)
  | _, _, _, .rdct hk e h, q => by
    obtain ⟨a, rfl, hm, ro⟩ := rs.live q e (by intro z; cases z)
    cases ro with | dct ha r => exact .dct ha (cut_out rs hm hk) (RpK.fz rs hn h r)
  | _, _, _, .rdcT hk e h, q => by
    obtain ⟨a, rfl, hm, ro⟩ := rs.live q e (by intro z; cases z)
    cases ro with | dcT ha r => exact .dcT ha (cut_out rs hm hk) (RpT.fz rs hn h r)
  | _, _, _, .rins hk e h, q => by
    obtain ⟨a, rfl, hm, ro⟩ := rs.live q e (by intro z; cases z)
    cases ro with | ins ha r => exact .obj ha (cut_out rs hm hk) (RpF.fz rs hn h r)
theorem RpL.fz {st : Sto} (rs : RpS K mg m H st) (hn : n ≤ m.length) : ∀ {ds es : List D} {vs : List V}, FzL st n ds es → RpL K mg m H vs ds → RpL K mg (m.take n) H vs es
  | _, _, _, .nil, .nil => .nil
  | _, _, _, .cons h t, .cons r q => .cons (Rp.fz rs hn h r) (RpL.fz rs hn t q)
theorem RpK.fz {st : Sto} (rs : RpS K mg m H st) (hn : n ≤ m.length) : ∀ {ds es : List (Key × D)} {vs : List (Key × V)}, FzK st n ds es → RpK K mg m H vs ds → RpK K mg (m.take n) H vs es
  | _, _, _, .nil, .nil => .nil
  | _, _, _, .cons h t, .cons r q => .cons (Rp.fz rs hn h r) (RpK.fz rs hn t q)
theorem RpT.fz {st : Sto} (rs : RpS K mg m H st) (hn : n ≤ m.length) : ∀ {ds es : List (List Key × D)} {vs : List (List Key × V)}, FzT st n ds es → RpT K mg m H vs ds → RpT K mg (m.take n) H vs es
  | _, _, _, .nil, .nil => .nil
  | _, _, _, .cons h t, .cons r q => .cons (Rp.fz rs hn h r) (RpT.fz rs hn t q)
theorem RpF.fz {st : Sto} (rs : RpS K mg m H st) (hn : n ≤ m.length) : ∀ {ds es : List (Str × D)} {vs : List (Str × V)}, FzF st n ds es → RpF K mg m H vs ds → RpF K mg (m.take n) H vs es
  | _, _, _, .nil, .nil => .nil
  | _, _, _, .cons h t, .cons r q => .cons (Rp.fz rs hn h r) (RpF.fz rs hn t q)
end
theorem exit_ok {m' : Wm} {H' : Hp} {st st' : Sto} {Q : QD} {d : D} {v : V} (w : Wl m H m' H') (rs : RpS K mg m H st) (rs' : RpS K mg m' H' st') (r : Rp K mg m' H' v d) (h : wExit st Q d st') :
    ∃ d2 st2 m2, Q d2 st2 ∧ Wl m H m2 H' ∧ RpS K mg m2 H' st2 ∧ Rp K mg m2 H' v d2 := by
  obtain ⟨n, d2, h1, h2, h3, h4, q⟩ := h
  have e1 := rs.len
  have e2 := rs'.len
  have hn : n ≤ m'.length := by omega
  refine ⟨d2, st'.take n, m'.take n, q, ⟨?_, fun k hk => ?_, w.stay, w.here, fun a ha => w.new a (take_mem ha)⟩, ⟨?_, fun k a hk => ?_, fun i j a hi hj => rs'.inj i j a (take_get hi).1 (take_get hj).1, fun k hk => ?_, rs'.tab⟩, r.fz rs' hn h4⟩
  · rw [List.length_take]; omega
  · rw [List.getElem?_take_of_lt (by omega)]; exact w.old k hk
  · rw [List.length_take, List.length_take]; omega
  · obtain ⟨hk, hkn⟩ := take_get hk
    obtain ⟨o, ho, ro⟩ := rs'.at_ k a hk
    refine ⟨o, by rw [List.getElem?_take_of_lt hkn]; exact ho, ro.cut hn ?_⟩
    rcases h3 k o hkn ho with e | e
    · have hkl : k < st.length := (List.getElem?_eq_some_iff.mp e).1
      rcases w.old k (by omega) with z | z
      · rw [hk] at z
        obtain ⟨o', e', ro'⟩ := rs.at_ k a z.symm
        rw [e] at e'; cases e'
        exact ro'.lims (by omega)
      · rw [hk] at z; cases z
    · exact e
  · rw [List.getElem?_take] at hk ⊢
    split at hk
    · rw [if_pos (by assumption)]; exact rs'.dead k hk
    · cases hk
end
end Vm

set_option Elab.async false
set_option linter.all false
set_option maxRecDepth 100000
set_option maxHeartbeats 1000000
/-! Vm, part 10: calls, attributes, subscripts. -/
namespace Vm
open PySem PySem.Spec PyProof.Rows L2
variable {X : Cx} {L : Lx} {C : Ctx} {Φ : Fn} {W : WX} {N : List Str} {sc : Scope}
section
variable {pins : List (Addr × Obj)} {σ : L2.St} {H : Hp} {s : Shared} {m : Wm} {st : Sto} {env : Slots} {EX0 : QD}
/-- the arguments, then the call of what is kept -/
theorem callA {f : Value} {first : List Value} {es : Es} {xs : List Expr} {pos : Pos} (hk : PySem.W.keepIn X.K f = true) (hm : mEs L N sc es xs = true) (hp : xs.any isStar = false) (ha : PA X xs (tA X C Φ W es))
    (I : L2.Inv X pins σ H s) (re : RpE X.K X.mg m H σ env) (rs : RpS X.K X.mg m H st) {Q1 : List D → Sto → Prop} (w : wEs Φ C es env st Q1 EX0) (ax : AfX X.K X.mg m H EX0 (fun c d H' => W c d σ H')) {P : Value → Shared → Prop}
    (k : ∀ us s1 vs H1 ds st1 m1, L2.Inv X pins σ H1 s1 → Vals vs us → Q1 ds st1 → Wl m H m1 H1 → RpS X.K X.mg m1 H1 st1 → RpL X.K X.mg m1 H1 vs ds → wpAny (model X.prog X.w) X.A (call f (first ++ us)) P X.xe s1) :
    wpAny (model X.prog X.w) X.A (callWith pos f first (backTo pos (starEach xs X.env)) []) P X.xe s := by
  cases xs with
  | nil =>
    cases es with
    | nil => exact PySem.W.callWith_K0 I.kIn hk (k [] s [] H [] st m I .nil w (Wl.refl _ _) rs .nil)
    | cons e r => cases hm
    | star e r => cases hm
  | cons x xs =>
    have hp' := hp
    rw [List.any_cons, Bool.or_eq_false_iff] at hp'
    exact PySem.W.callWith_K (h₀ := X.base) I.ok.mod.kin hk (runA ha I re rs w ax fun us s1 vs H1 ds st1 m1 I1 rv q w1 rs1 rl => ⟨I1.kIn, k us s1 vs H1 ds st1 m1 I1 rv q w1 rs1 rl⟩) (starEach_plain hp'.1) (plain_any hp'.2)
end
theorem s_call (hs : Has X L C Φ W N sc) {f : Str} {es : Es} {xs : List Expr} {p pos : Pos} (hg : gloB sc f = true) (hf : L.fns.contains f = true) (hm : mEs L N sc es xs = true) (hp : xs.any isStar = false) (ha : PA X xs (tA X C Φ W es)) :
    PE X (.Call (.Name f p) xs [] pos) (tE X C Φ W (.call f es)) := by
  refine ⟨fun pins s σ H Q I h => ?_⟩
  obtain ⟨m, env, st, Q0, EX0, re, rs, w, ax, aq⟩ := h
  obtain ⟨g1, g2, _⟩ := glo_of hs.ok hg
  obtain ⟨a, hm', hk, cal⟩ := hs.kn.fns f hf
  refine wpAny_Call_Name_kw (ld_glob I g1 hm' ?_ g2)
  refine callA (first := []) hk hm hp ha I re rs w ax fun us s1 vs H1 ds st1 m1 I1 rv q w1 rs1 rl => ?_
  exact thn (cal.run hs.tk I1 rv rs1 rl q (ax.wl w1)) fun _ _ z => eqEP aq w1 z
theorem make_ok (hs : Has X L C Φ W N sc) {c : Str} (hc : L.cls.contains c = true) {pins : List (Addr × Obj)} {σ : L2.St} {H : Hp} {s : Shared} {m : Wm} {st : Sto} {Q0 EX0 : QD} (I : L2.Inv X pins σ H s) {us : List Value} {vs : List V} {ds : List D} (r : Vals vs us) (rs : RpS X.K X.mg m H st) (rl : RpL X.K X.mg m H vs ds)
    (h : Φ c ds st Q0 EX0) (ax : AfX X.K X.mg m H EX0 (fun c d H' => W c d σ H')) : wpAny (model X.prog X.w) X.A (call (.ref (He.ga X.K c)) us) (EP X pins σ (EQ X m H Q0)) X.xe s := by
  obtain ⟨_, f, φ, M, cal, hφ⟩ := hs.kn.mkc c hc
  obtain ⟨g, k, fd, ps, n, F, hn, hl, room, gd, bd⟩ := cal.ok
  have h' := hφ ds st Q0 EX0 h
  refine runMk M F room gd bd hs.tk (fun _ _ _ z => z) I r fun x dx hx hdx hne => ?_
  have hx' : L2.upd H dx (.own x) x = none := by rw [upd_ne (Ne.symm hne)]; exact hx
  have w1 : Wl m H m (L2.upd H dx (.own x)) := Wl.upd hdx
  have rs1 := rs.upd (o := .own x) hdx
  have w2 : Wl m (L2.upd H dx (.own x)) (m ++ [some x]) (L2.upd (L2.upd H dx (.own x)) x (.ins (He.ga X.K c) dx [])) := Wl.push hx'
  have rs2 : RpS X.K X.mg (m ++ [some x]) (L2.upd (L2.upd H dx (.own x)) x (.ins (He.ga X.K c) dx [])) (st ++ [.ins c []]) := rs1.push hx' (.ins upd_same .nil)
  have w := w1.trans w2
  have rl2 := rl.wl rs w
  have hself : Rp X.K X.mg (m ++ [some x]) (L2.upd (L2.upd H dx (.own x)) x (.ins (He.ga X.K c) dx [])) (.ref x) (.ref st.length) := .ref (by simp [rs.len]) fun a e => by
    rw [← rs.len, List.getElem?_append_right (Nat.le_refl _)] at e
    simp at e
    rw [e]
  refine ⟨by rw [List.length_cons, rl.length]; exact hl _ _ _ _ h', m ++ [some x], st ++ [.ins c []], .ref st.length :: ds, _, EX0, rs2, .cons hself rl2, h', fun d st' m' H' v q w' rs' rd => ?_, ax.wl w⟩
  obtain ⟨rfl, q⟩ := q
  refine ⟨by cases rd; rfl, ?_⟩
  have hx2 := hself.wl rs2 w'
  exact exit_ok (w.trans w') rs rs' hx2 q
theorem s_make (hs : Has X L C Φ W N sc) {f : Str} {es : Es} {xs : List Expr} {p pos : Pos} (hg : gloB sc f = true) (hf : L.cls.contains f = true) (hm : mEs L N sc es xs = true) (hp : xs.any isStar = false) (ha : PA X xs (tA X C Φ W es)) :
    PE X (.Call (.Name f p) xs [] pos) (tE X C Φ W (.make f es)) := by
  refine ⟨fun pins s σ H Q I h => ?_⟩
  obtain ⟨m, env, st, Q0, EX0, re, rs, w, ax, aq⟩ := h
  obtain ⟨g1, g2, _⟩ := glo_of hs.ok hg
  obtain ⟨hm', f', φ, M, _⟩ := hs.kn.mkc f hf
  refine wpAny_Call_Name_kw (ld_glob I g1 hm' ?_ g2)
  refine callA (first := []) M.kp hm hp ha I re rs w ax fun us s1 vs H1 ds st1 m1 I1 rv q w1 rs1 rl => ?_
  exact thn (make_ok hs hf I1 rv rs1 rl q (ax.wl w1)) fun _ _ z => eqEP aq w1 z
theorem RpF.none {K : PySem.W.Frag} {mg : Str → Option Value} {m : Wm} {H : Hp} {f : Str} : ∀ {ds : List (Str × D)} {vs : List (Str × V)}, RpF K mg m H vs ds → ds.lookup f = none → vs.lookup f = none
  | [], _, .nil, _ => rfl
  | (k, d) :: ds, _, .cons r t, h => by
    rw [List.lookup_cons] at h ⊢
    cases e : f == k with
    | true => rw [e] at h; cases h
    | false => rw [e] at h; exact RpF.none t h
theorem RpF.some {K : PySem.W.Frag} {mg : Str → Option Value} {m : Wm} {H : Hp} {f : Str} {d : D} : ∀ {ds : List (Str × D)} {vs : List (Str × V)}, RpF K mg m H vs ds → ds.lookup f = some d → ∃ v, vs.lookup f = some v ∧ Rp K mg m H v d
  | [], _, .nil, h => by cases h
  | (k, d) :: ds, _, .cons (v := v) r t, h => by
    rw [List.lookup_cons] at h ⊢
    cases e : f == k with
    | true => rw [e] at h; cases h; exact ⟨v, rfl, r⟩
    | false => rw [e] at h; exact RpF.some t h
theorem s_meth (hs : Has X L C Φ W N sc) {f : Str} {o : E} {es : Es} {x : Expr} {xs : List Expr} {apos pos : Pos} (h0 : call0 x = false) (hline : (apos.endLine == pos.line) = true) (hlen : xs.length < 29) (hm : mEs L N sc es xs = true) (hp : xs.any isStar = false)
    (ho : PE X x (tE X C Φ W o)) (ha : PA X xs (tA X C Φ W es)) : PE X (.Call (.Attribute x f apos) xs [] pos) (tE X C Φ W (.meth f o es)) := by
  refine ⟨fun pins s σ H Q I h => ?_⟩
  obtain ⟨m, env, st, Q0, EX0, re, rs, w, ax, aq⟩ := h
  have ht : eval (.Call (.Attribute x f apos) xs [] pos) X.env = (do
      let ov ← eval x X.env
      standAt apos.atName
      let (g, first) ← holding [ov] (getMethod ov f (plainOf x X.env))
      callWith pos g first (backTo pos (starEach xs X.env)) (backToKw pos (keywordEach [] X.env))) := by
    rw [arm_eval_Call, base_plain h0]
    refine congrArg _ (funext fun ov => congrArg _ (funext fun _ => ?_))
    refine mcall_line ?_ hline
    have e1 : (backTo pos (starEach xs X.env)).all (fun x => !x.1) = true := by
      have := plain_any (env := X.env) (pos := pos) hp
      rw [List.all_eq_not_any_not]
      simpa using this
    have e3 : (backToKw pos (keywordEach [] X.env)).all (fun x => x.1.isSome) = true := rfl
    have e2 : decide (xs.length + ([] : List Keyword).length + (if ([] : List Keyword).isEmpty then 0 else 1) < 30) = true := decide_eq_true (by simpa using (by omega : xs.length < 30))
    have e4 : ((backTo pos (starEach xs X.env)).all (fun x => !x.1) && (backToKw pos (keywordEach [] X.env)).all (fun x => x.1.isSome) && decide (xs.length + ([] : List Keyword).length + (if ([] : List Keyword).isEmpty then 0 else 1) < 30)) = true := by rw [e1, e2, e3]; rfl
    exact e4
  refine PySem.W.methodCall_KW (pl := plainOf x X.env) (runE ho I re rs w ax fun u s1 v H1 d st1 m1 I1 rv w1 l1 rs1 rd => ?_) ht
  obtain ⟨c, fs, g, hi, hn, hmt, w1⟩ := w1
  obtain ⟨a, dx, vs, rfl, hA, rf⟩ := rd.ins rs1 hi
  obtain rfl : u = Value.ref a := rv
  obtain ⟨hc, _, b, M, cal⟩ := hs.kn.mth c f g hmt
  refine getmeth_ok I1 hA (hs.kn.cls c hc).cl M (rf.none hn) ?_
  refine callA (first := [.ref a]) M.kp hm hp ha I1 (re.wl rs l1) rs1 w1 (ax.wl l1) fun us s2 ws H2 ds st2 m2 I2 rw2 q w2 rs2 rl => ?_
  exact thn (cal.run (vs := .ref a :: ws) hs.tk I2 (.cons rfl rw2) rs2 (.cons (rd.wl rs1 w2) rl) q (ax.wl (l1.trans w2))) fun _ _ z => eqEP aq (l1.trans w2) z
theorem s_attr (hs : Has X L C Φ W N sc) {f : Str} {o : E} {x : Expr} {pos : Pos} (h0 : call0 x = false) (ho : PE X x (tE X C Φ W o)) : PE X (.Attribute x f pos) (tE X C Φ W (.attr f o)) := by
  refine ⟨fun pins s σ H Q I h => ?_⟩
  obtain ⟨m, env, st, Q0, EX0, re, rs, w, ax, aq⟩ := h
  refine attr_of (base_plain h0) (runE ho I re rs w ax fun u s1 v H1 d st1 m1 I1 rv w1 l1 rs1 rd => ?_)
  have w1 : (match insOf st1 d with
    | some p => match C.prp p.1 f with
      | some g => Φ g [d] st1 Q0 fun _ _ => False
      | none => ∃ v, C.fld p.1 f = true ∧ p.2.lookup f = some v ∧ Q0 v st1
    | none => ∃ c v, d = .exc c v ∧ (C.exs.lookup c).isSome = true ∧ f = "value" ∧ Q0 v st1) := w1
  cases e : insOf st1 d with
  | none =>
    rw [e] at w1
    obtain ⟨c, dv, rfl, hc, rfl, q⟩ := w1
    cases rd with
    | exc hA hd rv2 =>
      obtain rfl := rv
      exact exc_value (hs.kn.exk c hc) I1 hA hd fun u s2 I2 ru => ⟨_, H1, I2, ru, aq _ _ _ _ _ q l1 rs1 rv2⟩
  | some p =>
    rw [e] at w1
    obtain ⟨c, fs⟩ := p
    obtain ⟨a, dx, vs, rfl, hA, rf⟩ := rd.ins rs1 e
    obtain rfl : u = Value.ref a := rv
    dsimp only at w1
    cases e2 : C.prp c f with
    | some g =>
      rw [e2] at w1
      obtain ⟨hc, p, b, hp, cal⟩ := hs.kn.prp c f g e2
      obtain ⟨g', k, fd, ps, n, F, hn, hl, room, gd, bd⟩ := cal.ok
      refine thn (runProp (Q := EQ X m1 H1 Q0) I1 hA (hs.kn.cls c hc).cl hp F room gd bd ⟨by rw [show ([V.ref a] : List V).length = [d].length from rfl]; exact hl _ _ _ _ w1, m1, st1, [d], Q0, fun _ _ => False, rs1, .cons rd .nil, w1, fun d st' m' H' v q w s r => ⟨d, st', m', q, w, s, r⟩, fun _ _ _ _ _ _ z => z.elim⟩) fun _ _ z => eqEP aq l1 z
    | none =>
      rw [e2] at w1
      obtain ⟨dv, hf, hl, q⟩ := w1
      obtain ⟨v, hv, rv⟩ := rf.some hl
      have hc : (C.cl c).isSome = true := by
        unfold Ctx.fld at hf
        cases e3 : C.cl c with
        | none => rw [e3] at hf; cases hf
        | some _ => rfl
      exact getattr_ok I1 hA (hs.kn.cls c hc).cl (hs.kn.fld c f hf) hv fun u' s2 I2 ru => ⟨v, H1, I2, ru, aq _ _ _ _ _ q l1 rs1 rv⟩
/-! ### subscripts -/
theorem scr_sq {K : PySem.W.Frag} {H : Hp} {a : Addr} {xs : List Int} (h : SqL K (fun _ => none) a (xs.map V.int) ∨ (∃ o, H a = some (.frz o (.lst (xs.map V.int))))) : SqL K H a (xs.map V.int) := by
  rcases h with h | ⟨o, h⟩
  · rcases h with (h | ⟨o, h⟩) | h
    · cases h
    · cases h
    · exact .inr h
  · exact .inl (.inr ⟨o, h⟩)
theorem plain_ix {x : Expr} (h : plainIx x = true) : PlainIx x ∧ NoSl x := by
  cases x with
  | Slice a b c p => cases h
  | _ => exact ⟨fun _ _ => rfl, fun _ _ => rfl⟩
theorem atI_rel {K : PySem.W.Frag} {mg : Str → Option Value} {m : Wm} {H : Hp} {ds : List D} {vs : List V} {k : Int} {d : D} (r : RpL K mg m H vs ds) (h : atI ds k = some d) : ∃ v, atI vs k = some v ∧ Rp K mg m H v d := by
  unfold atI at h ⊢
  rw [r.length]
  obtain ⟨j, e, h⟩ := Option.bind_eq_some_iff.mp h
  rw [e]
  exact r.get h
theorem s_idx (hs : Has X L C Φ W N sc) {o i : E} {x y : Expr} {pos : Pos} (hp : plainIx y = true) (ho : PE X x (tE X C Φ W o)) (hi : PE X y (tE X C Φ W i)) : PE X (.Subscript x y pos) (tE X C Φ W (.idx o i)) := by
  refine ⟨fun pins s σ H Q I h => ?_⟩
  obtain ⟨m, env, st, Q0, EX0, re, rs, w, ax, aq⟩ := h
  obtain ⟨p1, p2⟩ := plain_ix hp
  refine Subscript_ (runE ho I re rs w ax fun v s1 x1 H1 d1 st1 m1 I1 r1 w1 l1 rs1 q1 => ?_)
  refine runE hi I1 (re.wl rs l1) rs1 w1 (ax.wl l1) fun u s2 x2 H2 d2 st2 m2 I2 r2 w2 l2 rs2 q2 => ?_
  have q1 := q1.wl rs1 l2
  have l := l1.trans l2
  have w2 : (match seqOf st2 d1 with
    | some xs => ∃ k v, d2 = .int k ∧ atI xs k = some v ∧ Q0 v st2
    | none => match dctOf st2 d1 with
      | some kvs => ∃ k v, keyOf d2 = some k ∧ valD kvs k = some v ∧ Q0 v st2
      | none => (∃ s k c, d1 = .str s ∧ d2 = .int k ∧ s.length ≤ sizeLine ∧ atI s.cps.toList k = some c ∧ Q0 (.str ⟨#[c]⟩) st2) ∨ ∃ xs k c, d1 = .scr xs ∧ d2 = .int k ∧ atI xs k = some c ∧ Q0 (.int c) st2) := w2
  cases e : seqOf st2 d1 with
  | some xs =>
    rw [e] at w2
    obtain ⟨k, dv, rfl, ha, q⟩ := w2
    obtain ⟨a, vs, rfl, hl, rl⟩ := q1.seq rs2 e
    obtain ⟨w', hw, rw'⟩ := atI_rel rl ha
    cases q2
    rcases hl with ⟨_, hl⟩ | ⟨_, hl⟩
    · exact ix_list x y pins s2 σ H2 _ _ v u Q I2 r1 r2 ⟨a, vs, k, w', rfl, rfl, SqL.of hl, hw, aq _ st2 m2 H2 _ q l rs2 rw'⟩ (p1 _ _)
    · exact ix_tup x y pins s2 σ H2 _ _ v u Q I2 r1 r2 ⟨a, vs, k, w', rfl, rfl, hl, hw, aq _ st2 m2 H2 _ q l rs2 rw'⟩ (p1 _ _)
  | none =>
    rw [e] at w2
    cases e2 : dctOf st2 d1 with
    | some kvs =>
      rw [e2] at w2
      obtain ⟨k, dv, hk, hv, q⟩ := w2
      obtain ⟨a, vs, rfl, hA, rk⟩ := q1.dict rs2 e2
      have := q2.key hk
      subst this
      cases r1
      rcases rk.val k with ⟨h1, _⟩ | ⟨d', v', h1, h2, h3⟩
      · rw [h1] at hv; cases hv
      · rw [h1] at hv; cases hv
        have dg : DGet H2 a (kV k) (some v') := by rw [← h2]; exact DGet.k hA
        refine tail_any (ops := [.ref a, u]) (T := "dict") (dict_typeIs I2 dg) F.slot_dict_getitem.lookup ?_ (p2 _ _)
        exact d_getItem (by have := hs.ok.un; omega) I2 dg r2 fun w' s' I' rw' => ⟨v', H2, I', rw', aq _ st2 m2 H2 _ q l rs2 h3⟩
    | none =>
      rw [e2] at w2
      rcases w2 with ⟨z, k, c, rfl, rfl, hz, hc, q⟩ | ⟨xs, k, c, rfl, rfl, hc, q⟩
      · cases q1; cases q2
        exact ix_str x y pins s2 σ H2 _ _ v u Q I2 r1 r2 ⟨z, k, c, rfl, rfl, hz, hc, aq _ st2 m2 H2 _ q l rs2 (.str _)⟩ (p1 _ _)
      · cases q2
        cases q1 with
        | scr hs' =>
          have hv : atI (xs.map V.int) k = some (V.int c) := by
            unfold atI at hc ⊢
            rw [List.length_map]
            obtain ⟨j, e, h⟩ := Option.bind_eq_some_iff.mp hc
            rw [e]
            show (xs.map V.int)[j]? = _
            rw [List.getElem?_map, h]; rfl
          exact ix_list x y pins s2 σ H2 _ _ v u Q I2 r1 r2 ⟨_, xs.map V.int, k, V.int c, rfl, rfl, scr_sq hs', hv, aq _ st2 m2 H2 _ q l rs2 (.int _)⟩ (p1 _ _)
end Vm

set_option Elab.async false
set_option linter.all false
set_option maxRecDepth 100000
set_option maxHeartbeats 1000000
/-! Vm, part 11: slices, methods of lists and texts. -/
namespace Vm
open PySem PySem.Spec PyProof.Rows L2
variable {X : Cx} {L : Lx} {C : Ctx} {Φ : Fn} {W : WX} {N : List Str} {sc : Scope}
def tO (X : Cx) (C : Ctx) (Φ : Fn) (W : WX) (e : Eo) : TO := fun σ H Q => ∃ m env st Q0 EX0, RpE X.K X.mg m H σ env ∧ RpS X.K X.mg m H st ∧ wEo Φ C e env st Q0 EX0 ∧ AfX X.K X.mg m H EX0 (fun c d H' => W c d σ H') ∧
  ∀ l st' m' H', Q0 l st' → Wl m H m' H' → RpS X.K X.mg m' H' st' → Q l H'
theorem o_none : PO X none (tO X C Φ W .none) := by
  refine ⟨fun pins s σ H Q I h => ?_⟩
  obtain ⟨m, env, st, Q0, EX0, re, rs, w, ax, aq⟩ := h
  exact po_none.run pins s σ H Q I (aq none st m H w (Wl.refl _ _) rs)
theorem o_some {e : E} {x : Expr} (h : PE X x (tE X C Φ W e)) : PO X (some x) (tO X C Φ W (.some e)) := by
  refine ⟨fun pins s σ H Q I hq => ?_⟩
  obtain ⟨m, env, st, Q0, EX0, re, rs, w, ax, aq⟩ := hq
  refine (po_some h).run pins s σ H Q I ⟨m, env, st, _, EX0, re, rs, w, ax, fun d st' m' H' v q w' rs' r => ?_⟩
  obtain ⟨i, rfl, q⟩ := q
  cases r
  exact ⟨i, rfl, aq _ st' m' H' q w' rs'⟩
theorem cut_whole {α : Type} {xs : List α} {lo hi : Option Int} (h : HT.sIx xs.length 0 lo = 0 ∧ HT.sIx xs.length xs.length hi = xs.length) : cutL xs lo hi = xs := by
  unfold cutL
  rw [h.1, h.2]
  simp
theorem cut_rel {K : PySem.W.Frag} {mg : Str → Option Value} {m : Wm} {H : Hp} {ds : List D} {vs : List V} {lo hi : Option Int} (r : RpL K mg m H vs ds) : RpL K mg m H (cutV vs lo hi) (cutL ds lo hi) := by
  unfold cutV cutL
  rw [r.length]
  exact (r.drop _).take _
theorem cutL_len {α : Type} (xs : List α) (lo hi : Option Int) : (cutL xs lo hi).length ≤ xs.length := by
  unfold cutL
  rw [List.length_take, List.length_drop]
  omega
theorem slc_ok {lo hi : Option Int} {pins : List (Addr × Obj)} {σ : L2.St} {H : Hp} {s : Shared} {m : Wm} {st : Sto} {x : V} {v vl vu : Value} {d : D} {Q0 : QD} {sl : Addr} (I : L2.Inv X pins σ H s) (rs : RpS X.K X.mg m H st) (rx : RelV x v) (px : Rp X.K X.mg m H x d)
    (hs : s.heap.IsSliceOf sl vl vu .none) (pl : IsPart vl lo) (pu : IsPart vu hi) (h : slcD d lo hi st Q0) :
    ∃ T id, typeLookup (.type T) "__getitem__" = pure (some (.builtin id)) ∧ s.TypeIs v T ∧ wpAny (model X.prog X.w) X.A (getItem v (.ref sl)) (EP X pins σ (EQ X m H Q0)) X.xe s := by
  have gen : (∃ xs, isLst st d = true ∧ seqOf st d = some xs ∧ Q0 (.lst (cutL xs lo hi)) st) →
      ∃ T id, typeLookup (.type T) "__getitem__" = pure (some (.builtin id)) ∧ s.TypeIs v T ∧ wpAny (model X.prog X.w) X.A (getItem v (.ref sl)) (EP X pins σ (EQ X m H Q0)) X.xe s := fun h => by
    obtain ⟨xs, hl, hx, q⟩ := h
    obtain ⟨a, vs, rfl, hA, rl⟩ := px.list rs hl hx
    refine sl_list pins s σ H _ v vl vu lo hi sl _ I rx hs pl pu ⟨a, vs, rfl, SqL.of hA, fun p hp => ?_⟩
    exact EQ.lst (al := false) rs hp (cut_rel rl) ⟨Nat.le_trans (cutL_len _ _ _) (by rw [← rl.length]; exact (I.list (SqL.of hA)).choose_spec.2.2), q⟩
  cases d with
  | tup xs =>
    have h : Q0 (.tup (cutL xs lo hi)) st := h
    cases px with
    | tup hA rl =>
      refine sl_tupA pins s σ H _ v vl vu lo hi sl _ I rx hs pl pu ⟨_, _, rfl, hA, fun hw => ?_, fun hw p hp => ?_⟩
      · rw [cut_whole (by rw [← rl.length]; exact hw)] at h
        exact EQ.of rs (.tup hA rl) h
      · exact EQ.tup rs hp (cut_rel rl) h
  | str z =>
    have h : z.length ≤ sizeLine ∧ Q0 (.str (cutS z lo hi)) st := h
    cases px
    exact sl_str pins s σ H _ v vl vu lo hi sl _ I rx hs pl pu ⟨z, rfl, h.1, EQ.of rs (.str _) h.2⟩
  | _ => exact gen h
theorem s_slc {o : E} {lo hi : Eo} {x : Expr} {l u : Option Expr} {p2 pos : Pos} (ho : PE X x (tE X C Φ W o)) (hl : PO X l (tO X C Φ W lo)) (hu : PO X u (tO X C Φ W hi)) : PE X (.Subscript x (.Slice l u none p2) pos) (tE X C Φ W (.slc o lo hi)) := by
  refine ⟨fun pins s σ H Q I h => ?_⟩
  obtain ⟨m, env, st, Q0, EX0, re, rs, w, ax, aq⟩ := h
  refine Subscript_ (runE ho I re rs w ax fun v s1 x1 H1 d1 st1 m1 I1 r1 w1 l1 rs1 q1 => ?_)
  refine wpAny_Slice (thn (hl.run pins s1 σ H1 (fun i H' => ∃ st' m', wEo Φ C hi env st' (fun h st3 => slcD d1 i h st3 Q0) EX0 ∧ Wl m1 H1 m' H' ∧ RpS X.K X.mg m' H' st') I1 ⟨m1, env, st1, _, EX0, re.wl rs l1, rs1, w1, ax.wl l1, fun i st' m' H' q w' rs' => ⟨st', m', q, w', rs'⟩⟩) fun vl s2 z => ?_)
  obtain ⟨i, H2, I2, pl, st2, m2, w2, l2, rs2⟩ := z
  have l := l1.trans l2
  refine thn (hu.run pins s2 σ H2 (fun j H' => ∃ st' m', slcD d1 i j st' Q0 ∧ Wl m2 H2 m' H' ∧ RpS X.K X.mg m' H' st') I2 ⟨m2, env, st2, _, EX0, re.wl rs l, rs2, w2, ax.wl l, fun i st' m' H' q w' rs' => ⟨st', m', q, w', rs'⟩⟩) fun vu s3 z => ?_
  obtain ⟨j, H3, I3, pu, st3, m3, w3, l3, rs3⟩ := z
  have l' := l.trans l3
  rw [evalPart_none]
  refine wpAny_pure ?_
  have I4 : L2.Inv X pins σ H3 { s3 with heap := s3.heap.push { cls := .type "slice", data := .fields #[vl, vu, .none] } } := I3.kept (t' := s3.toks) fun b ob q => Heap.get?_push_of_some _ q
  obtain ⟨T, id, hT, ht, hg⟩ := slc_ok I4 rs3 r1 ((q1.wl rs1 l2).wl rs2 l3) (Heap.IsSliceOf.new ..) pl pu w3
  show wpAny (model X.prog X.w) X.A (subscriptTail x (.Slice _ _ none p2) v (.ref s3.heap.objs.size)) (EP X pins σ Q) X.xe { s3 with heap := s3.heap.push { cls := .type "slice", data := .fields #[vl, vu, .none] } }
  exact tail_any (ops := [.ref s3.heap.objs.size, v]) ht hT (thn hg fun _ _ z => eqEP aq l' z) (by with_unfolding_all rfl)
/-! ### methods of lists and texts -/
theorem sStr_rel {K : PySem.W.Frag} {mg : Str → Option Value} {m : Wm} {H : Hp} : ∀ {ds : List D} {zs : List Str} {vs : List V}, sStr ds = some zs → RpL K mg m H vs ds → vs = zs.map V.str
  | [], _, _, h, r => by cases h; cases r; rfl
  | d :: ds, zs, _, h, r => by
    cases d with
    | str x =>
      obtain ⟨ys, e, rfl⟩ := Option.map_eq_some_iff.mp (show (sStr ds).map (fun xs => x :: xs) = some zs from h)
      cases r with
      | cons r1 r2 => cases r1; rw [sStr_rel e r2]; rfl
    | _ => cases h
def bmId : Bm → String
  | .append => "list.append" | .extend => "list.extend" | .pop => "list.pop" | .split => "str.split" | .join => "str.join" | _ => ""
theorem bm_ok {b : Bm} {pins : List (Addr × Obj)} {σ : L2.St} {H : Hp} {s : Shared} {m : Wm} {st : Sto} {x : V} {v : Value} {o : D} {us : List Value} {vs : List V} {ds : List D} {Q0 : QD} {id : String} (hid : id = bmId b)
    (I : L2.Inv X pins σ H s) (rs : RpS X.K X.mg m H st) (rx : RelV x v) (px : Rp X.K X.mg m H x o) (rv : Vals vs us) (rl : RpL X.K X.mg m H vs ds)
    (h : wBm b o ds st Q0) : wpAny (model X.prog X.w) X.A (call (.builtin id) (v :: us)) (EP X pins σ (EQ X m H Q0)) X.xe s := by
  have put : ∀ {n : Nat} {ws : List D} {ws' : List D} {vs' : List V} {a : Addr} {d : D} {y : V}, m[n]? = some (some a) → RpL X.K X.mg m H vs' ws' → Rp X.K X.mg m H y d → Q0 d (st.set n (.lst ws')) → EQ X m H Q0 y (L2.upd H a (.lst vs')) := fun {n ws ws' vs' a d y} hn r ry q => by
    obtain ⟨o', h0, r0⟩ := rs.at_ n a hn
    have wl : Wl m H m (L2.upd H a (.lst vs')) := Wl.set (List.mem_of_getElem? hn) r0.there
    exact ⟨d, _, m, q, wl, rs.set hn (.lst upd_same (r.wl rs wl)), ry.wl rs wl⟩
  subst hid
  cases b with
  | append =>
    obtain ⟨d, rfl, n, xs, rfl, hx, hz, q⟩ := h
    obtain ⟨y, rfl, ry⟩ := rl.one
    obtain ⟨a, rfl, hn, ro⟩ := rs.live px hx (by intro z; cases z)
    cases ro with
    | lst hA r => exact mt_append pins s σ H _ _ v us _ I rx rv ⟨a, _, y, rfl, rfl, hA, by rw [r.length]; exact hz, put (ws := xs) hn (r.append (.cons ry .nil)) .non q⟩
  | extend =>
    obtain ⟨d, rfl, n, xs, rfl, hx, ys, hl, hy, hz, q⟩ := h
    obtain ⟨y, rfl, ry⟩ := rl.one
    obtain ⟨a, rfl, hn, ro⟩ := rs.live px hx (by intro z; cases z)
    obtain ⟨a2, vs2, rfl, hA2, r2⟩ := ry.list rs hl hy
    cases ro with
    | lst hA r => exact mt_extend pins s σ H _ _ v us _ I rx rv ⟨a, a2, _, _, rfl, rfl, hA, hA2, by rw [r.length, r2.length]; exact hz, put (ws := xs) hn (r.append r2) .non q⟩
  | pop =>
    obtain ⟨d, rfl, n, xs, rfl, hx, i, k, w, rfl, h1, h2, hk, hw, q⟩ := h
    obtain ⟨y, rfl, ry⟩ := rl.one
    cases ry
    obtain ⟨a, rfl, hn, ro⟩ := rs.live px hx (by intro z; cases z)
    cases ro with
    | lst hA r =>
      obtain ⟨y, hy, ry⟩ := r.get hw
      exact mt_popAt pins s σ H _ _ v us _ I rx rv ⟨a, _, i, k, y, rfl, rfl, hA, h1, h2, by rw [r.length]; exact hk, hy, put (ws := xs) hn (r.eraseIdx k) ry q⟩
  | split =>
    obtain ⟨d, rfl, a, c, rfl, rfl, h1, h2, q⟩ := h
    obtain ⟨y, rfl, ry⟩ := rl.one
    cases px; cases ry
    refine mt_split pins s σ H _ _ v us _ I rx rv ⟨a, c, rfl, rfl, h1, h2, fun p hp => ?_⟩
    have rr : ∀ zs : List Str, RpL X.K X.mg m H (zs.map V.str) (zs.map D.str) := fun zs => by
      induction zs with
      | nil => exact .nil
      | cons z zs ih => exact .cons (.str z) ih
    exact EQ.lst (al := false) rs hp (rr _) ⟨by rw [List.length_map]; exact Nat.le_trans (PyProof.Rows.split_le a c) h2, q⟩
  | join =>
    obtain ⟨d, rfl, a, ys, zs, rfl, hy, hs, hz, q⟩ := h
    obtain ⟨y, rfl, ry⟩ := rl.one
    cases px
    obtain ⟨p, ws, rfl, hl, r⟩ := ry.seq rs hy
    have e := sStr_rel hs r
    subst e
    exact mt_join pins s σ H _ _ v us _ I rx rv ⟨a, p, zs, rfl, rfl, hl.elim (fun z => .inl (SqL.of z.2)) fun z => .inr z.2, hz, EQ.of rs (.str _) q⟩
  | _ => exact h.elim
theorem s_bm {b : Bm} {o : E} {es : Es} {x : Expr} {xs : List Expr} {apos pos : Pos} (h0 : call0 x = false) (hline : (apos.endLine == pos.line) = true) (hlen : xs.length < 29) (hm : mEs L N sc es xs = true) (hp : xs.any isStar = false)
    (ho : PE X x (tE X C Φ W o)) (ha : PA X xs (tA X C Φ W es)) : PE X (.Call (.Attribute x (bmNm b) apos) xs [] pos) (tE X C Φ W (.bm b o es)) := by
  refine ⟨fun pins s σ H Q I h => ?_⟩
  obtain ⟨m, env, st, Q0, EX0, re, rs, w, ax, aq⟩ := h
  have hfew : ((backTo pos (starEach xs X.env)).all (fun x => !x.1) && (backToKw pos (keywordEach [] X.env)).all (fun x => x.1.isSome) && decide (xs.length + ([] : List Keyword).length + (if ([] : List Keyword).isEmpty then 0 else 1) < 30)) = true := by
    have e1 : (backTo pos (starEach xs X.env)).all (fun x => !x.1) = true := by
      have := plain_any (env := X.env) (pos := pos) hp
      rw [List.all_eq_not_any_not]
      simpa using this
    have e3 : (backToKw pos (keywordEach [] X.env)).all (fun x => x.1.isSome) = true := rfl
    have e2 : decide (xs.length + ([] : List Keyword).length + (if ([] : List Keyword).isEmpty then 0 else 1) < 30) = true := decide_eq_true (by simpa using (by omega : xs.length < 30))
    rw [e1, e2, e3]; rfl
  refine PySem.wpAny_Call_method_late (base_plain h0) hfew hline rfl (runE ho I re rs w ax fun u s1 v H1 d st1 m1 I1 rv w1 l1 rs1 rd => ?_)
  obtain ⟨hok, w1⟩ := w1
  have fin : ∀ {id : String}, id = bmId b →
      wpAny (model X.prog X.w) X.A (callWith pos (.builtin id) [u] (backTo pos (starEach xs X.env)) []) (EP X pins σ Q) X.xe s1 := fun {id} hid => by
    cases xs with
    | nil =>
      cases es with
      | nil => cases b <;> first | (obtain ⟨_, z, _⟩ := w1; cases z) | exact (show False from w1).elim
      | cons e r => cases hm
      | star e r => cases hm
    | cons y ys =>
      have hp' := hp
      rw [List.any_cons, Bool.or_eq_false_iff] at hp'
      have e := starEach_plain (xs := ys) (env := X.env) hp'.1
      have k := runA (pos := pos) ha I1 (re.wl rs l1) rs1 w1 (ax.wl l1) (P := fun us s2 => wpAny (model X.prog X.w) X.A (call (.builtin id) ([u] ++ us)) (EP X pins σ Q) X.xe s2) fun us s2 ws H2 ds st2 m2 I2 rw2 q w2 rs2 rl =>
        thn (bm_ok hid I2 rs2 rv (rd.wl rs1 w2) rw2 rl q) fun _ _ z => eqEP aq (l1.trans w2) z
      refine Calls.callWith_builtin (plain_any hp) ?_
      rw [e] at k ⊢
      exact Calls.evalArgs_plain k
  have lst : isLst st1 d = true → s1.TypeIs u "list" ∧ ∀ a, u = .ref a → ∃ ob, s1.heap.get? a = some ob ∧ ob.dict = none := fun hl => by
    have hsq : ∃ xs, seqOf st1 d = some xs := by
      cases d with
      | lst xs => exact ⟨xs, rfl⟩
      | ref n =>
        have hl : (match st1[n]? with | some (.lst _) => true | _ => false) = true := hl
        cases e : st1[n]? with
        | none => rw [e] at hl; cases hl
        | some o' =>
          rw [e] at hl
          cases o' with
          | lst xs => exact ⟨xs, by show (match st1[n]? with | some (.lst xs) => some xs | _ => none) = _; rw [e]⟩
          | _ => cases hl
      | _ => cases hl
    obtain ⟨ws, hw⟩ := hsq
    obtain ⟨a, vs, rfl, hA, _⟩ := rd.list rs1 hl hw
    obtain rfl : u = Value.ref a := rv
    obtain ⟨z, its, n, r, hl', e⟩ := I1.lstM hA
    exact ⟨⟨_, e, rfl⟩, fun a' h' => by cases h'; exact ⟨_, e, rfl⟩⟩
  have txt : (∃ a, d = .str a) → s1.TypeIs u "str" ∧ ∀ a, u = .ref a → ∃ ob, s1.heap.get? a = some ob ∧ ob.dict = none := fun h => by
    obtain ⟨a, rfl⟩ := h
    cases rd
    obtain ⟨t, rfl⟩ := rv
    exact ⟨typeIs_str _ _ _, fun _ e => nomatch e⟩
  have isT : ∀ {d : D}, (match d with | .str _ => true | _ => false) = true → ∃ a, d = .str a := fun {d} h => by
    cases d with
    | str a => exact ⟨a, rfl⟩
    | _ => cases h
  cases b with
  | append => obtain ⟨t1, t2⟩ := lst hok; exact ⟨"list", _, F.plainAttrs_list, F.slot_list_append, F.type_list_append, t1, t2, fin rfl⟩
  | extend => obtain ⟨t1, t2⟩ := lst hok; exact ⟨"list", _, F.plainAttrs_list, F.slot_list_extend, F.type_list_extend, t1, t2, fin rfl⟩
  | pop => obtain ⟨t1, t2⟩ := lst hok; exact ⟨"list", _, F.plainAttrs_list, F.slot_list_pop, F.type_list_pop, t1, t2, fin rfl⟩
  | split => obtain ⟨t1, t2⟩ := txt (isT hok); exact ⟨"str", _, F.plainAttrs_str, F.slot_str_split, F.type_str_split, t1, t2, fin rfl⟩
  | join => obtain ⟨t1, t2⟩ := txt (isT hok); exact ⟨"str", _, F.plainAttrs_str, F.slot_str_join, F.type_str_join, t1, t2, fin rfl⟩
  | _ => cases hok
end Vm

set_option Elab.async false
set_option linter.all false
set_option maxRecDepth 100000
set_option maxHeartbeats 1000000
/-! Vm, part 12: built-in functions. -/
namespace Vm
open PySem PySem.Spec PyProof.Rows L2
variable {X : Cx} {L : Lx} {C : Ctx} {Φ : Fn} {W : WX} {N : List Str} {sc : Scope}
def biVal : Bi → Value
  | .len => .builtin "len" | .int => .type "int" | .abs => .builtin "abs" | .min => .builtin "min" | .max => .builtin "max" | .list => .type "list" | .tuple => .type "tuple" | .sorted => .builtin "sorted" | .all => .builtin "all" | .any => .builtin "any" | .sum => .builtin "sum" | .repr => .builtin "repr" | .str => .type "str" | .isinst => .builtin "isinstance" | .dict => .type "dict"
theorem bi_val (f : Bi) : (∃ id, biVal f = .builtin id) ∨ ∃ T, biVal f = .type T := by
  cases f <;> first | exact .inl ⟨_, rfl⟩ | exact .inr ⟨_, rfl⟩
theorem bi_boot (f : Bi) : bootBuiltins (biNm f) = some (biVal f) ∧ biNm f ∈ bltNms := by
  cases f <;> exact ⟨by decide +kernel, by decide +kernel⟩
mutual
theorem data_noDict : ∀ (d : D) (p : PyData), d.data = some p → p.hasDict = false
  | .non, _, h => by cases h; rfl
  | .bl _, _, h => by cases h; rfl
  | .int _, _, h => by cases h; rfl
  | .str _, _, h => by cases h; rfl
  | .tup ds, p, h => by
    obtain ⟨ps, e, rfl⟩ := Option.map_eq_some_iff.mp (show (dataL ds).map PyData.tuple = some p from h)
    simp only [PyData.hasDict]; exact dataL_noDict ds ps e
  | .lst ds, p, h => by
    obtain ⟨ps, e, rfl⟩ := Option.map_eq_some_iff.mp (show (dataL ds).map PyData.list = some p from h)
    simp only [PyData.hasDict]; exact dataL_noDict ds ps e
  | .dct _, _, h => by cases h
  | .dcT _, _, h => by cases h
  | .obj _ _, _, h => by cases h
  | .exc _ _, _, h => by cases h
  | .ref _, _, h => by cases h
  | .glo _, _, h => by cases h
  | .ty _, _, h => by cases h
  | .scr _, _, h => by cases h
theorem dataL_noDict : ∀ (ds : List D) (ps : List PyData), dataL ds = some ps → PyData.hasDictAll ps = false
  | [], _, h => by cases h; rfl
  | d :: ds, ps, h => by
    obtain ⟨p, e1, h⟩ := Option.bind_eq_some_iff.mp (show (d.data).bind (fun d => (dataL ds).map fun ds => d :: ds) = _ from h)
    obtain ⟨ps, e2, rfl⟩ := Option.map_eq_some_iff.mp h
    simp only [PyData.hasDictAll, data_noDict d p e1, dataL_noDict ds ps e2]; rfl
end
theorem dataOf_noDict {st : Sto} {d : D} {p : PyData} (h : dataOf st d = some p) : p.hasDict = false := by
  cases d with
  | ref n =>
    have h : (match st[n]? with | some (.lst xs) => (dataL xs).map .list | _ => none) = some p := h
    cases e : st[n]? with
    | none => rw [e] at h; cases h
    | some o =>
      rw [e] at h
      cases o with
      | lst xs => exact data_noDict (.lst xs) p h
      | _ => cases h
  | _ => exact data_noDict _ p h
/-- repr of what reads as data -/
theorem repr_any {prog : Program} {w : World} {A : Around} {E : Value → Shared → Prop} {s : Shared} {u : Value} {d : PyData} {as : List Addr} {Q : Value → Shared → Prop} (r : Reads s.heap u d as) (hs : d.showable = true) (hn : d.hasDict = true → sysModules ∉ as) (hg : A.guards = some []) (hu : A.units + (d.depth + 1) < cLine) (hz : d.shown.length ≤ sizeLine)
    (hQ : ∀ h' t tk, (∀ b o, s.heap.get? b = some o → h'.get? b = some o) → Q (.str d.shown t) { s with heap := h', toks := tk }) : wpAny (model prog w) A (call (.builtin "repr") [u]) Q E s := by
  cases r with
  | none => exact PySem.P.repr_of_none (hQ s.heap _ _ fun _ _ z => z)
  | bool b => exact PySem.P.repr_of_bool (hQ s.heap _ _ fun _ _ z => z)
  | int i t => exact PySem.P.repr_of_int (of_decide_eq_true hs) (hQ s.heap _ _ fun _ _ z => z)
  | str x t => exact PySem.P.repr_of_str (hQ s.heap _ _ fun _ _ z => z) hz
  | list h1 h2 h3 h4 => exact repr_of_reads' (Reads.list h1 h2 h3 h4) hs hn hg hu (fun _ _ z => z) (fun h' u tk k => hQ h' u tk k) hz
  | tuple h1 h2 h3 h4 => exact repr_of_reads' (Reads.tuple h1 h2 h3 h4) hs hn hg hu (fun _ _ z => z) (fun h' u tk k => hQ h' u tk k) hz
  | dict h1 h2 h3 h4 h5 => exact repr_of_reads' (Reads.dict h1 h2 h3 h4 h5) hs hn hg hu (fun _ _ z => z) (fun h' u tk k => hQ h' u tk k) hz
theorem sBl_rel {K : PySem.W.Frag} {mg : Str → Option Value} {m : Wm} {H : Hp} : ∀ {ds : List D} {zs : List Bool} {vs : List V}, sBl ds = some zs → RpL K mg m H vs ds → vs = zs.map V.bl
  | [], _, _, h, r => by cases h; cases r; rfl
  | d :: ds, zs, _, h, r => by
    cases d with
    | bl x =>
      obtain ⟨ys, e, rfl⟩ := Option.map_eq_some_iff.mp (show (sBl ds).map (fun xs => x :: xs) = some zs from h)
      cases r with
      | cons r1 r2 => cases r1; rw [sBl_rel e r2]; rfl
    | _ => cases h
theorem sInt_rel {K : PySem.W.Frag} {mg : Str → Option Value} {m : Wm} {H : Hp} : ∀ {ds : List D} {zs : List Int} {vs : List V}, sInt ds = some zs → RpL K mg m H vs ds → vs = zs.map V.int
  | [], _, _, h, r => by cases h; cases r; rfl
  | d :: ds, zs, _, h, r => by
    cases d with
    | int x =>
      obtain ⟨ys, e, rfl⟩ := Option.map_eq_some_iff.mp (show (sInt ds).map (fun xs => x :: xs) = some zs from h)
      cases r with
      | cons r1 r2 => cases r1; rw [sInt_rel e r2]; rfl
    | _ => cases h
theorem each_of {K : PySem.W.Frag} {mg : Str → Option Value} {m : Wm} {H : Hp} : ∀ {ds : List D} {vs : List V} {us : List Value}, RpL K mg m H vs ds → Vals vs us → PySem.W.EachIs (fun u d => ∃ v, RelV v u ∧ Rp K mg m H v d) us ds
  | [], _, _, .nil, .nil => .nil
  | _ :: _, _, _, .cons r t, .cons q p => .cons ⟨_, q, r⟩ (each_of t p)
theorem of_each {K : PySem.W.Frag} {mg : Str → Option Value} {m : Wm} {H : Hp} : ∀ {ds : List D} {us : List Value}, PySem.W.EachIs (fun u d => ∃ v, RelV v u ∧ Rp K mg m H v d) us ds → ∃ vs, RpL K mg m H vs ds ∧ Vals vs us
  | _, _, .nil => ⟨[], .nil, .nil⟩
  | _, _, .cons ⟨v, q, r⟩ t => by
    obtain ⟨vs, h1, h2⟩ := of_each t
    exact ⟨v :: vs, .cons r h1, .cons q h2⟩
theorem enc_of {d : D} {p : PyData} (h : d.data = some p) : encD d = p := by unfold encD; rw [h]; rfl
theorem encL_of : ∀ {ds : List D} {ps : List PyData}, dataL ds = some ps → ds.map encD = ps
  | [], _, h => by cases h; rfl
  | d :: ds, ps, h => by
    obtain ⟨p, e1, h⟩ := Option.bind_eq_some_iff.mp (show (d.data).bind (fun d => (dataL ds).map fun ds => d :: ds) = _ from h)
    obtain ⟨ps, e2, rfl⟩ := Option.map_eq_some_iff.mp h
    rw [List.map_cons, enc_of e1, encL_of e2]
theorem readsE {h : Heap} : ∀ {us : List Value} {ps : List PyData} {as : List Addr} {ds : List D}, ReadsAll h us ps as → ds.map encD = ps → PySem.W.EachIs (fun v b => ∃ as, Reads h v (encD b) as) us ds := fun {us ps as ds} r e => by
  subst e
  exact PySem.W.readsAll_each encD r
section
variable {pins : List (Addr × Obj)} {σ : L2.St} {H : Hp} {s : Shared} {m : Wm} {st : Sto} {Q0 EX0 : QD}
theorem sorted_ok (hs : Has X L C Φ W N sc) {al : Bool} {x : V} {u : Value} {d : D} (I : L2.Inv X pins σ H s) (rs : RpS X.K X.mg m H st) (rx : RelV x u) (px : Rp X.K X.mg m H x d) {xs : List D} {ps : List PyData} (h1 : isLst st d = true) (h2 : seqOf st d = some xs) (h3 : dataL xs = some ps) (h4 : PySem.W.AllAlike ps) (h5 : PySem.W.Sortable ps) (h6 : ∀ p ∈ ps, p.depth ≤ 60)
    (h : retL al (sortD xs) st Q0) : wpAny (model X.prog X.w) X.A (call (.builtin "sorted") [u]) (EP X pins σ (EQ X m H Q0)) X.xe s := by
  obtain ⟨a, vs, rfl, hA, rl⟩ := px.list rs h1 h2
  obtain rfl : u = Value.ref a := rx
  obtain ⟨its, rv, pl, hz⟩ := I.list (SqL.of hA)
  obtain ⟨as, rr⟩ := RpL.reads I xs ps vs its rl h3 rv
  have e := encL_of h3
  refine PySem.W.sorted_data (enc := encD) (bs := xs) pl.isList (each_of rl rv) (readsE rr e) (by rw [e]; exact h4) (by rw [e]; exact h5) (by rw [← rl.length]; exact hz) (fun b hb => ?_) fun out ho eo => ?_
  · have := h6 (encD b) (by rw [← e]; exact List.mem_map.mpr ⟨b, hb, rfl⟩)
    have := hs.ok.un
    omega
  · obtain ⟨ws, rw1, rw2⟩ := of_each eo
    obtain ⟨c, hc⟩ := sortedAll_at s.heap its (List.toArray out)
    have hp : H (s.heap.objs.size + 1) = none := I.hok.fresh (Nat.le_succ _)
    have hlen : ws.length ≤ sizeLine := by rw [rw1.length]; exact h.1
    exact ⟨.ref _, _, I.laid (t' := s.toks) (o := .lst ws) (fun b o q => sortedAll_old q) (Nat.le_succ _) ⟨hlen, out, c, rw2, hc⟩, rfl, EQ.lst rs hp rw1 h⟩
theorem len_own (hs : Has X L C Φ W N sc) {x : V} {u : Value} {d : D} {c : Str} {fs : List (Str × D)} {g : Str} (I : L2.Inv X pins σ H s) (rs : RpS X.K X.mg m H st) (rx : RelV x u) (px : Rp X.K X.mg m H x d) (hi : insOf st d = some (c, fs)) (hm : C.mth c "__len__" = some g)
    (h : Φ g [d] st (fun r st' => ∃ n : Nat, r = .int n ∧ n < 2 ^ 62 ∧ Q0 r st') EX0) (ax : AfX X.K X.mg m H EX0 (fun c d H' => W c d σ H')) : wpAny (model X.prog X.w) X.A (call (.builtin "len") [u]) (EP X pins σ (EQ X m H Q0)) X.xe s := by
  obtain ⟨a, dx, vs, rfl, hA, rf⟩ := px.ins rs hi
  obtain rfl : u = Value.ref a := rx
  obtain ⟨f, M, cal⟩ := hs.kn.len c g hm
  obtain ⟨ox, od, J⟩ := instAt I hA
  obtain ⟨mm, hF⟩ := I.fr
  refine PySem.W.len_K hF I.ok.mod.kin J M.at_ M.fn (thn (cal.run1 (us := [.ref a]) (vs := [.ref a]) hs.tk I (.cons rfl .nil) rs (.cons px .nil) h ax) fun r s' z => ?_)
  obtain ⟨w, H', I', rw', d', st', m', ⟨n, rfl, hn, q⟩, wl, rs', rd⟩ := z
  cases rd
  obtain ⟨t, rfl⟩ := rw'
  exact ⟨⟨by omega, by omega⟩, .int n, H', I'.tok _, ⟨_, rfl⟩, .int n, st', m', q, wl, rs', .int _⟩
theorem one_of {ds : List D} {k : D → Prop} {vs : List V} {us : List Value} {K : PySem.W.Frag} {mg : Str → Option Value} (h : one ds k) (rl : RpL K mg m H vs ds) (rv : Vals vs us) : ∃ d v u, ds = [d] ∧ vs = [v] ∧ us = [u] ∧ k d ∧ RelV v u ∧ Rp K mg m H v d := by
  obtain ⟨d, rfl, h⟩ := h
  obtain ⟨v, rfl, r⟩ := rl.one
  obtain ⟨u, rfl, ru⟩ := vals1 rv
  exact ⟨d, v, u, rfl, rfl, rfl, h, ru, r⟩
theorem two_of {ds : List D} {k : D → D → Prop} {vs : List V} {us : List Value} {K : PySem.W.Frag} {mg : Str → Option Value} (h : two ds k) (rl : RpL K mg m H vs ds) (rv : Vals vs us) : ∃ d e v w u x, ds = [d, e] ∧ vs = [v, w] ∧ us = [u, x] ∧ k d e ∧ RelV v u ∧ RelV w x ∧ Rp K mg m H v d ∧ Rp K mg m H w e := by
  obtain ⟨d, e, rfl, h⟩ := h
  obtain ⟨v, w, rfl, r1, r2⟩ := rl.two
  obtain ⟨u, x, rfl, ru, rx⟩ := vals2 rv
  exact ⟨d, e, v, w, u, x, rfl, rfl, rfl, h, ru, rx, r1, r2⟩
theorem cls_rel {t : D} {w : V} {C : Ctx} {st : Sto} {x : D} {b : Bool} (kn : Knows X L C Φ) (hx : ancOf C x = none) (h : isI C st x t = some b) (r : Rp X.K X.mg m H w t) :
    (∃ n, t = .ty n ∧ w = .ty n ∧ tyNms.contains n = true ∧ isTy C st n x = some b) ∨ (∃ c, t = .glo c ∧ w = .ref (He.ga X.K c) ∧ (C.cl c).isSome = true ∧ isCl C st c x = some b) ∨ ∃ c, t = .glo c ∧ w = .ref (He.ga X.K c) ∧ (C.exs.lookup c).isSome = true ∧ isXc C st c x = some b := by
  cases t with
  | ty n =>
    have h : (if tyNms.contains n = true then (match ancOf C x with
      | some anc => some (anc.contains (PySem.Str.ofString n))
      | none => isTy C st n x) else none) = some b := h
    split at h
    · rw [hx] at h; cases r; exact .inl ⟨n, rfl, rfl, by assumption, h⟩
    · cases h
  | glo c =>
    have h : (if (C.cl c).isSome = true then isCl C st c x else if (C.exs.lookup c).isSome = true then isXc C st c x else none) = some b := h
    split at h
    · cases r with | glo h1 h2 => exact .inr (.inl ⟨c, rfl, by rw [h2], by assumption, h⟩)
    · split at h
      · cases r with | glo h1 h2 => exact .inr (.inr ⟨c, rfl, by rw [h2], by assumption, h⟩)
      · cases h
  | _ => cases h
theorem kitB_all : ∀ k ∈ kdNms, ∀ n ∈ tyNms, kitB k n = some (k == n || (k == "bool" && n == "int")) := by decide +kernel
theorem anc_exc {C : Ctx} {d : D} {anc : List Str} (h : ancOf C d = some anc) : ∃ c v, d = .exc c v ∧ C.exs.lookup c = some anc := by
  cases d with
  | exc c v => exact ⟨c, v, rfl, h⟩
  | _ => cases h
theorem isi_exc (hs : Has X L C Φ W N sc) {x w : V} {u t' : Value} {d t : D} {b : Bool} {anc : List Str} (hx : ancOf C d = some anc) (I : L2.Inv X pins σ H s) (rs : RpS X.K X.mg m H st) (rx : RelV x u) (rt : RelV w t') (px : Rp X.K X.mg m H x d) (pt : Rp X.K X.mg m H w t) (h : isI C st d t = some b) (q : Q0 (.bl b) st) :
    wpAny (model X.prog X.w) X.A (call (.builtin "isinstance") [u, t']) (EP X pins σ (EQ X m H Q0)) X.xe s := by
  obtain ⟨c, v, rfl, hc⟩ := anc_exc hx
  have hcs : (C.exs.lookup c).isSome = true := by rw [hc]; rfl
  cases px with
  | exc hA hd rv =>
    obtain rfl := rx
    have fin : ∀ {cv : Value}, t' = cv → PySem.W.kitOne X.K (.ref (He.ga X.K c)) cv = some b → wpAny (model X.prog X.w) X.A (call (.builtin "isinstance") [.ref _, t']) (EP X pins σ (EQ X m H Q0)) X.xe s := fun {cv} e hk => by
      subst e
      exact exc_isi (hs.kn.exk c hcs) I hA hd hk fun s' I' => ⟨.bl b, H, I', rfl, EQ.of rs (.bl b) q⟩
    cases t with
    | ty n =>
      have h : (if tyNms.contains n = true then (match ancOf C (.exc c v) with
        | some anc => some (anc.contains (PySem.Str.ofString n))
        | none => isTy C st n (.exc c v)) else none) = some b := h
      split at h
      · rename_i hn
        rw [hx] at h
        cases h
        cases pt
        exact fin rt (hs.kn.kXT c anc hc n (by simpa using hn))
      · cases h
    | glo c' =>
      have h : (if (C.cl c').isSome = true then isCl C st c' (.exc c v) else if (C.exs.lookup c').isSome = true then isXc C st c' (.exc c v) else none) = some b := h
      split at h
      · cases h
      · split at h
        · rename_i hc'
          have h : (ancOf C (.exc c v)).map (fun anc => List.contains anc c') = some b := h
          rw [hx] at h
          cases h
          cases pt with
          | glo h1 h2 =>
            subst h2
            exact fin rt (hs.kn.kXX c anc c' hc hc')
        · cases h
    | _ => cases h
theorem isi_ok (hs : Has X L C Φ W N sc) {x w : V} {u t' : Value} {d t : D} {b : Bool} (I : L2.Inv X pins σ H s) (rs : RpS X.K X.mg m H st) (rx : RelV x u) (rt : RelV w t') (px : Rp X.K X.mg m H x d) (pt : Rp X.K X.mg m H w t) (h : isI C st d t = some b) (q : Q0 (.bl b) st) :
    wpAny (model X.prog X.w) X.A (call (.builtin "isinstance") [u, t']) (EP X pins σ (EQ X m H Q0)) X.xe s := by
  cases hx : ancOf C d with
  | some anc => exact isi_exc hs hx I rs rx rt px pt h q
  | none =>
  obtain ⟨t1, t2⟩ := ty_of hs.kn rs px
  have fin : ∀ {tv cv : Value}, ClsV w cv → L2.TyX X.K H x tv → PySem.W.kitOne X.K tv cv = some b → wpAny (model X.prog X.w) X.A (call (.builtin "isinstance") [u, t']) (EP X pins σ (EQ X m H Q0)) X.xe s := fun {tv cv} hc hty hk =>
    call_isi pins s σ H [x, w] [u, t'] _ I (.cons rx (.cons rt .nil)) ⟨x, w, tv, cv, b, rfl, hc, hty, hk, EQ.of rs (.bl b) q⟩
  rcases cls_rel hs.kn hx h pt with ⟨n, rfl, rfl, hn, h⟩ | ⟨c, rfl, rfl, hc, h⟩ | ⟨c, rfl, rfl, hc, h⟩
  · have hn' : n ∈ tyNms := by simpa using hn
    unfold isTy at h
    cases e : kindOf st d with
    | some k =>
      rw [e] at h
      cases h
      obtain ⟨hk, ty⟩ := t1 k e
      exact fin (.ty n) ty (kit_ty (kitB_all k hk n hn'))
    | none =>
      rw [e] at h
      obtain ⟨p, e2, hb⟩ := Option.bind_eq_some_iff.mp h
      by_cases hc : (C.cl p.1).isSome = true
      case neg => rw [if_neg hc] at hb; cases hb
      rw [if_pos hc] at hb
      cases hb
      exact fin (.ty n) (t2 p.1 p.2 e2 hc) (hs.kn.kCT p.1 hc n hn')
  · unfold isCl at h
    cases e : kindOf st d with
    | some k =>
      rw [e] at h
      cases h
      obtain ⟨hk, ty⟩ := t1 k e
      exact fin (.own _) ty (hs.kn.kTC k hk c hc)
    | none =>
      rw [e] at h
      obtain ⟨p, e2, hb⟩ := Option.bind_eq_some_iff.mp h
      by_cases hc' : (C.cl p.1).isSome = true
      case neg => rw [if_neg hc'] at hb; cases hb
      rw [if_pos hc'] at hb
      cases hb
      exact fin (.own _) (t2 p.1 p.2 e2 hc') (hs.kn.kCC p.1 c hc' hc)
  · unfold isXc at h
    cases e : kindOf st d with
    | some k =>
      rw [e] at h
      cases h
      obtain ⟨hk, ty⟩ := t1 k e
      exact fin (.own _) ty (hs.kn.kTX k hk c hc)
    | none =>
      rw [e, hx] at h
      cases h
theorem bi_ok (hs : Has X L C Φ W N sc) {f : Bi} {al : Bool} {us : List Value} {vs : List V} {ds : List D} (I : L2.Inv X pins σ H s) (rs : RpS X.K X.mg m H st) (rv : Vals vs us) (rl : RpL X.K X.mg m H vs ds)
    (h : wBi Φ C f al ds st Q0 EX0) (ax : AfX X.K X.mg m H EX0 (fun c d H' => W c d σ H')) : wpAny (model X.prog X.w) X.A (call (biVal f) us) (EP X pins σ (EQ X m H Q0)) X.xe s := by
  have hcalm := hs.ok.calm
  cases f with
  | len =>
    obtain ⟨d, v, u, rfl, rfl, rfl, h, rx, px⟩ := one_of h rl rv
    cases e : insOf st d with
    | some p => rw [e] at h; obtain ⟨g, hm, h⟩ := h; exact len_own hs I rs rx px e hm h ax
    | none =>
      rw [e] at h
      obtain ⟨n, hl, q⟩ := h
      unfold lenD at hl
      cases e1 : seqOf st d with
      | some xs =>
        rw [e1] at hl; cases hl
        obtain ⟨a, ws, rfl, hl, r⟩ := px.seq rs e1
        exact call_len_seq pins s σ H _ _ _ I rv ⟨a, ws, rfl, hl.elim (fun z => .inl (SqL.of z.2)) fun z => .inr z.2, by rw [r.length]; exact EQ.of rs (.int _) q⟩
      | none =>
        rw [e1] at hl
        have gen : ((dctOf st d).map (·.length) = some n) → wpAny (model X.prog X.w) X.A (call (.builtin "len") [u]) (EP X pins σ (EQ X m H Q0)) X.xe s := fun hl => by
          obtain ⟨kvs, e2, rfl⟩ := Option.map_eq_some_iff.mp hl
          obtain ⟨a, ws, rfl, hA, r⟩ := px.dict rs e2
          obtain rfl : u = Value.ref a := rx
          refine d_len I (.inl hA) fun t s' I' => ⟨.int (ws.length : Nat), H, I', ⟨t, rfl⟩, ?_⟩
          rw [r.len]
          exact EQ.of rs (.int _) q
        have gen2 : (match dctOf st d with | some kvs => some kvs.length | none => none) = some n → wpAny (model X.prog X.w) X.A (call (.builtin "len") [u]) (EP X pins σ (EQ X m H Q0)) X.xe s := fun hl => by
          cases e2 : dctOf st d with
          | some kvs => rw [e2] at hl; exact gen (by rw [e2]; exact hl)
          | none => rw [e2] at hl; cases hl
        cases d with
        | scr xs =>
          cases hl
          cases px with
          | scr hs' => exact call_len_seq pins s σ H _ _ _ I rv ⟨_, xs.map V.int, rfl, .inl (scr_sq hs'), by rw [List.length_map]; exact EQ.of rs (.int _) q⟩
        | str z =>
          have hl : (if z.length ≤ sizeLine then some z.length else none) = some n := hl
          split at hl
          · cases hl
            cases px
            exact call_len_str pins s σ H _ _ _ I rv ⟨z, rfl, by assumption, EQ.of rs (.int _) q⟩
          · cases hl
        | _ => exact gen2 hl
  | int =>
    obtain ⟨d, v, u, rfl, rfl, rfl, h, rx, px⟩ := one_of h rl rv
    cases d with
    | int i => cases px; exact call_int1 pins s σ H _ _ _ I rv (.inl ⟨i, rfl, EQ.of rs (.int _) h⟩)
    | bl b => cases px; exact call_int1 pins s σ H _ _ _ I rv (.inr ⟨b, rfl, EQ.of rs (.int _) h⟩)
    | str z => obtain ⟨n, h1, h2, q⟩ := h; cases px; exact call_int_str pins s σ H _ _ _ I rv ⟨z, n, rfl, h1, h2, EQ.of rs (.int _) q⟩
    | _ => exact h.elim
  | abs =>
    obtain ⟨d, v, u, rfl, rfl, rfl, ⟨i, rfl, q⟩, rx, px⟩ := one_of h rl rv
    cases px
    exact call_abs pins s σ H _ _ _ I rv ⟨i, rfl, EQ.of rs (.int _) q⟩
  | min =>
    obtain ⟨d, e, v, w, u, x, rfl, rfl, rfl, ⟨i, j, rfl, rfl, q⟩, ru, rx, p1, p2⟩ := two_of h rl rv
    cases p1; cases p2
    exact call_min2 hcalm pins s σ H _ _ _ I rv ⟨i, j, rfl, EQ.of rs (.int _) q⟩
  | max =>
    obtain ⟨d, e, v, w, u, x, rfl, rfl, rfl, ⟨i, j, rfl, rfl, q⟩, ru, rx, p1, p2⟩ := two_of h rl rv
    cases p1; cases p2
    exact call_max2 hcalm pins s σ H _ _ _ I rv ⟨i, j, rfl, EQ.of rs (.int _) q⟩
  | list =>
    obtain ⟨d, v, u, rfl, rfl, rfl, ⟨xs, e, h⟩, rx, px⟩ := one_of h rl rv
    obtain ⟨a, ws, rfl, hl, r⟩ := px.seq rs e
    exact call_list_of pins s σ H _ _ _ I rv ⟨a, ws, rfl, hl.elim (fun z => .inl (SqL.of z.2)) fun z => .inr z.2, fun l hp => EQ.lst rs hp r h⟩
  | tuple =>
    obtain ⟨d, v, u, rfl, rfl, rfl, ⟨xs, e, h⟩, rx, px⟩ := one_of h rl rv
    obtain ⟨a, ws, rfl, hl, r⟩ := px.seq rs e
    exact call_tuple_of pins s σ H _ _ _ I rv ⟨a, ws, rfl, hl.elim (fun z => .inl ⟨SqL.of z.2, fun l hp => EQ.tup rs hp r h⟩) fun z => .inr ⟨z.2, EQ.of rs (.tup z.2 r) h⟩⟩
  | sorted =>
    obtain ⟨d, v, u, rfl, rfl, rfl, ⟨xs, ps, h1, h2, h3, h4, h5, h6, h⟩, rx, px⟩ := one_of h rl rv
    exact sorted_ok hs I rs rx px h1 h2 h3 h4 h5 h6 h
  | all =>
    obtain ⟨d, v, u, rfl, rfl, rfl, ⟨xs, bs, h1, h2, h3, q⟩, rx, px⟩ := one_of h rl rv
    obtain ⟨a, ws, rfl, hA, r⟩ := px.list rs h1 h2
    have := sBl_rel h3 r
    subst this
    exact cr_all hcalm pins s σ H _ _ _ I rv ⟨a, bs, rfl, SqL.of hA, EQ.of rs (.bl _) q⟩
  | any =>
    obtain ⟨d, v, u, rfl, rfl, rfl, ⟨xs, bs, h1, h2, h3, q⟩, rx, px⟩ := one_of h rl rv
    obtain ⟨a, ws, rfl, hA, r⟩ := px.list rs h1 h2
    have := sBl_rel h3 r
    subst this
    exact cr_any hcalm pins s σ H _ _ _ I rv ⟨a, bs, rfl, SqL.of hA, EQ.of rs (.bl _) q⟩
  | sum =>
    obtain ⟨d, v, u, rfl, rfl, rfl, ⟨xs, bs, h1, h2, h3, q⟩, rx, px⟩ := one_of h rl rv
    obtain ⟨a, ws, rfl, hA, r⟩ := px.list rs h1 h2
    have := sInt_rel h3 r
    subst this
    exact cr_sum hcalm pins s σ H _ _ _ I rv ⟨a, bs, rfl, SqL.of hA, EQ.of rs (.int _) q⟩
  | repr =>
    obtain ⟨d, v, u, rfl, rfl, rfl, ⟨p, h1, h2, h3, h4, q⟩, rx, px⟩ := one_of h rl rv
    obtain ⟨as, r, hk⟩ := px.readsO2 I rs h1 rx
    have hu := hs.ok.un
    have hm : sysModules ∉ as := fun z => by
      obtain ⟨o, e⟩ := hk _ z
      obtain ⟨ob, eb⟩ := hs.kn.sys
      have q := (I.bs _ ob eb).2
      rw [q] at e; cases e
    exact repr_any r h2 (fun _ => hm) hs.ok.gd (by omega) h4 fun h' t tk k => ⟨.str p.shown, H, I.kept k, ⟨t, rfl⟩, EQ.of rs (.str _) q⟩
  | str =>
    obtain ⟨d, v, u, rfl, rfl, rfl, h, rx, px⟩ := one_of h rl rv
    cases d with
    | int i => obtain ⟨h1, q⟩ := h; cases px; exact call_str_int pins s σ H _ _ _ I rv ⟨i, rfl, h1, EQ.of rs (.str _) q⟩
    | _ => exact (show False from h).elim
  | isinst =>
    obtain ⟨d, e, v, w, u, x, rfl, rfl, rfl, ⟨b, hb, q⟩, ru, rx, p1, p2⟩ := two_of h rl rv
    exact isi_ok hs I rs ru rx p1 p2 hb q
  | dict => exact (show False from h).elim
end
theorem s_bi (hs : Has X L C Φ W N sc) {f : Bi} {al : Bool} {es : Es} {xs : List Expr} {p pos : Pos} (hg : gloB sc (biNm f) = true) (hm : mEs L N sc es xs = true) (hp : xs.any isStar = false) (hne : xs ≠ []) (ha : PA X xs (tA X C Φ W es)) :
    PE X (.Call (.Name (biNm f) p) xs [] pos) (tE X C Φ W (.bi f al es)) := by
  refine ⟨fun pins s σ H Q I h => ?_⟩
  obtain ⟨m, env, st, Q0, EX0, re, rs, w, ax, aq⟩ := h
  obtain ⟨g1, g2, g3⟩ := glo_of hs.ok hg
  obtain ⟨b1, b2⟩ := bi_boot f
  refine wpAny_Call_Name_kw (ld_blt I g1 (hs.kn.blt _ b2) b1 ?_ g3 g2)
  cases xs with
  | nil => exact absurd rfl hne
  | cons y ys =>
    have hp' := hp
    rw [List.any_cons, Bool.or_eq_false_iff] at hp'
    have k := runA (pos := pos) ha I re rs w ax (P := fun us s2 => wpAny (model X.prog X.w) X.A (call (biVal f) us) (EP X pins σ Q) X.xe s2) fun us s2 ws H2 ds st2 m2 I2 rw2 q w2 rs2 rl =>
      thn (bi_ok hs I2 rs2 rw2 rl q (ax.wl w2)) fun _ _ z => eqEP aq w2 z
    have e1 := starEach_plain (xs := ys) (env := X.env) hp'.1
    have e2 := plain_any (env := X.env) (pos := pos) hp'.2
    rcases bi_val f with ⟨id, e⟩ | ⟨T, e⟩
    · rw [e] at k ⊢
      exact PyProof.Rows.callWith_builtin1 k e1 e2
    · rw [e] at k ⊢
      exact PyProof.Rows.callWith_type1 k e1 e2
end Vm

set_option Elab.async false
set_option linter.all false
set_option maxRecDepth 100000
set_option maxHeartbeats 1000000
/-! Vm, part 13: what a loop walks. -/
namespace Vm
open PySem PySem.Spec PyProof.Rows L2
set_option maxHeartbeats 2000000 in
theorem meets_enum1 {v : Value} {o : Obj} {H : Heap → Prop} (B : Begins v o H) :
    Meets (Builtin.«enumerate.__new__» ⟨[.type "enumerate", v], []⟩) (fun _ R s => H s.heap ∧
      R (.ok (.ret (.ref (s.heap.push o).objs.size))) { s with heap := (s.heap.push o).push { cls := .type "enumerate", data := .fields #[.none, .bool false, .ref s.heap.objs.size, rawInt 0, .none, .none] } }) :=
  .of_wp fun prog w A R s h => by
    obtain ⟨hp, g, d, tk, os⟩ := s; obtain ⟨h1, h⟩ := h
    have hsub := sub_enumerate
    have q1 : ∀ {A' : Around} {E : Value → Shared → Prop} {Q : Value → Shared → Prop}, Q (.ref hp.objs.size) ⟨hp.push o, g, d, tk, os⟩ → wpAny (model prog w) A' (pyIter v) Q E ⟨hp, g, d, tk, os⟩ :=
      fun q => B.iter prog w _ _ ⟨hp, g, d, tk, os⟩ _ h1 q
    wp_walk using q1
    refine wpAny_stack_any fun st => wpAny_pure ?_
    split
    · rename_i c _ _ _ _ _
      cases (c == Value.type "enumerate")
      · wp_walk using q1
        exact ⟨_, rfl, h⟩
      · wp_walk using q1
        exact ⟨_, rfl, h⟩
    · wp_walk using q1
      exact ⟨_, rfl, h⟩
theorem enum_tuple {prog : Program} {w : World} {A : Around} {E : Value → Shared → Prop} {s : Shared} {t : Addr} {items : Array Value} {Q : Value → Shared → Prop} (h1 : s.heap.IsTuple t items)
    (h : ∀ h', IsEnum h' (s.heap.objs.size + 1) s.heap.objs.size 0 .none → h'.IsTupleIter s.heap.objs.size t 0 → (∀ b o, s.heap.get? b = some o → h'.get? b = some o) → Q (.ref (s.heap.objs.size + 1)) { s with heap := h' }) :
    wpAny (model prog w) A (call (.type "enumerate") [.ref t]) Q E s := by
  have B := begins_tuple t items
  refine callType_new F.called_enumerate (by decide) (F.typeCall_enumerate_1 _) (F.newCall_enumerate_1 _) (fun obj => F.args_object_init_2 obj _) F.entry_enumerate_new (meets_enum1 B) ⟨h1, ?_⟩
  have hz : (s.heap.push { cls := .type "tuple_iterator", data := .fields #[.ref t, .int 0 0] }).objs.size = s.heap.objs.size + 1 := Heap.size_push ..
  show _ ∧ _
  rw [hz]
  have he : IsEnum ((s.heap.push { cls := .type "tuple_iterator", data := .fields #[.ref t, .int 0 0] }).push { cls := .type "enumerate", data := .fields #[.none, .bool false, .ref s.heap.objs.size, rawInt 0, .none, .none] }) (s.heap.objs.size + 1) s.heap.objs.size 0 .none := by
    have := Heap.get?_push_size (s.heap.push { cls := .type "tuple_iterator", data := .fields #[.ref t, .int 0 0] }) (o := { cls := .type "enumerate", data := .fields #[.none, .bool false, .ref s.heap.objs.size, rawInt 0, .none, .none] }) rfl
    rw [hz] at this; exact this
  exact ⟨⟨_, he, rfl⟩, h _ he ⟨_, Heap.get?_push_of_some _ (Heap.get?_push_size _ rfl), rfl, rfl⟩ fun b o x => Heap.get?_push_of_some _ (Heap.get?_push_of_some _ x)⟩
/-- the tuple at a, each item in a new pair -/
def IteT (K : PySem.W.Frag) (a : Addr) : It :=
  ⟨fun i H => ∃ (xs : List V) (x : V), SqT K H a xs ∧ xs[i]? = some x, fun i H v H' => ∃ T x, v = .ref T ∧ H T = none ∧ H' = L2.upd H T (.tup [.int (i : Nat), x]) ∧ ∀ xs, SqT K H a xs → xs[i]? = some x, fun i H => ∃ xs : List V, SqT K H a xs ∧ xs.length = i⟩
theorem turn_enumT {P : Program} {w : World} {K : PySem.W.Frag} {elts : List Expr} {kk : Nat} {tpos : Pos} (a e it : Addr) (hae : a ≠ e) (hai : a ≠ it) :
    Turn P w K (.Tuple elts kk tpos) (IteT K a) [e, it] e (fun i h => (∃ old, IsEnum h e it ((i : Nat) : Int) old) ∧ h.IsTupleIter it a i ∧ e ≠ it) where
  mem := by simp
  obj := fun i h st b hb => by
    obtain ⟨⟨old, he⟩, ⟨o, ho, hc, hd⟩, _⟩ := st
    have e' : b = e ∨ b = it := by simpa using hb
    rcases e' with z | z
    · rw [z]; exact ⟨_, he, fun v q => nomatch q⟩
    · rw [z]; exact ⟨o, ho, fun v q => by rw [hd] at q; cases q⟩
  keep := fun i h h' st k => let ⟨⟨old, he⟩, hi, hne⟩ := st; ⟨⟨old, k e (by simp) _ he⟩, hi.at fun o q => k it (by simp) o q, hne⟩
  item := by
    intro X hP hw hK hc i pins s σ H E I hf st hg
    subst hP hw hK
    obtain ⟨⟨old, he⟩, hit, hne⟩ := st
    obtain ⟨xs, x, hq, hx⟩ := hg
    obtain ⟨its, rv, p, hz⟩ := I.tuple hq
    obtain ⟨u, hu, ru⟩ := rv.get hx
    have hel : e < s.heap.objs.size := Heap.lt_size he
    have hil : it < s.heap.objs.size := by obtain ⟨_, q, _⟩ := hit; exact Heap.lt_size q
    have hlt : i < its.toArray.size := by
      have := (List.getElem?_eq_some_iff.mp hu).1
      simpa using this
    refine wpAny_pyNext_enum_itemC (Draws.tuple (show X.A.in1.handled = none from I.ok.hd hc) it a hai its.toArray) he ⟨hit, show s.heap.IsTuple a its.toArray from p⟩ hlt hne (by simp only [List.mem_cons, List.not_mem_nil, or_false, not_or]; exact ⟨hne, Ne.symm hae⟩) fun y h' tk hy ho hst hT hsz hk => ?_
    have hyu : y = u := by
      have : its.toArray[i]? = some u := by simpa using hu
      rw [this] at hy; exact (Option.some.inj hy).symm
    subst hyu
    refine ⟨_, rfl, wpAny_letOwnedTupleGo_enum (s := { s with heap := h', toks := tk + 1 }) ho fun h'' he' sb => ?_⟩
    have hT2 : h''.get? s.heap.objs.size = some { cls := .type "tuple", data := .seq #[.int i tk, y] } := (sb.2 _ (Nat.ne_of_gt hel)).trans hT
    have new : ObjOk X.prog X.w (L2.upd H s.heap.objs.size (.tup [.int (i : Nat), x])) h'' s.heap.objs.size (.tup [.int (i : Nat), x]) :=
      ⟨by show 2 ≤ sizeLine; decide, [.int i tk, y], .cons ⟨_, rfl⟩ (.cons ru .nil), ⟨_, hT2, rfl, _, rfl⟩⟩
    have I1 : L2.Inv X pins σ (L2.upd H s.heap.objs.size (.tup [.int (i : Nat), x])) { s with heap := h'', toks := tk + 1 } :=
      I.turnedNew (ch := [e, it]) (fun b ob hb q => (sb.2 b (fun z => hb (by simp [z]))).trans (hk b ob (fun z => hb (by simp [z])) (fun z => hb (by simp [z])) q)) hf (Nat.le_refl _) new
    refine ⟨.ref s.heap.objs.size, _, I1, rfl, ⟨_, x, rfl, I.hok.fresh (Nat.le_refl _), rfl, fun ys hy => by rw [I.tuple_inj hy hq]; exact hx⟩, ⟨⟨y, ?_⟩, hst.1.at fun o q => (sb.2 it (Ne.symm hne)).trans q, hne⟩, fun b hb => ?_⟩
    · have e1 : ((i + 1 : Nat) : Int) = (i : Int) + 1 := by omega
      rw [e1]; exact he'
    · have hb' : b < s.heap.objs.size := by
        have e' : b = e ∨ b = it := by simpa using hb
        rcases e' with z | z
        · rw [z]; exact hel
        · rw [z]; exact hil
      rw [upd_ne (Nat.ne_of_lt hb')]
      exact (hf b hb).1
  done := by
    intro X hP hw hK hc i pins s σ H E I hf st hg
    subst hP hw hK
    obtain ⟨⟨old, he⟩, hit, hne⟩ := st
    obtain ⟨xs, hq, hx⟩ := hg
    obtain ⟨its, rv, p, hz⟩ := I.tuple hq
    obtain ⟨f0, f1, f2, f3, f4, f5⟩ := hf it (by simp)
    have hl := rv.length
    have hn : its.toArray.size = i := by rw [List.size_toArray]; omega
    refine wpAny_pyNext_enum_endD (Draws.tuple (show X.A.in1.handled = none from I.ok.hd hc) it a hai its.toArray) he ⟨by rw [hn]; exact hit, show s.heap.IsTuple a its.toArray from p⟩ fun h' eb => ⟨rfl, I.turned (t' := s.toks) (fun b o hb q => eb b o hb q) f0 f1 f3 f4 f5⟩
  self := fun A i s Q E st h => let ⟨⟨_, he⟩, _⟩ := st; wpAny_pyIter_enum he h
end Vm

set_option Elab.async false
set_option linter.all false
set_option maxRecDepth 100000
set_option maxHeartbeats 1000000
/-! Vm, part 14: a list that is being made is out of sight. -/
namespace Vm
open PySem PySem.Spec PyProof.Rows L2
/-- H without what stands at D -/
def hd (D : Addr) (H : Hp) : Hp := fun a => if a = D then none else H a
theorem hd_at {D : Addr} {H : Hp} : hd D H D = none := if_pos rfl
theorem hd_ne {D a : Addr} {H : Hp} (h : a ≠ D) : hd D H a = H a := if_neg h
theorem hd_le {D a : Addr} {H : Hp} {o : HO} (h : hd D H a = some o) : H a = some o ∧ a ≠ D := by
  by_cases e : a = D
  · subst e; rw [hd_at] at h; cases h
  · rw [hd_ne e] at h; exact ⟨h, e⟩
section
variable {X : Cx} {pins : List (Addr × Obj)} {σ : L2.St} {H H' : Hp} {s s' : Shared} {D : Addr} {xs : List V}
/-- the object of a tracked list -/
def LstAt (xs : List V) (h : Heap) (D : Addr) (o : Obj) : Prop := xs.length ≤ sizeLine ∧ ∃ (its : List Value) (n : Nat), Vals xs its ∧ o = { cls := .type "list", data := .seq its.toArray n } ∧ h.get? D = some o
theorem Inv.hide (I : L2.Inv X pins σ H s) (hD : H D = some (.lst xs)) : ∃ o, LstAt xs s.heap D o ∧ L2.Inv X (pins ++ [(D, o)]) σ (hd D H) s := by
  obtain ⟨hz, its, n, rv, e⟩ := (show ObjOk X.prog X.w H s.heap D (.lst xs) from I.hok D _ hD)
  refine ⟨_, ⟨hz, its, n, rv, rfl, e⟩, I.ok, I.os, I.bare, ⟨I.base.keep, I.base.slot, fun b o h1 h2 h3 => ?_, I.base.there, fun b ys h => ?_, fun b o u h => ?_, fun b ps h => ?_⟩, I.loc, I.cell, ?_, fun x c h => ?_, fun p hp => ?_, fun a o h => ?_, I.len⟩
  · by_cases q : b = D
    · subst q; exact hd_at
    · rw [hd_ne q]; exact I.base.free b o h1 h2 h3
  · have z := I.base.tups b ys h
    rw [hd_ne (fun q => by subst q; rw [hD] at z; cases z)]; exact z
  · have z := I.base.frzs b o u h
    rw [hd_ne (fun q => by subst q; rw [hD] at z; cases z)]; exact z
  · obtain ⟨more, z⟩ := I.base.tbls b ps h
    exact ⟨more, by rw [hd_ne (fun q => by subst q; rw [hD] at z; cases z)]; exact z⟩
  · by_cases q : X.env.locals = D
    · rw [q]; exact hd_at
    · rw [hd_ne q]; exact I.free
  · by_cases q : c = D
    · rw [q]; exact hd_at
    · rw [hd_ne q]; exact I.freeC x c h
  · rcases List.mem_append.mp hp with hp | hp
    · obtain ⟨h1, h2, h3⟩ := I.pin p (List.mem_append_left _ hp)
      exact ⟨h1, by rw [hd_ne (fun q => by rw [q, hD] at h2; cases h2)]; exact h2, h3⟩
    · rcases List.mem_append.mp hp with hp | hp
      · obtain ⟨h1, h2, h3⟩ := I.pin p (List.mem_append_right _ hp)
        exact ⟨h1, by rw [hd_ne (fun q => by rw [q, hD] at h2; cases h2)]; exact h2, h3⟩
      · have : p = (D, { cls := .type "list", data := .seq its.toArray n }) := by simpa using hp
        subst this
        refine ⟨e, hd_at, fun q => ?_, fun q => ?_, fun v q => by cases q⟩
        · have z : D = X.env.locals := q
          have := I.free
          rw [← z, hD] at this; cases this
        · have q : D ∈ X.fs := q
          obtain ⟨_, ob, ho, _⟩ := I.ok.funs.mem q
          have := I.base.free D ob ho (I.ok.frf D q) fun z => I.ok.exfs D z q
          rw [hD] at this; cases this
  · obtain ⟨h, ne⟩ := hd_le h
    refine (I.hok a o h).stay (fun _ _ _ q => q) (fun b q => ?_) fun b ys q => ?_
    · rw [hd_ne (fun z => by subst z; rw [hD] at q; cases q)]; exact q
    · rw [hd_ne (fun z => by subst z; rw [hD] at q; cases q)]; exact q
theorem Inv.unhide {o : Obj} (I0 : L2.Inv X pins σ H s) (hD : H D = some (.lst xs)) (la : LstAt xs s.heap D o) {σ' : L2.St} (I : L2.Inv X (pins ++ [(D, o)]) σ' H' s') : H' D = none ∧ L2.Inv X pins σ' (L2.upd H' D (.lst xs)) s' := by
  obtain ⟨e, hn, _, _, _⟩ := I.pin (D, o) (by simp)
  have e : s'.heap.get? D = some o := e
  have hn : H' D = none := hn
  obtain ⟨hz, its, n, rv, rfl, _⟩ := la
  refine ⟨hn, I.ok, I.os, I.bare, ⟨I.base.keep, I.base.slot, fun b ob h1 h2 h3 => ?_, I.base.there, fun b ys h => ?_, fun b ob u h => ?_, fun b ps h => ?_⟩, I.loc, I.cell, ?_, fun x c h => ?_, fun p hp => ?_, fun a ob h => ?_, I.len⟩
  · rw [upd_ne (fun q => by subst q; have := I0.base.free b ob h1 h2 h3; rw [hD] at this; cases this)]
    exact I.base.free b ob h1 h2 h3
  · have z := I.base.tups b ys h
    rw [upd_ne (fun q => by subst q; rw [hn] at z; cases z)]; exact z
  · have z := I.base.frzs b ob u h
    rw [upd_ne (fun q => by subst q; rw [hn] at z; cases z)]; exact z
  · obtain ⟨more, z⟩ := I.base.tbls b ps h
    exact ⟨more, by rw [upd_ne (fun q => by subst q; rw [hn] at z; cases z)]; exact z⟩
  · rw [upd_ne (fun q => by have := I0.free; rw [q, hD] at this; cases this)]; exact I.free
  · rw [upd_ne (fun q => by have := I0.freeC x c h; rw [q, hD] at this; cases this)]; exact I.freeC x c h
  · have hp' : p ∈ X.pn ++ (pins ++ [(D, ({ cls := .type "list", data := .seq its.toArray n } : Obj))]) := by
      rcases List.mem_append.mp hp with z | z
      · exact List.mem_append_left _ z
      · exact List.mem_append_right _ (List.mem_append_left _ z)
    obtain ⟨h1, h2, h3⟩ := I.pin p hp'
    refine ⟨h1, ?_, h3⟩
    rw [upd_ne (fun q => by have := (I0.pin p hp).2.1; rw [q, hD] at this; cases this)]; exact h2
  · by_cases qa : a = D
    · subst qa
      rw [upd_same] at h
      cases h
      exact ⟨hz, its, n, rv, e⟩
    · rw [upd_ne qa] at h
      refine (I.hok a ob h).stay (fun _ _ _ q => q) (fun b qb => ?_) fun b ys qb => ?_
      · rw [upd_ne (fun z => by rw [z, hn] at qb; cases qb)]; exact qb
      · rw [upd_ne (fun z => by rw [z, hn] at qb; cases qb)]; exact qb
end
def hidE (t : TE) : TE := fun σ H Q => ∃ D acc, H D = some (.lst acc) ∧ t σ (hd D H) fun y H' => H' D = none → Q y (L2.upd H' D (.lst acc))
def hidT (t : TT) : TT := fun σ H Q => ∃ D acc, H D = some (.lst acc) ∧ t σ (hd D H) fun y H' => H' D = none → Q y (L2.upd H' D (.lst acc))
theorem PE.hide {X : Cx} {e : Expr} {t : TE} (h : PE X e t) : PE X e (hidE t) := by
  refine ⟨fun pins s σ H Q I hq => ?_⟩
  obtain ⟨D, acc, hD, hq⟩ := hq
  obtain ⟨o, la, I1⟩ := Inv.hide I hD
  refine thn (h.run _ s σ _ _ I1 hq) fun u s1 z => ?_
  obtain ⟨v, H1, I2, rv, q⟩ := z
  obtain ⟨hn, I3⟩ := Inv.unhide I hD la I2
  exact ⟨v, _, I3, rv, q hn⟩
theorem PTs.hide {X : Cx} {ifs : List Expr} {t : TT} (h : PTs X ifs t) : PTs X ifs (hidT t) := by
  refine ⟨fun pins s σ H Q I hq => ?_⟩
  obtain ⟨D, acc, hD, hq⟩ := hq
  obtain ⟨o, la, I1⟩ := Inv.hide I hD
  refine thn (h.run _ s σ _ _ I1 hq) fun u s1 z => ?_
  obtain ⟨H1, I2, q⟩ := z
  obtain ⟨hn, I3⟩ := Inv.unhide I hD la I2
  exact ⟨_, I3, q hn⟩
/-! ### the slots of a block's names -/
theorem wipe_get {α : Type} [DecidableEq Nat] : ∀ (ws : List Nat) (σ : L2.St) (j : Nat), (L2.wipe σ ws)[j]? = if j ∈ ws then (if j < σ.length then some none else none) else σ[j]?
  | [], σ, j => by simp [L2.wipe]
  | v :: vs, σ, j => by
    have ih := wipe_get (α := α) vs σ j
    show ((L2.wipe σ vs).set v none)[j]? = _
    rw [List.getElem?_set]
    by_cases e : v = j
    · subst e
      simp only [List.mem_cons, true_or, if_true, wipe_length]
    · have : j ≠ v := fun z => e z.symm
      simp only [if_neg e, List.mem_cons, this, false_or, ih]
theorem wipe_ext {σ σ' : L2.St} {ws : List Nat} (hl : σ'.length = σ.length) (h : ∀ j, j ∉ ws → σ'[j]? = σ[j]?) : L2.wipe σ' ws = L2.wipe σ ws := by
  apply List.ext_getElem?
  intro j
  rw [wipe_get (α := Nat), wipe_get (α := Nat), hl]
  by_cases e : j ∈ ws
  · rw [if_pos e, if_pos e]
  · rw [if_neg e, if_neg e]; exact h j e
theorem wipe_wipe (σ : L2.St) (ws : List Nat) : L2.wipe (L2.wipe σ ws) ws = L2.wipe σ ws :=
  wipe_ext (wipe_length _ _) fun j hj => by rw [wipe_get (α := Nat), if_neg hj]
theorem RpE.wipe {K : PySem.W.Frag} {mg : Str → Option Value} {m : Wm} {H : Hp} {σ : L2.St} {env : Slots} (r : RpE K mg m H σ env) : ∀ ws : List Nat, RpE K mg m H (L2.wipe σ ws) (wipeE env ws)
  | [] => r
  | v :: vs => by
    have ih := RpE.wipe r vs
    show RpE K mg m H ((L2.wipe σ vs).set v none) ((wipeE env vs).set v none)
    refine ⟨by rw [List.length_set, List.length_set]; exact ih.1, fun i d h => ?_⟩
    by_cases e : v = i
    · subst e
      rw [List.getElem?_set] at h
      simp only [if_true] at h
      split at h <;> cases h
    · rw [List.getElem?_set_ne e] at h ⊢
      exact ih.2 i d h
theorem RpE.set {K : PySem.W.Frag} {mg : Str → Option Value} {m : Wm} {H : Hp} {σ : L2.St} {env : Slots} (r : RpE K mg m H σ env) {i : Nat} {v : V} {d : D} (q : Rp K mg m H v d) : RpE K mg m H (σ.set i (some v)) (env.set i (some d)) := by
  refine ⟨by rw [List.length_set, List.length_set]; exact r.1, fun j e h => ?_⟩
  by_cases z : i = j
  · subst z
    rw [List.getElem?_set] at h ⊢
    simp only [if_true] at h ⊢
    split at h
    · cases h
      rw [if_pos (by rw [← r.1]; assumption)]
      exact ⟨v, rfl, q⟩
    · cases h
  · rw [List.getElem?_set_ne z] at h ⊢
    exact r.2 j e h
theorem RpE.none {K : PySem.W.Frag} {mg : Str → Option Value} {m : Wm} {H : Hp} {σ : L2.St} {env : Slots} (r : RpE K mg m H σ env) {i : Nat} : RpE K mg m H (σ.set i none) (env.set i none) := by
  refine ⟨by rw [List.length_set, List.length_set]; exact r.1, fun j e h => ?_⟩
  by_cases z : i = j
  · subst z
    rw [List.getElem?_set] at h
    simp only [if_true] at h
    split at h <;> cases h
  · rw [List.getElem?_set_ne z] at h ⊢
    exact r.2 j e h
/-! ### targets -/
abbrev HLe (h H : Hp) : Prop := ∀ a o, h a = some o → H a = some o
def gT (K : PySem.W.Frag) (mg : Str → Option Value) (t : T) : TG := fun v σ H Q => ∃ m h env st d k, HLe h H ∧ RpE K mg m h σ env ∧ RpS K mg m h st ∧ Rp K mg m h v d ∧ bindT t d st env k ∧
  ∀ env' σ', RpE K mg m h σ' env' → k env' → σ'.length = σ.length → (∀ j, j ∉ tgtNms t → σ'[j]? = σ[j]?) → Q σ' H
def gTs (K : PySem.W.Frag) (mg : Str → Option Value) (t : T) : TGs := fun vs σ H Q => ∃ m h env st ds k, HLe h H ∧ RpE K mg m h σ env ∧ RpS K mg m h st ∧ RpL K mg m h vs ds ∧ bindT t (.tup ds) st env k ∧
  ∀ env' σ', RpE K mg m h σ' env' → k env' → σ'.length = σ.length → (∀ j, j ∉ tgtNms t → σ'[j]? = σ[j]?) → Q σ' H
theorem bindT_out {st : Sto} : ∀ {t : T} {d : D} {env : Slots} {k : Slots → Prop}, bindT t d st env k → ∃ env', k env'
  | .nm i, _, env, k, h => ⟨_, h.2⟩
  | .nil, _, env, k, h => ⟨env, h.2⟩
  | .tup a r, d, env, k, h => by
    have h : (match seqOf st d with | some (x :: xs) => bindT a x st env fun env' => bindT r (.tup xs) st env' k | _ => False) := h
    cases e : seqOf st d with
    | none => rw [e] at h; exact h.elim
    | some xs =>
      rw [e] at h
      cases xs with
      | nil => exact h.elim
      | cons x xs =>
        obtain ⟨env', h⟩ := bindT_out h
        exact bindT_out h
theorem bindT_len {st : Sto} {N : List Str} {sc : Scope} : ∀ {t : T} {ds : List D} {env : Slots} {k : Slots → Prop} {es : List Expr}, bindT t (.tup ds) st env k → mTs N sc t es = true → ds.length = es.length
  | .nm i, _, _, _, _, _, m => by cases m
  | .nil, ds, env, k, es, h, m => by
    cases es with
    | nil => have := h.1; cases this; rfl
    | cons _ _ => cases m
  | .tup a r, ds, env, k, es, h, m => by
    cases es with
    | nil => cases m
    | cons e es =>
      have m : (mT N sc a e && mTs N sc r es) = true := m
      cases ds with
      | nil => exact (show False from h).elim
      | cons x xs =>
        have h : bindT a x st env fun env' => bindT r (.tup xs) st env' k := h
        obtain ⟨env', h⟩ := bindT_out h
        rw [List.length_cons, List.length_cons, bindT_len h (Bool.and_eq_true_iff.mp m).2]
theorem notStarT {N : List Str} {sc : Scope} {t : T} {e : Expr} (h : mT N sc t e = true) : isStar e = false := by
  cases e with
  | Starred a p => cases t <;> cases h
  | _ => rfl
theorem assignEach_plain {x : Expr} {xs : List Expr} {env : PySem.Env} (h : isStar x = false) : assignEach (x :: xs) env = (false, assign x env) :: assignEach xs env := by
  cases x with
  | Starred a p => cases h
  | _ => rfl
theorem assignEach_len {N : List Str} {sc : Scope} {env : PySem.Env} : ∀ {t : T} {es : List Expr}, mTs N sc t es = true → (assignEach es env).length = es.length ∧ (assignEach es env).findIdx? (·.1) = none
  | .nm _, _, m => by cases m
  | .nil, es, m => by
    cases es with
    | nil => exact ⟨rfl, rfl⟩
    | cons _ _ => cases m
  | .tup a r, es, m => by
    cases es with
    | nil => cases m
    | cons e es =>
      have m : (mT N sc a e && mTs N sc r es) = true := m
      have m := Bool.and_eq_true_iff.mp m
      have ih := assignEach_len (env := env) m.2
      rw [assignEach_plain (notStarT m.1)]
      refine ⟨by rw [List.length_cons, List.length_cons, ih.1], ?_⟩
      rw [List.findIdx?_cons]
      simp [ih.2]
section
variable {X : Cx} {N : List Str} {sc : Scope}
theorem loc_of (o : OkX X N sc) {x : Str} (h : (match sc.names.lookup x with | some NameKind.local | some .cell => true | _ => false) = true) : Loc X.env.scope x ∧ (X.fn x = true ∨ X.env.scope.names.lookup x = some .local) := by
  split at h
  · rename_i e; rcases o.hsc x _ e with e | ⟨z, _⟩
    · exact ⟨.inl e, .inr e⟩
    · cases z
  · rename_i e; rcases o.hsc x _ e with e' | ⟨z, _⟩
    · exact ⟨.inr e', .inl (o.hfn x e)⟩
    · cases z
  · cases h
mutual
theorem g_tgt (o : OkX X N sc) : ∀ (t : T) (e : Expr), mT N sc t e = true → PG X e (gT X.K X.mg t)
  | .nm i, e, hm => by
    cases e with
    | Name x p =>
      have hm : (decide (N[i]? = some x) && (match sc.names.lookup x with | some NameKind.local | some .cell => true | _ => false)) = true := hm
      have hm := Bool.and_eq_true_iff.mp hm
      obtain ⟨l1, l2⟩ := loc_of o hm.2
      refine ⟨fun pins s σ H v u Q I rv h => ?_⟩
      obtain ⟨m, h', env, st, d, k, le, re, rs, rd, hb, hk⟩ := h
      obtain ⟨hi, hb⟩ := hb
      refine (pg_name (X := X) (i := i) (x := x) (pos := p) (by rw [o.hN]; exact o.nd) (by rw [o.hN]; exact of_decide_eq_true hm.1) l1 l2).run pins s σ H v u Q I rv ?_
      exact hk _ _ (re.set rd) hb (by rw [List.length_set]) fun j hj => by
        rw [List.getElem?_set_ne]
        intro z; exact hj (by rw [← z]; exact List.mem_singleton.mpr rfl)
    | _ => cases hm
  | .nil, e, hm => by cases hm
  | .tup a r, e, hm => by
    cases e with
    | Tuple es k p =>
      cases es with
      | nil => cases hm
      | cons x xs =>
        have hm : (mT N sc a x && mTs N sc r xs) = true := hm
        have hall : mTs N sc (.tup a r) (x :: xs) = true := hm
        have hm' := Bool.and_eq_true_iff.mp hm
        have pgs : PGs X (x :: xs) (gTs X.K X.mg (.tup a r)) := g_cons o a r x xs (g_tgt o a x hm'.1) (g_tgts o r xs hm'.2) (notStarT hm'.1)
        obtain ⟨hlen, hst⟩ := assignEach_len (env := X.env) hall
        refine ⟨fun pins s σ H v u Q I rv h => ?_⟩
        obtain ⟨m, h', env, st, d, k', le, re, rs, rd, hb, hk⟩ := h
        have hb0 : (match seqOf st d with | some (x :: xs) => bindT a x st env fun env' => bindT r (.tup xs) st env' k' | _ => False) := hb
        cases e : seqOf st d with
        | none => rw [e] at hb0; exact hb0.elim
        | some ds =>
          have hb1 : bindT (.tup a r) (.tup ds) st env k' := by
            show (match (some ds : Option (List D)) with | some (x :: xs) => bindT a x st env fun env' => bindT r (.tup xs) st env' k' | _ => False)
            rw [e] at hb0; exact hb0
          have hl := bindT_len hb1 hall
          obtain ⟨ad, vs, rfl, hs, rl⟩ := rd.seq rs e
          have fin : gTs X.K X.mg (.tup a r) vs σ H Q := ⟨m, h', env, st, ds, k', le, re, rs, rl, hb1, hk⟩
          rcases hs with ⟨_, hs⟩ | ⟨_, hs⟩
          · exact (pg_unl (n := (x :: xs).length) o.calm pgs hlen hst).run pins s σ H _ u Q I rv ⟨ad, vs, rfl, SqL.of (le _ _ hs), by rw [rl.length]; exact hl, fin⟩
          · refine (pg_tup (n := (x :: xs).length) o.calm pgs hlen hst).run pins s σ H _ u Q I rv ⟨ad, vs, rfl, ?_, by rw [rl.length]; exact hl, fin⟩
            rcases hs with (hs | ⟨ob, hs⟩) | hs
            · exact .inl (.inl (le _ _ hs))
            · exact .inl (.inr ⟨ob, le _ _ hs⟩)
            · exact .inr hs
    | _ => cases hm
theorem g_tgts (o : OkX X N sc) : ∀ (t : T) (es : List Expr), mTs N sc t es = true → PGs X es (gTs X.K X.mg t)
  | .nm _, _, hm => by cases hm
  | .nil, es, hm => by
    cases es with
    | nil =>
      refine ⟨fun pins s σ H vs us Q I rv h => ?_⟩
      obtain ⟨m, h', env, st, ds, k, le, re, rs, rl, hb, hk⟩ := h
      obtain ⟨e, hb⟩ := hb
      cases e
      cases rl
      exact pgs_nil.run pins s σ H _ us Q I rv ⟨rfl, hk env σ re hb rfl fun _ _ => rfl⟩
    | cons _ _ => cases hm
  | .tup a r, es, hm => by
    cases es with
    | nil => cases hm
    | cons x xs =>
      have hm : (mT N sc a x && mTs N sc r xs) = true := hm
      have hm := Bool.and_eq_true_iff.mp hm
      exact g_cons o a r x xs (g_tgt o a x hm.1) (g_tgts o r xs hm.2) (notStarT hm.1)
theorem g_cons (o : OkX X N sc) (a r : T) (x : Expr) (xs : List Expr) (h1 : PG X x (gT X.K X.mg a)) (h2 : PGs X xs (gTs X.K X.mg r)) (hs : isStar x = false) : PGs X (x :: xs) (gTs X.K X.mg (.tup a r)) := by
  refine ⟨fun pins s σ H vs us Q I rv h => ?_⟩
  obtain ⟨m, h', env, st, ds, k, le, re, rs, rl, hb, hk⟩ := h
  cases ds with
  | nil => exact (show False from hb).elim
  | cons d ds =>
    cases rl with
    | cons r1 r2 =>
      have hb : bindT a d st env fun env' => bindT r (.tup ds) st env' k := hb
      refine (pgs_cons h1 h2 (by rw [assignEach_plain hs]; rfl)).run pins s σ H _ us Q I rv ⟨_, _, rfl, m, h', env, st, d, _, le, re, rs, r1, hb, fun env' σ' re' hb' l1 j1 => ?_⟩
      exact ⟨m, h', env', st, ds, k, le, re', rs, r2, hb', fun env2 σ2 re2 hk2 l2 j2 => hk env2 σ2 re2 hk2 (l2.trans l1) fun j hj => by
        have hj : j ∉ tgtNms a ++ tgtNms r := hj
        rw [List.mem_append, not_or] at hj
        exact (j2 j hj.2).trans (j1 j hj.1)⟩
end
end
end Vm

set_option Elab.async false
set_option linter.all false
set_option maxRecDepth 100000
set_option maxHeartbeats 1000000
/-! Vm, part 15: what a loop walks, told by its items. -/
namespace Vm
open PySem PySem.Spec PyProof.Rows L2
def Walk (K : PySem.W.Frag) (mg : Str → Option Value) (J : It) (items : List D) (g : Sto → Prop) (m0 : Wm) (H0 : Hp) : Prop :=
  ∀ (i : Nat) (m : Wm) (h H : Hp) (st : Sto), Wl m0 H0 m h → HLe h H → RpS K mg m h st → g st →
    (∀ d, items[i]? = some d → J.go i H ∧ ∀ x H', J.yld i H x H' → (H' = H ∧ Rp K mg m h x d) ∨ ∃ (p : Addr) (o : HO), H p = none ∧ H' = L2.upd H p o ∧ Rp K mg m (L2.upd h p o) x d) ∧ (items.length = i → J.stop i H)
section
variable {K : PySem.W.Frag} {mg : Str → Option Value} {m0 m : Wm} {H0 h H : Hp} {st0 st : Sto} {d0 : D} {xs : List D} {a : Addr}
theorem seq_still (hs : seqOf st0 d0 = some xs) (lv : live d0 xs st) : seqOf st d0 = some xs := by
  cases d0 with
  | ref n =>
    have lv : st[n]? = some (.lst xs) := lv
    show (match st[n]? with | some (.lst xs) => some xs | _ => none) = _
    rw [lv]
  | _ => exact hs
theorem lst_still (hs : seqOf st0 d0 = some xs) (lv : live d0 xs st) : isLst st d0 = isLst st0 d0 := by
  cases d0 with
  | ref n =>
    have lv : st[n]? = some (.lst xs) := lv
    have hs : (match st0[n]? with | some (.lst xs) => some xs | _ => none) = some xs := hs
    show (match st[n]? with | some (.lst _) => true | _ => false) = (match st0[n]? with | some (.lst _) => true | _ => false)
    rw [lv]
    cases e : st0[n]? with
    | none => rw [e] at hs; cases hs
    | some o => rw [e] at hs; cases o <;> first | rfl | cases hs
  | _ => rfl
/-- the sequence as it stands later -/
theorem seq_now (hs : seqOf st0 d0 = some xs) (r0 : Rp K mg m0 H0 (.ref a) d0) (rs0 : RpS K mg m0 H0 st0) (w : Wl m0 H0 m h) (le : HLe h H) (rs : RpS K mg m h st) (lv : live d0 xs st) :
    ∃ vs, ((isLst st0 d0 = true ∧ SqL K H a vs) ∨ (isLst st0 d0 = false ∧ SqT K H a vs)) ∧ RpL K mg m h vs xs := by
  obtain ⟨a', vs, e, hl, rl⟩ := (r0.wl rs0 w).seq rs (seq_still hs lv)
  cases e
  rw [lst_still hs lv] at hl
  refine ⟨vs, ?_, rl⟩
  rcases hl with ⟨z, hl⟩ | ⟨z, hl⟩
  · exact .inl ⟨z, SqL.of (le _ _ hl)⟩
  · refine .inr ⟨z, ?_⟩
    rcases hl with (hl | ⟨o, hl⟩) | hl
    · exact .inl (.inl (le _ _ hl))
    · exact .inl (.inr ⟨o, le _ _ hl⟩)
    · exact .inr hl
theorem walk_lst (hs : seqOf st0 d0 = some xs) (hl : isLst st0 d0 = true) (r0 : Rp K mg m0 H0 (.ref a) d0) (rs0 : RpS K mg m0 H0 st0) : Walk K mg (Itl K a) xs (live d0 xs) m0 H0 := fun i m h H st w le rs lv => by
  obtain ⟨vs, hq, rl⟩ := seq_now hs r0 rs0 w le rs lv
  rcases hq with ⟨_, hq⟩ | ⟨z, _⟩
  · refine ⟨fun d hd => ?_, fun hn => ⟨vs, hq, by rw [rl.length]; omega⟩⟩
    obtain ⟨v, hv, rv⟩ := rl.get hd
    refine ⟨⟨vs, v, hq, hv⟩, fun x H' y => ?_⟩
    obtain ⟨e, y⟩ := y
    have := y vs hq
    rw [hv] at this; cases this
    exact .inl ⟨e, rv⟩
  · rw [hl] at z; cases z
theorem walk_tup (hs : seqOf st0 d0 = some xs) (hl : isLst st0 d0 = false) (r0 : Rp K mg m0 H0 (.ref a) d0) (rs0 : RpS K mg m0 H0 st0) : Walk K mg (Itt K a) xs (live d0 xs) m0 H0 := fun i m h H st w le rs lv => by
  obtain ⟨vs, hq, rl⟩ := seq_now hs r0 rs0 w le rs lv
  rcases hq with ⟨z, _⟩ | ⟨_, hq⟩
  · rw [hl] at z; cases z
  · refine ⟨fun d hd => ?_, fun hn => ⟨vs, hq, by rw [rl.length]; omega⟩⟩
    obtain ⟨v, hv, rv⟩ := rl.get hd
    refine ⟨⟨vs, v, hq, hv⟩, fun x H' y => ?_⟩
    obtain ⟨e, y⟩ := y
    have := y vs hq
    rw [hv] at this; cases this
    exact .inl ⟨e, rv⟩
theorem enumFrom_get : ∀ (xs : List D) (k i : Nat), (enumFrom k xs)[i]? = (xs[i]?).map fun d => D.tup [.int ((k + i : Nat) : Int), d]
  | [], k, i => rfl
  | x :: xs, k, 0 => rfl
  | x :: xs, k, i + 1 => by
    show (enumFrom (k + 1) xs)[i]? = _
    rw [enumFrom_get xs (k + 1) i]
    have : k + 1 + i = k + (i + 1) := by omega
    rw [this]; rfl
theorem enumFrom_len : ∀ (xs : List D) (k : Nat), (enumFrom k xs).length = xs.length
  | [], _ => rfl
  | _ :: xs, k => by show (enumFrom (k + 1) xs).length + 1 = _; rw [enumFrom_len xs]; rfl
theorem walk_enumL (hs : seqOf st0 d0 = some xs) (hl : isLst st0 d0 = true) (r0 : Rp K mg m0 H0 (.ref a) d0) (rs0 : RpS K mg m0 H0 st0) : Walk K mg (Ite K a) (enumFrom 0 xs) (live d0 xs) m0 H0 := fun i m h H st w le rs lv => by
  obtain ⟨vs, hq, rl⟩ := seq_now hs r0 rs0 w le rs lv
  rcases hq with ⟨_, hq⟩ | ⟨z, _⟩
  · refine ⟨fun d hd => ?_, fun hn => ⟨vs, hq, by rw [enumFrom_len] at hn; rw [rl.length]; omega⟩⟩
    rw [enumFrom_get] at hd
    obtain ⟨d1, hd1, rfl⟩ := Option.map_eq_some_iff.mp hd
    obtain ⟨v, hv, rv⟩ := rl.get hd1
    refine ⟨⟨vs, v, hq, hv⟩, fun x H' y => ?_⟩
    obtain ⟨p, x1, rfl, hp, rfl, y⟩ := y
    have := y vs hq
    rw [hv] at this; cases this
    have hp' : h p = none := by cases e : h p with | none => rfl | some o => rw [le p o e] at hp; cases hp
    refine .inr ⟨p, _, hp, rfl, ?_⟩
    rw [Nat.zero_add]
    exact new_tup rs hp' (.cons (.int _) (.cons rv .nil))
  · rw [hl] at z; cases z
theorem walk_enumT (hs : seqOf st0 d0 = some xs) (hl : isLst st0 d0 = false) (r0 : Rp K mg m0 H0 (.ref a) d0) (rs0 : RpS K mg m0 H0 st0) : Walk K mg (IteT K a) (enumFrom 0 xs) (live d0 xs) m0 H0 := fun i m h H st w le rs lv => by
  obtain ⟨vs, hq, rl⟩ := seq_now hs r0 rs0 w le rs lv
  rcases hq with ⟨z, _⟩ | ⟨_, hq⟩
  · rw [hl] at z; cases z
  · refine ⟨fun d hd => ?_, fun hn => ⟨vs, hq, by rw [enumFrom_len] at hn; rw [rl.length]; omega⟩⟩
    rw [enumFrom_get] at hd
    obtain ⟨d1, hd1, rfl⟩ := Option.map_eq_some_iff.mp hd
    obtain ⟨v, hv, rv⟩ := rl.get hd1
    refine ⟨⟨vs, v, hq, hv⟩, fun x H' y => ?_⟩
    obtain ⟨p, x1, rfl, hp, rfl, y⟩ := y
    have := y vs hq
    rw [hv] at this; cases this
    have hp' : h p = none := by cases e : h p with | none => rfl | some o => rw [le p o e] at hp; cases hp
    refine .inr ⟨p, _, hp, rfl, ?_⟩
    rw [Nat.zero_add]
    exact new_tup rs hp' (.cons (.int _) (.cons rv .nil))
theorem zipD_get : ∀ (xs ys : List D) (i : Nat) (d : D), (zipD xs ys)[i]? = some d → ∃ x y, xs[i]? = some x ∧ ys[i]? = some y ∧ d = .tup [x, y]
  | [], ys, i, d, h => by cases h
  | _ :: _, [], i, d, h => by cases h
  | x :: xs, y :: ys, 0, d, h => by cases h; exact ⟨x, y, rfl, rfl, rfl⟩
  | x :: xs, y :: ys, i + 1, d, h => zipD_get xs ys i d h
theorem zipD_len : ∀ (xs ys : List D), (zipD xs ys).length = min xs.length ys.length
  | [], ys => by simp [zipD]
  | _ :: _, [] => by simp [zipD]
  | x :: xs, y :: ys => by
    show (zipD xs ys).length + 1 = _
    rw [zipD_len xs ys, List.length_cons, List.length_cons]; omega
theorem walk_zip {e0 : D} {ys : List D} {b : Addr} (hs : seqOf st0 d0 = some xs) (hl : isLst st0 d0 = true) (r0 : Rp K mg m0 H0 (.ref a) d0) (rs0 : RpS K mg m0 H0 st0) (hs2 : seqOf st0 e0 = some ys) (hl2 : isLst st0 e0 = true) (r2 : Rp K mg m0 H0 (.ref b) e0) :
    Walk K mg (Itz K a b) (zipD xs ys) (fun st => live d0 xs st ∧ live e0 ys st) m0 H0 := fun i m h H st w le rs lv => by
  obtain ⟨vs, hq, rl⟩ := seq_now hs r0 rs0 w le rs lv.1
  obtain ⟨us, hq2, rl2⟩ := seq_now hs2 r2 rs0 w le rs lv.2
  rcases hq with ⟨_, hq⟩ | ⟨z, _⟩
  · rcases hq2 with ⟨_, hq2⟩ | ⟨z, _⟩
    · refine ⟨fun d hd => ?_, fun hn => ⟨vs, us, hq, hq2, by rw [zipD_len] at hn; rw [rl.length, rl2.length]; omega⟩⟩
      obtain ⟨d1, d2, h1, h2, rfl⟩ := zipD_get _ _ _ _ hd
      obtain ⟨v, hv, rv⟩ := rl.get h1
      obtain ⟨u, hu, ru⟩ := rl2.get h2
      refine ⟨⟨vs, us, v, u, hq, hq2, hv, hu⟩, fun x H' y => ?_⟩
      obtain ⟨p, x1, y1, rfl, hp, rfl, y, y2⟩ := y
      have := y vs hq
      rw [hv] at this; cases this
      have := y2 us hq2
      rw [hu] at this; cases this
      have hp' : h p = none := by cases e : h p with | none => rfl | some o => rw [le p o e] at hp; cases hp
      exact .inr ⟨p, _, hp, rfl, new_tup rs hp' (.cons rv (.cons ru .nil))⟩
    · rw [hl2] at z; cases z
  · rw [hl] at z; cases z
theorem walk_zipT {e0 : D} {ys : List D} {b : Addr} (hs : seqOf st0 d0 = some xs) (hl : isLst st0 d0 = false) (r0 : Rp K mg m0 H0 (.ref a) d0) (rs0 : RpS K mg m0 H0 st0) (hs2 : seqOf st0 e0 = some ys) (hl2 : isLst st0 e0 = false) (r2 : Rp K mg m0 H0 (.ref b) e0) :
    Walk K mg (RZ.ItzT K a b) (zipD xs ys) (fun st => live d0 xs st ∧ live e0 ys st) m0 H0 := fun i m h H st w le rs lv => by
  obtain ⟨vs, hq, rl⟩ := seq_now hs r0 rs0 w le rs lv.1
  obtain ⟨us, hq2, rl2⟩ := seq_now hs2 r2 rs0 w le rs lv.2
  rcases hq with ⟨z, _⟩ | ⟨_, hq⟩
  · rw [hl] at z; cases z
  · rcases hq2 with ⟨z, _⟩ | ⟨_, hq2⟩
    · rw [hl2] at z; cases z
    · refine ⟨fun d hd => ?_, fun hn => ⟨vs, us, hq, hq2, by rw [zipD_len] at hn; rw [rl.length, rl2.length]; omega⟩⟩
      obtain ⟨d1, d2, h1, h2, rfl⟩ := zipD_get _ _ _ _ hd
      obtain ⟨v, hv, rv⟩ := rl.get h1
      obtain ⟨u, hu, ru⟩ := rl2.get h2
      refine ⟨⟨vs, us, v, u, hq, hq2, hv, hu⟩, fun x H' y => ?_⟩
      obtain ⟨p, x1, y1, rfl, hp, rfl, y, y2⟩ := y
      have := y vs hq
      rw [hv] at this; cases this
      have := y2 us hq2
      rw [hu] at this; cases this
      have hp' : h p = none := by cases e : h p with | none => rfl | some o => rw [le p o e] at hp; cases hp
      exact .inr ⟨p, _, hp, rfl, new_tup rs hp' (.cons rv (.cons ru .nil))⟩
theorem walk_rng {lo hi : Int} : Walk K mg (Itr lo (hi - lo).toNat) (rngD lo hi) (fun _ => True) m0 H0 := fun i m h H st w le rs _ => by
  refine ⟨fun d hd => ?_, fun hn => by unfold rngD at hn; rw [List.length_map, List.length_range] at hn; exact Nat.le_of_eq hn⟩
  unfold rngD at hd
  rw [List.getElem?_map] at hd
  obtain ⟨j, hj, rfl⟩ := Option.map_eq_some_iff.mp hd
  obtain ⟨hj1, hj2⟩ := List.getElem?_eq_some_iff.mp hj
  rw [List.length_range] at hj1
  rw [List.getElem_range] at hj2
  subst hj2
  refine ⟨hj1, fun x H' y => ?_⟩
  obtain ⟨e, rfl⟩ := y
  exact .inl ⟨e, .int _⟩
theorem walk_str {x : Str} : Walk K mg (Its x) (x.cps.toList.map fun c => D.str ⟨#[c]⟩) (fun _ => True) m0 H0 := fun i m h H st w le rs _ => by
  refine ⟨fun d hd => ?_, fun hn => by rw [List.length_map, Array.length_toList] at hn; exact Nat.le_of_eq hn⟩
  rw [List.getElem?_map] at hd
  obtain ⟨c, hc, rfl⟩ := Option.map_eq_some_iff.mp hd
  rw [Array.getElem?_toList] at hc
  have hlt : i < x.cps.size := (Array.getElem?_eq_some_iff.mp hc).1
  refine ⟨hlt, fun v H' y => ?_⟩
  obtain ⟨e, c', hc', rfl⟩ := y
  rw [hc] at hc'; cases hc'
  exact .inl ⟨e, .str _⟩
end
/-! ### readings -/
def iS (X : Cx) (C : Ctx) (Φ : Fn) (W : WX) (s : Sr) : TI := fun σ H R => ∃ m env st Q0 EX0, RpE X.K X.mg m H σ env ∧ RpS X.K X.mg m H st ∧ wSr Φ C s env st Q0 EX0 ∧ AfX X.K X.mg m H EX0 (fun c d H' => W c d σ H') ∧
  ∀ items g st' m' H' J, Q0 items g st' → Wl m H m' H' → RpS X.K X.mg m' H' st' → Walk X.K X.mg J items g m' H' → R J H'
variable {X : Cx} {L : Lx} {C : Ctx} {Φ : Fn} {W : WX} {N : List Str} {sc : Scope}
theorem i_ex {e : E} {x tg : Expr} (h : PE X x (tE X C Φ W e)) : PI X tg x (iS X C Φ W (.ex e)) := by
  refine ⟨fun pins s σ H R I hq => ?_⟩
  obtain ⟨m, env, st, Q0, EX0, re, rs, w, ax, aq⟩ := hq
  -- the value is looked at first
  have key : ∀ (P : V → Hp → Prop), (∀ v H' d st' m', Wl m H m' H' → RpS X.K X.mg m' H' st' → Rp X.K X.mg m' H' v d → (match d with
    | .str s => Q0 (s.cps.toList.map fun c => .str ⟨#[c]⟩) (fun _ => True) st'
    | x => ∃ xs, seqOf st' x = some xs ∧ Q0 xs (live x xs) st') → P v H') → tE X C Φ W e σ H P := fun P hP => ⟨m, env, st, _, EX0, re, rs, w, ax, fun d st' m' H' v q w' rs' r => hP v H' d st' m' w' rs' r q⟩
  let Pl : V → Hp → Prop := fun v H' => (∃ a, v = .ref a ∧ (∃ ys, SqL X.K H' a ys) ∧ R (Itl X.K a) H') ∨ (∃ a, v = .ref a ∧ (∃ ys, SqT X.K H' a ys) ∧ R (Itt X.K a) H') ∨ ∃ x, v = .str x ∧ R (Its x) H'
  have k := key Pl fun v H' d st' m' w' rs' r q => by
    have gen : (∃ xs, seqOf st' d = some xs ∧ Q0 xs (live d xs) st') → Pl v H' := fun q => by
      obtain ⟨xs, hs, q⟩ := q
      obtain ⟨a, vs, rfl, hl, rl⟩ := r.seq rs' hs
      rcases hl with ⟨hl, hA⟩ | ⟨hl, hA⟩
      · exact .inl ⟨a, rfl, ⟨vs, SqL.of hA⟩, aq _ _ _ _ _ _ q w' rs' (walk_lst hs hl r rs')⟩
      · exact .inr (.inl ⟨a, rfl, ⟨vs, hA⟩, aq _ _ _ _ _ _ q w' rs' (walk_tup hs hl r rs')⟩)
    cases d with
    | str z => cases r; exact .inr (.inr ⟨z, rfl, aq _ _ _ _ _ _ q w' rs' walk_str⟩)
    | _ => exact gen q
  refine thn (h.run pins s σ H Pl I k) fun v s1 z => ?_
  obtain ⟨x1, H1, I1, r1, z⟩ := z
  rcases z with ⟨a, rfl, hs, q⟩ | ⟨a, rfl, hs, q⟩ | ⟨y, rfl, q⟩
  · obtain rfl : v = Value.ref a := r1
    exact pi_list_at I1 hs q
  · obtain rfl : v = Value.ref a := r1
    exact pi_tup_at I1 hs q
  · obtain ⟨t, rfl⟩ := r1
    exact pi_str_at I1 q
where
  pi_list_at {tg : Expr} {pins : List (Addr × Obj)} {σ : L2.St} {H1 : Hp} {s1 : Shared} {a : Addr} {R : It → Hp → Prop} (I1 : L2.Inv X pins σ H1 s1) (hs : ∃ ys, SqL X.K H1 a ys) (q : R (Itl X.K a) H1) : wpAny (model X.prog X.w) X.A (pyIter (.ref a)) (PIE X pins σ tg R) X.xe s1 := by
    obtain ⟨ys, hq⟩ := hs
    obtain ⟨its, rv, p, hz⟩ := I1.list hq
    refine wpAny_pyIter_list p.isList ?_
    refine ⟨s1.heap.objs.size, [s1.heap.objs.size], _, _, H1, rfl, I1.kept (t' := s1.toks) fun b o e => Heap.get?_push_of_some _ e, turn_list a _, ⟨_, Heap.get?_push_size _ rfl, rfl, rfl⟩, fun b hb => ?_, q⟩
    have e : b = s1.heap.objs.size := by simpa using hb
    subst e
    exact I1.fpOk (Nat.le_refl _) (I1.hok.fresh (Nat.le_refl _))
  pi_tup_at {tg : Expr} {pins : List (Addr × Obj)} {σ : L2.St} {H1 : Hp} {s1 : Shared} {a : Addr} {R : It → Hp → Prop} (I1 : L2.Inv X pins σ H1 s1) (hs : ∃ ys, SqT X.K H1 a ys) (q : R (Itt X.K a) H1) : wpAny (model X.prog X.w) X.A (pyIter (.ref a)) (PIE X pins σ tg R) X.xe s1 := by
    obtain ⟨ys, hq⟩ := hs
    obtain ⟨its, rv, p, hz⟩ := I1.tuple hq
    refine wpAny_pyIter_tuple (show s1.heap.IsTuple a its.toArray from p) ?_
    refine ⟨s1.heap.objs.size, [s1.heap.objs.size], _, _, H1, rfl, I1.kept (t' := s1.toks) fun b o e => Heap.get?_push_of_some _ e, turn_tuple a _, ⟨_, Heap.get?_push_size _ rfl, rfl, rfl⟩, fun b hb => ?_, q⟩
    have e : b = s1.heap.objs.size := by simpa using hb
    subst e
    exact I1.fpOk (Nat.le_refl _) (I1.hok.fresh (Nat.le_refl _))
  pi_str_at {tg : Expr} {pins : List (Addr × Obj)} {σ : L2.St} {H1 : Hp} {s1 : Shared} {x : Str} {t : Tok} {R : It → Hp → Prop} (I1 : L2.Inv X pins σ H1 s1) (q : R (Its x) H1) : wpAny (model X.prog X.w) X.A (pyIter (.str x t)) (PIE X pins σ tg R) X.xe s1 := by
    cases ha : x.cps.all (· < 128)
    · exact wpAny_pyIter_wide ha (pi_one (tk := s1.toks) I1 _ (turn_str _ x t "str_iterator" (.inr rfl)) ⟨_, Heap.get?_push_size _ rfl, rfl, rfl⟩ q)
    · exact wpAny_pyIter_ascii ha (pi_one (tk := s1.toks) I1 _ (turn_str _ x t "str_ascii_iterator" (.inl rfl)) ⟨_, Heap.get?_push_size _ rfl, rfl, rfl⟩ q)
theorem i_rng (hs : Has X L C Φ W N sc) {es : Es} {xs : List Expr} {tg : Expr} {p pos : Pos} (hg : gloB sc "range" = true) (hp : xs.any isStar = false) (hl : (xs.length == 1 || xs.length == 2) = true) (ha : PA X xs (tA X C Φ W es)) : PI X tg (.Call (.Name "range" p) xs [] pos) (iS X C Φ W (.rng es)) := by
  refine ⟨fun pins s σ H R I hq => ?_⟩
  obtain ⟨m, env, st, Q0, EX0, re, rs, w, ax, aq⟩ := hq
  obtain ⟨g1, _, _⟩ := glo_of hs.ok hg
  have hm : X.mg "range" = none := hs.kn.blt _ (by decide)
  cases xs with
  | nil => cases hl
  | cons x xs =>
    have hp' := hp
    rw [List.any_cons, Bool.or_eq_false_iff] at hp'
    refine Call_ (ld_blt I g1 hm boot_range (PyProof.Rows.callWith_type1 (runA ha I re rs w ax fun us s1 vs H1 ds st1 m1 I1 rv q w1 rs1 rl => ?_) (starEach_plain hp'.1) (plain_any hp'.2)))
    obtain ⟨lo, hi, hd, h1, h2, h3, h4, q⟩ := q
    rcases hd with ⟨rfl, rfl⟩ | rfl
    · obtain ⟨v, rfl, rv'⟩ := rl.one
      cases rv'
      obtain ⟨u, rfl, t, rfl⟩ := vals1 rv
      exact call_range_1 (range_it I1 h1 h2 h3 h4 (aq _ _ _ _ _ _ q w1 rs1 walk_rng))
    · obtain ⟨v, v', rfl, rv', rv''⟩ := rl.two
      cases rv'; cases rv''
      obtain ⟨u, u', rfl, ⟨t, rfl⟩, ⟨t', rfl⟩⟩ := vals2 rv
      exact call_range_2 (range_it I1 h1 h2 h3 h4 (aq _ _ _ _ _ _ q w1 rs1 walk_rng))
theorem i_enu (hs : Has X L C Φ W N sc) {e : E} {x : Expr} {elts : List Expr} {kk : Nat} {p pos tpos : Pos} (hg : gloB sc "enumerate" = true) (hn : isStar x = false) (h : PE X x (tE X C Φ W e)) : PI X (.Tuple elts kk tpos) (.Call (.Name "enumerate" p) [x] [] pos) (iS X C Φ W (.enu e)) := by
  refine ⟨fun pins s σ H R I hq => ?_⟩
  obtain ⟨m, env, st, Q0, EX0, re, rs, w, ax, aq⟩ := hq
  obtain ⟨g1, _, _⟩ := glo_of hs.ok hg
  have hm : X.mg "enumerate" = none := hs.kn.blt _ (by decide)
  have e1 := starEach_plain (xs := []) (env := X.env) hn
  refine Call_ (ld_blt I g1 hm boot_enumerate (PyProof.Rows.callWith_type1 ?_ e1 rfl))
  rw [e1]
  refine Calls.spliced_cons (runE h I re rs w ax fun u s1 v H1 d st1 m1 I1 rv q l1 rs1 rd => Calls.spliced_nil ?_)
  obtain ⟨xs, hsq, q⟩ := q
  obtain ⟨a, vs, rfl, hl, rl⟩ := rd.seq rs1 hsq
  obtain rfl : u = Value.ref a := rv
  have fp : ∀ b, b ∈ [s1.heap.objs.size + 1, s1.heap.objs.size] → FpOk X pins H1 b := fun b hb => by
    have e' : b = s1.heap.objs.size + 1 ∨ b = s1.heap.objs.size := by simpa using hb
    have hle : s1.heap.objs.size ≤ b := by
      rcases e' with z | z
      · rw [z]; exact Nat.le_add_right _ _
      · rw [z]; exact Nat.le_refl _
    exact I1.fpOk hle (I1.hok.fresh hle)
  rcases hl with ⟨hl, hA⟩ | ⟨hl, hA⟩
  · obtain ⟨its, rv, p', hz⟩ := I1.list (SqL.of hA)
    refine call_enumerate_list p'.isList fun h' he hit hsz hk => wpAny_pyIter_enum he ?_
    have I2 : L2.Inv X pins σ H1 { s1 with heap := h' } := I1.kept (t' := s1.toks) hk
    exact ⟨s1.heap.objs.size + 1, [s1.heap.objs.size + 1, s1.heap.objs.size], _, _, H1, rfl, I2, turn_enum a (s1.heap.objs.size + 1) s1.heap.objs.size, ⟨⟨.none, he⟩, hit, Nat.succ_ne_self _⟩, fp, aq _ _ _ _ _ _ q l1 rs1 (walk_enumL hsq hl rd rs1)⟩
  · obtain ⟨its, rv, p', hz⟩ := I1.tuple hA
    have hlt : a < s1.heap.objs.size := by obtain ⟨o, ho, _⟩ := id p'; exact Heap.lt_size ho
    refine enum_tuple (show s1.heap.IsTuple a its.toArray from p') fun h' he hit hk => wpAny_pyIter_enum he ?_
    have I2 : L2.Inv X pins σ H1 { s1 with heap := h' } := I1.kept (t' := s1.toks) hk
    exact ⟨s1.heap.objs.size + 1, [s1.heap.objs.size + 1, s1.heap.objs.size], _, _, H1, rfl, I2, turn_enumT a (s1.heap.objs.size + 1) s1.heap.objs.size (Nat.ne_of_lt (Nat.lt_succ_of_lt hlt)) (Nat.ne_of_lt hlt), ⟨⟨.none, he⟩, hit, Nat.succ_ne_self _⟩, fp, aq _ _ _ _ _ _ q l1 rs1 (walk_enumT hsq hl rd rs1)⟩
theorem i_zip (hs : Has X L C Φ W N sc) {e e2 : E} {x y : Expr} {elts : List Expr} {kk : Nat} {p pos tpos : Pos} (hg : gloB sc "zip" = true) (hn : isStar x = false) (hn2 : isStar y = false) (h : PE X x (tE X C Φ W e)) (h2 : PE X y (tE X C Φ W e2)) : PI X (.Tuple elts kk tpos) (.Call (.Name "zip" p) [x, y] [] pos) (iS X C Φ W (.zip e e2)) := by
  refine ⟨fun pins s σ H R I hq => ?_⟩
  obtain ⟨m, env, st, Q0, EX0, re, rs, w, ax, aq⟩ := hq
  obtain ⟨g1, _, _⟩ := glo_of hs.ok hg
  have hm : X.mg "zip" = none := hs.kn.blt _ (by decide)
  have e1 := starEach_plain (xs := [y]) (env := X.env) hn
  have e2' := starEach_plain (xs := []) (env := X.env) hn2
  refine (RZ.pi_zipA (p := p) (pos := pos) (tpos := tpos) (elts := elts) (kk := kk) g1 hm (ta := fun σ H Q => tE X C Φ W e σ H fun v H1 => tE X C Φ W e2 σ H1 fun u H2 => Q [v, u] H2) ⟨fun pos' pins' s' σ' H' Q' I' hq' => ?_⟩ e1 (by rw [e2']; rfl)).run pins s σ H R I ?_
  · rw [e1, e2']
    exact Calls.spliced_cons (thn (h.run pins' s' σ' H' _ I' hq') fun v s1 ⟨x1, H1, I1, r1, q1⟩ => Calls.spliced_cons (thn (h2.run pins' s1 σ' H1 _ I1 q1) fun u s2 ⟨x2, H2, I2, r2, q2⟩ => Calls.spliced_nil ⟨[x1, x2], H2, I2, .cons r1 (.cons r2 .nil), q2⟩))
  · refine ⟨m, env, st, _, EX0, re, rs, w, ax, fun d st1 m1 H1 v w1 l1 rs1 rd => ⟨m1, env, st1, _, EX0, re.wl rs l1, rs1, w1, ax.wl l1, fun d2 st2 m2 H2 v2 w2 l2 rs2 rd2 => ?_⟩⟩
    obtain ⟨xs, ys, hll, hx, hy, q⟩ := w2
    have rd := rd.wl rs1 l2
    obtain ⟨a, vs, rfl, hl, rl⟩ := rd.seq rs2 hx
    obtain ⟨b, us, rfl, hl2, rl2⟩ := rd2.seq rs2 hy
    refine ⟨a, b, vs, us, rfl, ?_⟩
    rcases hl with ⟨hl, hA⟩ | ⟨hl, hA⟩
    · rcases hl2 with ⟨hl2, hB⟩ | ⟨hl2, hB⟩
      · exact .inl ⟨SqL.of hA, SqL.of hB, aq _ _ _ _ _ _ q (l1.trans l2) rs2 (walk_zip hx hl rd rs2 hy hl2 rd2)⟩
      · rw [hl, hl2] at hll; cases hll
    · rcases hl2 with ⟨hl2, hB⟩ | ⟨hl2, hB⟩
      · rw [hl, hl2] at hll; cases hll
      · exact .inr ⟨hA, hB, aq _ _ _ _ _ _ q (l1.trans l2) rs2 (walk_zipT hx hl rd rs2 hy hl2 rd2)⟩
end Vm

set_option Elab.async false
set_option linter.all false
set_option maxRecDepth 100000
set_option maxHeartbeats 1000000
/-! Vm, part 16: comprehensions. -/
namespace Vm
open PySem PySem.Spec PyProof.Rows L2
variable {X : Cx} {L : Lx} {C : Ctx} {Φ : Fn} {W : WX} {N : List Str} {sc : Scope}
abbrev noW : WX := fun _ _ _ _ => False
theorem relS_look {sc : Scope} : ∀ {names : List (Str × NameKind)} {x : Str} {k : NameKind}, names.lookup x = some k →
    (names.map fun (n, k) => if (k == NameKind.free && sc.kind == .function && sc.names.lookup n == some .cell) then (n, NameKind.cell) else (n, k)).lookup x = some k ∨
      (k = .free ∧ (names.map fun (n, k) => if (k == NameKind.free && sc.kind == .function && sc.names.lookup n == some .cell) then (n, NameKind.cell) else (n, k)).lookup x = some .cell)
  | [], x, k, h => by cases h
  | (n, k0) :: r, x, k, h => by
    have ih := @relS_look sc r x k
    rw [List.map_cons]
    rw [List.lookup_cons] at h
    cases hx : x == n with
    | true =>
      rw [hx] at h
      cases h
      by_cases c : (k0 == NameKind.free && sc.kind == .function && sc.names.lookup n == some .cell) = true
      · right
        have hk : k0 = .free := by
          rw [Bool.and_eq_true, Bool.and_eq_true] at c
          exact beq_iff_eq.mp c.1.1
        refine ⟨hk, ?_⟩
        simp only [if_pos c, List.lookup_cons, hx]
      · left
        simp only [if_neg c, List.lookup_cons, hx]
    | false =>
      rw [hx] at h
      by_cases c : (k0 == NameKind.free && sc.kind == .function && sc.names.lookup n == some .cell) = true
      · simp only [if_pos c, List.lookup_cons, hx]; exact ih h
      · simp only [if_neg c, List.lookup_cons, hx]; exact ih h
theorem Knows.to {Y : Cx} {L' : Lx} (k : Knows X L C Φ) (hf : L'.fns = L.fns) (hc : L'.cls = L.cls) (hx : L'.exs = L.exs) (e1 : Y.prog = X.prog) (e2 : Y.w = X.w) (e3 : Y.K = X.K) (e4 : Y.mg = X.mg) (e5 : Y.base = X.base) (cal : ∀ {a φ j}, Callee X a φ j → Callee Y a φ j) : Knows Y L' C Φ := by
  obtain ⟨Yp, Yw, YK, Ymg, Yb, YA, YN, Y0, YH, Ye, Yo, Ys, Yx, Yf, Yc, Ypn, Yxe⟩ := Y
  dsimp only at e1 e2 e3 e4 e5
  subst e1 e2 e3 e4 e5
  exact ⟨k.blt, k.glo, fun f h => let ⟨a, h1, h2, h3⟩ := k.fns f (by rw [← hf]; exact h); ⟨a, h1, h2, cal h3⟩, fun c h => let ⟨h1, f, φ, h2, h3, h4⟩ := k.mkc c (by rw [← hc]; exact h); ⟨h1, f, φ, h2, cal h3, h4⟩,
    fun c q f h => let ⟨h1, h2, a, h3, h4⟩ := k.mth c q f h; ⟨h1, h2, a, h3, cal h4⟩, fun c f h => let ⟨a, h3, h4⟩ := k.len c f h; ⟨a, h3, cal h4⟩,
    fun c q f h => let ⟨h1, p, a, h3, h4⟩ := k.prp c q f h; ⟨h1, p, a, h3, cal h4⟩, k.fld, k.cls, k.kTC, k.kCC, k.kCT, k.nfT, k.nfC, k.exk, k.kTX, k.kXT, k.kXX, fun c h => k.rai c (by rw [← hx]; exact h),
    fun c f h => let ⟨h1, a, h3, h4⟩ := k.ne c f h; ⟨h1, a, h3, cal h4⟩, k.sys⟩
theorem has_blk (hs : Has X L C Φ W N sc) {scope : Scope} {s : Shared} {H : Hp} {Ca : Addr} {cl : List (Str × Addr)} {fp : List Addr} : Has (X.blk s H scope (compEnvC scope cl Ca X.env) fp) L.off C Φ noW N scope where
  ok := ⟨hs.ok.hN, hs.ok.nd, hs.ok.calm, fun x k h => relS_look h, fun x h => by show (scope.names.lookup x == some NameKind.cell) = true; rw [h]; rfl, hs.ok.un, hs.ok.gd⟩
  kn := hs.kn.to rfl rfl rfl rfl rfl rfl rfl rfl fun h => ⟨h.ok⟩
  tk := fun u s' ⟨a, B, sI, pins, σ, H, cls, d, e, I, nb, up, sky, na, os, ag, w⟩ => w.elim
  lam := fun z => by cases (show false = true from z)
  xv := fun z => by cases (show false = true from z)
theorem blk_of (o : OkX X N sc) {scope : Scope} {own : List (Str × Nat)} (h : BlkOk N sc scope own) : BlkOk X.N X.env.scope scope own := by
  rw [o.hN]
  refine ⟨h.kind, h.uniq, h.ix, fun y hy e => ?_, h.own⟩
  rcases h.free y hy e with z | z
  · rcases o.hsc _ _ z with z | ⟨q, _⟩
    · exact .inl z
    · cases q
  · rcases o.hsc _ _ z with z | ⟨_, z⟩
    · exact .inr z
    · exact .inl z
def tI (X : Cx) (C : Ctx) (Φ : Fn) (es : Es) : TT := fun σ H Q => ∃ m env st Q0, RpE X.K X.mg m H σ env ∧ RpS X.K X.mg m H st ∧ wIfs Φ C es env st Q0 ∧ ∀ b st' m' H', Q0 b st' → Wl m H m' H' → RpS X.K X.mg m' H' st' → Q b H'
theorem i_nil : PTs X [] (tI X C Φ .nil) := by
  refine ⟨fun pins s σ H Q I h => ?_⟩
  obtain ⟨m, env, st, Q0, re, rs, w, aq⟩ := h
  exact pts_nil.run pins s σ H Q I (aq _ _ _ _ w (Wl.refl _ _) rs)
theorem i_one {e : E} {x : Expr} (h : PT X x (tT X C Φ noW e)) : PTs X [x] (tI X C Φ (.cons e .nil)) := by
  refine ⟨fun pins s σ H Q I hq => ?_⟩
  obtain ⟨m, env, st, Q0, re, rs, w, aq⟩ := hq
  refine (pts_one h).run pins s σ H Q I ⟨m, env, st, _, _, re, rs, w, fun _ _ _ _ _ _ z => z.elim, fun d st' m' H' q w' rs' => ?_⟩
  obtain ⟨b, rfl, q⟩ := q
  refine ⟨b, rfl, aq _ _ _ _ ?_ w' rs'⟩
  cases b with
  | true => exact q
  | false => exact q
theorem hd_upd {D : Addr} {H : Hp} {o : HO} (h : H D = none) : hd D (L2.upd H D o) = H := by
  funext a
  by_cases e : a = D
  · subst e; rw [hd_at, h]
  · rw [hd_ne e, upd_ne e]
theorem upd_upd {D : Addr} {H : Hp} {o o' : HO} : L2.upd (L2.upd H D o) D o' = L2.upd H D o' := by
  funext a
  by_cases e : a = D
  · subst e; rw [upd_same, upd_same]
  · rw [upd_ne e, upd_ne e, upd_ne e]
theorem upd_comm {D p : Addr} {H : Hp} {o o' : HO} (h : p ≠ D) : L2.upd (L2.upd H D o) p o' = L2.upd (L2.upd H p o') D o := by
  funext a
  by_cases e : a = D
  · subst e; rw [upd_same, upd_ne (Ne.symm h), upd_same]
  · by_cases e2 : a = p
    · subst e2; rw [upd_same, upd_ne e, upd_same]
    · rw [upd_ne e2, upd_ne e, upd_ne e, upd_ne e2]
theorem le_upd {D : Addr} {h : Hp} {o : HO} (hn : h D = none) : HLe h (L2.upd h D o) := fun a u e => by
  rw [upd_ne (fun z => by rw [z, hn] at e; cases e)]; exact e
theorem comp_lc {al : Bool} {own : List Nat} {e : E} {t : T} {sr : Sr} {fs : Es} (htg : ∀ i ∈ tgtNms t, i ∈ own) {σ : L2.St} {H : Hp} {Q : VK} (h : tE X C Φ W (.comp al own e t sr fs) σ H Q) :
    tLc (iS X C Φ W sr) (gT X.K X.mg t) (hidT (tI X C Φ fs)) (hidE (tE X C Φ noW e)) own σ H Q := by
  obtain ⟨m, env, st, Q0, EX0, re, rs, w, ax, aq⟩ := h
  refine ⟨m, env, st, _, EX0, re, rs, w, ax, fun items g st1 m1 H1 J q w1 rs1 walk => fun A0 hD => ?_⟩
  let step : D → List D → Sto → (List D → Sto → Prop) → Prop := fun x acc st2 k => bindT t x st2 (wipeE env own) fun env2 => wIfs Φ C fs env2 st2 fun b st3 =>
    if b = true then wE Φ C e env2 st3 (fun y st4 => acc.length < sizeLine ∧ k (acc ++ [y]) st4) (fun _ _ => False) else k acc st3
  have q : each g step items [] st1 fun acc st5 => retL al acc st5 Q0 := q
  let Wi : Nat → Nat → Hp → Prop := fun i n H' => n = items.length - i ∧ i ≤ items.length ∧ ∃ (m2 : Wm) (h : Hp) (accV : List V) (acc : List D) (st2 : Sto), H' = L2.upd h A0 (.lst accV) ∧ h A0 = none ∧ Wl m1 H1 m2 h ∧ RpS X.K X.mg m2 h st2 ∧ RpL X.K X.mg m2 h accV acc ∧ each g step (items.drop i) acc st2 fun acc st5 => retL al acc st5 Q0
  have stay : ∀ {i n : Nat} {m2 : Wm} {h : Hp} {accV : List V} {acc : List D} {st2 : Sto}, n = items.length - i → i ≤ items.length → h A0 = none → Wl m1 H1 m2 h → RpS X.K X.mg m2 h st2 → RpL X.K X.mg m2 h accV acc → each g step (items.drop i) acc st2 (fun acc st5 => retL al acc st5 Q0) → Wi i n (L2.upd h A0 (.lst accV)) :=
    fun {i n m2 h accV acc st2} h1 h2 h3 h4 h5 h6 h7 => ⟨h1, h2, m2, h, accV, acc, st2, rfl, h3, h4, h5, h6, h7⟩
  refine ⟨Wi, ⟨_, stay rfl (Nat.zero_le _) hD (Wl.refl _ _) rs1 .nil q⟩, ?_⟩
  rintro i n H' ⟨hn, hle, m2, h, accV, acc, st2, rfl, hDn, w2, rs2, rl, qe⟩
  have gst : g st2 := by
    cases hd' : items.drop i with
    | nil => rw [hd'] at qe; exact qe.1
    | cons x r => rw [hd'] at qe; exact qe.1
  obtain ⟨wk1, wk2⟩ := walk i m2 h (L2.upd h A0 (.lst accV)) st2 w2 (le_upd hDn) rs2 gst
  cases hdr : items.drop i with
  | nil =>
    rw [hdr] at qe
    have hi' : items.length = i := by
      have := congrArg List.length hdr
      rw [List.length_drop] at this
      simp at this; omega
    refine .inl ⟨wk2 hi', ?_⟩
    obtain ⟨d, st3, m3, q3, w3, rs3, r3⟩ := EQ.lst (X := X) rs2 hDn rl qe.2
    exact aq d st3 m3 _ _ q3 (w1.trans (w2.trans w3)) rs3 r3
  | cons x rest =>
    rw [hdr] at qe
    have hix : items[i]? = some x := by
      have : (items.drop i)[0]? = some x := by rw [hdr]; rfl
      rw [List.getElem?_drop] at this
      simpa using this
    have hlt : i < items.length := (List.getElem?_eq_some_iff.mp hix).1
    have hrest : items.drop (i + 1) = rest := by
      rw [← List.drop_drop, hdr]; rfl
    obtain ⟨go, yl⟩ := wk1 x hix
    refine .inr ⟨go, fun H' => Wi (i + 1) (items.length - (i + 1)) H', fun H' z => ⟨_, by omega, z⟩, fun x0 H' y => ?_⟩
    -- the state behind the item
    have key : ∀ h' : Hp, h' A0 = none → Wl m2 h m2 h' → RpS X.K X.mg m2 h' st2 → Rp X.K X.mg m2 h' x0 x → gT X.K X.mg t x0 (L2.wipe σ own) (L2.upd h' A0 (.lst accV)) fun σ2 H2 => L2.wipe σ2 own = L2.wipe σ own ∧ hidT (tI X C Φ fs) σ2 H2 fun b H3 =>
        if b = true then hidE (tE X C Φ noW e) σ2 H3 fun y H4 => ∃ acc, H4 A0 = some (.lst acc) ∧ acc.length < sizeLine ∧ Wi (i + 1) (items.length - (i + 1)) (L2.upd H4 A0 (.lst (acc ++ [y]))) else Wi (i + 1) (items.length - (i + 1)) H3 := fun h' hDn' w' rs' rx => by
      have wl : Wl m H m2 h' := w1.trans (w2.trans w')
      refine ⟨m2, h', wipeE env own, st2, x, _, le_upd hDn', (re.wl rs wl).wipe own, rs', rx, qe.2, fun env' σ' re' hk hl hj => ⟨?_, ?_⟩⟩
      · rw [← wipe_wipe σ own]
        exact wipe_ext hl fun j hjn => hj j fun z => hjn (htg j z)
      · refine ⟨A0, accV, upd_same, ?_⟩
        rw [hd_upd hDn']
        refine ⟨m2, env', st2, _, re', rs', hk, fun b st3 m3 H3 qb w3 rs3 hn3 => ?_⟩
        have wl3 := w2.trans (w'.trans w3)
        have rl3 : RpL X.K X.mg m3 H3 accV acc := (rl.wl rs2 w').wl rs' w3
        cases b with
        | false =>
          rw [if_neg Bool.false_ne_true] at qb
          exact stay rfl hlt hn3 wl3 rs3 rl3 (by rw [hrest]; exact qb)
        | true =>
          rw [if_pos rfl] at qb
          refine ⟨A0, accV, upd_same, ?_⟩
          rw [hd_upd hn3]
          refine ⟨m3, env', st3, _, _, re'.wl rs' w3, rs3, qb, fun _ _ _ _ _ _ z => z.elim, fun y st4 m4 H4 v qy w4 rs4 ry hn4 => ⟨accV, upd_same, ?_, ?_⟩⟩
          · rw [rl.length]; exact qy.1
          · rw [upd_upd]
            exact stay rfl hlt hn4 (wl3.trans w4) rs4 ((rl3.wl rs3 w4).append (.cons ry .nil)) (by rw [hrest]; exact qy.2)
    rcases yl x0 H' y with ⟨rfl, rx⟩ | ⟨p, o, hp, rfl, rx⟩
    · exact key h hDn (Wl.refl _ _) rs2 rx
    · have hpD : p ≠ A0 := fun z => by rw [z, upd_same] at hp; cases hp
      have hp' : h p = none := by rw [upd_ne hpD] at hp; exact hp
      rw [upd_comm hpD]
      exact key (L2.upd h p o) (by rw [upd_ne (Ne.symm hpD)]; exact hDn) (Wl.upd hp') (rs2.upd hp') rx
theorem own_map (own : List Nat) : (own.map fun i => (N.getD i "", i)).map (·.2) = own := by rw [List.map_map]; exact List.map_id'' (fun _ => rfl) own
theorem s_comp (hs : Has X L C Φ W N sc) {al : Bool} {own : List Nat} {e : E} {t : T} {sr : Sr} {fs : Es} {elt tg iter : Expr} {ifs : List Expr} {scope : Scope} {pos : Pos} (hi : PI X tg iter (iS X C Φ W sr)) (ok : BlkOk N sc scope (own.map fun i => (N.getD i "", i)))
    (hmT : mT N scope t tg = true) (htg : ∀ i ∈ tgtNms t, i ∈ own) (hts : ∀ Y : Cx, Has Y L.off C Φ noW N scope → PTs Y ifs (tI Y C Φ fs)) (he : ∀ Y : Cx, Has Y L.off C Φ noW N scope → PE Y elt (tE Y C Φ noW e))
    (hfs : ∀ x, foldedSetIterable iter X.env x = pure x) : PE X (.ListComp elt [⟨tg, iter, ifs, 0⟩] scope pos) (tE X C Φ W (.comp al own e t sr fs)) := by
  have pe := pe_lc (X := X) (pos := pos) (g := gT X.K X.mg t) (tt := hidT (tI X C Φ fs)) (te := hidE (tE X C Φ noW e)) hs.ok.calm (by rw [hs.ok.hN]; exact hs.ok.nd) hi (blk_of hs.ok ok) (fun s H Ca cl fp => g_tgt (has_blk hs).ok t tg hmT)
    (fun s H Ca cl fp => PTs.hide (hts _ (has_blk hs))) (fun s H Ca cl fp => PE.hide (he _ (has_blk hs))) hfs
  rw [own_map] at pe
  exact ⟨fun pins s σ H Q I h => pe.run pins s σ H Q I (comp_lc htg h)⟩
/-- name = [..] on one line, the name a local -/
theorem s_setLc (hs : Has X L C Φ W N sc) {al : Bool} {own : List Nat} {e : E} {t : T} {sr : Sr} {fs : Es} {elt tg iter : Expr} {ifs : List Expr} {scope : Scope} {pos spos py : Pos} {y : Str} {i : Nat} (hi : PI X tg iter (iS X C Φ W sr)) (ok : BlkOk N sc scope (own.map fun i => (N.getD i "", i)))
    (hmT : mT N scope t tg = true) (htg : ∀ i ∈ tgtNms t, i ∈ own) (hts : ∀ Y : Cx, Has Y L.off C Φ noW N scope → PTs Y ifs (tI Y C Φ fs)) (he : ∀ Y : Cx, Has Y L.off C Φ noW N scope → PE Y elt (tE Y C Φ noW e))
    (hfs : ∀ x, foldedSetIterable iter X.env x = pure x) (hy : N[i]? = some y) (hyl : sc.names.lookup y = some .local) (hsw : swapsWith (.ListComp elt [⟨tg, iter, ifs, 0⟩] scope pos) (some (.Name y py)) spos.line X.env = pure true) :
    PS X (.Assign [.Name y py] (.ListComp elt [⟨tg, iter, ifs, 0⟩] scope pos) spos) (tAsg (tE X C Φ W (.comp al own e t sr fs)) (gName i)) := by
  have hl : X.env.scope.names.lookup y = some .local := by
    rcases hs.ok.hsc _ _ hyl with z | ⟨z, _⟩
    · exact z
    · cases z
  have pe := ps_setLc (X := X) (pos := pos) (spos := spos) (py := py) (i := i) (g := gT X.K X.mg t) (tt := hidT (tI X C Φ fs)) (te := hidE (tE X C Φ noW e)) hs.ok.calm (by rw [hs.ok.hN]; exact hs.ok.nd) (by rw [hs.ok.hN]; exact hy) hl hsw hi (blk_of hs.ok ok) (fun s H Ca cl fp => g_tgt (has_blk hs).ok t tg hmT)
    (fun s H Ca cl fp => PTs.hide (hts _ (has_blk hs))) (fun s H Ca cl fp => PE.hide (he _ (has_blk hs))) hfs
  rw [own_map] at pe
  exact ⟨fun pins s σ H D I h => pe.run pins s σ H D I (comp_lc htg h)⟩
/-- list(range(..)) -/
theorem s_rngl (hs : Has X L C Φ W N sc) {al : Bool} {es : Es} {xs : List Expr} {p pos p2 pos2 : Pos} (hg : gloB sc "list" = true) (hg2 : gloB sc "range" = true) (hp : xs.any isStar = false) (hl : (xs.length == 1 || xs.length == 2) = true) (ha : PA X xs (tA X C Φ W es)) :
    PE X (.Call (.Name "list" p) [.Call (.Name "range" p2) xs [] pos2] [] pos) (tE X C Φ W (.rngl al es)) := by
  obtain ⟨g1, _, _⟩ := glo_of hs.ok hg
  obtain ⟨g2, _, _⟩ := glo_of hs.ok hg2
  have m1 : X.mg "list" = none := hs.kn.blt _ (by decide)
  have m2 : X.mg "range" = none := hs.kn.blt _ (by decide)
  have pr : PRg X (.Call (.Name "range" p2) xs [] pos2) fun σ H R => tA X C Φ W es σ H fun vs H1 => ∃ lo hi, (vs = [.int hi] ∧ lo = 0 ∨ vs = [.int lo, .int hi]) ∧ R lo hi H1 := by
    intro pins s σ H Q I h
    cases xs with
    | nil => cases hl
    | cons x xs =>
      have hp' := hp
      rw [List.any_cons, Bool.or_eq_false_iff] at hp'
      refine Call_ (ld_blt I g2 m2 boot_range (PyProof.Rows.callWith_type1 (thn (ha.run pos2 pins s σ H _ I h) fun us s1 ⟨vs, H1, I1, rv, lo, hi, hd, q⟩ => ?_) (starEach_plain hp'.1) (plain_any hp'.2)))
      rcases hd with ⟨rfl, rfl⟩ | rfl
      · obtain ⟨u, rfl, t, rfl⟩ := vals1 rv
        exact call_range_1 ⟨_, 0, hi, _, _, _, H1, rfl, IsRange.new _ _ _ _ _ _ _, I1.kept fun b u e => Heap.get?_push_of_some _ e, q⟩
      · obtain ⟨u, u', rfl, ⟨t, rfl⟩, ⟨t', rfl⟩⟩ := vals2 rv
        exact call_range_2 ⟨_, lo, hi, _, _, _, H1, rfl, IsRange.new _ _ _ _ _ _ _, I1.kept fun b u e => Heap.get?_push_of_some _ e, q⟩
  refine ⟨fun pins s σ H Q I h => (pe_listRg (p := p) (pos := pos) hs.ok.calm g1 m1 pr).run pins s σ H Q I ?_⟩
  obtain ⟨m, env, st, Q0, EX0, re, rs, w, ax, aq⟩ := h
  refine ⟨m, env, st, _, EX0, re, rs, w, ax, fun ds st' m' H' vs q w' rs' rl => ?_⟩
  obtain ⟨lo, hi, hd, hr, q⟩ := q
  have rg : RpL X.K X.mg m' H' (rgV lo hi) (rngD lo hi) := by
    have : ∀ l : List Nat, RpL X.K X.mg m' H' (l.map fun i => V.int (lo + (i : Nat))) (l.map fun (i : Nat) => D.int (lo + i)) := fun l => by
      induction l with
      | nil => exact .nil
      | cons a l ih => exact .cons (.int _) ih
    exact this _
  refine ⟨lo, hi, ?_, hr, fun pq hq => ?_⟩
  · rcases hd with ⟨rfl, rfl⟩ | rfl
    · obtain ⟨v, rfl, rv'⟩ := rl.one
      cases rv'
      exact .inl ⟨rfl, rfl⟩
    · obtain ⟨v, v', rfl, rv', rv''⟩ := rl.two
      cases rv'; cases rv''
      exact .inr rfl
  · obtain ⟨d, st2, m2, q2, w2, rs2, r2⟩ := EQ.lst (X := X) rs' hq rg q
    exact aq d st2 m2 _ _ q2 (w'.trans w2) rs2 r2
end Vm

set_option Elab.async false
set_option linter.all false
set_option maxRecDepth 100000
set_option maxHeartbeats 1000000
/-! Vm, part 16b: dict displays. -/
namespace Vm
open PySem PySem.Spec PyProof.Rows L2
section
variable {X : Cx} {pins : List (Addr × Obj)} {σ : L2.St} {H H' : Hp} {s s' : Shared} {D : Addr}
/-- an object that may be out of sight for a while -/
structure Plain (x : HO) (o : Obj) : Prop where
  tup : ∀ ys, x ≠ .tup ys
  frz : ∀ q u, x ≠ .frz q u
  tbl : ∀ ps, x ≠ .tbl ps
  own : ∀ a, x ≠ .own a
  cel : ∀ v, o.data ≠ .cell v
theorem Inv.hideG {x : HO} {o : Obj} (I : L2.Inv X pins σ H s) (hD : H D = some x) (p : Plain x o) (e : s.heap.get? D = some o) : L2.Inv X (pins ++ [(D, o)]) σ (hd D H) s := by
  have off : ∀ {b : Addr} {y : HO}, H b = some y → x ≠ y → hd D H b = some y := fun {b y} z n => by
    rw [hd_ne (fun q => by subst q; rw [hD] at z; exact n (Option.some.inj z))]; exact z
  have no : ∀ {b : Addr}, H b = none → hd D H b = none := fun {b} z => by
    by_cases q : b = D
    · rw [q]; exact hd_at
    · rw [hd_ne q]; exact z
  refine ⟨I.ok, I.os, I.bare, ⟨I.base.keep, I.base.slot, fun b u h1 h2 h3 => no (I.base.free b u h1 h2 h3), I.base.there, fun b ys h => off (I.base.tups b ys h) (p.tup ys), fun b q u h => off (I.base.frzs b q u h) (p.frz q u), fun b ps h => ?_⟩, I.loc, I.cell, no I.free, fun y c h => no (I.freeC y c h), fun q hq => ?_, fun a u h => ?_, I.len⟩
  · obtain ⟨more, z⟩ := I.base.tbls b ps h
    exact ⟨more, off z (p.tbl _)⟩
  · have old : q ∈ X.pn ++ pins → s.heap.get? q.1 = some q.2 ∧ hd D H q.1 = none ∧ (q.1 ≠ X.env.locals ∧ q.1 ∉ X.fs ∧ ∀ v, q.2.data ≠ .cell v) := fun z => by
      obtain ⟨h1, h2, h3⟩ := I.pin q z
      exact ⟨h1, no h2, h3⟩
    rcases List.mem_append.mp hq with z | z
    · exact old (List.mem_append_left _ z)
    · rcases List.mem_append.mp z with z | z
      · exact old (List.mem_append_right _ z)
      · have : q = (D, o) := by simpa using z
        subst this
        refine ⟨e, hd_at, fun z => ?_, fun z => ?_, p.cel⟩
        · have z : D = X.env.locals := z
          have := I.free
          rw [← z, hD] at this; cases this
        · have z : D ∈ X.fs := z
          obtain ⟨_, ob, ho, _⟩ := I.ok.funs.mem z
          have := I.base.free D ob ho (I.ok.frf D z) fun y => I.ok.exfs D y z
          rw [hD] at this; cases this
  · obtain ⟨h, ne⟩ := hd_le h
    exact (I.hok a u h).stay (fun _ _ _ q => q) (fun b q => off q (by first | exact p.tup _ | exact p.own _)) fun b ys q => off q (by first | exact p.tup _ | exact p.own _)
theorem Inv.unhideG {x : HO} {o : Obj} (I0 : L2.Inv X pins σ H s) (hD : H D = some x) {σ' : L2.St} (I : L2.Inv X (pins ++ [(D, o)]) σ' H' s') (back : ∀ (h : Heap) (G : Hp), h.get? D = some o → ObjOk X.prog X.w G h D x) (nx : ∀ φ, x ≠ .ext φ := by intro φ z; cases z) : H' D = none ∧ L2.Inv X pins σ' (L2.upd H' D x) s' := by
  obtain ⟨e, hn, _, _, _⟩ := I.pin (D, o) (by simp)
  have e : s'.heap.get? D = some o := e
  have hn : H' D = none := hn
  refine ⟨hn, I.ok, I.os, I.bare, ⟨I.base.keep, I.base.slot, fun b ob h1 h2 h3 => ?_, I.base.there, fun b ys h => ?_, fun b ob u h => ?_, fun b ps h => ?_⟩, I.loc, I.cell, ?_, fun x c h => ?_, fun p hp => ?_, fun a ob h => ?_, I.len⟩
  · rw [upd_ne (fun q => by subst q; have := I0.base.free b ob h1 h2 h3; rw [hD] at this; cases this)]
    exact I.base.free b ob h1 h2 h3
  · have z := I.base.tups b ys h
    rw [upd_ne (fun q => by subst q; rw [hn] at z; cases z)]; exact z
  · have z := I.base.frzs b ob u h
    rw [upd_ne (fun q => by subst q; rw [hn] at z; cases z)]; exact z
  · obtain ⟨more, z⟩ := I.base.tbls b ps h
    exact ⟨more, by rw [upd_ne (fun q => by subst q; rw [hn] at z; cases z)]; exact z⟩
  · rw [upd_ne (fun q => by have := I0.free; rw [q, hD] at this; cases this)]; exact I.free
  · rw [upd_ne (fun q => by have := I0.freeC x c h; rw [q, hD] at this; cases this)]; exact I.freeC x c h
  · have hp' : p ∈ X.pn ++ (pins ++ [(D, o)]) := by
      rcases List.mem_append.mp hp with z | z
      · exact List.mem_append_left _ z
      · exact List.mem_append_right _ (List.mem_append_left _ z)
    obtain ⟨h1, h2, h3⟩ := I.pin p hp'
    refine ⟨h1, ?_, h3⟩
    rw [upd_ne (fun q => by have := (I0.pin p hp).2.1; rw [q, hD] at this; cases this)]; exact h2
  · by_cases qa : a = D
    · subst qa
      rw [upd_same] at h
      cases h
      exact back _ _ e
    · rw [upd_ne qa] at h
      refine (I.hok a ob h).stay (fun _ _ _ q => q) (fun b qb => ?_) fun b ys qb => ?_
      · rw [upd_ne (fun z => by rw [z, hn] at qb; cases qb)]; exact qb
      · rw [upd_ne (fun z => by rw [z, hn] at qb; cases qb)]; exact qb
end
variable {X : Cx} {L : Lx} {C : Ctx} {Φ : Fn} {W : WX} {N : List Str} {sc : Scope}
inductive PR (K : PySem.W.Frag) (mg : Str → Option Value) (m : Wm) (H : Hp) : List (V × V) → List D → Prop where
  | nil : PR K mg m H [] []
  | cons {k v : V} {dk dv : D} {ps : List (V × V)} {ds : List D} : Rp K mg m H k dk → Rp K mg m H v dv → PR K mg m H ps ds → PR K mg m H ((k, v) :: ps) (dk :: dv :: ds)
structure PP (X : Cx) (C : Ctx) (Φ : Fn) (W : WX) (es : Es) (ks : List (Option Expr)) (vs : List Expr) : Prop where
  run : ∀ (pos : Pos) (pins : List (Addr × Obj)) (σ : L2.St) (H : Hp) (s : Shared) (m : Wm) (env : Slots) (st : Sto) (Q1 : List D → Sto → Prop) (EX0 : QD), L2.Inv X pins σ H s → RpE X.K X.mg m H σ env → RpS X.K X.mg m H st → wEs Φ C es env st Q1 EX0 → AfX X.K X.mg m H EX0 (fun c d H' => W c d σ H') →
    wpAny (model X.prog X.w) X.A (evalPairs (pairTrees ks vs X.env pos)) (fun ws s' => ∃ ps ds H' st' m', L2.Inv X pins σ H' s' ∧ VV ps ws ∧ PR X.K X.mg m' H' ps ds ∧ Q1 ds st' ∧ Wl m H m' H' ∧ RpS X.K X.mg m' H' st') X.xe s
theorem pp_nil : PP X C Φ W .nil [] [] := ⟨fun pos pins σ H s m env st Q1 EX0 I re rs w ax => pairTrees_nil_walk ⟨[], [], H, st, m, I, .nil, .nil, w, Wl.refl _ _, rs⟩⟩
theorem pp_cons {k v : E} {r : Es} {x y : Expr} {ks : List (Option Expr)} {vs : List Expr} (hk : PE X x (tE X C Φ W k)) (hv : PE X y (tE X C Φ W v)) (hr : PP X C Φ W r ks vs) : PP X C Φ W (.cons k (.cons v r)) (some x :: ks) (y :: vs) := by
  refine ⟨fun pos pins σ H s m env st Q1 EX0 I re rs w ax => pairTrees_cons_walk ?_⟩
  refine runE hk I re rs w ax fun u1 s1 v1 H1 d1 st1 m1 I1 r1 w1 l1 rs1 q1 => ?_
  refine runE hv I1 (re.wl rs l1) rs1 w1 (ax.wl l1) fun u2 s2 v2 H2 d2 st2 m2 I2 r2 w2 l2 rs2 q2 => ?_
  refine thn (hr.run pos pins σ H2 s2 m2 env st2 _ EX0 I2 ((re.wl rs l1).wl rs1 l2) rs2 w2 ((ax.wl l1).wl l2)) fun ws s3 z => ?_
  obtain ⟨ps, ds, H3, st3, m3, I3, rv, pr, q, l3, rs3⟩ := z
  exact ⟨(v1, v2) :: ps, d1 :: d2 :: ds, H3, st3, m3, I3, .cons ⟨r1, r2⟩ rv, .cons ((q1.wl rs1 l2).wl rs2 l3) (q2.wl rs2 l3) pr, q, (l1.trans l2).trans l3, rs3⟩
section
variable {K : PySem.W.Frag} {mg : Str → Option Value} {m : Wm} {H : Hp}
theorem PR.keys : ∀ {ps : List (V × V)} {ds : List D} {kvs : List (Key × D)}, PR K mg m H ps ds → pairsK ds = some kvs → ∃ kv : List (Key × V), ps = kv.map (fun q => (kV q.1, q.2)) ∧ RpK K mg m H kv kvs ∧ kv.length = kvs.length
  | _, _, _, .nil, h => by cases h; exact ⟨[], rfl, .nil, rfl⟩
  | _, _, _, .cons (k := k) (v := v) (dk := dk) (dv := dv) (ds := ds) a b r, h => by
    obtain ⟨q, e1, h1⟩ := Option.bind_eq_some_iff.mp (show (keyOf dk).bind (fun k => (pairsK ds).map fun ps => (k, dv) :: ps) = some _ from h)
    obtain ⟨kvs, e2, e3⟩ := Option.map_eq_some_iff.mp h1
    subst e3
    obtain ⟨kv, rfl, rk, hl⟩ := PR.keys r e2
    have := a.key e1
    subst this
    exact ⟨(q, v) :: kv, rfl, .cons b rk, congrArg Nat.succ hl⟩
theorem RpK.mrg : ∀ {kv : List (Key × V)} {kvs : List (Key × D)} {acc : List (Key × V)} {acd : List (Key × D)}, RpK K mg m H kv kvs → RpK K mg m H acc acd → RpK K mg m H (mergeK acc kv) (mrgK acd kvs)
  | _, _, _, _, .nil, h => h
  | _, _, acc, acd, .cons (k := k) (v := v) (d := d) r t, h => RpK.mrg (acc := putK acc k v) (acd := putD acd k d) t (RpK.put r h)
end
theorem EQ.dct {m : Wm} {H : Hp} {st : Sto} {Q0 : QD} {al : Bool} {p : Addr} {vs : List (Key × V)} {ds : List (Key × D)} (rs : RpS X.K X.mg m H st) (hp : H p = none) (r : RpK X.K X.mg m H vs ds) (q : retK al ds st Q0) : EQ X m H Q0 (.ref p) (L2.upd H p (.dK vs)) := by
  obtain ⟨_, q⟩ := q
  cases al with
  | false => exact ⟨_, st, m, q, Wl.upd hp, rs.upd hp, .dct upd_same (notin_new rs hp) (r.wl rs (Wl.upd hp))⟩
  | true =>
    have q : Q0 (.ref st.length) (st ++ [.dct ds]) := q
    refine ⟨.ref st.length, st ++ [.dct ds], m ++ [some p], q, Wl.push hp, rs.push hp (.dct upd_same (r.wl rs (Wl.push hp))), .ref (by simp [rs.len]) fun a e => ?_⟩
    rw [← rs.len, List.getElem?_append_right (Nat.le_refl _)] at e
    simp at e
    rw [e]
theorem s_dic {al : Bool} {es : Es} {ks : List (Option Expr)} {vs : List Expr} {p : Pos} (h : PP X C Φ W es ks vs) (hall : ks.all (·.isSome) = true) (hl : ks.length = vs.length) (h15 : ks.length ≤ 15) (he : (∃ k r, es = .cons k r) → ks = [] → False) (hs : (∃ k r, es = .star k r) → False) : PE X (.Dict ks vs p) (tE X C Φ W (.dic al es)) := by
  by_cases h0 : ks = []
  · subst h0
    obtain rfl : vs = [] := List.length_eq_zero_iff.mp hl.symm
    cases es with
    | nil =>
      refine ⟨fun pins s σ H Q I hq => ?_⟩
      obtain ⟨m, env, st, Q0, EX0, re, rs, w, ax, aq⟩ := hq
      obtain ⟨kvs, ek, q⟩ := (show ∃ ps, pairsK [] = some ps ∧ retK al (mrgK [] ps) st Q0 from w)
      cases ek
      refine (pe_dnewK (X := X) (pos := p)).run pins s σ H Q I fun a ha => ?_
      obtain ⟨d, st3, m3, q3, w3, rs3, r3⟩ := EQ.dct (X := X) rs ha .nil q
      exact aq d st3 m3 _ _ q3 w3 rs3 r3
    | cons k r => exact (he ⟨k, r, rfl⟩ rfl).elim
    | star k r => exact ⟨fun pins s σ H Q I hq => by
      obtain ⟨m, env, st, Q0, EX0, re, rs, w, ax, aq⟩ := hq
      exact (hs ⟨k, r, rfl⟩).elim⟩
  · refine ⟨fun pins s σ H Q I hq => ?_⟩
    obtain ⟨m, env, st, Q0, EX0, re, rs, w, ax, aq⟩ := hq
    have hn := I.hok.fresh (Nat.le_refl s.heap.objs.size)
    have I1 := I.laid (a := s.heap.objs.size) (o := .dK []) (h' := s.heap.push { cls := .type "dict", data := .dict #[] }) (t' := s.toks) (fun _ _ q => Heap.get?_push_of_some _ q) (Nat.le_refl _) (dk_empty s.heap I.big)
    obtain ⟨o, ho, hd0⟩ := Heap.dictOf_iff.mp (Heap.DictOf.new (knd := mixKind X.prog X.w) s.heap)
    have hsys : (s.heap.objs.size == sysModules) = false := beq_eq_false_iff_ne.mpr (Ne.symm (Nat.ne_of_lt I.big))
    have pl : Plain (.dK []) o := ⟨fun ys z => (by cases z), fun q u z => (by cases z), fun ps z => (by cases z), fun q z => (by cases z), fun v z => by
      have := (Heap.get?_push_size s.heap rfl).symm.trans ho
      cases this
      cases z⟩
    have I2 := Inv.hideG I1 upd_same pl ho
    have eH : hd s.heap.objs.size (L2.upd H s.heap.objs.size (.dK [])) = H := by
      funext a
      by_cases q : a = s.heap.objs.size
      · rw [q, hd_at, hn]
      · rw [hd_ne q, upd_ne q]
    rw [eH] at I2
    refine wpAny_Dict_walk (knd := mixKind X.prog X.w) hall hl h0 h15 (thn (h.run p _ σ H _ m env st _ EX0 I2 re rs w ax) fun ws s2 z => ?_)
    obtain ⟨ps, ds, H2, st2, m2, I3, rel, pr, ⟨kvs, ek, q2⟩, l2, rs2⟩ := z
    obtain ⟨hn2, I4⟩ := Inv.unhideG I1 upd_same I3 fun h G e => ⟨Nat.zero_le _, hsys, [], .nil, Heap.dictOf_iff.mpr ⟨o, e, hd0⟩⟩
    obtain ⟨kv, rfl, rk, hkl⟩ := PR.keys pr ek
    obtain ⟨rs', c, rk2⟩ := carries_of (P := X.prog) (w := X.w) rel
    obtain ⟨z, hd, vs0, r0, dd⟩ := dk_of I4.hok (a := s.heap.objs.size) (kvs := []) upd_same
    cases r0
    refine ⟨rs', c, dd, fun h' dd' hs => ?_⟩
    have rm := RpK.mrg rk .nil
    have hz : (mergeK [] kv).length ≤ sizeLine := by rw [rm.len]; exact q2.1
    have he : ∃ q, h'.get? s.heap.objs.size = some q := let ⟨q, _, _, hq, _⟩ := dd'; ⟨q, hq⟩
    have I5 := d_write (ob := .dK (mergeK [] kv)) (t' := s2.toks + ws.length) I4 (by rw [upd_same]; exact True.intro) hs he (dk_new hz hd (rk2.merge .nil) dd')
    have eU : L2.upd (L2.upd H2 s.heap.objs.size (.dK [])) s.heap.objs.size (.dK (mergeK [] kv)) = L2.upd H2 s.heap.objs.size (.dK (mergeK [] kv)) := by
      funext a
      by_cases q : a = s.heap.objs.size
      · rw [q, upd_same, upd_same]
      · rw [upd_ne q, upd_ne q, upd_ne q]
    rw [eU] at I5
    obtain ⟨d, st3, m3, q3, w3, rs3, r3⟩ := EQ.dct (X := X) rs2 hn2 rm q2
    exact ⟨.ref s.heap.objs.size, _, I5, rfl, aq d st3 m3 _ _ q3 (l2.trans w3) rs3 r3⟩
end Vm

set_option Elab.async false
set_option linter.all false
set_option maxRecDepth 100000
set_option maxHeartbeats 4000000
/-! Vm, part 16: statements, each by its parts. -/
namespace Vm
open PySem PySem.Spec PyProof.Rows L2
theorem op_of {o : BinO} {p : Operator} (h : opB o p = true) : p = opOf o := (of_decide_eq_true h).symm
theorem and2 {a b : Bool} (h : (a && b) = true) : a = true ∧ b = true := Bool.and_eq_true_iff.mp h
theorem nt {a : Bool} (h : (!a) = true) : a = false := by cases a; rfl; cases h
def Ex (X : Cx) (C : Ctx) (Φ : Fn) (W : WX) (e : E) (x : Expr) : Prop := PE X x (tE X C Φ W e) ∧ PT X x (tT X C Φ W e)
theorem Ex.mk1 {X : Cx} {C : Ctx} {Φ : Fn} {W : WX} {e : E} {x : Expr} (h : PE X x (tE X C Φ W e)) (he : ∀ whole, isTrue x X.env whole = (do let v ← whole; standAt x.pos; holding [v] (truthy v))) : Ex X C Φ W e x := ⟨h, pt_of h he⟩
def Bo (X : Cx) (C : Ctx) (Φ : Fn) (W : WX) (es : Es) (xs : List Expr) : Prop := ∀ (isAnd : Bool) (p : Pos), PE X (.BoolOp (if isAnd = true then BoolOp.And else BoolOp.Or) xs p) (tE X C Φ W (.bop isAnd es)) ∧ PW X (.BoolOp (if isAnd = true then BoolOp.And else BoolOp.Or) xs p) (tT X C Φ W (.bop isAnd es))
def Fo (X : Cx) (x : Expr) : Prop := ∀ v, foldedSetIterable x X.env v = pure v
theorem never {X : Cx} {C : Ctx} {Φ : Fn} {W : WX} {e : E} {x : Expr} (h : ∀ env st Q EX, ¬ wE Φ C e env st Q EX) : PE X x (tE X C Φ W e) ∧ PW X x (tT X C Φ W e) :=
  ⟨⟨fun _ _ _ _ _ _ ⟨_, _, _, _, _, _, _, w, _⟩ => (h _ _ _ _ w).elim⟩, ⟨fun _ _ _ _ _ _ _ ⟨_, _, _, _, _, _, _, w, _⟩ => (h _ _ _ _ w).elim⟩⟩
theorem notSet {X : Cx} {L : Lx} {N : List Str} {sc : Scope} : ∀ {e : E} {x : Expr}, mE L N sc e x = true → Fo X x := by
  intro e x h
  cases x with
  | Set a k p => cases e <;> cases h
  | _ => exact fun _ => rfl
/-! ### which text -/
def selfP (e : Expr) : Pos := e.pos
def compScope : Expr → Option Scope
  | .ListComp _ _ s _ | .SetComp _ _ s _ | .DictComp _ _ _ s _ => some s
  | _ => none
/-- name = value stores as it goes -/
def swB (sc : Scope) (y : Str) (py : Pos) (ex : Expr) : Bool := match compScope ex with
  | some s => decide (sc.names.lookup y = some .local) && (py.line == ex.pos.line) && !(s.names.any fun (n, k) => n == y && (k == .local || k == .cell))
  | none => false
def noStores (ex : Expr) : Bool := match ex with
  | .Tuple vs _ _ => vs.all (foldedForSure 8)
  | _ => true
def isNm : Expr → Bool
  | .Name _ _ => true
  | _ => false
def isCell (sc : Scope) : Expr → Bool
  | .Name x _ => decide (sc.names.lookup x = some .cell)
  | _ => false
def tgOk (sc : Scope) (tg ex : Expr) : Bool := match tg with
  | .Name y py => !(isComp ex) || swB sc y py ex
  | .Tuple ts _ _ => noStores ex || ts.any (isCell sc)
  | _ => false
def parOk (N : List Str) (sc : Scope) (t : T) (x y : Str) : Bool := match t with
  | .tup (.nm i) (.tup (.nm j) .nil) => decide (N[i]? = some x) && decide (N[j]? = some y) && !(i == j) && decide (sc.names.lookup x = some .local) && decide (sc.names.lookup y = some .local)
  | _ => false
def parOk3 (N : List Str) (sc : Scope) (t : T) (x y z : Str) : Bool := match t with
  | .tup (.nm i) (.tup (.nm j) (.tup (.nm l) .nil)) => decide (N[i]? = some x) && decide (N[j]? = some y) && decide (N[l]? = some z) && !(i == j) && !(i == l) && !(j == l) && decide (sc.names.lookup x = some .local) && decide (sc.names.lookup y = some .local) && decide (sc.names.lookup z = some .local)
  | _ => false
mutual
def mS (L : Lx) (N : List Str) (sc : Scope) : S → Stmt → Bool
  | .set t e, s => match s with
    | .Assign [tg] ex _ => mE L N sc e ex && mT N sc t tg && tgOk sc tg ex
    | _ => false
  | .par t es, s => match s with
    | .Assign [.Tuple [.Name x px, .Name y py] _ _] (.Tuple [a, b] _ _) _ => parOk N sc t x y && mEs L N sc es [a, b] && !(isStar a) && !(isStar b) && (py.line == px.line) && !([a, b].all (foldedForSure 8)) && !([a, b].all (constantsAlone 8))
    | .Assign [.Tuple [.Name x px, .Name y py, .Name z pz] _ _] (.Tuple [a, b, c] _ _) _ => parOk3 N sc t x y z && mEs L N sc es [a, b, c] && !(isStar a) && !(isStar b) && !(isStar c) && (py.line == px.line) && (pz.line == px.line) && !([a, b, c].all (foldedForSure 8)) && !([a, b, c].all (constantsAlone 8))
    | _ => false
  | .setA o f e, s => match s with
    | .Assign [.Attribute x g _] ex _ => decide (f = g) && mE L N sc o x && mE L N sc e ex
    | _ => false
  | .setI o i e, s => match s with
    | .Assign [.Subscript x y _] ex _ => mE L N sc o x && mE L N sc i y && plainIx y && mE L N sc e ex
    | _ => false
  | .aug _ _ _, _ => false
  | .exp e, s => match s with
    | .Expr ex _ => mE L N sc e ex && !(isComp ex)
    | _ => false
  | .ret e, s => match s with
    | .Return (some ex) _ => mE L N sc e ex
    | _ => false
  | .ifs c a b, s => match s with
    | .If x p q _ => mE L N sc c x && mSs L N sc a p && mSs L N sc b q
    | _ => false
  | .for_ t r b, s => match s with
    | .For tg it body [] _ => mT N sc t tg && mSr L N sc r it tg && mSs L N sc b body
    | _ => false
  | .whil c b, s => match s with
    | .While x body [] _ => mE L N sc c x && mSs L N sc b body
    | _ => false
  | .raise c e, s => match s with
    | .Raise (some (.Call (.Name g _) [x] [] _)) none _ => decide (c = g) && gloB sc g && L.exs.contains c && mE L N sc e x && !(isStar x)
    | _ => false
  | .try_ _ _ _ _, _ => false
  | .brk, s => match s with
    | .Break _ => true
    | _ => false
  | .cont, s => match s with
    | .Continue _ => true
    | _ => false
  | .pass, s => match s with
    | .Pass _ => true
    | _ => false
  | .dead, _ => true
def mSs (L : Lx) (N : List Str) (sc : Scope) : Ss → List Stmt → Bool
  | .nil, ss => ss.isEmpty
  | .cons s r, ss => match ss with
    | x :: xs => mS L N sc s x && mSs L N sc r xs
    | [] => false
  | .frz _ r, ss => mSs L N sc r ss
end
/-! ### readings -/
structure HasS (X : Cx) (L : Lx) (C : Ctx) (Φ : Fn) (W : WX) (N : List Str) (sc : Scope) : Prop where
  h : Has X L C Φ W N sc
  po : PassesOwn (model X.prog X.w) X.A X.env X.xe
  rm : Room 2 X.A
variable {X : Cx} {L : Lx} {C : Ctx} {Φ : Fn} {W : WX} {N : List Str} {sc : Scope}
def AfN (K : PySem.W.Frag) (mg : Str → Option Value) (m : Wm) (H : Hp) (P : Slots → Sto → Prop) (R : L2.St → Hp → Prop) : Prop :=
  ∀ env' st' m' H' σ', P env' st' → Wl m H m' H' → RpS K mg m' H' st' → RpE K mg m' H' σ' env' → R σ' H'
def AfE (K : PySem.W.Frag) (mg : Str → Option Value) (m : Wm) (H : Hp) (P : D → Slots → Sto → Prop) (W : WX) : Prop :=
  ∀ x env' st' m' H' σ' cls dx, P x env' st' → Wl m H m' H' → RpS K mg m' H' st' → RpE K mg m' H' σ' env' → RpX K mg m' H' cls dx x → W cls dx σ' H'
structure AfK (K : PySem.W.Frag) (mg : Str → Option Value) (W : WX) (m : Wm) (H : Hp) (Kt0 : Kt) (E : Ends) : Prop where
  nx : AfN K mg m H Kt0.nx E.nx
  rt : AfQ K mg m H Kt0.rt E.rt
  bk : AfN K mg m H Kt0.bk E.bk
  ct : AfN K mg m H Kt0.ct E.ct
  ex : AfE K mg m H Kt0.ex W
theorem AfN.wl {K : PySem.W.Frag} {mg : Str → Option Value} {m m' : Wm} {H H' : Hp} {P : Slots → Sto → Prop} {R : L2.St → Hp → Prop} (w : Wl m H m' H') (a : AfN K mg m H P R) : AfN K mg m' H' P R :=
  fun env st m2 H2 σ q w2 s r => a env st m2 H2 σ q (w.trans w2) s r
theorem AfE.wl {K : PySem.W.Frag} {mg : Str → Option Value} {m m' : Wm} {H H' : Hp} {P : D → Slots → Sto → Prop} {W : WX} (w : Wl m H m' H') (a : AfE K mg m H P W) : AfE K mg m' H' P W :=
  fun x env st m2 H2 σ c d q w2 s r => a x env st m2 H2 σ c d q (w.trans w2) s r
theorem AfK.wl {K : PySem.W.Frag} {mg : Str → Option Value} {m m' : Wm} {H H' : Hp} {Kt0 : Kt} {E : Ends} (w : Wl m H m' H') (a : AfK K mg W m H Kt0 E) : AfK K mg W m' H' Kt0 E :=
  ⟨a.nx.wl w, a.rt.wl w, a.bk.wl w, a.ct.wl w, a.ex.wl w⟩
def tS (X : Cx) (C : Ctx) (Φ : Fn) (W : WX) (s : S) : TS := fun E σ H => ∃ m env st Kt0, RpE X.K X.mg m H σ env ∧ RpS X.K X.mg m H st ∧ wS Φ C s env st Kt0 ∧ AfK X.K X.mg W m H Kt0 E
def tSs (X : Cx) (C : Ctx) (Φ : Fn) (W : WX) (s : Ss) : TS := fun E σ H => ∃ m env st Kt0, RpE X.K X.mg m H σ env ∧ RpS X.K X.mg m H st ∧ wSs Φ C s env st Kt0 ∧ AfK X.K X.mg W m H Kt0 E
/-- an exception out of an expression of the statement -/
theorem ax_of {m : Wm} {H : Hp} {st : Sto} {σ : L2.St} {env : Slots} {P : D → Slots → Sto → Prop} (a : AfE X.K X.mg m H P W) (rs : RpS X.K X.mg m H st) (re : RpE X.K X.mg m H σ env) : AfX X.K X.mg m H (fun x st1 => P x env st1) (fun c d H' => W c d σ H') :=
  fun x st' m' H' cls dx q w s r => a x env st' m' H' σ cls dx q w s (re.wl rs w) r
/-- the rest, the value there -/
theorem teOf {e : E} {m : Wm} {H : Hp} {st : Sto} {σ : L2.St} {env : Slots} {Q0 : QD} {P : D → Slots → Sto → Prop} {R : VK} (re : RpE X.K X.mg m H σ env) (rs : RpS X.K X.mg m H st) (w : wE Φ C e env st Q0 fun x st1 => P x env st1) (a : AfE X.K X.mg m H P W)
    (k : ∀ d st' m' H' v, Q0 d st' → Wl m H m' H' → RpS X.K X.mg m' H' st' → RpE X.K X.mg m' H' σ env → Rp X.K X.mg m' H' v d → R v H') : tE X C Φ W e σ H R :=
  ⟨m, env, st, Q0, _, re, rs, w, ax_of a rs re, fun d st' m' H' v q w' rs' r => k d st' m' H' v q w' rs' (re.wl rs w') r⟩
theorem PS.imp {t u : TS} {st : Stmt} (h : PS X st t) (hi : ∀ E σ H, u E σ H → t E σ H) : PS X st u := ⟨fun pins s σ H E I q => h.run pins s σ H E I (hi E σ H q)⟩
theorem PSs.imp {t u : TS} {st : List Stmt} (h : PSs X st t) (hi : ∀ E σ H, u E σ H → t E σ H) : PSs X st u := ⟨fun pins s σ H E I q => h.run pins s σ H E I (hi E σ H q)⟩
/-! ### stores -/
theorem sw_no {ex : Expr} {tg : Option Expr} {l : Nat} {env : PySem.Env} (h : isComp ex = false) : swapsWith ex tg l env = pure false := by
  cases ex <;> first | rfl | cases h
theorem sw_not {ex tg : Expr} {l : Nat} {env : PySem.Env} (h : isNm tg = false) : swapsWith ex (some tg) l env = pure false := by
  unfold swapsWith
  cases ex <;> first | rfl | (cases tg <;> first | rfl | cases h)
theorem stores_no {tg ex : Expr} {env : PySem.Env} (h : noStores ex = true) : swappedStores [tg] ex env = pure none := by
  cases ex with
  | Tuple vs k p =>
    have h : vs.all (foldedForSure 8) = true := h
    unfold swappedStores
    cases tg <;> first | rfl | skip
    all_goals
      simp only [h, if_true]
      repeat (first | rfl | split)
  | _ => cases tg <;> rfl
theorem fm_lt {α β : Type} {f : α → Option β} : ∀ {l : List α}, (∃ x ∈ l, f x = none) → (l.filterMap f).length < l.length
  | [], ⟨x, h, _⟩ => by cases h
  | y :: l, ⟨x, h, e⟩ => by
    rcases List.mem_cons.mp h with z | z
    · subst z
      rw [List.filterMap_cons_none e, List.length_cons]
      exact Nat.lt_succ_of_le (List.length_filterMap_le f l)
    · have ih := fm_lt ⟨x, z, e⟩
      cases q : f y with
      | none => rw [List.filterMap_cons_none q, List.length_cons]; omega
      | some b => rw [List.filterMap_cons_some q, List.length_cons, List.length_cons]; omega
theorem stores_cell {ts : List Expr} {k} {p : Pos} {ex : Expr} {env : PySem.Env} (h : ∃ x q, Expr.Name x q ∈ ts ∧ env.kindOf x = some .cell) : swappedStores [.Tuple ts k p] ex env = pure none := by
  obtain ⟨x, q, hx, kx⟩ := h
  unfold swappedStores
  cases ex with
  | Tuple vs k2 p2 =>
    have lt := fm_lt (l := ts) (f := fun | Expr.Name id pos => if (env.kindOf id == some NameKind.local && pos.line == (ts.head?.map (·.pos.line)).getD 0) = true then some id else none | _ => none) ⟨_, hx, by
      show (if (env.kindOf x == some NameKind.local && q.line == (ts.head?.map (·.pos.line)).getD 0) = true then some x else none) = none
      rw [kx]
      rfl⟩
    have ne : ((ts.filterMap fun | Expr.Name id pos => if (env.kindOf id == some NameKind.local && pos.line == (ts.head?.map (·.pos.line)).getD 0) = true then some id else none | _ => none).length != ts.length) = true := bne_iff_ne.mpr (Nat.ne_of_lt lt)
    simp only [pure_bind]
    split
    · rfl
    · split
      · rfl
      · exact if_pos (Bool.or_eq_true_iff.mpr (.inl ne))
  | _ => rfl
theorem s_setNm (hs : HasS X L C Φ W N sc) {i : Nat} {e : E} {y : Str} {py spos : Pos} {ex : Expr} (h : PS X (.Assign [.Name y py] ex spos) (tAsg (tE X C Φ W e) (gName i))) : PS X (.Assign [.Name y py] ex spos) (tS X C Φ W (.set (.nm i) e)) := by
  refine PS.imp h fun E σ H q => ?_
  obtain ⟨m, env, st, K, re, rs, w, ak⟩ := q
  exact teOf re rs w ak.ex fun d st' m' H' v q w' rs' re' r => ak.nx _ _ _ _ _ q.2 w' rs' (re'.set r)
theorem s_setTg (hs : HasS X L C Φ W N sc) {t : T} {e : E} {tg ex : Expr} {spos : Pos} (h : PS X (.Assign [tg] ex spos) (tAsg (tE X C Φ W e) (gT X.K X.mg t))) : PS X (.Assign [tg] ex spos) (tS X C Φ W (.set t e)) := by
  refine PS.imp h fun E σ H q => ?_
  obtain ⟨m, env, st, K, re, rs, w, ak⟩ := q
  refine teOf re rs w ak.ex fun d st' m' H' v q w' rs' re' r => ⟨m', H', env, st', d, _, fun _ _ z => z, re', rs', r, q, fun env2 σ2 re2 k2 _ _ => ak.nx _ _ _ _ _ k2 w' rs' re2⟩
theorem s_setA (hs : HasS X L C Φ W N sc) {o e : E} {f : Str} {x ex : Expr} {p pos : Pos} (ho : PE X x (tE X C Φ W o)) (he : PE X ex (tE X C Φ W e)) (hf : True) : PS X (.Assign [.Attribute x f p] ex pos) (tS X C Φ W (.setA o f e)) := by
  refine ⟨fun pins s σ H E I q => ?_⟩
  obtain ⟨m, env, st, K, re, rs, w, ak⟩ := q
  refine plainObj_wpAny_Assign_Attribute (runE he I re rs w (ax_of ak.ex rs re) fun u s1 v H1 d st1 m1 I1 rv w1 l1 rs1 rd => ?_) (sw_not rfl)
  have re1 := re.wl rs l1
  refine runE ho I1 re1 rs1 w1 (ax_of (ak.ex.wl l1) rs1 re1) fun ov s2 xv H2 dx st2 m2 I2 rx w2 l2 rs2 rdx => ?_
  obtain ⟨n, c, fs, rfl, hn, hc, hfl, hl, w2⟩ := w2
  obtain ⟨a, rfl, hm, ro⟩ := rs2.live rdx hn (by intro z; cases z)
  obtain rfl : ov = Value.ref a := rx
  cases ro with
  | ins hA rf =>
    rename_i dxa vsa
    have rd2 := rd.wl rs1 l2
    refine setattr_ok I2 hA (hs.h.kn.cls c hc).cl (hs.h.kn.fld c f hfl) (by rw [rf.length]; exact hl) rv fun s3 I3 => ?_
    have wl3 : Wl m2 H2 m2 (L2.upd H2 a (.ins (He.ga X.K c) dxa (putF f v vsa))) := Wl.set (List.mem_of_getElem? hm) ⟨_, hA⟩
    refine ⟨σ, _, I3, ak.nx _ _ _ _ _ w2 (l1.trans (l2.trans wl3)) (rs2.set hm (.ins upd_same ?_)) ((re1.wl rs1 l2).wl rs2 wl3)⟩
    exact (RpF.put f (rd2.wl rs2 wl3) (rf.wl rs2 wl3))
theorem s_setI (hs : HasS X L C Φ W N sc) {o i e : E} {x y ex : Expr} {p pos : Pos} (hp : plainIx y = true) (ho : PE X x (tE X C Φ W o)) (hi : PE X y (tE X C Φ W i)) (he : PE X ex (tE X C Φ W e)) : PS X (.Assign [.Subscript x y p] ex pos) (tS X C Φ W (.setI o i e)) := by
  have hu : X.A.units + 1 < cLine := by have := hs.h.ok.un; omega
  let tset : TSet := fun ov iv v H Q => rSetL ov iv v H Q ∨ rSetD ov iv v H Q
  have hset : PSet X tset := fun pins s σ H ov iv v o' i' u Q I r1 r2 r3 q => q.elim (fun q => set_list pins s σ H ov iv v o' i' u Q I r1 r2 r3 q) fun q => set_dict hu pins s σ H ov iv v o' i' u Q I r1 r2 r3 q
  have pg : PG X (.Subscript x y p) (gSub (tE X C Φ W o) (tE X C Φ W i) tset) := pg_sub ho hi hset fun v => by
    cases y with
    | Slice a b c q => cases hp
    | _ => rfl
  have hsw : swapsWithSole [.Subscript x y p] ex pos.line X.env = pure false := sw_not (ex := ex) (tg := .Subscript x y p) (l := pos.line) (env := X.env) rfl
  have hss : swappedStores [.Subscript x y p] ex X.env = pure none := by cases ex <;> rfl
  refine PS.imp (ps_asg (tg := .Subscript x y p) (pos := pos) he pg hsw hss rfl) fun E σ H q => ?_
  obtain ⟨m, env, st, K, re, rs, w, ak⟩ := q
  refine teOf re rs w ak.ex fun d st1 m1 H1 v w1 l1 rs1 re1 rd => ?_
  refine teOf re1 rs1 w1 (ak.ex.wl l1) fun dx st2 m2 H2 xv w2 l2 rs2 re2 rdx => ?_
  refine teOf re2 rs2 w2 (ak.ex.wl (l1.trans l2)) fun di st3 m3 H3 iv w3 l3 rs3 re3 rdi => ?_
  have rdx := rdx.wl rs2 l3
  have rd := (rd.wl rs1 l2).wl rs2 l3
  have l := l1.trans (l2.trans l3)
  obtain ⟨n, ob, rfl, hn, w3⟩ := w3
  cases ob with
  | lst xs =>
    obtain ⟨j, q, rfl, hj, w3⟩ := w3
    obtain ⟨a, rfl, hm, ro⟩ := rs3.live rdx hn (by intro z; cases z)
    cases ro with
    | lst hA rl =>
      rename_i vsa
      cases rdi
      have wl : Wl m3 H3 m3 (L2.upd H3 a (.lst (List.set vsa q v))) := Wl.set (List.mem_of_getElem? hm) ⟨_, hA⟩
      refine .inl ⟨a, _, j, q, rfl, rfl, hA, by rw [rl.length]; exact hj, ?_⟩
      exact ak.nx _ _ _ _ _ w3 (l.trans wl) (rs3.set hm (.lst upd_same ((rl.set q rd).wl rs3 wl))) (re3.wl rs3 wl)
  | dct kvs =>
    obtain ⟨hl, k, hk, w3⟩ := w3
    obtain ⟨a, rfl, hm, ro⟩ := rs3.live rdx hn (by intro z; cases z)
    cases ro with
    | dct hA rk =>
      rename_i vsa
      have := rdi.key hk
      subst this
      have wl : Wl m3 H3 m3 (L2.upd H3 a (.dK (L2.putK vsa k v))) := Wl.set (List.mem_of_getElem? hm) ⟨_, hA⟩
      refine .inr ⟨a, _, rfl, DPut.k hA (by rw [rk.len]; exact hl), ?_⟩
      exact ak.nx _ _ _ _ _ w3 (l.trans wl) (rs3.set hm (.dct upd_same ((rk.put rd).wl rs3 wl))) (re3.wl rs3 wl)
  | _ => exact w3.elim
theorem s_par (hs : HasS X L C Φ W N sc) {i j : Nat} {es : Es} {x y : Str} {a b : Expr} {px py pt pos : Pos} {kt k2 pt2} (hi : N[i]? = some x) (hj : N[j]? = some y) (hij : i ≠ j) (hx : sc.names.lookup x = some .local) (hy : sc.names.lookup y = some .local)
    (ha : PA X [a, b] (tA X C Φ W es)) (h1 : isStar a = false) (h2 : isStar b = false) (hl : (py.line == px.line) = true) (hf : [a, b].all (foldedForSure 8) = false) (hc : [a, b].all (constantsAlone 8) = false) :
    PS X (.Assign [.Tuple [.Name x px, .Name y py] kt pt] (.Tuple [a, b] k2 pt2) pos) (tS X C Φ W (.par (.tup (.nm i) (.tup (.nm j) .nil)) es)) := by
  have lx : X.env.scope.names.lookup x = some .local := by
    rcases hs.h.ok.hsc _ _ hx with z | ⟨z, _⟩
    · exact z
    · cases z
  have ly : X.env.scope.names.lookup y = some .local := by
    rcases hs.h.ok.hsc _ _ hy with z | ⟨z, _⟩
    · exact z
    · cases z
  have hxy : x ≠ y := fun z => hij (nodup_ix hs.h.ok.nd hi (z ▸ hj))
  refine ⟨fun pins s σ H E I q => ?_⟩
  obtain ⟨m, env, st, K, re, rs, w, ak⟩ := q
  have hb : X.env.blockKind = .function := by unfold Env.blockKind; rw [I.ok.kind]; rfl
  have kx : X.env.kindOf x = some .local := lx
  have ky : X.env.kindOf y = some .local := ly
  have hst : ([a, b].any fun | Expr.Starred .. => true | _ => false) = false := by
    have z : [a, b].any isStar = false := by simp [h1, h2]
    exact z
  have hw : swappedStores [.Tuple [.Name x px, .Name y py] kt pt] (.Tuple [a, b] k2 pt2) X.env = pure (some [x, y]) := by
    unfold swappedStores
    have e1 : (y == x) = false := beq_eq_false_iff_ne.mpr (Ne.symm hxy)
    have e2 : (x == y) = false := beq_eq_false_iff_ne.mpr hxy
    have ed : ([x, y] : List Str).eraseDups = [x, y] := by simp [List.eraseDups_cons, e1, e2]
    have hl' : py.line = px.line := beq_iff_eq.mp hl
    have kb : (some NameKind.local == some NameKind.local) = true := by decide
    have hf' : (foldedForSure 8 a && foldedForSure 8 b) = false := by simpa using hf
    have hc' : (constantsAlone 8 a && constantsAlone 8 b) = false := by simpa using hc
    simp [hb, kx, ky, hl', hf', hc', Expr.pos, ed, kb, List.filterMap]
    rintro (z | z)
    · exact absurd (show isStar a = true from z) (by rw [h1]; decide)
    · exact absurd (show isStar b = true from z) (by rw [h2]; decide)
  have key : tA X C Φ W es σ H fun vs H1 => ∃ v w, vs = [v, w] ∧ E.nx ((σ.set i (some v)).set j (some w)) H1 := ⟨m, env, st, _, _, re, rs, w, ax_of ak.ex rs re, fun ds st' m' H' vs q w' rs' rl => by
    have q : bindT (.tup (.nm i) (.tup (.nm j) .nil)) (.tup ds) st' env fun env' => K.nx env' st' := q
    cases ds with
    | nil => exact (show False from q).elim
    | cons d ds =>
      cases ds with
      | nil => exact (show False from q.2).elim
      | cons d2 ds =>
        cases rl with
        | cons r1 rl =>
          cases rl with
          | cons r2 rl =>
            obtain ⟨_, _, ez, qz⟩ := q
            cases ez
            cases rl
            exact ⟨_, _, rfl, ak.nx _ _ _ _ _ qz w' rs' (((re.wl rs w').set r1).set r2)⟩⟩
  have hsw : swapsWithSole [.Tuple [.Name x px, .Name y py] kt pt] (.Tuple [a, b] k2 pt2) pos.line X.env = pure false := sw_not (ex := .Tuple [a, b] k2 pt2) (tg := .Tuple [.Name x px, .Name y py] kt pt) (l := pos.line) (env := X.env) rfl
  exact (ps_par (X := X) (pos := pos) hs.h.ok.calm (by rw [hs.h.ok.hN]; exact hs.h.ok.nd) (by rw [hs.h.ok.hN]; exact hi) (by rw [hs.h.ok.hN]; exact hj) hij lx ly ha hw hsw).run pins s σ H E I key
theorem s_par3 (hs : HasS X L C Φ W N sc) {i j l : Nat} {es : Es} {x y z : Str} {a b c : Expr} {px py pz pt pos : Pos} {kt k2 pt2} (hi : N[i]? = some x) (hj : N[j]? = some y) (hl : N[l]? = some z) (hij : i ≠ j) (hil : i ≠ l) (hjl : j ≠ l) (hx : sc.names.lookup x = some .local) (hy : sc.names.lookup y = some .local) (hz : sc.names.lookup z = some .local)
    (ha : PA X [a, b, c] (tA X C Φ W es)) (h1 : isStar a = false) (h2 : isStar b = false) (h3 : isStar c = false) (l1 : (py.line == px.line) = true) (l2 : (pz.line == px.line) = true) (hf : [a, b, c].all (foldedForSure 8) = false) (hc : [a, b, c].all (constantsAlone 8) = false) :
    PS X (.Assign [.Tuple [.Name x px, .Name y py, .Name z pz] kt pt] (.Tuple [a, b, c] k2 pt2) pos) (tS X C Φ W (.par (.tup (.nm i) (.tup (.nm j) (.tup (.nm l) .nil))) es)) := by
  have loc : ∀ {u : Str}, sc.names.lookup u = some .local → X.env.scope.names.lookup u = some .local := fun {u} h => by
    rcases hs.h.ok.hsc _ _ h with z | ⟨z, _⟩
    · exact z
    · cases z
  have lx := loc hx
  have ly := loc hy
  have lz := loc hz
  have hxy : x ≠ y := fun e => hij (nodup_ix hs.h.ok.nd hi (e ▸ hj))
  have hxz : x ≠ z := fun e => hil (nodup_ix hs.h.ok.nd hi (e ▸ hl))
  have hyz : y ≠ z := fun e => hjl (nodup_ix hs.h.ok.nd hj (e ▸ hl))
  refine ⟨fun pins s σ H E I q => ?_⟩
  obtain ⟨m, env, st, K, re, rs, w, ak⟩ := q
  have hb : X.env.blockKind = .function := by unfold Env.blockKind; rw [I.ok.kind]; rfl
  have kx : X.env.kindOf x = some .local := lx
  have ky : X.env.kindOf y = some .local := ly
  have kz : X.env.kindOf z = some .local := lz
  have hw : swappedStores [.Tuple [.Name x px, .Name y py, .Name z pz] kt pt] (.Tuple [a, b, c] k2 pt2) X.env = pure (some [x, y, z]) := by
    unfold swappedStores
    have e1 : (y == x) = false := beq_eq_false_iff_ne.mpr (Ne.symm hxy)
    have e2 : (z == x) = false := beq_eq_false_iff_ne.mpr (Ne.symm hxz)
    have e3 : (z == y) = false := beq_eq_false_iff_ne.mpr (Ne.symm hyz)
    have ed : ([x, y, z] : List Str).eraseDups = [x, y, z] := by simp [List.eraseDups_cons, e1, e2, e3]
    have l1' : py.line = px.line := beq_iff_eq.mp l1
    have l2' : pz.line = px.line := beq_iff_eq.mp l2
    have kb : (some NameKind.local == some NameKind.local) = true := by decide
    have hf' : (foldedForSure 8 a && (foldedForSure 8 b && foldedForSure 8 c)) = false := by simpa using hf
    have hc' : (constantsAlone 8 a && (constantsAlone 8 b && constantsAlone 8 c)) = false := by simpa using hc
    simp [hb, kx, ky, kz, l1', l2', hf', hc', Expr.pos, ed, kb, List.filterMap]
    rintro (e | e | e)
    · exact absurd (show isStar a = true from e) (by rw [h1]; decide)
    · exact absurd (show isStar b = true from e) (by rw [h2]; decide)
    · exact absurd (show isStar c = true from e) (by rw [h3]; decide)
  have key : tA X C Φ W es σ H fun vs H1 => ∃ u v w, vs = [u, v, w] ∧ E.nx (((σ.set i (some u)).set j (some v)).set l (some w)) H1 := ⟨m, env, st, _, _, re, rs, w, ax_of ak.ex rs re, fun ds st' m' H' vs q w' rs' rl => by
    have q : bindT (.tup (.nm i) (.tup (.nm j) (.tup (.nm l) .nil))) (.tup ds) st' env fun env' => K.nx env' st' := q
    match ds, rl, q with
    | [], _, q => exact (show False from q).elim
    | [_], _, q => exact (show False from q.2).elim
    | [_, _], _, q => exact (show False from q.2.2).elim
    | _ :: _ :: _ :: _, .cons r1 (.cons r2 (.cons r3 rl)), q =>
      obtain ⟨_, _, _, ez, qz⟩ := q
      cases ez
      cases rl
      exact ⟨_, _, _, rfl, ak.nx _ _ _ _ _ qz w' rs' ((((re.wl rs w').set r1).set r2).set r3)⟩⟩
  have hsw : swapsWithSole [.Tuple [.Name x px, .Name y py, .Name z pz] kt pt] (.Tuple [a, b, c] k2 pt2) pos.line X.env = pure false := sw_not (ex := .Tuple [a, b, c] k2 pt2) (tg := .Tuple [.Name x px, .Name y py, .Name z pz] kt pt) (l := pos.line) (env := X.env) rfl
  exact (ps_par3 (X := X) (pos := pos) hs.h.ok.calm (by rw [hs.h.ok.hN]; exact hs.h.ok.nd) (by rw [hs.h.ok.hN]; exact hi) (by rw [hs.h.ok.hN]; exact hj) (by rw [hs.h.ok.hN]; exact hl) hij hil hjl lx ly lz ha hw hsw).run pins s σ H E I key
/-! ### flow -/
theorem s_exp (hs : HasS X L C Φ W N sc) {e : E} {ex : Expr} {pos : Pos} (hc : isComp ex = false) (he : PE X ex (tE X C Φ W e)) : PS X (.Expr ex pos) (tS X C Φ W (.exp e)) := by
  refine PS.imp (ps_expr (pos := pos) he (sw_no hc)) fun E σ H q => ?_
  obtain ⟨m, env, st, K, re, rs, w, ak⟩ := q
  exact teOf re rs w ak.ex fun d st' m' H' v q w' rs' re' r => ak.nx _ _ _ _ _ q w' rs' re'
theorem s_ret (hs : HasS X L C Φ W N sc) {e : E} {ex : Expr} {pos : Pos} (he : PE X ex (tE X C Φ W e)) : PS X (.Return (some ex) pos) (tS X C Φ W (.ret e)) := by
  refine PS.imp (ps_ret (pos := pos) he) fun E σ H q => ?_
  obtain ⟨m, env, st, K, re, rs, w, ak⟩ := q
  exact teOf re rs w ak.ex fun d st' m' H' v q w' rs' re' r => ak.rt _ _ _ _ _ q w' rs' r
theorem s_if (hs : HasS X L C Φ W N sc) {c : E} {a b : Ss} {x : Expr} {p q : List Stmt} {pos : Pos} (hc : PT X x (tT X C Φ W c)) (ha : PSs X p (tSs X C Φ W a)) (hb : PSs X q (tSs X C Φ W b)) : PS X (.If x p q pos) (tS X C Φ W (.ifs c a b)) := by
  refine PS.imp (ps_if (pos := pos) hc ha hb) fun E σ H h => ?_
  obtain ⟨m, env, st, K, re, rs, w, ak⟩ := h
  refine ⟨m, env, st, _, _, re, rs, w, ax_of ak.ex rs re, fun d st' m' H' q w' rs' => ?_⟩
  obtain ⟨r, rfl, q⟩ := q
  refine ⟨r, rfl, ?_⟩
  cases r with
  | true => exact ⟨m', env, st', K, re.wl rs w', rs', q, ak.wl w'⟩
  | false => exact ⟨m', env, st', K, re.wl rs w', rs', q, ak.wl w'⟩
theorem s_for (hs : HasS X L C Φ W N sc) {t : T} {r : Sr} {b : Ss} {tg iter : Expr} {body : List Stmt} {pos : Pos} (hi : PI X tg iter (iS X C Φ W r)) (hf : Fo X iter) (hmT : mT N sc t tg = true) (hb : PSs X body (tSs X C Φ W b)) : PS X (.For tg iter body [] pos) (tS X C Φ W (.for_ t r b)) := by
  refine PS.imp (ps_for (pos := pos) hs.po hs.h.ok.calm hi (g_tgt hs.h.ok t tg hmT) hb hf) fun E σ H h => ?_
  obtain ⟨m, env, st, K, re, rs, w, ak⟩ := h
  refine ⟨m, env, st, _, _, re, rs, w, ax_of ak.ex rs re, fun items g st1 m1 H1 J q w1 rs1 walk => ?_⟩
  let bd : Slots → Sto → Kt → Prop := fun env2 st2 K2 => wSs Φ C b env2 st2 K2
  have q : eachS g t bd items env st1 K := q
  let Wi : Nat → Nat → L2.St → Hp → Prop := fun i n σ' H' => n = items.length - i ∧ i ≤ items.length ∧ ∃ (m2 : Wm) (env2 : Slots) (st2 : Sto), Wl m1 H1 m2 H' ∧ RpS X.K X.mg m2 H' st2 ∧ RpE X.K X.mg m2 H' σ' env2 ∧ eachS g t bd (items.drop i) env2 st2 K
  refine ⟨Wi, ⟨_, rfl, Nat.zero_le _, m1, env, st1, Wl.refl _ _, rs1, re.wl rs w1, q⟩, ?_⟩
  rintro i n σ' H' ⟨hn, hle, m2, env2, st2, w2, rs2, re2, qe⟩
  have gst : g st2 := by
    cases hd' : items.drop i with
    | nil => rw [hd'] at qe; exact qe.1
    | cons x r => rw [hd'] at qe; exact qe.1
  obtain ⟨wk1, wk2⟩ := walk i m2 H' H' st2 w2 (fun _ _ z => z) rs2 gst
  cases hdr : items.drop i with
  | nil =>
    rw [hdr] at qe
    have hi' : items.length = i := by
      have := congrArg List.length hdr
      rw [List.length_drop] at this
      simp at this; omega
    exact .inl ⟨wk2 hi', ak.nx _ _ _ _ _ qe.2 (w1.trans w2) rs2 re2⟩
  | cons x rest =>
    rw [hdr] at qe
    have hix : items[i]? = some x := by
      have : (items.drop i)[0]? = some x := by rw [hdr]; rfl
      rw [List.getElem?_drop] at this
      simpa using this
    have hlt : i < items.length := (List.getElem?_eq_some_iff.mp hix).1
    have hrest : items.drop (i + 1) = rest := by
      rw [← List.drop_drop, hdr]; rfl
    obtain ⟨go, yl⟩ := wk1 x hix
    refine .inr ⟨go, fun σ2 H2 => Wi (i + 1) (items.length - (i + 1)) σ2 H2, fun σ2 H2 z => ⟨_, by omega, z⟩, fun x0 H2 y => ?_⟩
    have key : ∀ {m3 : Wm}, Wl m2 H' m3 H2 → RpS X.K X.mg m3 H2 st2 → Rp X.K X.mg m3 H2 x0 x → gT X.K X.mg t x0 σ' H2 fun σ2 H3 => tSs X C Φ W b { E with nx := fun σ2 H2 => Wi (i + 1) (items.length - (i + 1)) σ2 H2, ct := fun σ2 H2 => Wi (i + 1) (items.length - (i + 1)) σ2 H2, bk := E.nx } σ2 H3 := fun {m3} w3 rs3 rx => by
      have wl := w1.trans (w2.trans w3)
      refine ⟨m3, H2, env2, st2, x, _, fun _ _ z => z, re2.wl rs2 w3, rs3, rx, qe.2, fun env' σ2 re' hk _ _ => ⟨m3, env', st2, _, re', rs3, hk, ?_⟩⟩
      have cont : AfN X.K X.mg m3 H2 (fun env2 st2 => eachS g t bd rest env2 st2 K) fun σ2 H2 => Wi (i + 1) (items.length - (i + 1)) σ2 H2 := fun env4 st4 m4 H4 σ4 q4 w4 rs4 re4 =>
        ⟨rfl, hlt, m4, env4, st4, w2.trans (w3.trans w4), rs4, re4, by rw [hrest]; exact q4⟩
      exact ⟨cont, ak.rt.wl wl, ak.nx.wl wl, cont, ak.ex.wl wl⟩
    rcases yl x0 H2 y with ⟨rfl, rx⟩ | ⟨p, o, hp, rfl, rx⟩
    · exact key (Wl.refl _ _) rs2 rx
    · exact key (Wl.upd hp) (rs2.upd hp) rx
theorem s_while (hs : HasS X L C Φ W N sc) {c : E} {b : Ss} {x : Expr} {body : List Stmt} {pos : Pos} (hc : PT X x (tT X C Φ W c)) (hb : PSs X body (tSs X C Φ W b)) : PS X (.While x body [] pos) (tS X C Φ W (.whil c b)) := by
  refine PS.imp (ps_while (pos := pos) hs.po hc hb) fun E σ H h => ?_
  obtain ⟨m, env, st, K, re, rs, w, ak⟩ := h
  obtain ⟨n0, w⟩ := w
  let test : Slots → Sto → (Bool → Sto → Prop) → Prop := fun env2 st2 k => wE Φ C c env2 st2 (fun x st3 => ∃ r, x = .bl r ∧ k r st3) fun x st3 => K.ex x env2 st3
  let bd : Slots → Sto → Kt → Prop := fun env2 st2 K2 => wSs Φ C b env2 st2 K2
  have w : whileN test bd K n0 env st := w
  let Wi : Nat → L2.St → Hp → Prop := fun n σ' H' => ∃ (m2 : Wm) (env2 : Slots) (st2 : Sto), Wl m H m2 H' ∧ RpS X.K X.mg m2 H' st2 ∧ RpE X.K X.mg m2 H' σ' env2 ∧ whileN test bd K n env2 st2
  refine ⟨Wi, ⟨n0, m, env, st, Wl.refl _ _, rs, re, w⟩, ?_⟩
  rintro n σ' H' ⟨m2, env2, st2, w2, rs2, re2, q⟩
  cases n with
  | zero => exact q.elim
  | succ n =>
    refine ⟨m2, env2, st2, _, _, re2, rs2, q, ax_of (ak.ex.wl w2) rs2 re2, fun d st3 m3 H3 q3 w3 rs3 => ?_⟩
    obtain ⟨r, rfl, q3⟩ := q3
    refine ⟨r, rfl, ?_⟩
    have wl := w2.trans w3
    have re3 := re2.wl rs2 w3
    cases r with
    | true =>
      refine ⟨fun σ2 H2 => Wi n σ2 H2, fun σ2 H2 z => ⟨n, Nat.lt_succ_self _, z⟩, m3, env2, st3, _, re3, rs3, q3, ?_⟩
      have cont : AfN X.K X.mg m3 H3 (whileN test bd K n) fun σ2 H2 => Wi n σ2 H2 := fun env4 st4 m4 H4 σ4 q4 w4 rs4 re4 => ⟨m4, env4, st4, wl.trans w4, rs4, re4, q4⟩
      exact ⟨cont, ak.rt.wl wl, ak.nx.wl wl, cont, ak.ex.wl wl⟩
    | false => exact ak.nx _ _ _ _ _ q3 wl rs3 re3
theorem s_nil : PSs X [] (tSs X C Φ W .nil) := PSs.imp pss_nil fun E σ H h => by
  obtain ⟨m, env, st, K, re, rs, w, ak⟩ := h
  exact ak.nx _ _ _ _ _ w (Wl.refl _ _) rs re
theorem s_one {s : S} {x : Stmt} (h : PS X x (tS X C Φ W s)) : PSs X [x] (tSs X C Φ W (.cons s .nil)) := PSs.imp (pss_one h) fun E σ H h => h
theorem s_cons {s : S} {r : Ss} {x : Stmt} {xs : List Stmt} (hr : r ≠ .nil) (h : PS X x (tS X C Φ W s)) (h2 : PSs X xs (tSs X C Φ W r)) : PSs X (x :: xs) (tSs X C Φ W (.cons s r)) := PSs.imp (pss_cons h h2) fun E σ H q => by
  obtain ⟨m, env, st, K, re, rs, w, ak⟩ := q
  have w : wS Φ C s env st { K with nx := fun env1 st1 => wSs Φ C r env1 st1 K } := by
    cases r with
    | nil => exact absurd rfl hr
    | cons a b => exact w
    | frz a b => exact w
  exact ⟨m, env, st, _, re, rs, w, fun env1 st1 m1 H1 σ1 q w1 rs1 re1 => ⟨m1, env1, st1, K, re1, rs1, q, ak.wl w1⟩, ak.rt, ak.bk, ak.ct, ak.ex⟩
theorem s_frz {i : Nat} {r : Ss} {xs : List Stmt} (h : PSs X xs (tSs X C Φ W r)) : PSs X xs (tSs X C Φ W (.frz i r)) := PSs.imp h fun E σ H q => by
  obtain ⟨m, env, st, K, re, rs, w, ak⟩ := q
  obtain ⟨n, o, he, hn, w⟩ := w
  obtain ⟨v, hv, rv⟩ := re.2 i _ he
  have go : ∀ {d : D}, o ≠ .dead → (∀ a, v = .ref a → m[n]? = some (some a) → RpO X.K X.mg m H a o → Rp X.K X.mg (m.set n none) H v d) → wSs Φ C r (env.set i (some d)) (st.set n .dead) K → tSs X C Φ W r E σ H := fun {d} hd mk w => by
    obtain ⟨a, rfl, hm, ro⟩ := rs.live rv hn hd
    have wl : Wl m H (m.set n none) H := Wl.freeze hm
    have re' := (re.wl rs wl).set (i := i) (mk a rfl hm ro)
    have e : σ.set i (some (.ref a)) = σ := by
      apply List.ext_getElem?
      intro j
      by_cases z : i = j
      · subst z; rw [List.getElem?_set]; simp only [if_true]; rw [if_pos (List.getElem?_eq_some_iff.mp hv).1, hv]
      · rw [List.getElem?_set_ne z]
    rw [e] at re'
    exact ⟨m.set n none, _, _, K, re', rs.freeze hm, w, ak.wl wl⟩
  cases o with
  | lst xs => exact go (fun z => by cases z) (fun a ev hm ro => by subst ev; cases ro with | lst hA rl => exact .lst hA (notin_freeze rs hm) (rl.wl rs (Wl.freeze hm))) w
  | dct xs => exact go (fun z => by cases z) (fun a ev hm ro => by subst ev; cases ro with | dct hA rl => exact .dct hA (notin_freeze rs hm) (rl.wl rs (Wl.freeze hm))) w
  | dcT xs => exact go (fun z => by cases z) (fun a ev hm ro => by subst ev; cases ro with | dcT hA rl => exact .dcT hA (notin_freeze rs hm) (rl.wl rs (Wl.freeze hm))) w
  | _ => exact w.elim
theorem s_raise (hs : HasS X L C Φ W N sc) {c : Str} {e : E} {x : Expr} {p pos pos2 : Pos} (hg : gloB sc c = true) (hc : L.exs.contains c = true) (hst : isStar x = false) (he : PE X x (tE X C Φ W e)) :
    PS X (.Raise (some (.Call (.Name c p) [x] [] pos)) none pos2) (tS X C Φ W (.raise c e)) := by
  obtain ⟨hm, f, W', fd, T, iC, tI, F1, bd⟩ := hs.h.kn.rai c hc
  obtain ⟨g1, g2, _⟩ := glo_of hs.h.ok hg
  have ha : PA X [x] (tA X C Φ W (.cons e .nil)) := a_cons hst he a_nil
  have pm := pmk_oex (X := X) (p := p) (pos := pos) (dvs := []) T.T iC tI F1 hs.rm bd .nil passL g1 hm ha g2 (starEach_plain hst) (by rfl)
  refine PS.imp (ps_raise (pos := pos2) hs.h.ok.calm hs.h.tk pm) fun E σ H q => ?_
  obtain ⟨m, env, st, K, re, rs, w, ak⟩ := q
  refine ⟨m, env, st, fun ds st1 => (match ds with
    | [v] => K.ex (.exc c v) env st1
    | _ => False), _, re, rs, w, ax_of ak.ex rs re, fun ds st' m' H' vs q w' rs' rl => ?_⟩
  obtain ⟨v, rfl, q⟩ : ∃ v, ds = [v] ∧ K.ex (.exc c v) env st' := by
    match ds, q with
    | [v], q => exact ⟨v, rfl, q⟩
    | [], q => exact q.elim
    | _ :: _ :: _, q => exact q.elim
  obtain ⟨y, rfl, ry⟩ := rl.one
  refine (⟨by show 1 ≤ 1000; decide, fun a na => ⟨a, He.ga X.K c, y, rfl, upd_same, T, fun d nd hda => ⟨rfl, d, [("value", y)], upd_same, by rw [upd_ne hda, upd_same], ?_, ?_⟩⟩⟩ :
    ([y] : List V).length ≤ 1000 ∧ ∀ a, H' a = none → spI X.K f W' (.ref a :: ([y] ++ [])) (L2.upd H' a (exo a (He.ga X.K c) none)) (fun v H2 => v = .non ∧ ∃ (d : Addr) (fs : List (Str × V)), H2 a = some (exo a (He.ga X.K c) (some d)) ∧ H2 d = some (exd d fs) ∧ H' d = none ∧ W (.ref (He.ga X.K c)) (some d) σ (L2.upd (del H2 a) d (.xd fs))) (fun _ _ _ => False))
  · rw [upd_ne hda] at nd; exact nd
  · rw [upd_ne hda] at nd
    have e : L2.upd (del (L2.upd (L2.upd (L2.upd H' a (exo a (He.ga X.K c) none)) d (exd d [("value", y)])) a (exo a (He.ga X.K c) (some d))) a) d (.xd [("value", y)]) = L2.upd H' d (.xd [("value", y)]) := by
      funext b
      by_cases h1 : b = d
      · subst h1; rw [upd_same, upd_same]
      · rw [upd_ne h1, upd_ne h1]
        by_cases h2 : b = a
        · subst h2; rw [del_same, na]
        · rw [del_ne h2, upd_ne h2, upd_ne h1, upd_ne h2]
    rw [e]
    exact ak.ex (.exc c v) env st' m' _ σ _ (some d) q (w'.trans (Wl.upd nd)) (rs'.upd nd) ((re.wl rs w').wl rs' (Wl.upd nd)) ⟨c, v, d, y, rfl, rfl, rfl, upd_same, ry.wl rs' (Wl.upd nd)⟩
end Vm

set_option Elab.async false
set_option linter.all false
set_option maxRecDepth 100000
set_option maxHeartbeats 4000000
/-! Vm, part 42: try: .. except C as e: y = e, what was caught is kept. -/
namespace Vm
open PySem PySem.Spec PyProof.Rows L2
section
variable {X : Cx} {pins : List (Addr × Obj)} {σ : L2.St} {H : Hp} {s : Shared}
theorem excO_ok {P : Program} {w : World} {H : Hp} {h : Heap} {C a dd : Addr} {oe : Obj} {vs : Array Value} (h1 : h.get? a = some oe) (h2 : oe.cls = .ref C) (h3 : oe.dict = some dd) (h4 : oe.data = .fields vs) : ObjOk P w H h a (ExcO C a dd) :=
  ⟨⟨oe, vs, h1, h2, h3, h4⟩, ⟨_, h1⟩, fun _ _ z k => by
    obtain ⟨o, v, e1, e2, e3, e4⟩ := z
    exact ⟨o, v, k _ e1, e2, e3, e4⟩⟩
/-- an exception that stands there is told of from now on -/
theorem Inv.lay (I : L2.Inv X pins σ H s) {C a dd : Addr} {oe : Obj} {vs : Array Value} (n : H a = none) (h1 : s.heap.get? a = some oe) (h2 : oe.cls = .ref C) (h3 : oe.dict = some dd) (h4 : oe.data = .fields vs) (n0 : X.s_0.heap.get? a = none)
    (np : ∀ p ∈ X.pn ++ pins, p.1 ≠ a) (nL : a ≠ X.env.locals) : L2.Inv X pins σ (L2.upd H a (ExcO C a dd)) s := by
  have ne : ∀ {b : Addr} {u : HO}, H b = some u → b ≠ a := fun {b u} e => ne_of_none e n
  refine ⟨I.ok, I.os, I.bare, ⟨I.base.keep, I.base.slot, fun b o e1 e2 e3 => ?_, I.base.there, fun b xs e => ?_, fun b o u e => ?_, fun b ps e => ?_⟩, I.loc, I.cell, ?_, fun x c e => ?_, fun p hp => ?_, fun b ob e => ?_, I.len⟩
  · rw [upd_ne (fun z => by rw [z, n0] at e1; cases e1)]
    exact I.base.free b o e1 e2 e3
  · have z := I.base.tups b xs e
    rw [upd_ne (ne z)]; exact z
  · have z := I.base.frzs b o u e
    rw [upd_ne (ne z)]; exact z
  · obtain ⟨more, z⟩ := I.base.tbls b ps e
    exact ⟨more, by rw [upd_ne (ne z)]; exact z⟩
  · rw [upd_ne (Ne.symm nL)]; exact I.free
  · have hc : c ≠ a := fun z => by
      obtain ⟨v, o, e1, e2⟩ := I.cell x c e
      rw [z, h1] at e1
      cases e1
      rw [h4] at e2
      cases e2
    rw [upd_ne hc]; exact I.freeC x c e
  · obtain ⟨e1, e2, e3⟩ := I.pin p hp
    exact ⟨e1, by rw [upd_ne (np p hp)]; exact e2, e3⟩
  · by_cases hb : b = a
    · subst hb
      rw [upd_same] at e
      cases e
      exact excO_ok h1 h2 h3 h4
    · rw [upd_ne hb] at e
      exact (I.hok b ob e).stay (fun _ _ _ q => q) (fun c q => by rw [upd_ne (ne q)]; exact q) fun c ys q => by rw [upd_ne (ne q)]; exact q
/-- what the clause 'except x as n: y = n' wishes: n in slot i, y in slot j -/
def wKeep (K : PySem.W.Frag) (c : Value) (i j : Nat) (D : Ends) : WX := fun cls d σ H =>
  ∃ C dd, cls = .ref C ∧ d = some dd ∧ PySem.W.exmOne K cls c = some true ∧ ∀ a, H a = none → D.nx (((σ.set i (some (.ref a))).set j (some (.ref a))).set i none) (L2.upd H a (ExcO C a dd))
variable {x n y : Str} {c : Value} {i j : Nat} {body : List Stmt} {np pos pos' yp np2 ap : Pos} {tb : WX → TS}
theorem try_keep (hs : X.stack = X.env :: X.outer) (hf : X.env.frame = some X.env.locals) (hex0 : X.ex = []) (hN : X.N.Nodup) (hi : X.N[i]? = some n) (hln : X.env.scope.names.lookup n = some .local) (hj : X.N[j]? = some y) (hly : X.env.scope.names.lookup y = some .local) (hc : Names X x c)
    (hd1 : (n == ("__debug__" : Str)) = false) (hd2 : (n == ("__classdict__" : Str)) = false)
    (hb : ∀ (W : WX) (pn : List (Addr × Obj)) (xe : Value → Shared → Prop), Takes (X.tr pn xe) W → PassesOwn (model X.prog X.w) X.A X.env xe → PSs (X.tr pn xe) body (tb W)) :
    PS X (.Try body [.ExceptHandler (some (.Name x np)) (some n) [.Assign [.Name y yp] (.Name n np2) ap] pos'] [] [] pos) (fun D σ H => tb (wKeep X.K c i j D) D σ H) := by
  refine ⟨fun pins s σ H D I h => ?_⟩
  have ok := I.ok
  have hfr : X.A.frames = some (X.env :: X.outer) := by rw [ok.frames, hs]
  have hloc : Loc X.env.scope n := .inl hln
  refine wpAny_Try_except ?_
  refine wpAny_mono ((hb (wKeep X.K c i j D) (X.pn ++ pins) (fun e s₁ => wpAny (model X.prog X.w) X.A (noteFrame e X.env) (fun _ s₂ => wpAny (model X.prog X.w) X.A (setFlight e none) (fun _ s₃ =>
    wpAny (model X.prog X.w) X.A (handleBy e X.env [.ExceptHandler (some (.Name x np)) (some n) [.Assign [.Name y yp] (.Name n np2) ap] pos']) (SP X pins D) X.xe s₃) X.xe s₂) X.xe s₁) (fun u s' xx => ?_) PassesOwn.looking).run [] s σ H D (I.toTry _) h) (fun f s1 hsp => ?_) (fun e s1 he => he)
  · obtain ⟨a, B, sI, pins', σ', H', cls, d, rfl, J', nb, up, sky, na, os, ag, C, dd, ec, ed, hex, hD⟩ := xx
    subst ec ed
    have J : L2.Inv X pins σ' H' sI := J'.ofTry ok
    have sky' : Sky B (X.env :: X.outer) a (Zc (.ref C) (some dd)) X.env.locals s'.heap := by rw [← hs]; exact sky
    show wpAny (model X.prog X.w) X.A (noteFrame (.ref a) X.env) _ _ _
    refine Sky.land Zc.steady hfr hf sky' fun h3 fl3 up3 => ?_
    have J3 : L2.Inv X pins σ' H' { s' with heap := h3 } := J.landed nb fl3.1 (up.trans up3) os ag
    obtain ⟨oe3, vs3, he3, hz3, hd3⟩ := fl3.there
    have nfr : ∀ {h : Heap} {o : Obj} {vs : Array Value}, h.FunFrames B (X.env :: X.outer) → h.get? a = some o → o.data = .fields vs → a ∉ frs (X.env :: X.outer) := fun {h o vs} ff e dd hm => by
      obtain ⟨_, o', e', hnf⟩ := ff.mem hm
      rw [e] at e'; cases e'
      exact hnf _ dd
    have nf := nfr fl3.2.2.1 he3 hd3
    have nL : a ≠ X.env.locals := fun z => nf (List.mem_filterMap.mpr ⟨X.env, List.mem_cons_self, by rw [hf, z]⟩)
    have nF : a ∉ X.fs := fun hm => by
      obtain ⟨e, he, q⟩ := List.mem_filterMap.mp hm
      exact nf (List.mem_filterMap.mpr ⟨e, List.mem_cons_of_mem _ he, q⟩)
    -- it is new
    have nI : sI.heap.get? a = none := by
      cases q : sI.heap.get? a with
      | none => rfl
      | some o =>
        have z := nb a o q (by rw [hs]; exact nf)
        rw [fl3.2.1] at z; cases z
    have n0 : X.s_0.heap.get? a = none := by
      cases q : X.s_0.heap.get? a with
      | none => rfl
      | some o =>
        obtain ⟨o', z⟩ := J.base.there a o q (by rw [hex0]; simp)
        rw [nI] at z; cases z
    have npn : ∀ p ∈ X.pn ++ pins, p.1 ≠ a := fun p hp z => by
      have q := (J.pin p hp).1
      rw [z, nI] at q; cases q
    have S3 := J3.suite he3 hd3 na nL nF
    refine wpAny_handleBy_cons (codeAny_handlers_test ?_) (by intro q; cases q)
    have LT : PySem.W.Looks (model X.prog X.w) h3 (typeOf (.ref a)) (.ref C) := fun A Q E s k q => wpAny_typeOf_ref (k _ _ he3) (by rw [hz3.1]; exact q)
    have LM := PySem.W.exm_one (M := model X.prog X.w) (J3.kIn) LT hex
    have test : ∀ {Q : Value → Shared → Prop} {E : Value → Shared → Prop}, Q c { s' with heap := h3 } → wpAny (model X.prog X.w) (X.A.mark (some (.ref a))) (eval (.Name x np) X.env) Q E { s' with heap := h3 } := fun {Q E} q => by
      obtain ⟨hg, hdbg, hm | ⟨hm, hv, hnn⟩⟩ := hc
      · exact ld_glob (X := X.suite a ((a, oe3) :: (X.pn ++ pins))) S3 hg hm q hdbg
      · exact ld_blt (X := X.suite a ((a, oe3) :: (X.pn ++ pins))) S3 hg hm hv q hnn hdbg
    refine test (LM.here ?_)
    refine codeAny_handlers_suite_as ?_
    refine HandSPX.lands_againZ fl3 fun h4 fl4 up4 => ?_
    have J4 : L2.Inv X pins σ' H' { s' with heap := h4 } := J.landed nb fl4.1 ((up.trans up3).trans up4) os ag
    obtain ⟨oe4, vs4, he4, hz4, hd4⟩ := fl4.there
    have S4 := J4.suite he4 hd4 na nL nF
    refine store_ok (X := X.suite a ((a, oe4) :: (X.pn ++ pins))) (v := .ref a) S4 hN hi hloc rfl (fun s5 S5 => ?_) (.inr hln)
    have hlt : i < σ'.length := by
      have e := J.len
      have l := (List.getElem?_eq_some_iff.mp hi).1
      omega
    have ps := pss_one (ps_set (X := X.suite a ((a, oe4) :: (X.pn ++ pins))) (i := j) (x := y) (pos' := yp) (pos := ap) hN hj (.inl hly) (pe_var (X := X.suite a ((a, oe4) :: (X.pn ++ pins))) (i := i) (x := n) (pos := np2) hi (.inl hln) hd1 hd2) (by rfl) (.inr hly))
    refine wpAny_mono (ps.run [] s5 _ H' { nx := fun σ6 H6 => σ6 = (σ'.set i (some (.ref a))).set j (some (.ref a)) ∧ H6 = H', rt := fun _ _ => False } S5 ⟨.ref a, List.getElem?_set_self hlt, rfl, rfl⟩) (fun f s6 hsp => ?_) (fun _ _ z => False.elim z)
    cases f with
    | next =>
      obtain ⟨σ6, H6, S6, rfl, rfl⟩ := hsp
      refine gone_ok (X := X.suite a ((a, oe4) :: (X.pn ++ pins))) S6 hN hi hln fun s7 S7 => ?_
      obtain ⟨e7, n7, _⟩ := S7.pin (a, oe4) (List.mem_append_left _ List.mem_cons_self)
      have J7 := S7.unsuite ok
      exact ⟨_, _, Inv.lay J7 n7 e7 hz4.1 hz4.2 hd4 n0 npn nL, hD a na⟩
    | brk =>
      obtain ⟨_, _, _, z⟩ := hsp
      exact z.elim
    | cont =>
      obtain ⟨_, _, _, z⟩ := hsp
      exact z.elim
    | ret u =>
      obtain ⟨_, _, _, _, _, z⟩ := hsp
      exact z.elim
  · cases f with
    | next =>
      obtain ⟨σ', H', J', q⟩ := hsp
      exact wpAny_execs_nil ⟨σ', H', J'.ofTry ok, q⟩
    | brk =>
      obtain ⟨σ', H', J', q⟩ := hsp
      exact ⟨σ', H', J'.ofTry ok, q⟩
    | cont =>
      obtain ⟨σ', H', J', q⟩ := hsp
      exact ⟨σ', H', J'.ofTry ok, q⟩
    | ret u =>
      obtain ⟨v, σ', H', J', r, q⟩ := hsp
      exact ⟨v, σ', H', J'.ofTry ok, r, q⟩
end
end Vm

set_option Elab.async false
set_option linter.all false
set_option maxRecDepth 100000
set_option maxHeartbeats 4000000
/-! Vm, part 43: _law_told(lambda: e). -/
namespace Vm
open PySem PySem.Spec PyProof.Rows L2
theorem toldB_of {bg : List Stmt} (h : toldB bg = true) : ∃ (q1 q2 q3 q4 q5 q6 q7 q8 q9 q10 q11 q12 q13 q14 q15 q16 q17 q18 q19 q20 q21 : Pos) (k1 k2 k3 j1 j2 : _), (q1.line == q2.line) = true ∧
    bg = [.Assign [.Tuple [.Name "caught" q1, .Name "back" q2] k1 q3] (.Tuple [.Constant .none j1 q4, .Constant .none j2 q5] k2 q6) q7,
      .Try [.Assign [.Name "back" q8] (.Call (.Name "look" q9) [] [] q10) q11] [.ExceptHandler (some (.Name "WallError" q12)) (some "error") [.Assign [.Name "caught" q13] (.Name "error" q14) q15] q16] [] [] q17,
      .Return (some (.Tuple [.Name "caught" q18, .Name "back" q19] k3 q20)) q21] := by
  unfold toldB at h
  split at h
  · simp only [Bool.and_eq_true, decide_eq_true_eq] at h
    obtain ⟨⟨⟨⟨⟨⟨⟨⟨⟨⟨rfl, rfl⟩, rfl⟩, rfl⟩, rfl⟩, rfl⟩, rfl⟩, rfl⟩, rfl⟩, rfl⟩, hl⟩ := h
    exact ⟨_, _, _, _, _, _, _, _, _, _, _, _, _, _, _, _, _, _, _, _, _, _, _, _, _, _, hl, rfl⟩
  · cases h
section
variable {X : Cx} {pins : List (Addr × Obj)} {σ : L2.St} {H : Hp} {s : Shared}
/-- x(), in the def that got the lambda, its frame known -/
theorem vm_act {CXg : CXT} {Eg : XK} {Ng : List Str} {qg : Str} {sg : Scope} {g f c' : Addr} {cdg pm ctv : Value} {params : Arguments} {body : Expr} {scope : Scope} {k i : Nat} {a : Str} {pn : List (Addr × Obj)} {xe : Value → Shared → Prop} {W : WX} {tb : XK → TE} {p1 p2 : Pos}
    (I : L2.Inv X pins σ H s) (L : LamX.LamS X.env.scope scope) (hf : s.heap.get? f = some (PySem.W.kla_obj "<lambda>" (X.env.qual ++ "<lambda>") params body scope (cloFrom X.env.cells scope.names []) pm c' ctv)) (hfn : H f = none) (hfr : f ∉ frs X.stack)
    (hbind : bindArgs (PySem.W.kla_fn "<lambda>" (X.env.qual ++ "<lambda>") params body scope (cloFrom X.env.cells scope.names []) pm (.ref c') ctv) ⟨[], []⟩ = pure [])
    (tk : Takes ((cxOf CXg X.prog X.w X.K X.mg X.base Ng qg sg g cdg X.A X.stack s H Eg).tr pn xe) W) (hr : Room (k + 1) (X.A.deeper (envOfC qg sg s.heap.objs.size g cdg)))
    (hbody : ∀ (E : XK) (s1 : Shared) (H1 : Hp), Room k ((X.A.deeper (envOfC qg sg s.heap.objs.size g cdg)).deeper (LamX.lamEnv X scope s1.heap.objs.size f c')) → PE (LamX.lamCx X (X.A.deeper (envOfC qg sg s.heap.objs.size g cdg)) (envOfC qg sg s.heap.objs.size g cdg :: X.stack) s1 H1 E scope f c') body (tb E))
    (hN : Ng[i]? = some a) (hv : Vis sg a) (hd : (a == ("__debug__" : Str)) = false) (hcd : (a == ("__classdict__" : Str)) = false) :
    PE ((cxOf CXg X.prog X.w X.K X.mg X.base Ng qg sg g cdg X.A X.stack s H Eg).tr pn xe) (.Call (.Name a p1) [] [] p2)
      (fun σZ HZ Q => ∃ E : XK, (∀ cls d H', E cls d H' → W cls d σZ H') ∧ σZ[i]? = some (some (.ref f)) ∧ HZ c' = some (LamX.CodeO c' (X.env.qual ++ "<lambda>")) ∧ tb E σ HZ Q) := by
  refine ⟨fun pinsZ sZ σZ HZ Q IZ h => ?_⟩
  obtain ⟨E, hW, hs, hc, ht⟩ := h
  refine wpAny_Call_Name_kw (thn ((pe_var (pos := p1) (i := i) hN hv hd hcd).run pinsZ sZ σZ HZ (fun v H1 => v = .ref f ∧ H1 = HZ) IZ ⟨.ref f, hs, rfl, rfl⟩) fun u s1 ⟨v, H1, I1, r1, ev, eH⟩ => ?_)
  subst ev eH
  obtain rfl : u = Value.ref f := r1
  have un : Un (frs X.stack) [] H H1 s.heap s1.heap := I1.base
  have of1 := un.keep f _ hf hfn hfr (by simp)
  refine PySem.W.callWith_F0 ⟨_, _, _, _, of1⟩ ?_
  obtain ⟨⟨oc, vs, t, hoc, hdc, hvc⟩, _, _⟩ := I1.hok c' _ hc
  have rc : codeAny (model X.prog X.w) (X.A.deeper (envOfC qg sg s.heap.objs.size g cdg)) (.call (.ref f) ⟨[], []⟩) (CR (L2.CX X.prog X.w) (envOfC qg sg s.heap.objs.size g cdg :: X.stack) X.prog X.w H1 s1 Q E) s1 := by
    refine PySem.W.kla_callFunE hr.depth of1 rfl L.co L.gen rfl ⟨c', oc, vs, t, rfl, hoc, hdc, hvc⟩ ?_
    rw [hbind]
    refine wpAny_pure (wpAny_newFunctionEnv (fun y hy => (L.own y hy).2) (fun y hy => absurd hy (by simp)) (fun h₁ hns hsb => ⟨I1.nolimit.fresh _ hsb, ?_⟩) L.kind)
    show codeAny _ _ (.expr body (LamX.lamEnv X scope s1.heap.objs.size f c')) _ _
    have J := LamX.lam_start2 (f := f) (c' := c') (E := E) (tk := s1.toks + ([] : List (Str × Value)).length) I L I1.env0 hr.hd un hns fun b o e => hsb.extBut b o (Nat.ne_of_lt (Heap.lt_size e)) (Heap.get?_push_of_some _ e)
    refine PySem.W.kla_codeExpr (wpAny_mono ((hbody E s1 H1 (hr.deeper _)).run [] _ _ H1 Q J ht) (fun v s' hq => ?_) fun e s' hq => hq)
    obtain ⟨w', H', J', rv, q⟩ := hq
    exact ⟨w', H', J'.os, J'.bare, J'.base, J'.hok, rv, q⟩
  refine wpAny_call (codeAny_mono rc fun r s' hq => ?_)
  cases r with
  | error e => exact tk _ _ (XE.of_call I1 hW hq)
  | ok fl =>
    cases fl with
    | ret u => exact I1.after hq
    | next => exact False.elim hq
    | brk => exact False.elim hq
    | cont => exact False.elim hq
end
section
variable {X : Cx} {pins : List (Addr × Obj)} {σ : L2.St} {H : Hp} {s : Shared}
theorem toldS_of {sg : Scope} (h : toldS sg = true) : sg.names.lookup ("WallError" : Str) = some .globalImplicit ∧ sg.names.lookup ("look" : Str) = some .local ∧ sg.names.lookup ("caught" : Str) = some .local ∧ sg.names.lookup ("back" : Str) = some .local ∧ sg.names.lookup ("error" : Str) = some .local := by
  unfold toldS at h
  simp only [Bool.and_eq_true, decide_eq_true_eq] at h
  obtain ⟨⟨⟨⟨h1, h2⟩, h3⟩, h4⟩, h5⟩ := h
  exact ⟨h1, h2, h3, h4, h5⟩
theorem wl_ext {m : Wm} {H H1 : Hp} (e : LamX.ExtN H H1) : Wl m H m H1 := ⟨Nat.le_refl _, fun _ _ => .inl rfl, fun a o h _ ht => e a o h ht, fun a o h ht => ⟨o, e a o h ht, ht⟩, fun _ h => .inl h⟩
theorem rpS_ext {K : PySem.W.Frag} {mg : Str → Option Value} {m : Wm} {H H1 : Hp} {st : Sto} (s : RpS K mg m H st) (e : LamX.ExtN H H1) (t : LamX.Tabs (lamT K) H1) : RpS K mg m H1 st :=
  ⟨s.len, fun n a h => by
    obtain ⟨o, h1, h2⟩ := s.at_ n a h
    have w : Wl m H m H1 := wl_ext e
    refine ⟨o, h1, ?_⟩
    cases h2 with
    | lst q r => exact .lst (e _ _ q fun ps z => by cases z) (r.wl s w)
    | dct q r => exact .dct (e _ _ q fun ps z => by cases z) (r.wl s w)
    | dcT q r => exact .dcT (e _ _ q fun ps z => by cases z) (r.wl s w)
    | ins q r => exact .ins (e _ _ q fun ps z => by cases z) (r.wl s w), s.inj, s.dead, t⟩
theorem code_notin {K : PySem.W.Frag} {mg : Str → Option Value} {m : Wm} {H : Hp} {st : Sto} {c : Addr} {q : Str} (s : RpS K mg m H st) (h : H c = some (LamX.CodeO c q)) : some c ∉ m := s.not h fun ds r => by
  cases r with
  | lst e _ => rw [h] at e; exact codeO_ne_tbl (Option.some.inj e) (.inl ⟨_, rfl⟩)
  | dct e _ => rw [h] at e; exact codeO_ne_tbl (Option.some.inj e) (.inr (.inl ⟨_, rfl⟩))
  | dcT e _ => rw [h] at e; exact codeO_ne_tbl (Option.some.inj e) (.inr (.inr (.inl ⟨_, rfl⟩)))
  | ins e _ => rw [h] at e; exact codeO_ne_tbl (Option.some.inj e) (.inr (.inr (.inr ⟨_, _, _, rfl⟩)))
theorem lamS_to {X : Cx} {N : List Str} {sc scope : Scope} (o : OkX X N sc) (L : LamX.LamS sc scope) : LamX.LamS X.env.scope scope :=
  ⟨L.kind, L.co, L.gen, L.own, fun y hy e => by
    rcases L.free y hy e with z | z
    · rcases o.hsc _ _ z with z | ⟨q, _⟩
      · exact .inl z
      · cases q
    · rcases o.hsc _ _ z with z | ⟨_, z⟩
      · exact .inr z
      · exact .inl z⟩
/-- the return's slots -/
def retE : E := .tup (.cons (.var 1) (.cons (.var 2) .nil))
def toldK (Q0 : QD) : Kt := { nx := fun _ _ => False, rt := Q0, bk := fun _ _ => False, ct := fun _ _ => False, ex := fun _ _ _ => False }
theorem ret_told {Z : Cx} {C : Ctx} {Φ : Fn} {m : Wm} {H : Hp} {st : Sto} {σ : L2.St} {d1 d2 : D} {v1 v2 : V} {v0 : Option V} {v3 : Option V} {Q0 : QD} {Q : VK} {D : Ends} (hQ : D.rt = Q) (es : σ = [v0, some v1, some v2, v3]) (r1 : Rp Z.K Z.mg m H v1 d1) (r2 : Rp Z.K Z.mg m H v2 d2) (rs : RpS Z.K Z.mg m H st) (aq : AfQ Z.K Z.mg m H Q0 Q) (q : Q0 (.tup [d1, d2]) st) :
    tS Z C Φ noW (.ret retE) D σ H := by
  subst hQ es
  refine ⟨m, [none, some d1, some d2, none], st, toldK Q0, ⟨rfl, fun i d h => ?_⟩, rs, ⟨d1, rfl, d2, rfl, by rw [sizeLine_eq]; exact (by decide : 2 ≤ 16777216), q⟩, ⟨fun _ _ _ _ _ q => q.elim, aq, fun _ _ _ _ _ q => q.elim, fun _ _ _ _ _ q => q.elim, fun _ _ _ _ _ _ _ _ q => q.elim⟩⟩
  match i, h with
  | 0, h => cases h
  | 1, h => cases h; exact ⟨_, rfl, r1⟩
  | 2, h => cases h; exact ⟨_, rfl, r2⟩
  | 3, h => cases h
  | i + 4, h => cases h
variable {L : Lx} {C : Ctx} {Φ : Fn} {W : WX} {N : List Str} {sc : Scope}
theorem s_told (hs : Has X L C Φ W N sc) (ht : L.told = true) (hg : gloB sc "_law_told" = true) {scope : Scope} {e : E} {body : Expr} {p lpos pos : Pos} (hl : LamX.lamSB sc scope = true) (he : ∀ (Y : Cx) (W' : WX), Has Y L.off C Φ W' N scope → PE Y body (tE Y C Φ W' e)) :
    PE X (.Call (.Name "_law_told" p) [.Lambda ⟨[], [], none, [], [], none, []⟩ body scope lpos] [] pos) (tE X C Φ W (.told e)) := by
  refine ⟨fun pins s σ H Q I h => ?_⟩
  obtain ⟨m, env, st, Q0, EX0, re, rs, w, ax, aq⟩ := h
  have lk := hs.lam ht
  obtain ⟨k, kn, room, k1le⟩ := lk.kn
  obtain ⟨c, hcode, TB, hmT, hu⟩ := lk.tb
  obtain ⟨g, pg, bg, sg, dV, kV, doc, pm, cdv, ct, oc, an, od, osl, hm, hk, lkg, hcg, hb, Sg, hS, hB⟩ := lk.fn
  obtain ⟨n1, n2, n3, n4, n5⟩ := toldS_of hS
  obtain ⟨q1, q2, q3, q4, q5, q6, q7, q8, q9, q10, q11, q12, q13, q14, q15, q16, q17, q18, q19, q20, q21, k1, k2, k3, j1, j2, hline, rfl⟩ := toldB_of hB
  obtain ⟨g1, g2, _⟩ := glo_of hs.ok hg
  have LS := lamS_to hs.ok (LamX.lamS_by hl)
  refine wpAny_Call_Name_kw (ld_glob I g1 hm ?_ g2)
  refine PySem.W.callWith_K (h₀ := X.base) I.ok.mod.kin hk ?_ (by rfl) (by rfl)
  show wpAny _ _ (spliced ((false, eval (.Lambda ⟨[], [], none, [], [], none, []⟩ body scope lpos) X.env) :: backTo pos (starEach [] X.env))) _ _ s
  refine Calls.spliced_cons (LamX.lam_make2 I TB hcode hmT hu rs.tab (by rfl) (LS.has I.ok) fun f c' pm' ctv H1 s' I1 eN T1 hf hfn hfr hco => ?_)
  refine Calls.spliced_nil ⟨I1.kIn, ?_⟩
  have w1 : Wl m H m H1 := wl_ext eN
  have rs1 := rpS_ext rs eN T1
  have re1 := re.wl rs w1
  have rc : codeAny (model X.prog X.w) X.A (.call (.ref g) ⟨[.ref f], []⟩) (CR C8.CX0 X.stack X.prog X.w H1 s' Q C8.E0) s' := by
    refine LamX.run_ofS (k := k + 1) (N := toldN) (ps := ["look"]) (us := [.ref f]) (vs := [.ref f]) lkg hcg Sg room I1.env0 (hb s' [.ref f] I1.kIn rfl) (.cons rfl .nil) rfl fun hr' => ?_
    let Z : Cx := cxOf C8.CX0 X.prog X.w X.K X.mg X.base toldN "_law_told" sg g cdv X.A X.stack s' H1 C8.E0
    have gdZ : Z.A.guards = some [] := hs.ok.gd
    have ok : OkX Z toldN sg := ⟨rfl, Sg.nd, rfl, fun y n e => .inl e, fun _ _ => rfl, by have := hr'.un; show (X.A.deeper _).units + 100 < cLine; omega, gdZ⟩
    have hz : HasS Z L.off C Φ noW toldN sg := ⟨⟨ok, (kn Z rfl rfl rfl rfl rfl (hr'.mono (Nat.le_succ k)) gdZ).to rfl rfl rfl rfl rfl rfl rfl rfl fun h => h, (fun u s' ⟨a, B, sI, pins, σ, H, cls, d, e, I, nb, up, sky, na, os, ag, w⟩ => w.elim), (fun z => by cases (show false = true from z)), fun z => by cases (show false = true from z)⟩, passes_of rfl, hr'.mono (by omega)⟩
    have pn : ∀ {j : Nat} {q : Pos}, PE Z (.Constant .none j q) (tE Z C Φ noW .non) := s_con pe_non (fun _ _ _ _ h => h) fun _ _ => .non
    have hmt : mT toldN sg (.tup (.nm 1) (.tup (.nm 2) .nil)) (.Tuple [.Name "caught" q1, .Name "back" q2] k1 q3) = true := by
      show (((decide (toldN[1]? = some ("caught" : Str)) && (match sg.names.lookup ("caught" : Str) with | some NameKind.local | some .cell => true | _ => false)) && ((decide (toldN[2]? = some ("back" : Str)) && (match sg.names.lookup ("back" : Str) with | some NameKind.local | some .cell => true | _ => false)) && true))) = true
      rw [n3, n4]
      decide
    have v1 : PE Z (.Name "caught" q18) (tE Z C Φ noW (.var 1)) := s_var ok rfl (by unfold visB; rw [n3]) (by decide) (by decide)
    have v2 : PE Z (.Name "back" q19) (tE Z C Φ noW (.var 2)) := s_var ok rfl (by unfold visB; rw [n4]) (by decide) (by decide)
    have p3 : PS Z (.Return (some (.Tuple [.Name "caught" q18, .Name "back" q19] k3 q20)) q21) (tS Z C Φ noW (.ret retE)) := s_ret hz (s_tup (a_cons rfl v1 (a_cons rfl v2 a_nil)))
    have nm1 : PG Z (.Name "caught" q1) (gName 1) := pg_name (X := Z) Sg.nd rfl (.inl n3) (.inr n3)
    have nm2 : PG Z (.Name "back" q2) (gName 2) := pg_name (X := Z) Sg.nd rfl (.inl n4) (.inr n4)
    have p1 := ps_asg (X := Z) (pos := q7) (s_tup (p := q6) (k := k2) (a_cons rfl (pn (j := j1) (q := q4)) (a_cons rfl (pn (j := j2) (q := q5)) a_nil))) (pg_tup (X := Z) (n := 2) (pos := q3) (k := k1) rfl (pgs_cons nm1 (pgs_cons nm2 pgs_nil (by rfl)) (by rfl)) (by rfl) (by rfl))
      (sw_not (ex := .Tuple [.Constant .none j1 q4, .Constant .none j2 q5] k2 q6) (tg := .Tuple [.Name "caught" q1, .Name "back" q2] k1 q3) (l := q7.line) (env := Z.env) rfl) (stores_no (by rfl)) (by rfl)
    have p2 := try_keep (X := Z) (x := "WallError") (n := "error") (y := "caught") (i := 3) (j := 1) (np := q12) (pos := q17) (pos' := q16) (yp := q13) (np2 := q14) (ap := q15) rfl rfl rfl Sg.nd rfl n5 rfl n3 (c := .ref (He.ga X.K "WallError")) ⟨n1, by decide, .inl lk.we⟩ (by decide) (by decide)
      (fun W pn xe tk _ => pss_one (ps_set (X := Z.tr pn xe) (pos := q11) (pos' := q8) (i := 2) Sg.nd rfl (.inl n4) (vm_act (p1 := q9) (p2 := q10) (i := 0) (k := k) (tb := fun E => tE X C Φ (fun cls d _ H' => E cls d H') e) I1 LS hf hfn hfr (by rfl) tk hr' (fun E s1 H2 hr2 => ?hb) rfl (.inl n2) (by decide) (by decide)) (by rfl) (.inr n4)))
    case hb =>
      have gd2 : (LamX.lamCx X (X.A.deeper (envOfC "_law_told" sg s'.heap.objs.size g cdv)) (envOfC "_law_told" sg s'.heap.objs.size g cdv :: X.stack) s1 H2 E scope f c').A.guards = some [] := hs.ok.gd
      exact he (LamX.lamCx X (X.A.deeper (envOfC "_law_told" sg s'.heap.objs.size g cdv)) (envOfC "_law_told" sg s'.heap.objs.size g cdv :: X.stack) s1 H2 E scope f c') (fun cls d _ H' => E cls d H')
        ⟨⟨hs.ok.hN, hs.ok.nd, rfl, fun y n e => .inl e, fun y e => absurd rfl (LS.own _ (PySem.mem_of_lookup e)).2, by have := hr2.un; show ((X.A.deeper _).deeper _).units + 100 < cLine; omega, gd2⟩,
          (kn (LamX.lamCx X (X.A.deeper (envOfC "_law_told" sg s'.heap.objs.size g cdv)) (envOfC "_law_told" sg s'.heap.objs.size g cdv :: X.stack) s1 H2 E scope f c') rfl rfl rfl rfl rfl hr2 gd2).to rfl rfl rfl rfl rfl rfl rfl rfl fun h => h, takes_of rfl rfl rfl rfl, (fun z => by cases (show false = true from z)), fun z => by cases (show false = true from z)⟩
    refine ⟨_, pss_cons p1 (pss_cons p2 (pss_one p3)), ?_⟩
    refine ⟨m, [none, none, none, none], st, fun d st' => d = .tup [.non, .non] ∧ st' = st, fun _ _ => False, ⟨rfl, fun i d h => ?_⟩, rs1, ⟨by rw [sizeLine_eq]; decide, rfl, rfl⟩, fun _ _ _ _ _ _ z => z.elim, ?_⟩
    · match i, h with
      | 0, h => cases h
      | 1, h => cases h
      | 2, h => cases h
      | 3, h => cases h
      | i + 4, h => cases h
    · rintro d st' m2 H2 v ⟨rfl, rfl⟩ w2 rs2 rv
      cases rv with
      | tup hsq rl =>
        obtain ⟨x, y, rfl, rx, ry⟩ := rl.two
        cases rx
        cases ry
        refine ⟨_, _, rfl, hsq, rfl, _, _, rfl, _, _, rfl, rfl, ?_⟩
        refine ⟨_, fun cls d H' h => h, rfl, w2.stay c' _ hco (code_notin rs1 hco) LamX.codeO_ne, ?_⟩
        refine ⟨m2, env, st', fun d st1 => Q0 (.tup [.non, d]) st1, fun x st1 => ∃ c v, x = .exc c v ∧ (C.exs.lookup c).isSome = true ∧ Q0 (.tup [x, .non]) st1, re1.wl rs1 w2, rs2, w, ?_, ?_⟩
        · rintro x st3 m3 H3 cls dx ⟨cc, v, rfl, hc, q⟩ w3 rs3 ⟨c4, v4, dd, u, ex, rfl, rfl, hdd, ru⟩
          cases ex
          refine ⟨_, dd, rfl, rfl, lk.wx cc hc, fun a na => ?_⟩
          exact ret_told (m := m3) (st := st3) rfl rfl (.exc upd_same (by rw [upd_ne (ne_of_none hdd na)]; exact hdd) (ru.wl rs3 (Wl.upd na))) .non (rs3.upd na) ((aq.wl (w1.trans (w2.trans w3))).wl (Wl.upd na)) q
        · intro d st3 m3 H3 v q w3 rs3 rv
          exact ret_told (m := m3) (st := st3) rfl rfl .non rv rs3 (aq.wl (w1.trans (w2.trans w3))) q
  refine wpAny_call (codeAny_mono rc fun r s2 hq => ?_)
  cases r with
  | error e => exact (show False from hq).elim
  | ok fl =>
    cases fl with
    | ret u => exact I1.after hq
    | next => exact False.elim hq
    | brk => exact False.elim hq
    | cont => exact False.elim hq
end
end Vm

set_option Elab.async false
set_option linter.all false
set_option maxRecDepth 100000
set_option maxHeartbeats 4000000
/-! Vm, part 45: an own exception made as a value. -/
namespace Vm
open PySem PySem.Spec PyProof.Rows L2
section
variable {X : Cx} {L : Lx} {C : Ctx} {Φ : Fn} {W : WX} {N : List Str} {sc : Scope}
theorem s_exv (hs : Has X L C Φ W N sc) {c : Str} {e : E} {x : Expr} {p pos : Pos} (hg : gloB sc c = true) (hmk : L.xv = true) (hc : L.exs.contains c = true) (hst : isStar x = false) (he : PE X x (tE X C Φ W e)) :
    PE X (.Call (.Name c p) [x] [] pos) (tE X C Φ W (.exv c e)) := by
  obtain ⟨hm, f, W', fd, T, iC, tI, F1, bd⟩ := hs.kn.rai c hc
  obtain ⟨g1, g2, _⟩ := glo_of hs.ok hg
  have ha : PA X [x] (tA X C Φ W (.cons e .nil)) := a_cons hst he a_nil
  have pm := pmk_oex (X := X) (p := p) (pos := pos) (dvs := []) T.T iC tI F1 (hs.xv hmk).1 bd .nil passL g1 hm ha g2 (starEach_plain hst) (by rfl)
  refine ⟨fun pins s σ H Q I h => ?_⟩
  obtain ⟨m, env, st, Q0, EX0, re, rs, w, ax, aq⟩ := h
  refine thn (pm pins s σ H (fun cls d H' => cls = .ref (He.ga X.K c) ∧ ∃ dd v vd stx mx Hx, d = some dd ∧ H' = L2.upd Hx dd (.xd [("value", v)]) ∧ Hx dd = none ∧ Wl m H mx Hx ∧ RpS X.K X.mg mx Hx stx ∧ Rp X.K X.mg mx Hx v vd ∧ Q0 (.exc c vd) stx) I ?_) fun u s' hu => ?_
  · refine ⟨m, env, st, fun ds st1 => (match ds with
      | [v] => Q0 (.exc c v) st1
      | _ => False), _, re, rs, w, ax, fun ds st' m' H' vs q w' rs' rl => ?_⟩
    obtain ⟨v, rfl, q⟩ : ∃ v, ds = [v] ∧ Q0 (.exc c v) st' := by
      match ds, q with
      | [v], q => exact ⟨v, rfl, q⟩
      | [], q => exact q.elim
      | _ :: _ :: _, q => exact q.elim
    obtain ⟨y, rfl, ry⟩ := rl.one
    refine ⟨by show 1 ≤ 1000; decide, fun a na => ⟨a, He.ga X.K c, y, rfl, upd_same, T, fun d nd hda => ⟨rfl, d, [("value", y)], upd_same, by rw [upd_ne hda, upd_same], ?_, ?_⟩⟩⟩
    · rw [upd_ne hda] at nd; exact nd
    · rw [upd_ne hda] at nd
      have e : L2.upd (del (L2.upd (L2.upd (L2.upd H' a (exo a (He.ga X.K c) none)) d (exd d [("value", y)])) a (exo a (He.ga X.K c) (some d))) a) d (.xd [("value", y)]) = L2.upd H' d (.xd [("value", y)]) := by
        funext b
        by_cases h1 : b = d
        · subst h1; rw [upd_same, upd_same]
        · rw [upd_ne h1, upd_ne h1]
          by_cases h2 : b = a
          · subst h2; rw [del_same, na]
          · rw [del_ne h2, upd_ne h2, upd_ne h1, upd_ne h2]
      rw [e]
      exact ⟨rfl, d, y, v, st', m', H', rfl, rfl, nd, w', rs', ry, q⟩
  · obtain ⟨a, oe, vs, sI, H', cls, d, rfl, J, k, hne, hta, hz, hd, h1, na, os, ag, r, rfl, dd, v, vd, stx, mx, Hx, rfl, rfl, nd, wx, rsx, rv, q⟩ := hu
    have ok := J.ok
    have J' : L2.Inv X pins σ (L2.upd Hx dd (.xd [("value", v)])) s' := J.landed (B := sI.heap) (fun b o e _ => e) (fun b o e => k b o e) (fun b o e _ => ⟨o.slots, k b o e⟩) os ag
    have n0 : X.s_0.heap.get? a = none := by
      cases z : X.s_0.heap.get? a with
      | none => rfl
      | some o =>
        obtain ⟨o', z'⟩ := J.base.there a o z (by rw [(hs.xv hmk).2]; simp)
        rw [hne] at z'; cases z'
    have np : ∀ p ∈ X.pn ++ pins, p.1 ≠ a := fun p hp z => by
      have q := (J.pin p hp).1
      rw [z, hne] at q; cases q
    have nL : a ≠ X.env.locals := fun z => by
      obtain ⟨mm, hns, _⟩ := J.loc
      obtain ⟨o, _, _, ho, _⟩ := hns
      rw [← z, hne] at ho; cases ho
    have hda : dd ≠ a := fun z => by
      rw [← z, upd_same] at na; cases na
    have J2 := Inv.lay J' na hta hz.1 hz.2 hd n0 np nL
    exact ⟨.ref a, _, J2, rfl, aq (.exc c vd) stx mx _ (.ref a) q ((wx.trans (Wl.upd nd)).trans (Wl.upd na)) ((rsx.upd nd).upd na) (.exc upd_same (by rw [upd_ne hda, upd_same]) ((rv.wl rsx (Wl.upd nd)).wl (rsx.upd nd) (Wl.upd na)))⟩
end
end Vm

set_option Elab.async false
set_option linter.all false
set_option maxRecDepth 100000
set_option maxHeartbeats 1000000
/-! Vm, part 45: x[::-1], dict(list(d.items())). -/
namespace Vm
open PySem PySem.Spec PyProof.Rows L2
variable {X : Cx} {L : Lx} {C : Ctx} {Φ : Fn} {W : WX} {N : List Str} {sc : Scope}
theorem RpL.reverse {K : PySem.W.Frag} {mg : Str → Option Value} {m : Wm} {H : Hp} : ∀ {vs : List V} {ds : List D}, RpL K mg m H vs ds → RpL K mg m H vs.reverse ds.reverse
  | _, _, .nil => .nil
  | _, _, .cons h r => by
    rw [List.reverse_cons, List.reverse_cons]
    exact (RpL.reverse r).append (.cons h .nil)
theorem strRev (z : Str) : ((Builtin.Str.strSliceIndices none none (-1) z.length).filterMap (z.cps[·]?)).toArray = z.cps.reverse := by
  have e1 : Builtin.Str.strSliceIndices none none (-1) z.length = sliceRange ((z.length : Int) - 1) (-1) (-1) := by
    simp [Builtin.Str.strSliceIndices]
  rw [e1, PySem.W.krv_sliceRange, PySem.W.krv_range, List.filterMap_reverse]
  have := PySem.W.krv_all z.cps
  rw [show z.length = z.cps.size from rfl, this]
  exact Array.toList_inj.mp (by rw [List.toList_toArray, Array.toList_reverse])
section
variable {prog : Program} {w : World} {A : Around} {E : Value → Shared → Prop} {s : Shared}
theorem sliceApplied_rev {sl : Addr} {vs : Value} {n : Nat} {Q : Int × Int × Nat → Shared → Prop} (hs : s.heap.IsSliceOf sl .none .none vs) (ps : IsPart vs (some (-1))) (h : Q ((n : Int) - 1, -1, n) s) :
    wpAny (model prog w) A (Builtin.Slice.sliceApplied (.ref sl) (pure (n : Int))) Q E s := by
  obtain ⟨os, hos, hcs, hds⟩ := id hs
  unfold Builtin.Slice.sliceApplied Builtin.Slice.sliceFields
  refine wpAny_bind (wpAny_bind (wpAny_field hos hds (x := .none) rfl (wpAny_bind (wpAny_field hos hds (x := .none) rfl (wpAny_bind (wpAny_field hos hds (x := vs) rfl (wpAny_pure ?_)))))))
  refine wpAny_bind (HT.slicePart_ ps ?_)
  show wpAny _ _ (if ((-1 : Int) == 0) = true then _ else _) _ _ s
  rw [if_neg (by decide)]
  refine wpAny_bind (slicePart_none (wpAny_bind (slicePart_none (wpAny_bind (wpAny_pure ?_)))))
  show wpAny _ _ (match Builtin.Slice.sliceAdjust none none (-1) (n : Int) with | (lo, hi) => pure (lo, (-1 : Int), Builtin.Slice.slicePlaces lo hi (-1))) _ _ s
  have e : Builtin.Slice.sliceAdjust none none (-1) (n : Int) = ((n : Int) - 1, -1) := by simp [Builtin.Slice.sliceAdjust]
  rw [e]
  have e2 : Builtin.Slice.slicePlaces ((n : Int) - 1) (-1) (-1) = n := by
    unfold Builtin.Slice.slicePlaces
    rw [if_neg (by decide)]
    by_cases z : n = 0
    · subst z; rfl
    · rw [if_pos (by omega)]
      rw [show (-(-1 : Int)) = 1 by decide, Int.ediv_one]
      omega
  show wpAny _ _ (pure ((n : Int) - 1, (-1 : Int), Builtin.Slice.slicePlaces ((n : Int) - 1) (-1) (-1))) _ _ s
  rw [e2]
  exact wpAny_pure h
theorem pick_rev (xs : Array Value) : ((List.range xs.size).filterMap fun (m : Nat) => xs[((xs.size : Int) - 1 + (m : Int) * (-1)).toNat]?).toArray = xs.toList.reverse.toArray := by
  have h1 : ((List.range xs.size).filterMap fun (m : Nat) => xs[((xs.size : Int) - 1 + (m : Int) * (-1)).toNat]?) = ((List.range xs.size).map fun k => xs.size - 1 - k).filterMap (xs[·]?) := by
    rw [List.filterMap_map]
    have fc : ∀ (l : List Nat), (∀ m ∈ l, m < xs.size) → l.filterMap (fun (m : Nat) => xs[((xs.size : Int) - 1 + (m : Int) * (-1)).toNat]?) = l.filterMap ((fun x => xs[x]?) ∘ fun k => xs.size - 1 - k) := fun l => by
      induction l with
      | nil => exact fun _ => rfl
      | cons a l ih =>
        intro h
        have ha := h a (List.mem_cons_self ..)
        have e : ((xs.size : Int) - 1 + (a : Int) * (-1)).toNat = xs.size - 1 - a := by omega
        rw [List.filterMap_cons, List.filterMap_cons, e, ih fun m hm => h m (List.mem_cons_of_mem _ hm)]
        rfl
    exact fc _ fun m hm => List.mem_range.mp hm
  rw [h1, PySem.W.krv_range, List.filterMap_reverse, PySem.W.krv_all]
theorem getItem_tuple_rev {t sl : Addr} {items : Array Value} {vs : Value} {Q : Value → Shared → Prop} (ht : IsTup s.heap t items) (hs : s.heap.IsSliceOf sl .none .none vs) (ps : IsPart vs (some (-1)))
    (h : Q (.ref s.heap.objs.size) { s with heap := s.heap.push { cls := .type "tuple", data := .seq items.toList.reverse.toArray } })
    (hsz : items.size ≤ sizeLine) : wpAny (model prog w) A (getItem (.ref t) (.ref sl)) Q E s := by
  have htake : sizeOk (.seq items.toList.reverse.toArray) := by
    show items.toList.reverse.toArray.size ≤ sizeLine
    rw [List.size_toArray, List.length_reverse, Array.length_toList]
    exact hsz
  obtain ⟨os, hos, hcs, hds⟩ := id hs
  have hTs : s.TypeIs (.ref sl) "slice" := ⟨os, hos, hcs⟩
  unfold getItem
  try with_reducible refine wpAny_holding ?_
  first | refine wpAny_bind (wpAny_pure ?_) | skip
  refine wpAny_bind (wpAny_sequenceKey ht.typeIs (by decide) ?_)
  refine wpAny_bind (wpAny_callSpecial?_slot (name := Str.ofString "__getitem__") ht.typeIs PyProof.Rows.slot_tuple_getitem
    (wpAny_call_entry PyProof.Rows.slot_tuple_getitem ht.typeIs entry_tuple_getitem ?_ (args_tuple_getitem _ _)))
  show wpAny _ _ (Builtin.Tuple.tupleItemsOf (.ref t) >>= _) _ _ s
  refine wpAny_bind (tupleItemsOf_ ht ?_)
  refine wpAny_bind (wpAny_typeOf hTs ?_)
  rw [if_pos (by decide)]
  refine wpAny_bind (sliceApplied_rev hs ps ?_)
  have hno : ¬ ((((items.size : Int) - 1) == 0 && (-1 : Int) == 1 && items.size == items.size) = true) := by simp
  show wpAny _ _ (if (((items.size : Int) - 1) == 0 && (-1 : Int) == 1 && items.size == items.size) = true then _ else _) _ _ s
  rw [if_neg hno, pick_rev]
  first
    | exact wpAny_bind (m := Builtin.Tuple.tupleExact _) (wpAny_newObj_type (wpAny_pure ⟨_, rfl, wpAny_pure h⟩) htake)
    | exact wpAny_bind (m := Builtin.Tuple.tupleExact _) (wpAny_newObj_type (wpAny_bind (wpAny_pure (wpAny_pure ⟨_, rfl, wpAny_pure h⟩))) htake)
    | exact wpAny_bind (wpAny_bind (m := Builtin.Tuple.tupleExact _) (wpAny_newObj_type (wpAny_pure (wpAny_pure ⟨_, rfl, wpAny_pure h⟩)) htake))
    | exact wpAny_bind (wpAny_bind (m := Builtin.Tuple.tupleExact _) (wpAny_newObj_type (wpAny_pure ⟨_, rfl, wpAny_pure h⟩) htake))
end
theorem rev_ok {pins : List (Addr × Obj)} {σ : L2.St} {H : Hp} {s : Shared} {m : Wm} {st : Sto} {x : V} {v vs : Value} {d : D} {Q0 : QD} {sl : Addr} (I : L2.Inv X pins σ H s) (rs : RpS X.K X.mg m H st) (rx : RelV x v) (px : Rp X.K X.mg m H x d)
    (hs : s.heap.IsSliceOf sl .none .none vs) (ps : IsPart vs (some (-1))) (h : revD d st Q0) :
    ∃ T id, typeLookup (.type T) "__getitem__" = pure (some (.builtin id)) ∧ s.TypeIs v T ∧ wpAny (model X.prog X.w) X.A (getItem v (.ref sl)) (EP X pins σ (EQ X m H Q0)) X.xe s := by
  have gen : (∃ xs, isLst st d = true ∧ seqOf st d = some xs ∧ Q0 (.lst xs.reverse) st) →
      ∃ T id, typeLookup (.type T) "__getitem__" = pure (some (.builtin id)) ∧ s.TypeIs v T ∧ wpAny (model X.prog X.w) X.A (getItem v (.ref sl)) (EP X pins σ (EQ X m H Q0)) X.xe s := fun h => by
    obtain ⟨xs, hl, hx, q⟩ := h
    obtain ⟨a, vs, rfl, hA, rl⟩ := px.list rs hl hx
    cases rx
    obtain ⟨its, r, ht, hz⟩ := I.list (SqL.of hA)
    have hlen := r.length
    refine ⟨"list", _, PySem.slot_list_getitem.lookup, ht.isList.typeIs, ?_⟩
    refine wpAny_getItem_list_slice ht.isList hs .none .none ps (by decide) ?_ (by rw [List.size_toArray]; omega)
    rw [PySem.W.krv_pick]
    refine ⟨.ref _, _, I.laid (t' := s.toks) (o := .lst vs.reverse) (fun b ob q => Heap.get?_push_of_some _ q) (Nat.le_refl _) ⟨by rw [List.length_reverse]; exact hz, _, 0, r.reverse, Heap.get?_push_size _ rfl⟩, rfl, ?_⟩
    exact EQ.lst (al := false) rs (I.hok.fresh (Nat.le_refl _)) rl.reverse ⟨by rw [List.length_reverse, ← rl.length]; exact hz, q⟩
  cases d with
  | tup xs =>
    have h : Q0 (.tup xs.reverse) st := h
    cases px with
    | tup hA rl =>
      cases rx
      obtain ⟨its, r, ht, hz⟩ := I.tuple hA
      have hlen := r.length
      refine ⟨"tuple", _, PyProof.Rows.slot_tuple_getitem.lookup, ht.typeIs, ?_⟩
      refine getItem_tuple_rev ht hs ps ?_ (by rw [List.size_toArray]; omega)
      refine ⟨.ref _, _, I.laid (t' := s.toks) (o := .tup _) (fun b ob q => Heap.get?_push_of_some _ q) (Nat.le_refl _) ⟨by rw [List.length_reverse]; exact hz, _, r.reverse, IsTup.new _ _⟩, rfl, ?_⟩
      exact EQ.tup rs (I.hok.fresh (Nat.le_refl _)) rl.reverse h
  | str z =>
    have h : z.length ≤ sizeLine ∧ Q0 (.str ⟨z.cps.reverse⟩) st := h
    cases px
    obtain ⟨t, rfl⟩ := rx
    refine ⟨"str", _, F.slot_str_getitem.lookup, typeIs_str _ _ _, ?_⟩
    cases ps with
    | int _ t2 =>
      refine wpAny_getItem_str_slice (l := none) (u := none) (st := some (-1, t2)) ?_ rfl ?_
      · obtain ⟨o, h1, h2, h3⟩ := hs
        exact ⟨o, h1, h2, h3⟩
      · show Made.post (if ((-1 : Int) == 1 && (Builtin.Str.strSliceIndices none none (-1) z.length).length == z.length) = true then Made.val (.str z t)
          else Made.str ⟨((Builtin.Str.strSliceIndices none none (-1) z.length).filterMap (z.cps[·]?)).toArray⟩) (EP X pins σ (EQ X m H Q0)) s
        rw [if_neg (by simp), strRev]
        exact ⟨by show (z.cps.reverse).size ≤ sizeLine; rw [Array.size_reverse]; exact h.1, .str _, H, I.tok _, ⟨_, rfl⟩, EQ.of rs (.str _) h.2⟩
  | _ => exact gen h
theorem s_rev {o : E} {x : Expr} {k : Nat} {p1 p2 p3 pos : Pos} (ho : PE X x (tE X C Φ W o)) : PE X (.Subscript x (.Slice none none (some (.UnaryOp .USub (.Constant (.int 1) k p1) p2)) p3) pos) (tE X C Φ W (.rev o)) := by
  refine ⟨fun pins s σ H Q I h => ?_⟩
  obtain ⟨m, env, st, Q0, EX0, re, rs, w, ax, aq⟩ := h
  refine Subscript_ (runE ho I re rs w ax fun v s1 x1 H1 d1 st1 m1 I1 r1 w1 l1 rs1 q1 => ?_)
  have hst : PO X (some (.UnaryOp .USub (.Constant (.int 1) k p1) p2)) (tPart (tUn (rU fun i => .int (-i)) (tC (.int 1)))) := po_some (pe_un un_neg pe_int)
  refine wpAny_Slice (thn (po_none.run pins s1 σ H1 (fun o H2 => o = none ∧ H2 = H1) I1 ⟨rfl, rfl⟩) fun vl s2 ⟨l, H2, I2, pl, el, e2⟩ => ?_)
  subst el e2
  refine thn (po_none.run pins s2 σ H2 (fun o H3 => o = none ∧ H3 = H2) I2 ⟨rfl, rfl⟩) fun vu s3 ⟨u, H3, I3, pu, eu, e3⟩ => ?_
  subst eu e3
  refine thn (hst.run pins s3 σ H3 (fun o H4 => o = some (-1) ∧ H4 = H3) I3 ⟨1, rfl, -1, rfl, rfl, rfl⟩) fun vs s4 ⟨o, H4, I4, ps, eo, e4⟩ => ?_
  subst eo e4
  have I5 : L2.Inv X pins σ H4 { s4 with heap := s4.heap.push { cls := .type "slice", data := .fields #[vl, vu, vs] } } := I4.kept (t' := s4.toks) fun b ob q => Heap.get?_push_of_some _ q
  cases pl
  cases pu
  obtain ⟨T, id, hT, ht, hg⟩ := rev_ok I5 rs1 r1 q1 (Heap.IsSliceOf.new _ .none .none vs) ps w1
  show wpAny (model X.prog X.w) X.A (subscriptTail x (.Slice none none (some (.UnaryOp .USub (.Constant (.int 1) k p1) p2)) p3) v (.ref s4.heap.objs.size)) (EP X pins σ Q) X.xe { s4 with heap := s4.heap.push { cls := .type "slice", data := .fields #[.none, .none, vs] } }
  exact tail_any (ops := [v, .ref s4.heap.objs.size]) ht hT (thn hg fun _ _ z => eqEP aq l1 z) (by with_unfolding_all rfl)
theorem paired_imp {α β : Type} {F G : α → β → Prop} (h : ∀ a b, F a b → G a b) : ∀ {xs : List α} {ys : List β}, Paired F xs ys → Paired G xs ys
  | _, _, .nil => .nil
  | _, _, .cons a r => .cons (h _ _ a) (paired_imp h r)
/-- dict(list(d.items())) -/
theorem s_dcop (hs : Has X L C Φ W N sc) {al : Bool} {e : E} {x : Expr} {p p2 apos cpos pos pos2 : Pos} (hg : gloB sc "dict" = true) (hg2 : gloB sc "list" = true) (hl : (apos.endLine == cpos.line) = true) (hb : call0 x = false) (he : PE X x (tE X C Φ W e)) :
    PE X (.Call (.Name "dict" p) [.Call (.Name "list" p2) [.Call (.Attribute x "items" apos) [] [] cpos] [] pos2] [] pos) (tE X C Φ W (.dcop al e)) := by
  obtain ⟨g1, _, _⟩ := glo_of hs.ok hg
  obtain ⟨g2, _, _⟩ := glo_of hs.ok hg2
  have m1 : X.mg "dict" = none := hs.kn.blt _ (by decide)
  have m2 : X.mg "list" = none := hs.kn.blt _ (by decide)
  have inner := LiI.pe_listItems (p := p2) (pos := pos2) (cpos := cpos) hs.ok.calm he g2 m2 (by rfl) (base_plain hb) hl
  have whole := pe_callTy (p := p) (pos := pos) (x := "dict") (call_dictP hs.ok.calm) g1 m1 (by rfl) (pa_cons inner pa_nil)
  refine ⟨fun pins s σ H Q I h => whole.run pins s σ H Q I ?_⟩
  obtain ⟨m, env, st, Q0, EX0, re, rs, w, ax, aq⟩ := h
  refine ⟨m, env, st, _, EX0, re, rs, w, ax, fun d st1 m1 H1 v q w1 rs1 r1 => ?_⟩
  obtain ⟨kvs, hd, q⟩ := q
  obtain ⟨a, vs, rfl, ha, rk⟩ := Rp.dict rs1 r1 hd
  refine ⟨a, vs, rfl, ha, fun H' p0 ts hmono hp0 hts hpt hl1 hpair => ?_⟩
  have ext : LamX.ExtN H1 H' := fun b o e _ => hmono b o e
  have rs' : RpS X.K X.mg m1 H' st1 := rpS_ext rs1 ext fun p hp => ?tabs
  have wl : Wl m1 H1 m1 H' := wl_ext ext
  refine ⟨p0, ts, vs, rfl, SqL.of hl1, ?pr, fun p hp => ?fin⟩
  case tabs => exact (rs1.tab p hp).ext hmono
  case pr => exact paired_imp (fun _ _ h => SqT.of h) hpair
  case fin =>
    have rk' : RpK X.K X.mg m1 H' vs kvs := RpK.wl rs1 wl rk
    obtain ⟨d, st2, m2, q2, w2, rs2, r2⟩ := EQ.dct (X := X) rs' hp (RpK.mrg rk' .nil) q
    exact aq d st2 m2 _ _ q2 (w1.trans (wl.trans w2)) rs2 r2
end Vm

set_option Elab.async false
set_option linter.all false
set_option maxRecDepth 100000
set_option maxHeartbeats 4000000
/-! Vm, part 46: sets of ints and texts, made of a list or a tuple; their number, their members sorted. -/
namespace Vm
open PySem PySem.Spec PyProof.Rows L2
/-- the key of a member -/
def kE (e : Int × Value) : Key := match e.2 with
  | .int i _ => .inl i
  | .str x _ => .inr x
  | _ => .inl 0
structure GdE (P : Program) (w : World) (e : Int × Value) : Prop where
  is : (mixKind P w).is (kE e) e.2 = true
  hs : e.1 = (mixKind P w).hash (kE e)
  sc : e.2.scannable = true
theorem kE_of {P : Program} {w : World} {k : Key} {v : Value} (z : Int) (h : (mixKind P w).is k v = true) : kE (z, v) = k := by
  rcases keyIs_shape (k := k) (v := v) h with ⟨i, t, rfl, rfl⟩ | ⟨x, t, rfl, rfl⟩ <;> rfl
theorem scan_of {P : Program} {w : World} {k : Key} {v : Value} (h : (mixKind P w).is k v = true) : v.scannable = true := by
  rcases keyIs_shape (k := k) (v := v) h with ⟨i, t, rfl, rfl⟩ | ⟨x, t, rfl, rfl⟩ <;> rfl
theorem gdE_of {P : Program} {w : World} {k : Key} {v : Value} (h : (mixKind P w).is k v = true) : GdE P w ((mixKind P w).hash k, v) :=
  ⟨by rw [kE_of _ h]; exact h, by rw [kE_of _ h], scan_of h⟩
theorem hasK_iff {ks : List Key} {k : Key} : hasK ks k = true ↔ k ∈ ks := by
  unfold hasK
  rw [List.any_eq_true]
  exact ⟨fun ⟨j, hj, e⟩ => by rw [← of_decide_eq_true e]; exact hj, fun h => ⟨k, h, decide_eq_true rfl⟩⟩
/-- the set at a has the members ks -/
def SetK (P : Program) (w : World) (h : Heap) (a : Addr) (ks : List Key) : Prop :=
  ks.Nodup ∧ ks.length < 1000 ∧ ∃ o es ep t, h.get? a = some o ∧ o.ExactSet ∧ o.data = .set es ep t ∧ (∀ e ∈ es.toList, GdE P w e) ∧ ks.Perm (es.toList.map kE) ∧ t.fits es.size = true ∧
    Ris t.place.toList ∧ (w.params.followText "set-order" = true ∨ t.led = true)
section
variable {P : Program} {w : World} {A : Around} {E : Value → Shared → Prop} {s : Shared} {a : Addr} {ks : List Key}
theorem gdE_elems {l : List (Int × Value)} (g : ∀ e ∈ l, GdE P w e) : ElemsOf (mixKind P w) l := fun e he => ⟨⟨kE e, (g e he).is, (g e he).hs⟩, (g e he).sc⟩
theorem gdE_is {e : Int × Value} (g : GdE P w e) (k : Key) : (mixKind P w).is k e.2 = true ↔ kE e = k :=
  ⟨fun h => (mixKind P w).inj e.2 _ _ g.is h, fun h => by rw [← h]; exact g.is⟩
theorem gdE_mem {l : List (Int × Value)} (g : ∀ e ∈ l, GdE P w e) (k : Key) : k ∈ l.map kE ↔ ∃ e ∈ l, (mixKind P w).is k e.2 = true := by
  rw [List.mem_map]
  exact ⟨fun ⟨e, he, q⟩ => ⟨e, he, (gdE_is (g e he) k).mpr q⟩, fun ⟨e, he, q⟩ => ⟨e, he, (gdE_is (g e he) k).mp q⟩⟩
theorem SetK.at {h h' : Heap} (R : SetK P w h a ks) (k : ∀ o, h.get? a = some o → h'.get? a = some o) : SetK P w h' a ks := by
  obtain ⟨h1, h2, o, es, ep, t, ho, r⟩ := R
  exact ⟨h1, h2, o, es, ep, t, k o ho, r⟩
theorem setK_tail {g : Bool → Sem Unit} (hg : ∀ (c : Bool) (s1 : Shared) (Q : Unit → Shared → Prop), Q () s1 → wpAny (model P w) A (g c) Q E s1) {o : Obj} {es fs : Array (Int × Value)} {ep : Nat} {t u : SetTable}
    (ho : s.heap.get? a = some o) (hex : o.ExactSet) (hd : o.data = .set es ep t) (gd : ∀ e ∈ fs.toList, GdE P w e) (nd : ks.Nodup) (few : ks.length < 1000) (pm : ks.Perm (fs.toList.map kE)) (hf : u.fits fs.size = true)
    (hr : Ris u.place.toList) (hl : w.params.followText "set-order" = true ∨ u.led = true) {wd : Bool} {R : Option Bool → Shared → Prop}
    (hR : ∀ h', Heap.SameBut a s.heap h' → SetK P w h' a ks → R (some true) { s with heap := h' }) :
    wpAny (model P w) A (do
        storeSet a fs u
        if (!wd && u.tooFull) = true then do
            g (relayAll u fs (SetTable.grown fs.size)).2.2
            storeSet a (relayAll u fs (SetTable.grown fs.size)).1 (relayAll u fs (SetTable.grown fs.size)).2.1
            pure (some true)
          else pure (some true)) R E s := by
  have sz : fs.size ≤ sizeLine := by
    have e : fs.size = ks.length := by rw [pm.length_eq, List.length_map, Array.length_toList]
    rw [e, sizeLine_eq]; omega
  refine wpAny_bind (wpAny_storeSet_of ho hd ?_ sz)
  have ho1 := L2.store_at (es' := fs) (t' := u) ho hd
  have sb1 := Heap.SameBut.update s.heap a (Obj.putSet fs u)
  split
  · have p2 := relayAll_perm u fs (SetTable.grown fs.size)
    have f2 := relayAll_fits u fs (SetTable.grown fs.size)
    have r2 := relayAll_ris u fs (SetTable.grown fs.size)
    have l2 := relayAll_led u fs (SetTable.grown fs.size)
    generalize relayAll u fs (SetTable.grown fs.size) = Z at p2 f2 r2 l2 ⊢
    obtain ⟨gs, v, gave⟩ := Z
    dsimp only at p2 f2 r2 l2 ⊢
    have sz2 : gs.size ≤ sizeLine := by rw [← Array.length_toList, p2.length_eq, Array.length_toList]; exact sz
    refine wpAny_bind (hg _ _ _ (wpAny_bind (wpAny_storeSet_of ho1 rfl ?_ sz2)))
    have ho2 := L2.store_at (es' := gs) (t' := v) ho1 rfl
    exact wpAny_pure (hR _ (sb1.trans (Heap.SameBut.update _ a _)) ⟨nd, few, _, gs, _, v, ho2, hex, rfl, fun e he => gd e (p2.mem_iff.mp he), pm.trans (p2.map kE).symm, f2, r2, hl.imp id fun z => by rw [l2]; exact z⟩)
  · exact wpAny_pure (hR _ sb1 ⟨nd, few, _, fs, _, u, ho1, hex, rfl, gd, pm, hf, hr, hl⟩)
theorem setK_add {k : Key} {x : Value} {Q : Bool → Shared → Prop} (R : SetK P w s.heap a ks) (few : ks.length + 1 < 1000) (hkey : (mixKind P w).is k x = true)
    (hQ : ∀ c h', Heap.SameBut a s.heap h' → SetK P w h' a (addK ks k) → Q c { s with heap := h' }) : wpAny (model P w) A (setAddHashed a x ((mixKind P w).hash k)) Q E s := by
  obtain ⟨nd, _, o, es, ep, t, ho, hex, hd, gd, pm, hf, hr, hl⟩ := R
  have hn : es.size = ks.length := by rw [pm.length_eq, List.length_map, Array.length_toList]
  have hel : ElemsOf (mixKind P w) es.toList := gdE_elems gd
  have hb : es.size < scanBound := by unfold scanBound; omega
  have hsc := scan_of hkey
  unfold setAddHashed setAddHashedIn
  refine wpAny_holding (wpAny_bind (wpAny_setState_of ho hd hf ?_))
  dsimp only
  rw [byScan_of hsc hb hel, if_pos rfl]
  unfold setAddByScan
  refine wpAny_bind (wpAny_bind (wpAny_rule (wpAny_bind (wpAny_setScan_of hkey ho hd hf hel ?_))))
  cases hfi : List.findIdx? (fun e => (mixKind P w).is k e.2) es.toList with
  | some j =>
    obtain ⟨hj, pj, _⟩ := List.findIdx?_eq_some_iff_getElem.mp hfi
    have hm : k ∈ ks := pm.mem_iff.mpr ((gdE_mem gd k).mpr ⟨es.toList[j], List.getElem_mem hj, pj⟩)
    have e : addK ks k = ks := by unfold addK; rw [if_pos (hasK_iff.mpr hm)]
    dsimp only
    exact wpAny_pure (wpAny_pure (hQ _ s.heap (Heap.SameBut.refl a s.heap) (by rw [e]; exact ⟨nd, by omega, o, es, ep, t, ho, hex, hd, gd, pm, hf, hr, hl⟩)))
  | none =>
    have hm : k ∉ ks := fun z => by
      obtain ⟨e, he, q⟩ := (gdE_mem gd k).mp (pm.mem_iff.mp z)
      rw [List.findIdx?_eq_none_iff.mp hfi e he] at q
      cases q
    have e : addK ks k = k :: ks := by unfold addK; rw [if_neg (fun z => hm (hasK_iff.mp z))]
    have gw : ∀ (c : Bool) {s1 : Shared} {R : Unit → Shared → Prop}, R () s1 → wpAny (model P w) A (match c with | true => rule "set.scan.the-table-gave-way" | false => pure ()) R E s1 :=
      fun c s1 R q => by cases c <;> first | exact wpAny_pure q | exact wpAny_rule q
    dsimp only
    have p1 := layNew_perm t es ((mixKind P w).hash k) x
    have f1 := layNew_fits t es ((mixKind P w).hash k) x
    have r1 := layNew_ris t es ((mixKind P w).hash k) x hr
    have l1 := layNew_led t es ((mixKind P w).hash k) x
    generalize layNew t es ((mixKind P w).hash k) x = Z at p1 f1 r1 l1 ⊢
    obtain ⟨fs, u, wd, gave⟩ := Z
    dsimp only at p1 f1 r1 l1 ⊢
    rw [Array.toList_push] at p1
    have pc : fs.toList.Perm (((mixKind P w).hash k, x) :: es.toList) := p1.trans (List.perm_append_singleton _ _)
    have pk : (k :: ks).Perm (fs.toList.map kE) := by
      refine List.Perm.trans ?_ (pc.map kE).symm
      rw [List.map_cons, kE_of _ hkey]
      exact List.Perm.cons _ pm
    have g1 : ∀ e ∈ fs.toList, GdE P w e := fun e he => by
      rcases List.mem_cons.mp (pc.mem_iff.mp he) with z | z
      · rw [z]; exact gdE_of hkey
      · exact gd e z
    have nd1 : (k :: ks).Nodup := List.nodup_cons.mpr ⟨hm, nd⟩
    have hl1 : w.params.followText "set-order" = true ∨ u.led = true := hl.imp id fun z => by rw [l1]; exact z
    have few1 : (k :: ks).length < 1000 := by rw [List.length_cons]; omega
    refine wpAny_bind (gw _ ?_)
    split
    · refine wpAny_bind ?_
      rw [hashByValue_scannable 8 hsc]
      refine wpAny_pure (setK_tail ?_ ho hex hd g1 nd1 few1 pk ?_ ?_ ?_ ?_)
      · intro c s1 R q; cases c <;> first | exact wpAny_pure q | exact wpAny_rule q
      · first | (split <;> first | exact f1 | exact SetTable.fits_plain_off f1) | exact f1
      · first | (split <;> exact r1) | exact r1
      · first | (split <;> exact hl1) | exact hl1
      · intro h' sb r; dsimp only; exact wpAny_pure (hQ _ h' sb (by rw [e]; exact r))
    · refine wpAny_bind (wpAny_pure ?_)
      rw [if_pos rfl]
      refine setK_tail ?_ ho hex hd g1 nd1 few1 pk f1 r1 hl1 ?_
      · intro c s1 R q; cases c <;> first | exact wpAny_pure q | exact wpAny_rule q
      · intro h' sb r; dsimp only; exact wpAny_pure (hQ _ h' sb (by rw [e]; exact r))
theorem addK_len (k : Key) : (addK ks k).length ≤ ks.length + 1 := by
  unfold addK
  split
  · omega
  · rw [List.length_cons]; exact Nat.le_refl _
theorem addKs_len : ∀ (l acc : List Key), (l.foldl addK acc).length ≤ acc.length + l.length
  | [], acc => Nat.le_refl _
  | k :: l, acc => by
    have h1 := addKs_len l (addK acc k)
    have h2 := addK_len (ks := acc) k
    rw [List.foldl_cons, List.length_cons]
    omega
/-- set.update's loop -/
theorem setK_loop {I : Addr} {fp wr : List Addr} {G : Array GenState → Array GenState → Prop} {n : Nat} {Pv : Nat → Value → Prop} {St : Nat → Shared → Prop} {R : Result → Shared → Prop}
    (W : WalksS P w A.in1 I fp wr G n Pv St) (hS : a ∉ fp) (its : List Key) (hn : its.length = n) (few : n < 900) (hv : ∀ i v, Pv i v → ∃ k, its[i]? = some k ∧ (mixKind P w).is k v = true) :
    ∀ (j i : Nat) (s : Shared), n - i = j → i ≤ n → St i s → SetK P w s.heap a ((its.take i).foldl addK []) →
      (∀ s', Moved (a :: wr) G s s' → SetK P w s'.heap a (its.foldl addK []) → R (.ok (.ret .none)) s') → codeAny (model P w) A (.builtin "set.update.loop" ⟨[.ref a, .ref I], []⟩) R s := by
  have haw : a ∉ wr := fun h => hS (W.sub _ h)
  have sub : ∀ b ∈ wr, b ∈ a :: wr := fun b hb => List.mem_cons_of_mem _ hb
  intro j
  induction j with
  | zero =>
    intro i s hj hi hst hK hR
    obtain rfl : i = n := by omega
    refine codeAny_builtin PyProof.Rows.F.entry_set_update_loop ?_
    rw [Around.under_plainId PyProof.Rows.F.plain_set_update_loop _]
    show wpAny _ A.in1 (pyNext (.ref I) >>= _) _ _ s
    refine wpAny_bind (W.done s _ _ hst fun s' hm => ?_)
    show wpAny _ A.in1 (ret Value.none) _ _ s'
    refine wpAny_pure (hR s' (hm.mono sub) ?_)
    rw [← hn, List.take_length] at hK
    exact hK.at fun o e => hm.heap a _ haw e
  | succ j ih =>
    intro i s hj hi hst hK hR
    have hlt : i < n := by omega
    refine codeAny_builtin PyProof.Rows.F.entry_set_update_loop ?_
    rw [Around.under_plainId PyProof.Rows.F.plain_set_update_loop _]
    show wpAny _ A.in1 (pyNext (.ref I) >>= _) _ _ s
    refine wpAny_bind (W.item i s _ _ hlt hst fun v s' hP hst' hm => ?_)
    obtain ⟨k, hk, hkey⟩ := hv i v hP
    have hK' : SetK P w s'.heap a ((its.take i).foldl addK []) := hK.at fun o e => hm.heap a _ haw e
    have hlen : ((its.take i).foldl addK []).length ≤ i := by
      have := addKs_len (its.take i) []
      rw [List.length_take] at this
      simp only [List.length_nil] at this
      omega
    show wpAny _ A.in1 (holding [v] (setAdd a v) >>= _) _ _ s'
    refine wpAny_bind (wpAny_holding ?_)
    unfold setAdd
    refine wpAny_holding (wpAny_bind ((mixKind P w).pyHash hkey ?_))
    refine setK_add (s := { s' with toks := s'.toks + 1 }) hK' (by omega) hkey fun c h' hsb hK2 => ?_
    have hnext : (its.take (i + 1)).foldl addK [] = addK ((its.take i).foldl addK []) k := by
      rw [List.take_add_one, hk, List.foldl_append]; rfl
    rw [← hnext] at hK2
    refine wpAny_pure ⟨plainId_quiet PyProof.Rows.F.plain_set_update_loop _, ih (i + 1) _ (by omega) hlt (W.frame _ s' _ _ hst' (Nat.le_succ _) fun b hb o e => ?_) hK2 fun s2 hm2 hK3 => ?_⟩
    · rw [hsb.2 b (fun h : b = a => hS (by rw [← h]; exact hb))]; exact e
    · refine hR s2 (Moved.trans W.gtrans ((hm.mono sub).then_heap (Nat.le_succ _) fun b o hb e => ?_) hm2) hK3
      rw [hsb.2 b (fun h : b = a => hb (by rw [h]; exact List.mem_cons_self))]; exact e

/-- a set just made -/
abbrev set0 (w : World) : Obj := { cls := .type "set", dict := none, data := .set #[] 0 (.fresh 0 0 (!w.params.followText "set-order")) }
theorem setK_fresh {h : Heap} (ho : h.get? a = some (set0 w)) : SetK P w h a [] :=
  ⟨List.Pairwise.nil, by decide, _, #[], 0, _, ho, ⟨rfl, rfl, rfl⟩, rfl, (fun e he => by simp at he), List.Perm.nil, by rfl, List.Pairwise.nil, by
    cases z : w.params.followText "set-order" with
    | true => exact .inl rfl
    | false => exact .inr rfl⟩

set_option maxHeartbeats 3200000 in
/-- set(xs) of a list -/
theorem setK_list {l : Addr} {items : Array Value} (ms : List Key) {Q : Value → Shared → Prop} (hh : A.handled = none) (hl : s.heap.IsList l items) (hsz : ms.length = items.size) (few : items.size < 900)
    (hv : ∀ (i : Nat) (v : Value), items[i]? = some v → ∃ k, ms[i]? = some k ∧ (mixKind P w).is k v = true)
    (h : ∀ (h' : Heap) (tk : Nat), SetK P w h' s.heap.objs.size (ms.foldl addK []) → (∀ b o, s.heap.get? b = some o → h'.get? b = some o) → s.heap.objs.size < h'.objs.size → Q (.ref s.heap.objs.size) { s with heap := h', toks := tk }) :
    wpAny (model P w) A (call (.type "set") [.ref l]) Q E s := by
  obtain ⟨c, tl, hmro⟩ := PySem.F.called_set.mro
  have hmade := PySem.F.called_set.made
  have hsub := PySem.F.called_set.sub
  refine wpAny_call (codeAny_of_tree (wpAny_pure ⟨Code.quiet_builtin _ (by decide +kernel), codeAny_builtin PySem.F.entry_type_call ?_⟩))
  rw [Around.under_plain (weight_type_call_type "set" [.ref l] []) rfl]
  have h1 := PySem.F.called_set.notType
  have h2 := PySem.F.called_set.canCreate
  have hct := PySem.F.typeCall_set_1 (.ref l)
  repeat (any_goals (first | assumption | wp_step))
  refine codeAny_mono (code_set_led1 (.ref l) (E := E) (Q₁ := fun ob s1 => ob = .ref s.heap.objs.size ∧ s1 = { s with heap := s.heap.push (set0 w) }) ⟨rfl, rfl⟩) fun r s1 hr => ?_
  cases r with
  | error e => exact hr
  | ok fl =>
    cases fl with
    | ret ob =>
      obtain ⟨rfl, rfl⟩ := hr
      have hS : (s.heap.push (set0 w)).get? s.heap.objs.size = some (set0 w) := Heap.get?_push_size _ rfl
      have hT : Shared.TypeIs { s with heap := s.heap.push (set0 w) } (.ref s.heap.objs.size) "set" := ⟨_, hS, rfl⟩
      have hli := PySem.F.called_set.init.lookup
      have hbi := PySem.F.called_set.init.bind (.ref s.heap.objs.size)
      repeat (any_goals (first | assumption | wp_step))
      refine codeAny_mono (codeAny_call_builtin (R := wants (fun r s2 => r = .none ∧ ∃ h' tk, s2 = { s with heap := h', toks := tk } ∧ SetK P w h' s.heap.objs.size (ms.foldl addK []) ∧ (∀ b o, s.heap.get? b = some o → h'.get? b = some o) ∧ s.heap.objs.size < h'.objs.size) E)
        PySem.F.called_set.init.plain PySem.F.entry_set_init (check_set_init_1 hT ?_)) fun r2 s2 hr2 => ?_
      · obtain ⟨ol, hol, hcl, nl, hdl⟩ := hl
        obtain ⟨ocls, odict, odata, oslots⟩ := ol
        simp only at hcl hdl
        subst hcl hdl
        have hol' : (s.heap.push (set0 w)).get? l = some { cls := .type "list", dict := odict, data := .seq items nl, slots := oslots } := Heap.get?_push_of_some _ hol
        have hsls := PySem.F.sub_list_set
        have hslf := PySem.F.sub_list_frozenset
        have hne : (Value.type "list" == Value.type "dict") = false := by decide
        have hl1 : (s.heap.push (set0 w)).IsList l items := ⟨_, hol', rfl, nl, rfl⟩
        unfold Builtin.«set.__init__» noKeywords Builtin.Frozenset.updateFrom
        generalize hPI : pyIter = PI
        wp_walk
        subst hPI
        refine wpAny_pyIter_list hl1 (wpAny_bind (wpAny_runValue ?_))
        have hlS : l < s.heap.objs.size := Heap.lt_size hol
        have hh3 : A.in1.in1.in1.handled = none := by simp [hh]
        have z1 : (s.heap.push (set0 w)).objs.size = s.heap.objs.size + 1 := Heap.size_push ..
        have hneI : l ≠ (s.heap.push (set0 w)).objs.size := by rw [z1]; exact Nat.ne_of_lt (Nat.lt_succ_of_lt hlS)
        have hSf : s.heap.objs.size ∉ [(s.heap.push (set0 w)).objs.size, l] := by
          rw [z1]
          simp only [List.mem_cons, List.not_mem_nil, or_false, not_or]
          exact ⟨Nat.ne_of_lt (Nat.lt_succ_self _), Nat.ne_of_gt hlS⟩
        refine setK_loop ((Walks.list hh3 _ l hneI items).toS) hSf ms hsz few hv (items.size - 0) 0 _ (by omega) (Nat.zero_le _) ⟨⟨_, Heap.get?_push_size _ rfl, rfl, rfl⟩, (hl1.push _)⟩ ?hS0 ?hR
        case hS0 => exact setK_fresh (Heap.get?_push_of_some _ hS)
        case hR =>
          intro s' hm hK
          obtain ⟨h', g', d', tk', os'⟩ := s'
          have eg : g' = s.gens := hm.gens
          have ed : d' = s.drawn := hm.drawn
          have eo : os' = s.os := hm.os
          subst eg ed eo
          show wpAny _ _ _ _ _ _
          refine wpAny_pure ?_
          show wpAny _ _ (ret Value.none) _ _ _
          have hlt : s.heap.objs.size < h'.objs.size := by
            obtain ⟨_, _, o, _, _, _, ho, _⟩ := hK
            exact Heap.lt_size ho
          refine wpAny_pure ⟨rfl, h', tk', rfl, hK, fun b o e => ?_, hlt⟩
          have hb := Heap.lt_size e
          refine hm.heap b o ?_ (Heap.get?_push_of_some _ (Heap.get?_push_of_some _ e))
          simp only [List.mem_cons, List.not_mem_nil, or_false, not_or]
          exact ⟨Nat.ne_of_lt hb, by rw [z1]; exact Nat.ne_of_lt (Nat.lt_succ_of_lt hb)⟩
      · cases r2 with
        | error e => exact hr2
        | ok fl2 =>
          cases fl2 with
          | ret r =>
            obtain ⟨rfl, h', tk, rfl, hK, hk', hlt⟩ := hr2
            repeat (any_goals (first | assumption | wp_step))
            exact h _ _ hK hk' hlt
          | _ => exact hr2.elim
    | _ => exact hr.elim

set_option maxHeartbeats 3200000 in
/-- set(xs) of a tuple -/
theorem setK_tuple {l : Addr} {items : Array Value} (ms : List Key) {Q : Value → Shared → Prop} (hh : A.handled = none) (hl : s.heap.IsTuple l items) (hsz : ms.length = items.size) (few : items.size < 900)
    (hv : ∀ (i : Nat) (v : Value), items[i]? = some v → ∃ k, ms[i]? = some k ∧ (mixKind P w).is k v = true)
    (h : ∀ (h' : Heap) (tk : Nat), SetK P w h' s.heap.objs.size (ms.foldl addK []) → (∀ b o, s.heap.get? b = some o → h'.get? b = some o) → s.heap.objs.size < h'.objs.size → Q (.ref s.heap.objs.size) { s with heap := h', toks := tk }) :
    wpAny (model P w) A (call (.type "set") [.ref l]) Q E s := by
  obtain ⟨c, tl, hmro⟩ := PySem.F.called_set.mro
  have hmade := PySem.F.called_set.made
  have hsub := PySem.F.called_set.sub
  refine wpAny_call (codeAny_of_tree (wpAny_pure ⟨Code.quiet_builtin _ (by decide +kernel), codeAny_builtin PySem.F.entry_type_call ?_⟩))
  rw [Around.under_plain (weight_type_call_type "set" [.ref l] []) rfl]
  have h1 := PySem.F.called_set.notType
  have h2 := PySem.F.called_set.canCreate
  have hct := PySem.F.typeCall_set_1 (.ref l)
  repeat (any_goals (first | assumption | wp_step))
  refine codeAny_mono (code_set_led1 (.ref l) (E := E) (Q₁ := fun ob s1 => ob = .ref s.heap.objs.size ∧ s1 = { s with heap := s.heap.push (set0 w) }) ⟨rfl, rfl⟩) fun r s1 hr => ?_
  cases r with
  | error e => exact hr
  | ok fl =>
    cases fl with
    | ret ob =>
      obtain ⟨rfl, rfl⟩ := hr
      have hS : (s.heap.push (set0 w)).get? s.heap.objs.size = some (set0 w) := Heap.get?_push_size _ rfl
      have hT : Shared.TypeIs { s with heap := s.heap.push (set0 w) } (.ref s.heap.objs.size) "set" := ⟨_, hS, rfl⟩
      have hli := PySem.F.called_set.init.lookup
      have hbi := PySem.F.called_set.init.bind (.ref s.heap.objs.size)
      repeat (any_goals (first | assumption | wp_step))
      refine codeAny_mono (codeAny_call_builtin (R := wants (fun r s2 => r = .none ∧ ∃ h' tk, s2 = { s with heap := h', toks := tk } ∧ SetK P w h' s.heap.objs.size (ms.foldl addK []) ∧ (∀ b o, s.heap.get? b = some o → h'.get? b = some o) ∧ s.heap.objs.size < h'.objs.size) E)
        PySem.F.called_set.init.plain PySem.F.entry_set_init (check_set_init_1 hT ?_)) fun r2 s2 hr2 => ?_
      · obtain ⟨ol, hol, hcl, nl, hdl⟩ := hl
        obtain ⟨ocls, odict, odata, oslots⟩ := ol
        simp only at hcl hdl
        subst hcl hdl
        have hol' : (s.heap.push (set0 w)).get? l = some { cls := .type "tuple", dict := odict, data := .seq items nl, slots := oslots } := Heap.get?_push_of_some _ hol
        have hsls := PySem.F.sub_tuple_set
        have hslf := PySem.F.sub_tuple_frozenset
        have hne : (Value.type "tuple" == Value.type "dict") = false := by decide
        have hl1 : (s.heap.push (set0 w)).IsTuple l items := ⟨_, hol', rfl, nl, rfl⟩
        unfold Builtin.«set.__init__» noKeywords Builtin.Frozenset.updateFrom
        generalize hPI : pyIter = PI
        wp_walk
        subst hPI
        refine wpAny_pyIter_tuple hl1 (wpAny_bind (wpAny_runValue ?_))
        have hlS : l < s.heap.objs.size := Heap.lt_size hol
        have hh3 : A.in1.in1.in1.handled = none := by simp [hh]
        have z1 : (s.heap.push (set0 w)).objs.size = s.heap.objs.size + 1 := Heap.size_push ..
        have hneI : l ≠ (s.heap.push (set0 w)).objs.size := by rw [z1]; exact Nat.ne_of_lt (Nat.lt_succ_of_lt hlS)
        have hSf : s.heap.objs.size ∉ [(s.heap.push (set0 w)).objs.size, l] := by
          rw [z1]
          simp only [List.mem_cons, List.not_mem_nil, or_false, not_or]
          exact ⟨Nat.ne_of_lt (Nat.lt_succ_self _), Nat.ne_of_gt hlS⟩
        refine setK_loop ((Walks.tuple hh3 _ l hneI items).toS) hSf ms hsz few hv (items.size - 0) 0 _ (by omega) (Nat.zero_le _) ⟨⟨_, Heap.get?_push_size _ rfl, rfl, rfl⟩, (hl1.push _)⟩ ?hS0 ?hR
        case hS0 => exact setK_fresh (Heap.get?_push_of_some _ hS)
        case hR =>
          intro s' hm hK
          obtain ⟨h', g', d', tk', os'⟩ := s'
          have eg : g' = s.gens := hm.gens
          have ed : d' = s.drawn := hm.drawn
          have eo : os' = s.os := hm.os
          subst eg ed eo
          show wpAny _ _ _ _ _ _
          refine wpAny_pure ?_
          show wpAny _ _ (ret Value.none) _ _ _
          have hlt : s.heap.objs.size < h'.objs.size := by
            obtain ⟨_, _, o, _, _, _, ho, _⟩ := hK
            exact Heap.lt_size ho
          refine wpAny_pure ⟨rfl, h', tk', rfl, hK, fun b o e => ?_, hlt⟩
          have hb := Heap.lt_size e
          refine hm.heap b o ?_ (Heap.get?_push_of_some _ (Heap.get?_push_of_some _ e))
          simp only [List.mem_cons, List.not_mem_nil, or_false, not_or]
          exact ⟨Nat.ne_of_lt hb, by rw [z1]; exact Nat.ne_of_lt (Nat.lt_succ_of_lt hb)⟩
      · cases r2 with
        | error e => exact hr2
        | ok fl2 =>
          cases fl2 with
          | ret r =>
            obtain ⟨rfl, h', tk, rfl, hK, hk', hlt⟩ := hr2
            repeat (any_goals (first | assumption | wp_step))
            exact h _ _ hK hk' hlt
          | _ => exact hr2.elim
    | _ => exact hr.elim
end
end Vm

set_option Elab.async false
set_option linter.all false
set_option maxRecDepth 100000
set_option maxHeartbeats 4000000
/-! Vm, part 47: len(set(xs)), sorted(set(xs)). -/
namespace Vm
open PySem PySem.Spec PyProof.Rows L2
theorem keysOf_len : ∀ {xs : List D} {ks : List Key}, keysOf xs = some ks → ks.length = xs.length
  | [], _, h => by cases h; rfl
  | d :: r, _, h => by
    obtain ⟨k, _, h⟩ := Option.bind_eq_some_iff.mp (show (keyOf d).bind (fun k => (keysOf r).map fun ks => k :: ks) = _ from h)
    obtain ⟨ks, e, rfl⟩ := Option.map_eq_some_iff.mp h
    rw [List.length_cons, List.length_cons, keysOf_len e]
theorem keys_at {P : Program} {w : World} {K : PySem.W.Frag} {mg : Str → Option Value} {m : Wm} {H : Hp} : ∀ {xs : List D} {vs : List V} {us : List Value} {ks : List Key}, RpL K mg m H vs xs → Vals vs us → keysOf xs = some ks →
    ∀ (i : Nat) (u : Value), us[i]? = some u → ∃ k, ks[i]? = some k ∧ (mixKind P w).is k u = true
  | [], _, _, _, .nil, .nil, _, i, u, hu => by simp at hu
  | d :: xs, _, _, ks, .cons r t, .cons q p, h, i, u, hu => by
    obtain ⟨k, hk, h⟩ := Option.bind_eq_some_iff.mp (show (keyOf d).bind (fun k => (keysOf xs).map fun ks => k :: ks) = _ from h)
    obtain ⟨ks', e, rfl⟩ := Option.map_eq_some_iff.mp h
    cases i with
    | zero =>
      cases hu
      refine ⟨k, rfl, ?_⟩
      have hv := r.key hk
      subst hv
      cases k with
      | inl i => obtain ⟨tk, rfl⟩ := q; exact keyIs_int i tk
      | inr x => obtain ⟨tk, rfl⟩ := q; exact keyIs_str x tk
    | succ i => exact keys_at t p e i u hu
section
variable {X : Cx} {L : Lx} {C : Ctx} {Φ : Fn} {W : WX} {N : List Str} {sc : Scope} {pins : List (Addr × Obj)} {σ : L2.St} {H : Hp} {s : Shared} {m : Wm} {st : Sto}
/-- set(x) -/
theorem set_made (hc : X.calm = true) {v : V} {u : Value} {d : D} {xs : List D} {ks : List Key} (I : L2.Inv X pins σ H s) (rs : RpS X.K X.mg m H st) (rx : RelV v u) (px : Rp X.K X.mg m H v d) (hl : isLst st d = true ∨ ∃ ys, d = .tup ys)
    (hx : seqOf st d = some xs) (hk : keysOf xs = some ks) (few : ks.length < 900) {Q : Value → Shared → Prop} {E : Value → Shared → Prop}
    (k : ∀ (h' : Heap) (tk : Nat), SetK X.prog X.w h' s.heap.objs.size (dedK ks) → (∀ b o, s.heap.get? b = some o → h'.get? b = some o) → s.heap.objs.size < h'.objs.size → Q (.ref s.heap.objs.size) { s with heap := h', toks := tk }) :
    wpAny (model X.prog X.w) X.A (call (.type "set") [u]) Q E s := by
  have kl := keysOf_len hk
  rcases hl with hl | ⟨ys, rfl⟩
  · obtain ⟨a, vs, rfl, hA, rl⟩ := px.list rs hl hx
    cases rx
    obtain ⟨its, rv, pl, hz⟩ := I.list (SqL.of hA)
    have e : ks.length = its.toArray.size := by rw [List.size_toArray, ← rv.length, rl.length, kl]
    exact setK_list ks (I.ok.hd hc) pl.isList e (by rw [← e]; exact few) (fun i v hv => keys_at rl rv hk i v (by simpa using hv)) k
  · cases hx
    cases px with
    | tup hA rl =>
      cases rx
      obtain ⟨its, rv, pl, hz⟩ := I.tuple hA
      have e : ks.length = its.toArray.size := by rw [List.size_toArray, ← rv.length, rl.length, kl]
      exact setK_tuple ks (I.ok.hd hc) pl e (by rw [← e]; exact few) (fun i v hv => keys_at rl rv hk i v (by simpa using hv)) k
theorem boot_set' : bootBuiltins "set" = some (.type "set") := by kernel_rfl
theorem s_lens (hs : Has X L C Φ W N sc) {e : E} {x : Expr} {p p2 q pos : Pos} (hg : gloB sc "len" = true) (hg2 : gloB sc "set" = true) (hst : isStar x = false) (he : PE X x (tE X C Φ W e)) :
    PE X (.Call (.Name "len" p) [.Call (.Name "set" p2) [x] [] q] [] pos) (tE X C Φ W (.lens e)) := by
  refine ⟨fun pins s σ H Q I h => ?_⟩
  obtain ⟨m, env, st, Q0, EX0, re, rs, w, ax, aq⟩ := h
  obtain ⟨g1, g2, g3⟩ := glo_of hs.ok hg
  obtain ⟨g4, g5, g6⟩ := glo_of hs.ok hg2
  refine wpAny_Call_Name_kw (ld_blt I g1 (hs.kn.blt _ (by decide)) boot_len ?_ g3 g2)
  refine PyProof.Rows.callWith_builtin1 (PyProof.Rows.args_cons ?_ rfl) rfl rfl
  refine wpAny_Call_Name_kw (ld_blt I g4 (hs.kn.blt _ (by decide)) boot_set' ?_ g6 g5)
  refine PyProof.Rows.callWith_type1 (PyProof.Rows.args_cons (runE he I re rs w ax fun u s1 v H1 d st1 m1 I1 rv q1 w1 rs1 r1 => PyProof.Rows.args_nil ?_) (starEach_plain hst)) (starEach_plain hst) rfl
  obtain ⟨xs, ks, hl, hx, hk, few, q1⟩ := q1
  refine set_made hs.ok.calm I1 rs1 rv r1 hl hx hk few fun h' tk R keep _ => PyProof.Rows.args_nil ?_
  obtain ⟨_, few2, o, es, ep, t, ho, hex, hd, gd, pm, hf, _⟩ := R
  have hn : es.size = (dedK ks).length := by rw [pm.length_eq, List.length_map, Array.length_toList]
  have I2 : L2.Inv X pins σ H1 { s1 with heap := h', toks := tk } := I1.kept keep
  exact call_len_set ho hex hd hf (by rw [hn]; omega) ⟨.int (dedK ks).length, H1, I2.tok _, ⟨_, by rw [hn]⟩, aq _ _ _ _ _ q1 w1 rs1 (.int _)⟩
/-- a member and its value -/
def MemK (P : Program) (w : World) (v : Value) (d : D) : Prop := ∃ k, d = dK k ∧ (mixKind P w).is k v = true
theorem memK_shape {P : Program} {w : World} {v : Value} {d : D} (h : MemK P w v d) : (∃ i t, v = .int i t ∧ d = .int i) ∨ ∃ x t, v = .str x t ∧ d = .str x := by
  obtain ⟨k, rfl, h⟩ := h
  rcases keyIs_shape (k := k) (v := v) h with ⟨i, t, rfl, rfl⟩ | ⟨x, t, rfl, rfl⟩
  · exact .inl ⟨i, t, rfl, rfl⟩
  · exact .inr ⟨x, t, rfl, rfl⟩
theorem each_mapP {α β : Type} {R : α → β → Prop} {f : α → β} : ∀ {xs : List α}, (∀ x ∈ xs, R x (f x)) → PySem.W.EachIs R xs (xs.map f)
  | [], _ => .nil
  | x :: xs, h => .cons (h x (List.mem_cons_self ..)) (each_mapP fun y hy => h y (List.mem_cons_of_mem _ hy))
theorem one_alike {ks : List Key} {bs : List D} (one : oneK ks) (pb : bs.Perm (ks.map dK)) : PySem.W.AllAlike (bs.map encD) ∧ PySem.W.Sortable (bs.map encD) ∧ ∀ b ∈ bs, (encD b).depth = 0 := by
  have mem : ∀ b ∈ bs, ∃ k ∈ ks, b = dK k := fun b hb => by
    obtain ⟨k, hk, e⟩ := List.mem_map.mp (pb.mem_iff.mp hb)
    exact ⟨k, hk, e.symm⟩
  refine ⟨?_, .inr fun d hd => ?_, fun b hb => ?_⟩
  · intro d hd d' hd'
    obtain ⟨b, hb, rfl⟩ := List.mem_map.mp hd
    obtain ⟨b', hb', rfl⟩ := List.mem_map.mp hd'
    obtain ⟨k, hk, rfl⟩ := mem b hb
    obtain ⟨k', hk', rfl⟩ := mem b' hb'
    rcases one with one | one
    · obtain ⟨i, rfl⟩ := one k hk
      obtain ⟨j, rfl⟩ := one k' hk'
      rfl
    · obtain ⟨i, rfl⟩ := one k hk
      obtain ⟨j, rfl⟩ := one k' hk'
      rfl
  · obtain ⟨b, hb, rfl⟩ := List.mem_map.mp hd
    obtain ⟨k, hk, rfl⟩ := mem b hb
    cases k with
    | inl i => exact ⟨(fun z => by cases z), (fun xs z => by cases z)⟩
    | inr x => exact ⟨(fun z => by cases z), (fun xs z => by cases z)⟩
  · obtain ⟨k, hk, rfl⟩ := mem b hb
    cases k with
    | inl i => show PyData.depth (.int i) = 0; simp only [PyData.depth]
    | inr x => show PyData.depth (.str x) = 0; simp only [PyData.depth]
end
section
variable {P : Program} {w : World} {A : Around} {E : Value → Shared → Prop} {s : Shared} {a : Addr} {ks : List Key}
/-- sorted(a set) -/
theorem setK_sorted {Q : Value → Shared → Prop} (R : SetK P w s.heap a ks) (hh : A.handled = none) (one : oneK ks) (hu : A.units + 100 < cLine)
    (hQ : ∀ s' p (out : Array Value) (c : Nat) (bs : List D), (∀ b o, s.heap.get? b = some o → s'.heap.get? b = some o) → s'.gens = s.gens → s'.os = s.os → s.heap.objs.size ≤ p → s'.heap.get? p = some (seqObj "list" out c) →
      bs.Perm (ks.map dK) → PySem.W.EachIs (MemK P w) out.toList (sortD bs) → Q (.ref p) s') : wpAny (model P w) A (call (.builtin "sorted") [.ref a]) Q E s := by
  obtain ⟨nd, few, o, es, ep, t, ho, hex, hd, gd, pm, hf, hr, hl⟩ := R
  have hn : es.size = ks.length := by rw [pm.length_eq, List.length_map, Array.length_toList]
  refine Calls.call_function_entry kind_sorted plain_sorted entry_sorted (args_sorted1 _) ?_
  unfold Builtin.«sorted»
  refine wpAny_bind (m := checkCount "sorted" 1 1 _) (wpAny_pure (wpAny_bind (collect_set (A := A.in1) hh ⟨o, ho, hex.1, hd⟩ hf (by unfold scanBound; omega) hr hl fun s1 vs k1 hz g1 o1 pv => ?_)))
  have lv : vs.length = ks.length := by rw [pv.length_eq, List.length_map, Array.length_toList, hn]
  have mv : ∀ v ∈ vs, MemK P w v (dK (kE (0, v))) := fun v hv => by
    obtain ⟨e, he, rfl⟩ := List.mem_map.mp (pv.mem_iff.mp hv)
    exact ⟨_, rfl, (gd e he).is⟩
  have pb : (vs.map fun v => dK (kE (0, v))).Perm (ks.map dK) := by
    refine (pv.map fun v => dK (kE (0, v))).trans ?_
    rw [List.map_map]
    have e : es.toList.map ((fun v => dK (kE (0, v))) ∘ fun x => x.2) = (es.toList.map kE).map dK := by rw [List.map_map]; rfl
    rw [e]
    exact (pm.map dK).symm
  obtain ⟨al, so, dp⟩ := one_alike one pb
  refine wpAny_bind (wpAny_newList ?_ (by rw [lv, sizeLine_eq]; omega))
  have hoL : (s1.heap.push (seqObj "list" vs.toArray 0)).get? s1.heap.objs.size = some (seqObj "list" vs.toArray 0) := Heap.get?_push_size _ rfl
  have er : PySem.W.EachIs (fun v b => ∃ as, Reads (s1.heap.push (seqObj "list" vs.toArray 0)) v (encD b) as ∧ s1.heap.objs.size ∉ as) vs (vs.map fun v => dK (kE (0, v))) := each_mapP fun v hv => by
    rcases memK_shape (mv v hv) with ⟨i, t, rfl, e⟩ | ⟨x, t, rfl, e⟩
    · exact ⟨[], .int i t, fun z => by cases z⟩
    · exact ⟨[], .str x t, fun z => by cases z⟩
  refine wpAny_bind (wpAny_holding (PySem.W.list_sort_data (s := { s1 with heap := s1.heap.push (seqObj "list" vs.toArray 0) }) (enc := encD) hoL (each_mapP mv) er al so (by rw [List.length_map, lv, sizeLine_eq]; omega) (fun b hb => by rw [dp b hb]; show A.units + 1 + 1 + 0 < cLine; omega) fun out hlen eo => ?_))
  obtain ⟨c, hc⟩ := sortedHeap_at (vs := vs) (out := out.toArray) hoL
  refine wpAny_pure ⟨_, rfl, hQ _ s1.heap.objs.size out.toArray c _ (fun b u e => ?_) g1 o1 hz hc pb (by rw [List.toList_toArray]; exact eo)⟩
  have q := k1 b u e
  have lt := Heap.lt_size q
  show (sortedHeap (s1.heap.push (seqObj "list" vs.toArray 0)) s1.heap.objs.size vs out.toArray).get? b = some u
  rw [sortedHeap_old (Nat.ne_of_lt lt) (by rw [size_push']; exact Nat.lt_succ_of_lt lt)]
  exact Heap.get?_push_of_some _ q
end
section
variable {X : Cx} {L : Lx} {C : Ctx} {Φ : Fn} {W : WX} {N : List Str} {sc : Scope}
theorem memK_rp {P : Program} {w : World} {K : PySem.W.Frag} {mg : Str → Option Value} {m : Wm} {H : Hp} : ∀ {us : List Value} {ds : List D}, PySem.W.EachIs (MemK P w) us ds → ∃ vs, RpL K mg m H vs ds ∧ Vals vs us
  | _, _, .nil => ⟨[], .nil, .nil⟩
  | _, _, .cons h t => by
    obtain ⟨vs, r1, r2⟩ := memK_rp (K := K) (mg := mg) (m := m) (H := H) t
    rcases memK_shape h with ⟨i, tk, rfl, rfl⟩ | ⟨x, tk, rfl, rfl⟩
    · exact ⟨.int i :: vs, .cons (.int i) r1, .cons ⟨tk, rfl⟩ r2⟩
    · exact ⟨.str x :: vs, .cons (.str x) r1, .cons ⟨tk, rfl⟩ r2⟩
theorem dedK_mem : ∀ (ks acc : List Key) {k : Key}, k ∈ ks.foldl addK acc → k ∈ ks ∨ k ∈ acc
  | [], acc, k, h => .inr h
  | j :: ks, acc, k, h => by
    rcases dedK_mem ks (addK acc j) h with z | z
    · exact .inl (List.mem_cons_of_mem _ z)
    · unfold addK at z
      split at z
      · exact .inr z
      · rcases List.mem_cons.mp z with y | y
        · exact .inl (by rw [y]; exact List.mem_cons_self ..)
        · exact .inr y
theorem one_ded {ks : List Key} (one : oneK ks) : oneK (dedK ks) := by
  have mem : ∀ k ∈ dedK ks, k ∈ ks := fun k hk => (dedK_mem ks [] hk).elim id fun z => by cases z
  exact one.imp (fun h k hk => h k (mem k hk)) fun h k hk => h k (mem k hk)
theorem s_ssrt (hs : Has X L C Φ W N sc) {al : Bool} {e : E} {x : Expr} {p p2 q pos : Pos} (hg : gloB sc "sorted" = true) (hg2 : gloB sc "set" = true) (hst : isStar x = false) (he : PE X x (tE X C Φ W e)) :
    PE X (.Call (.Name "sorted" p) [.Call (.Name "set" p2) [x] [] q] [] pos) (tE X C Φ W (.ssrt al e)) := by
  refine ⟨fun pins s σ H Q I h => ?_⟩
  obtain ⟨m, env, st, Q0, EX0, re, rs, w, ax, aq⟩ := h
  obtain ⟨g1, g2, g3⟩ := glo_of hs.ok hg
  obtain ⟨g4, g5, g6⟩ := glo_of hs.ok hg2
  refine wpAny_Call_Name_kw (ld_blt I g1 (hs.kn.blt _ (by decide)) boot_sorted ?_ g3 g2)
  refine PyProof.Rows.callWith_builtin1 (PyProof.Rows.args_cons ?_ rfl) rfl rfl
  refine wpAny_Call_Name_kw (ld_blt I g4 (hs.kn.blt _ (by decide)) boot_set' ?_ g6 g5)
  refine PyProof.Rows.callWith_type1 (PyProof.Rows.args_cons (runE he I re rs w ax fun u s1 v H1 d st1 m1 I1 rv q1 w1 rs1 r1 => PyProof.Rows.args_nil ?_) (starEach_plain hst)) (starEach_plain hst) rfl
  obtain ⟨xs, ks, hl, hx, hk, few, one, q1⟩ := q1
  refine set_made hs.ok.calm I1 rs1 rv r1 hl hx hk few fun h' tk R keep _ => PyProof.Rows.args_nil ?_
  have I2 : L2.Inv X pins σ H1 { s1 with heap := h', toks := tk } := I1.kept keep
  refine setK_sorted (s := { s1 with heap := h', toks := tk }) R (I2.ok.hd hs.ok.calm) (one_ded one) hs.ok.un fun s' p0 out c bs kp g o hp hg pb eb => ?_
  have hn : H1 p0 = none := I2.hok.fresh hp
  have rq := q1 bs pb
  obtain ⟨ws, rw1, rw2⟩ := memK_rp (K := X.K) (mg := X.mg) (m := m1) (H := H1) eb
  have hlen : ws.length ≤ sizeLine := by rw [rw1.length]; exact rq.1
  have J : L2.Inv X pins σ (L2.upd H1 p0 (.lst ws)) { s1 with heap := s'.heap, gens := s'.gens, drawn := s'.drawn, toks := s'.toks } :=
    Inv.call (s := { s1 with heap := h', toks := tk }) (ch := []) I2 (Un.laid kp hp hn) (I2.hok.laid kp hp ⟨hlen, out.toList, c, rw2, by simpa using hg⟩) (by rw [g]; exact I2.bare) (fun _ z => nomatch z)
  have e : s' = { s1 with heap := s'.heap, gens := s'.gens, drawn := s'.drawn, toks := s'.toks } := by
    cases s'
    cases s1
    cases o
    rfl
  rw [e]
  exact eqEP aq w1 ⟨.ref p0, _, J, rfl, EQ.lst rs1 hn rw1 rq⟩
end
end Vm

set_option Elab.async false
set_option linter.all false
set_option maxRecDepth 100000
set_option maxHeartbeats 4000000
/-! Vm, part 17: every expression. -/
namespace Vm
open PySem PySem.Spec PyProof.Rows L2
theorem rev_of {L : Lx} {N : List Str} {sc : Scope} {o : E} {x : Expr} (h : mE L N sc (.rev o) x = true) : ∃ l k p1 p2 p3 pos, x = .Subscript l (.Slice none none (some (.UnaryOp .USub (.Constant (.int 1) k p1) p2)) p3) pos ∧ mE L N sc o l = true := by
  unfold mE at h
  split at h
  · exact ⟨_, _, _, _, _, _, rfl, h⟩
  · cases h
theorem dcop_of {L : Lx} {N : List Str} {sc : Scope} {al : Bool} {e : E} {x : Expr} (h : mE L N sc (.dcop al e) x = true) : ∃ l p p2 apos cpos pos pos2, x = .Call (.Name "dict" p) [.Call (.Name "list" p2) [.Call (.Attribute l "items" apos) [] [] cpos] [] pos2] [] pos ∧
    gloB sc "dict" = true ∧ gloB sc "list" = true ∧ (apos.endLine == cpos.line) = true ∧ call0 l = false ∧ mE L N sc e l = true := by
  unfold mE at h
  split at h
  · obtain ⟨h, h8⟩ := and2 h
    obtain ⟨h, h7⟩ := and2 h
    obtain ⟨h, h6⟩ := and2 h
    obtain ⟨h, h5⟩ := and2 h
    obtain ⟨h, h4⟩ := and2 h
    obtain ⟨h, h3⟩ := and2 h
    obtain ⟨h1, h2⟩ := and2 h
    cases of_decide_eq_true h1
    cases of_decide_eq_true h3
    cases of_decide_eq_true h5
    exact ⟨_, _, _, _, _, _, _, rfl, h2, h4, h6, by simpa using h7, h8⟩
  · cases h
theorem lens_of {L : Lx} {N : List Str} {sc : Scope} {e : E} {x : Expr} (h : mE L N sc (.lens e) x = true) : ∃ y p p2 q pos, x = .Call (.Name "len" p) [.Call (.Name "set" p2) [y] [] q] [] pos ∧ gloB sc "len" = true ∧ gloB sc "set" = true ∧ mE L N sc e y = true ∧ isStar y = false := by
  unfold mE at h
  split at h
  · obtain ⟨h, h6⟩ := and2 h
    obtain ⟨h, h5⟩ := and2 h
    obtain ⟨h, h4⟩ := and2 h
    obtain ⟨h, h3⟩ := and2 h
    obtain ⟨h1, h2⟩ := and2 h
    cases of_decide_eq_true h1
    cases of_decide_eq_true h3
    exact ⟨_, _, _, _, _, rfl, h2, h4, h5, by simpa using h6⟩
  · cases h
theorem ssrt_of {L : Lx} {N : List Str} {sc : Scope} {al : Bool} {e : E} {x : Expr} (h : mE L N sc (.ssrt al e) x = true) : ∃ y p p2 q pos, x = .Call (.Name "sorted" p) [.Call (.Name "set" p2) [y] [] q] [] pos ∧ gloB sc "sorted" = true ∧ gloB sc "set" = true ∧ mE L N sc e y = true ∧ isStar y = false := by
  unfold mE at h
  split at h
  · obtain ⟨h, h6⟩ := and2 h
    obtain ⟨h, h5⟩ := and2 h
    obtain ⟨h, h4⟩ := and2 h
    obtain ⟨h, h3⟩ := and2 h
    obtain ⟨h1, h2⟩ := and2 h
    cases of_decide_eq_true h1
    cases of_decide_eq_true h3
    exact ⟨_, _, _, _, _, rfl, h2, h4, h5, by simpa using h6⟩
  · cases h
theorem exv_of {L : Lx} {N : List Str} {sc : Scope} {c : Str} {e : E} {x : Expr} (h : mE L N sc (.exv c e) x = true) : ∃ g y p pos, x = .Call (.Name g p) [y] [] pos ∧ c = g ∧ gloB sc g = true ∧ L.xv = true ∧ L.exs.contains c = true ∧ mE L N sc e y = true ∧ isStar y = false := by
  cases x with
  | Call fn xs ks r =>
    cases fn with
    | Name g q =>
      cases xs with
      | nil => cases h
      | cons y xs =>
        cases xs with
        | cons _ _ => cases h
        | nil =>
          cases ks with
          | cons _ _ => cases h
          | nil =>
            obtain ⟨h, h6⟩ := and2 (show (decide (c = g) && gloB sc g && L.xv && L.exs.contains c && mE L N sc e y && !(isStar y)) = true from h)
            obtain ⟨h, h5⟩ := and2 h
            obtain ⟨h, h4⟩ := and2 h
            obtain ⟨h, h3⟩ := and2 h
            obtain ⟨h1, h2⟩ := and2 h
            exact ⟨g, y, q, r, rfl, of_decide_eq_true h1, h2, h3, h4, h5, by simpa using h6⟩
    | _ => cases h
  | _ => cases h
theorem told_of {L : Lx} {N : List Str} {sc : Scope} {e : E} {x : Expr} (h : mE L N sc (.told e) x = true) : ∃ p body scope lpos pos, x = .Call (.Name "_law_told" p) [.Lambda ⟨[], [], none, [], [], none, []⟩ body scope lpos] [] pos ∧
    L.told = true ∧ gloB sc "_law_told" = true ∧ LamX.lamSB sc scope = true ∧ mE L.off N scope e body = true := by
  unfold mE at h
  split at h
  · obtain ⟨h, h5⟩ := and2 h
    obtain ⟨h, h4⟩ := and2 h
    obtain ⟨h, h3⟩ := and2 h
    obtain ⟨h1, h2⟩ := and2 h
    cases of_decide_eq_true h2
    exact ⟨_, _, _, _, _, rfl, h1, h3, h4, h5⟩
  · cases h
section
variable {C : Ctx} {Φ : Fn} {N : List Str}
mutual
theorem s_all : ∀ (e : E) (X : Cx) (W : WX) (sc : Scope) {L : Lx}, Has X L C Φ W N sc → ∀ x : Expr, mE L N sc e x = true → Ex X C Φ W e x
  | .var i, X, W, sc, L, hs, x, hm => by
    cases x with
    | Name y p =>
      have hm : (decide (N[i]? = some y) && visB sc y && !(y == ("__debug__" : Str)) && !(y == ("__classdict__" : Str))) = true := hm
      obtain ⟨hm, h4⟩ := and2 hm
      obtain ⟨hm, h3⟩ := and2 hm
      obtain ⟨h1, h2⟩ := and2 hm
      exact .mk1 (s_var hs.ok (of_decide_eq_true h1) h2 (nt h3) (nt h4)) fun _ => rfl
    | _ => cases hm
  | .int i, X, W, sc, L, hs, x, hm => by
    cases x with
    | Constant c k p =>
      cases c with
      | int j => cases of_decide_eq_true (show decide (i = j) = true from hm); exact .mk1 (s_con pe_int (fun _ _ _ _ h => h) fun _ _ => .int _) fun _ => rfl
      | _ => cases hm
    | _ => cases hm
  | .str z, X, W, sc, L, hs, x, hm => by
    cases x with
    | Constant c k p =>
      cases c with
      | str j => cases of_decide_eq_true (show decide (z = j) = true from hm); exact .mk1 (s_con pe_str (fun _ _ _ _ h => h) fun _ _ => .str _) fun _ => rfl
      | _ => cases hm
    | _ => cases hm
  | .bl b, X, W, sc, L, hs, x, hm => by
    cases x with
    | Constant c k p =>
      cases c with
      | bool j => cases (beq_iff_eq.mp (show (b == j) = true from hm)); exact .mk1 (s_con pe_bl (fun _ _ _ _ h => h) fun _ _ => .bl _) fun _ => rfl
      | _ => cases hm
    | _ => cases hm
  | .non, X, W, sc, L, hs, x, hm => by
    cases x with
    | Constant c k p =>
      cases c with
      | none => exact .mk1 (s_con pe_non (fun _ _ _ _ h => h) fun _ _ => .non) fun _ => rfl
      | _ => cases hm
    | _ => cases hm
  | .glo z, X, W, sc, L, hs, x, hm => by
    cases x with
    | Name y p =>
      obtain ⟨h1, h2⟩ := and2 (show (decide (z = y) && gloB sc z) = true from hm)
      cases of_decide_eq_true h1
      exact .mk1 (s_glo hs.ok hs.kn h2) fun _ => rfl
    | _ => cases hm
  | .bty n, X, W, sc, L, hs, x, hm => by
    cases x with
    | Name y p =>
      obtain ⟨hm, h3⟩ := and2 (show (decide (y = PySem.Str.ofString n) && gloB sc y && tyNms.contains n) = true from hm)
      obtain ⟨h1, h2⟩ := and2 hm
      cases of_decide_eq_true h1
      exact .mk1 (s_bty hs.ok hs.kn h2 h3) fun _ => rfl
    | _ => cases hm
  | .bin o a b, X, W, sc, L, hs, x, hm => by
    cases x with
    | BinOp l op r p =>
      obtain ⟨hm, h3⟩ := and2 (show (opB o op && mE L N sc a l && mE L N sc b r) = true from hm)
      obtain ⟨h1, h2⟩ := and2 hm
      cases op_of h1
      exact .mk1 (s_bin (s_all a X W sc hs l h2).1 (s_all b X W sc hs r h3).1) fun _ => rfl
    | _ => cases hm
  | .neg a, X, W, sc, L, hs, x, hm => by
    cases x with
    | UnaryOp op l p =>
      cases op with
      | USub => exact .mk1 (s_neg (s_all a X W sc hs l hm).1) fun _ => rfl
      | _ => cases hm
    | _ => cases hm
  | .cmp o a b, X, W, sc, L, hs, x, hm => by
    cases x with
    | Compare l ops rs p =>
      rcases ops with _ | ⟨op, _ | ⟨op2, ops⟩⟩ <;> rcases rs with _ | ⟨r, _ | ⟨r2, rs⟩⟩ <;> first | cases hm | skip
      obtain ⟨hm, h4⟩ := and2 (show (decide (cmOf o = op) && mE L N sc a l && mE L N sc b r && !(behindInMarks op r)) = true from hm)
      obtain ⟨hm, h3⟩ := and2 hm
      obtain ⟨h1, h2⟩ := and2 hm
      cases of_decide_eq_true h1
      exact ⟨s_cmp hs (s_all a X W sc hs l h2).1 (s_all b X W sc hs r h3).1 (nt h4), t_cmp hs (s_all a X W sc hs l h2).1 (s_all b X W sc hs r h3).1 (nt h4)⟩
    | _ => cases hm
  | .cmp2 o o2 a b c, X, W, sc, L, hs, x, hm => by
    cases x with
    | Compare l ops rs p =>
      rcases ops with _ | ⟨op, _ | ⟨op2, _ | ⟨op3, ops⟩⟩⟩ <;> rcases rs with _ | ⟨r, _ | ⟨r2, _ | ⟨r3, rs⟩⟩⟩ <;> first | cases hm | skip
      obtain ⟨hm, h7⟩ := and2 (show (decide (cmOf o = op) && decide (cmOf o2 = op2) && mE L N sc a l && mE L N sc b r && mE L N sc c r2 && !(behindInMarks op r) && !(behindInMarks op2 r2)) = true from hm)
      obtain ⟨hm, h6⟩ := and2 hm
      obtain ⟨hm, h5⟩ := and2 hm
      obtain ⟨hm, h4⟩ := and2 hm
      obtain ⟨hm, h3⟩ := and2 hm
      obtain ⟨h1, h2⟩ := and2 hm
      cases of_decide_eq_true h1
      cases of_decide_eq_true h2
      have ea := s_all a X W sc hs l h3
      have eb := s_all b X W sc hs r h4
      have ec := s_all c X W sc hs r2 h5
      exact ⟨s_cmp2 hs ea.1 eb.1 ec.1 (nt h7), t_cmp2 hs ea.1 eb.1 ec.1 (nt h7)⟩
    | _ => cases hm
  | .isN pos' a, X, W, sc, L, hs, x, hm => by
    cases x with
    | Compare l ops rs p =>
      rcases ops with _ | ⟨op, _ | ⟨op2, ops⟩⟩ <;> rcases rs with _ | ⟨r, _ | ⟨r2, rs⟩⟩ <;> first | cases hm | (cases r <;> first | cases hm | (rename_i c _ _; cases c <;> cases hm)) | skip
      cases r with
      | Constant c k q =>
        cases c with
        | none =>
          obtain ⟨h1, h2⟩ := and2 (show (decide ((if pos' = true then CmpOp.Is else CmpOp.IsNot) = op) && mE L N sc a l) = true from hm)
          cases of_decide_eq_true h1
          have ea := s_all a X W sc hs l h2
          exact ⟨s_isN ea.1, t_isN ea.1⟩
        | _ => cases hm
      | _ => cases hm
    | _ => cases hm
  | .isB _ _ _, _, _, _, _, _, _, hm => by cases hm
  | .bop isAnd es, X, W, sc, L, hs, x, hm => by
    cases x with
    | BoolOp op vs p =>
      obtain ⟨h1, h2⟩ := and2 (show (decide ((if isAnd = true then BoolOp.And else BoolOp.Or) = op) && mEs L N sc es vs) = true from hm)
      cases of_decide_eq_true h1
      have b := (s_alls es X W sc hs vs h2).2 isAnd p
      exact ⟨b.1, b.2.pt⟩
    | _ => cases hm
  | .not a, X, W, sc, L, hs, x, hm => by
    cases x with
    | UnaryOp op l p =>
      cases op with
      | Not => have ea := s_all a X W sc hs l hm; exact ⟨s_not ea.1, t_not ea.2⟩
      | _ => cases hm
    | _ => cases hm
  | .ite c a b, X, W, sc, L, hs, x, hm => by
    cases x with
    | IfExp l r q p =>
      obtain ⟨hm, h3⟩ := and2 (show (mE L N sc c l && mE L N sc a r && mE L N sc b q) = true from hm)
      obtain ⟨h1, h2⟩ := and2 hm
      have ec := s_all c X W sc hs l h1
      have ea := s_all a X W sc hs r h2
      have eb := s_all b X W sc hs q h3
      exact ⟨s_ite ec.2 ea.1 eb.1, t_ite ec.2 ea.2 eb.2⟩
    | _ => cases hm
  | .call f es, X, W, sc, L, hs, x, hm => by
    cases x with
    | Call fn xs ks p =>
      cases fn with
      | Name g q =>
        cases ks with
        | nil =>
          obtain ⟨hm, h5⟩ := and2 (show (decide (f = g) && gloB sc g && L.fns.contains f && mEs L N sc es xs && !(xs.any isStar)) = true from hm)
          obtain ⟨hm, h4⟩ := and2 hm
          obtain ⟨hm, h3⟩ := and2 hm
          obtain ⟨h1, h2⟩ := and2 hm
          cases of_decide_eq_true h1
          exact .mk1 (s_call hs h2 h3 h4 (nt h5) (s_alls es X W sc hs xs h4).1) fun _ => rfl
        | cons k ks => cases hm
      | _ => cases hm
    | _ => cases hm
  | .make f es, X, W, sc, L, hs, x, hm => by
    cases x with
    | Call fn xs ks p =>
      cases fn with
      | Name g q =>
        cases ks with
        | nil =>
          obtain ⟨hm, h5⟩ := and2 (show (decide (f = g) && gloB sc g && L.cls.contains f && mEs L N sc es xs && !(xs.any isStar)) = true from hm)
          obtain ⟨hm, h4⟩ := and2 hm
          obtain ⟨hm, h3⟩ := and2 hm
          obtain ⟨h1, h2⟩ := and2 hm
          cases of_decide_eq_true h1
          exact .mk1 (s_make hs h2 h3 h4 (nt h5) (s_alls es X W sc hs xs h4).1) fun _ => rfl
        | cons k ks => cases hm
      | _ => cases hm
    | _ => cases hm
  | .meth f o es, X, W, sc, L, hs, x, hm => by
    cases x with
    | Call fn xs ks p =>
      cases fn with
      | Attribute l g ap =>
        cases ks with
        | nil =>
          obtain ⟨hm, h7⟩ := and2 (show (decide (f = g) && mE L N sc o l && !(call0 l) && (ap.endLine == p.line) && decide (xs.length < 29) && mEs L N sc es xs && !(xs.any isStar)) = true from hm)
          obtain ⟨hm, h6⟩ := and2 hm
          obtain ⟨hm, h5⟩ := and2 hm
          obtain ⟨hm, h4⟩ := and2 hm
          obtain ⟨hm, h3⟩ := and2 hm
          obtain ⟨h1, h2⟩ := and2 hm
          cases of_decide_eq_true h1
          exact .mk1 (s_meth hs (nt h3) h4 (of_decide_eq_true h5) h6 (nt h7) (s_all o X W sc hs l h2).1 (s_alls es X W sc hs xs h6).1) fun _ => rfl
        | cons k ks => cases hm
      | _ => cases hm
    | _ => cases hm
  | .bi f al es, X, W, sc, L, hs, x, hm => by
    cases x with
    | Call fn xs ks p =>
      cases fn with
      | Name g q =>
        cases ks with
        | nil =>
          obtain ⟨hm, h5⟩ := and2 (show (decide (biNm f = g) && gloB sc g && mEs L N sc es xs && !(xs.any isStar) && !xs.isEmpty) = true from hm)
          obtain ⟨hm, h4⟩ := and2 hm
          obtain ⟨hm, h3⟩ := and2 hm
          obtain ⟨h1, h2⟩ := and2 hm
          cases of_decide_eq_true h1
          exact .mk1 (s_bi hs h2 h3 (nt h4) (fun z => by subst z; cases h5) (s_alls es X W sc hs xs h3).1) fun _ => rfl
        | cons k ks => cases hm
      | _ => cases hm
    | _ => cases hm
  | .bm f o es, X, W, sc, L, hs, x, hm => by
    cases x with
    | Call fn xs ks p =>
      cases fn with
      | Attribute l g ap =>
        cases ks with
        | nil =>
          obtain ⟨hm, h7⟩ := and2 (show (decide (bmNm f = g) && mE L N sc o l && !(call0 l) && (ap.endLine == p.line) && decide (xs.length < 29) && mEs L N sc es xs && !(xs.any isStar)) = true from hm)
          obtain ⟨hm, h6⟩ := and2 hm
          obtain ⟨hm, h5⟩ := and2 hm
          obtain ⟨hm, h4⟩ := and2 hm
          obtain ⟨hm, h3⟩ := and2 hm
          obtain ⟨h1, h2⟩ := and2 hm
          cases of_decide_eq_true h1
          exact .mk1 (s_bm (nt h3) h4 (of_decide_eq_true h5) h6 (nt h7) (s_all o X W sc hs l h2).1 (s_alls es X W sc hs xs h6).1) fun _ => rfl
        | cons k ks => cases hm
      | _ => cases hm
    | _ => cases hm
  | .attr f o, X, W, sc, L, hs, x, hm => by
    cases x with
    | Attribute l g p =>
      obtain ⟨hm, h3⟩ := and2 (show (decide (f = g) && mE L N sc o l && !(call0 l)) = true from hm)
      obtain ⟨h1, h2⟩ := and2 hm
      cases of_decide_eq_true h1
      exact .mk1 (s_attr hs (nt h3) (s_all o X W sc hs l h2).1) fun _ => rfl
    | _ => cases hm
  | .idx o i, X, W, sc, L, hs, x, hm => by
    cases x with
    | Subscript l r p =>
      obtain ⟨hm, h3⟩ := and2 (show (mE L N sc o l && mE L N sc i r && plainIx r) = true from hm)
      obtain ⟨h1, h2⟩ := and2 hm
      exact .mk1 (s_idx hs h3 (s_all o X W sc hs l h1).1 (s_all i X W sc hs r h2).1) fun _ => rfl
    | _ => cases hm
  | .slc o lo hi, X, W, sc, L, hs, x, hm => by
    cases x with
    | Subscript l r p =>
      cases r with
      | Slice a b c q =>
        cases c with
        | none =>
          obtain ⟨hm, h3⟩ := and2 (show (mE L N sc o l && mEo L N sc lo a && mEo L N sc hi b) = true from hm)
          obtain ⟨h1, h2⟩ := and2 hm
          exact .mk1 (s_slc (s_all o X W sc hs l h1).1 (s_allo lo X W sc hs a h2) (s_allo hi X W sc hs b h3)) fun _ => rfl
        | some c => cases hm
      | _ => cases hm
    | _ => cases hm
  | .tup es, X, W, sc, L, hs, x, hm => by
    cases x with
    | Tuple xs k p => exact .mk1 (s_tup (s_alls es X W sc hs xs hm).1) fun _ => rfl
    | _ => cases hm
  | .lst al es, X, W, sc, L, hs, x, hm => by
    cases x with
    | List xs p => exact .mk1 (s_lst (s_alls es X W sc hs xs hm).1) fun _ => rfl
    | _ => cases hm
  | .dic al es, X, W, sc, L, hs, x, hm => by
    cases x with
    | Dict ks vs p =>
      obtain ⟨h1, h2⟩ := and2 (show (mPs L N sc es ks vs && decide (ks.length ≤ 15)) = true from hm)
      obtain ⟨q, q1, q2, q3, q4⟩ := s_allp es X W sc hs ks vs h1
      exact .mk1 (s_dic q q1 q2 (of_decide_eq_true h2) q3 q4) fun _ => rfl
    | _ => cases hm
  | .comp al own e t s ifs, X, W, sc, L, hs, x, hm => by
    cases x with
    | ListComp el gens scope p =>
      cases gens with
      | nil => cases hm
      | cons g1 gens =>
        obtain ⟨tg, it, fs, as⟩ := g1
        cases as with
        | negSucc n => cases gens <;> cases hm
        | ofNat n => cases n with
          | succ n => cases gens <;> cases hm
          | zero => cases gens with
            | cons _ _ => cases hm
            | nil =>
                obtain ⟨hm, h7⟩ := and2 (show (blkC N sc scope (own.map fun i => (N.getD i "", i)) && mT N scope t tg && mSr L N sc s it tg && mEs L.off N scope ifs fs && mE L.off N scope e el && ((tgtNms t).all fun i => own.contains i) && decide (fs.length ≤ 1)) = true from hm)
                obtain ⟨hm, h6⟩ := and2 hm
                obtain ⟨hm, h5⟩ := and2 hm
                obtain ⟨hm, h4⟩ := and2 hm
                obtain ⟨hm, h3⟩ := and2 hm
                obtain ⟨h1, h2⟩ := and2 hm
                have src := s_alli s X W sc hs it tg h3
                refine .mk1 (s_comp hs src.1 (blkOk_by h1) h2 (fun i hi => by have := List.all_eq_true.mp h6 i hi; simpa using this) (fun Y hY => ?_) (fun Y hY => (s_all e Y noW scope hY el h5).1) src.2) fun _ => rfl
                exact s_allf ifs Y scope hY fs h4 (of_decide_eq_true h7)
    | _ => cases hm
  | .comp2 _ _ _ _ _ _ _ _ _ _, _, _, _, _, _, _, hm => by cases hm
  | .dcomp _ _ _ _ _ _ _, _, _, _, _, _, _, hm => by cases hm
  | .told e, X, W, sc, L, hs, x, hm => by
    obtain ⟨p, body, scope, lpos, pos, rfl, h1, h3, h4, h5⟩ := told_of hm
    exact .mk1 (s_told hs h1 h3 h4 fun Y W' hY => (s_all e Y W' scope hY body h5).1) fun _ => rfl
  | .lens e, X, W, sc, L, hs, x, hm => by
    obtain ⟨y, p, p2, q, pos, rfl, h1, h2, h3, h4⟩ := lens_of hm
    exact .mk1 (s_lens hs h1 h2 h4 (s_all e X W sc hs y h3).1) fun _ => rfl
  | .ssrt al e, X, W, sc, L, hs, x, hm => by
    obtain ⟨y, p, p2, q, pos, rfl, h1, h2, h3, h4⟩ := ssrt_of hm
    exact .mk1 (s_ssrt hs h1 h2 h4 (s_all e X W sc hs y h3).1) fun _ => rfl
  | .exv c e, X, W, sc, L, hs, x, hm => by
    obtain ⟨g, y, p, pos, rfl, h1, h2, h3, h4, h5, h6⟩ := exv_of hm
    subst h1
    exact .mk1 (s_exv hs h2 h3 h4 h6 (s_all e X W sc hs y h5).1) fun _ => rfl
  | .rev o, X, W, sc, L, hs, x, hm => by
    obtain ⟨l, k, p1, p2, p3, pos, rfl, h1⟩ := rev_of hm
    exact .mk1 (s_rev (s_all o X W sc hs l h1).1) fun _ => rfl
  | .dcop al e, X, W, sc, L, hs, x, hm => by
    obtain ⟨l, p, p2, apos, cpos, pos, pos2, rfl, h1, h2, h3, h4, h5⟩ := dcop_of hm
    exact .mk1 (s_dcop hs h1 h2 h3 h4 (s_all e X W sc hs l h5).1) fun _ => rfl
  | .rngl al es, X, W, sc, L, hs, x, hm => by
    cases x with
    | Call fn xs ks p =>
      cases fn with
      | Name g q =>
        cases xs with
        | nil => cases hm
        | cons y xs => cases xs with
          | cons _ _ => cases ks <;> cases hm
          | nil => cases ks with
            | cons _ _ => cases hm
            | nil =>
              obtain ⟨hm, h3⟩ := and2 (show (decide (("list" : Str) = g) && gloB sc g && (match rngArgs y with
                | some p => decide (("range" : Str) = p.1) && gloB sc p.1 && mEs L N sc es p.2 && !(p.2.any isStar) && (p.2.length == 1 || p.2.length == 2)
                | none => false)) = true from hm)
              obtain ⟨h1, h2⟩ := and2 hm
              cases of_decide_eq_true h1
              cases e : rngArgs y with
              | none => rw [e] at h3; cases h3
              | some pr =>
                rw [e] at h3
                obtain ⟨h, ys⟩ := pr
                obtain ⟨q2, p2, rfl⟩ := rngArgs_of e
                obtain ⟨h3, h7⟩ := and2 (show (decide (("range" : Str) = h) && gloB sc h && mEs L N sc es ys && !(ys.any isStar) && (ys.length == 1 || ys.length == 2)) = true from h3)
                obtain ⟨h3, h6⟩ := and2 h3
                obtain ⟨h3, h5⟩ := and2 h3
                obtain ⟨h3, h4⟩ := and2 h3
                cases of_decide_eq_true h3
                exact .mk1 (s_rngl hs h2 h4 (nt h6) h7 (s_alls es X W sc hs ys h5).1) fun _ => rfl
      | _ => cases hm
    | _ => cases hm
theorem s_alls : ∀ (es : Es) (X : Cx) (W : WX) (sc : Scope) {L : Lx}, Has X L C Φ W N sc → ∀ xs : List Expr, mEs L N sc es xs = true → PA X xs (tA X C Φ W es) ∧ Bo X C Φ W es xs
  | .nil, X, W, sc, L, hs, xs, hm => by
    cases xs with
    | nil => exact ⟨a_nil, fun _ _ => never fun _ _ _ _ h => h⟩
    | cons _ _ => cases hm
  | .cons e es, X, W, sc, L, hs, xs, hm => by
    cases xs with
    | nil => cases hm
    | cons x xs =>
      obtain ⟨h1, h2⟩ := and2 (show (mE L N sc e x && mEs L N sc es xs) = true from hm)
      have e1 := s_all e X W sc hs x h1
      have e2 := s_alls es X W sc hs xs h2
      refine ⟨a_cons (notStar h1) e1.1 e2.1, fun isAnd p => ?_⟩
      cases es with
      | nil =>
        cases xs with
        | nil => exact ⟨s_bop1 e1.1, t_bop1 e1.2⟩
        | cons _ _ => cases h2
      | cons e' es' =>
        cases xs with
        | nil => cases h2
        | cons y ys =>
          have b := e2.2 isAnd p
          exact ⟨s_bop2 e1.1 b.1, t_bop2 e1.2 b.2⟩
      | star e' es' => exact never fun _ _ _ _ h => h
  | .star e es, X, W, sc, L, hs, xs, hm => by
    cases xs with
    | nil => cases hm
    | cons x xs =>
      cases x with
      | Starred y p =>
        obtain ⟨h1, h2⟩ := and2 (show (mE L N sc e y && mEs L N sc es xs) = true from hm)
        exact ⟨a_star (s_all e X W sc hs y h1).1 (s_alls es X W sc hs xs h2).1, fun _ _ => never fun _ _ _ _ h => h⟩
      | _ => cases hm
theorem s_allp : ∀ (es : Es) (X : Cx) (W : WX) (sc : Scope) {L : Lx}, Has X L C Φ W N sc → ∀ (ks : List (Option Expr)) (vs : List Expr), mPs L N sc es ks vs = true → PP X C Φ W es ks vs ∧ ks.all (·.isSome) = true ∧ ks.length = vs.length ∧ ((∃ k r, es = .cons k r) → ks = [] → False) ∧ ((∃ k r, es = .star k r) → False)
  | .nil, X, W, sc, L, hs, ks, vs, hm => by
    cases ks with
    | nil =>
      cases vs with
      | nil => exact ⟨pp_nil, rfl, rfl, fun ⟨_, _, z⟩ => (by cases z), fun ⟨_, _, z⟩ => (by cases z)⟩
      | cons _ _ => cases hm
    | cons _ _ => cases hm
  | .cons k (.cons v r), X, W, sc, L, hs, ks, vs, hm => by
    cases ks with
    | nil => cases hm
    | cons x ks =>
      cases x with
      | none => cases hm
      | some x =>
        cases vs with
        | nil => cases hm
        | cons y vs =>
          obtain ⟨hm, h3⟩ := and2 (show (mE L N sc k x && mE L N sc v y && mPs L N sc r ks vs) = true from hm)
          obtain ⟨h1, h2⟩ := and2 hm
          obtain ⟨q, q1, q2, _, _⟩ := s_allp r X W sc hs ks vs h3
          exact ⟨pp_cons (s_all k X W sc hs x h1).1 (s_all v X W sc hs y h2).1 q, (by rw [List.all_cons, q1]; rfl), congrArg Nat.succ q2, fun _ z => (by cases z), fun ⟨_, _, z⟩ => (by cases z)⟩
  | .cons k .nil, X, W, sc, L, hs, ks, vs, hm => by cases hm
  | .cons k (.star _ _), X, W, sc, L, hs, ks, vs, hm => by cases hm
  | .star _ _, X, W, sc, L, hs, ks, vs, hm => by cases hm
theorem s_allf : ∀ (es : Es) (X : Cx) (sc : Scope) {L : Lx}, Has X L C Φ noW N sc → ∀ xs : List Expr, mEs L N sc es xs = true → xs.length ≤ 1 → PTs X xs (tI X C Φ es)
  | .nil, X, sc, L, hs, xs, hm, hl => by
    cases xs with
    | nil => exact i_nil
    | cons _ _ => cases hm
  | .cons e es, X, sc, L, hs, xs, hm, hl => by
    cases xs with
    | nil => cases hm
    | cons x xs =>
      obtain ⟨h1, h2⟩ := and2 (show (mE L N sc e x && mEs L N sc es xs) = true from hm)
      cases xs with
      | nil =>
        cases es with
        | nil => exact i_one (s_all e X noW sc hs x h1).2
        | cons _ _ => cases h2
        | star _ _ => cases h2
      | cons _ _ => rw [List.length_cons, List.length_cons] at hl; omega
  | .star e es, X, sc, L, hs, xs, hm, hl => ⟨fun _ _ _ _ _ _ ⟨_, _, _, _, _, _, w, _⟩ => (show False from w).elim⟩
theorem s_allo : ∀ (o : Eo) (X : Cx) (W : WX) (sc : Scope) {L : Lx}, Has X L C Φ W N sc → ∀ x : Option Expr, mEo L N sc o x = true → PO X x (tO X C Φ W o)
  | .none, X, W, sc, L, hs, x, hm => by
    cases x with
    | none => exact o_none
    | some _ => cases hm
  | .some e, X, W, sc, L, hs, x, hm => by
    cases x with
    | none => cases hm
    | some x => exact o_some (s_all e X W sc hs x hm).1
theorem s_alli : ∀ (s : Sr) (X : Cx) (W : WX) (sc : Scope) {L : Lx}, Has X L C Φ W N sc → ∀ x tg : Expr, mSr L N sc s x tg = true → PI X tg x (iS X C Φ W s) ∧ Fo X x
  | .ex e, X, W, sc, L, hs, x, tg, hm => ⟨i_ex (s_all e X W sc hs x hm).1, notSet hm⟩
  | .rng es, X, W, sc, L, hs, x, tg, hm => by
    cases x with
    | Call fn xs ks p =>
      cases fn with
      | Name g q =>
        cases ks with
        | nil =>
          obtain ⟨hm, h5⟩ := and2 (show (decide (("range" : Str) = g) && gloB sc g && mEs L N sc es xs && !(xs.any isStar) && (xs.length == 1 || xs.length == 2)) = true from hm)
          obtain ⟨hm, h4⟩ := and2 hm
          obtain ⟨hm, h3⟩ := and2 hm
          obtain ⟨h1, h2⟩ := and2 hm
          cases of_decide_eq_true h1
          exact ⟨i_rng hs h2 (nt h4) h5 (s_alls es X W sc hs xs h3).1, fun _ => rfl⟩
        | cons k ks => cases hm
      | _ => cases hm
    | _ => cases hm
  | .enu e, X, W, sc, L, hs, x, tg, hm => by
    cases x with
    | Call fn xs ks p =>
      cases fn with
      | Name g q =>
        cases ks with
        | nil =>
          rcases xs with _ | ⟨y, _ | ⟨y2, xs⟩⟩ <;> first | cases hm | skip
          obtain ⟨hm, h4⟩ := and2 (show (decide (("enumerate" : Str) = g) && gloB sc g && mE L N sc e y && isTup tg) = true from hm)
          obtain ⟨hm, h3⟩ := and2 hm
          obtain ⟨h1, h2⟩ := and2 hm
          cases of_decide_eq_true h1
          cases tg with
          | Tuple a b c => exact ⟨i_enu hs h2 (notStar h3) (s_all e X W sc hs y h3).1, fun _ => rfl⟩
          | _ => cases h4
        | cons k ks => cases xs with
          | nil => cases hm
          | cons y ys => cases ys <;> cases hm
      | _ => cases hm
    | _ => cases hm
  | .zip e e2, X, W, sc, L, hs, x, tg, hm => by
    cases x with
    | Call fn xs ks p =>
      cases fn with
      | Name g q =>
        cases ks with
        | nil =>
          rcases xs with _ | ⟨y, _ | ⟨y2, _ | ⟨y3, xs⟩⟩⟩ <;> first | cases hm | skip
          obtain ⟨hm, h5⟩ := and2 (show (decide (("zip" : Str) = g) && gloB sc g && mE L N sc e y && mE L N sc e2 y2 && isTup tg) = true from hm)
          obtain ⟨hm, h4⟩ := and2 hm
          obtain ⟨hm, h3⟩ := and2 hm
          obtain ⟨h1, h2⟩ := and2 hm
          cases of_decide_eq_true h1
          cases tg with
          | Tuple a b c => exact ⟨i_zip hs h2 (notStar h3) (notStar h4) (s_all e X W sc hs y h3).1 (s_all e2 X W sc hs y2 h4).1, fun _ => rfl⟩
          | _ => cases h5
        | cons k ks => rcases xs with _ | ⟨y, _ | ⟨y2, _ | ⟨y3, xs⟩⟩⟩ <;> cases hm
      | _ => cases hm
    | _ => cases hm
end
end
end Vm

set_option Elab.async false
set_option linter.all false
set_option maxRecDepth 100000
set_option maxHeartbeats 4000000
/-! Vm, part 18: statements. -/
namespace Vm
open PySem PySem.Spec PyProof.Rows L2
variable {X : Cx} {L : Lx} {C : Ctx} {Φ : Fn} {W : WX} {N : List Str} {sc : Scope}
section
variable {L : Lx} {C : Ctx} {Φ : Fn} {N : List Str}
theorem swEq {X : Cx} {W : WX} {sc : Scope} (o : OkX X N sc) (hk : X.env.blockKind = .function) {el : Expr} {gs : List Comprehension} {scope : Scope} {p py : Pos} {y : Str} {l : Nat} (h : swB sc y py (.ListComp el gs scope p) = true) :
    sc.names.lookup y = some .local ∧ swapsWith (.ListComp el gs scope p) (some (.Name y py)) l X.env = pure true := by
  have h : (decide (sc.names.lookup y = some .local) && (py.line == p.line) && !(scope.names.any fun (n, k) => n == y && (k == .local || k == .cell))) = true := h
  obtain ⟨h, h3⟩ := and2 h
  obtain ⟨h1, h2⟩ := and2 h
  have h1 := of_decide_eq_true h1
  refine ⟨h1, ?_⟩
  have kl : X.env.kindOf y = some .local := by
    rcases o.hsc _ _ h1 with z | ⟨z, _⟩
    · exact z
    · cases z
  unfold swapsWith
  simp only [hk, kl, nt h3, Expr.pos, h2]
  rfl
theorem blockK {X : Cx} (h : X.env.scope.kind = .function) : X.env.blockKind = .function := by unfold Env.blockKind; rw [h]; rfl
theorem s_dead {X : Cx} {W : WX} {x : Stmt} : PS X x (tS X C Φ W .dead) := ⟨fun _ _ _ _ _ _ ⟨_, _, _, _, _, _, w, _⟩ => (show False from w).elim⟩
theorem s_comp_set {X : Cx} {W : WX} {sc : Scope} (hs : HasS X L C Φ W N sc) {e : E} {el : Expr} {gens : List Comprehension} {scope : Scope} {p py spos : Pos} {y : Str} {i : Nat} (hk : X.env.scope.kind = .function) (hm : mE L N sc e (.ListComp el gens scope p) = true) (hy : N[i]? = some y) (h : swB sc y py (.ListComp el gens scope p) = true) :
    PS X (.Assign [.Name y py] (.ListComp el gens scope p) spos) (tAsg (tE X C Φ W e) (gName i)) := by
  obtain ⟨hl, hsw⟩ := swEq (W := W) hs.h.ok (blockK hk) (l := spos.line) h
  cases e with
  | comp al own e t s ifs =>
    cases gens with
    | nil => cases hm
    | cons g1 gens =>
      obtain ⟨tg, it, fs, as⟩ := g1
      cases as with
      | negSucc n => cases gens <;> cases hm
      | ofNat n => cases n with
        | succ n => cases gens <;> cases hm
        | zero => cases gens with
          | cons _ _ => cases hm
          | nil =>
            obtain ⟨hm, h7⟩ := and2 (show (blkC N sc scope (own.map fun i => (N.getD i "", i)) && mT N scope t tg && mSr L N sc s it tg && mEs L.off N scope ifs fs && mE L.off N scope e el && ((tgtNms t).all fun i => own.contains i) && decide (fs.length ≤ 1)) = true from hm)
            obtain ⟨hm, h6⟩ := and2 hm
            obtain ⟨hm, h5⟩ := and2 hm
            obtain ⟨hm, h4⟩ := and2 hm
            obtain ⟨hm, h3⟩ := and2 hm
            obtain ⟨h1, h2⟩ := and2 hm
            have src := s_alli s X W sc hs.h it tg h3
            exact s_setLc hs.h src.1 (blkOk_by h1) h2 (fun i hi => by have := List.all_eq_true.mp h6 i hi; simpa using this) (fun Y hY => s_allf ifs Y scope hY fs h4 (of_decide_eq_true h7)) (fun Y hY => (s_all e Y noW scope hY el h5).1) src.2 hy hl hsw
  | _ => cases hm
theorem isComp_of {L : Lx} {N : List Str} {sc : Scope} {e : E} {x : Expr} (hm : mE L N sc e x = true) (h : isComp x = true) : ∃ el gens scope p, x = .ListComp el gens scope p := by
  cases x with
  | ListComp el gens scope p => exact ⟨_, _, _, _, rfl⟩
  | SetComp a b c d => cases e <;> cases hm
  | DictComp a b c d f => cases e <;> cases hm
  | _ => cases h
theorem par_of {L : Lx} {N : List Str} {sc : Scope} {t : T} {es : Es} {s : Stmt} (h : mS L N sc (.par t es) s = true) :
    (∃ i j x y a b px py pt pos kt k2 pt2, t = .tup (.nm i) (.tup (.nm j) .nil) ∧ s = .Assign [.Tuple [.Name x px, .Name y py] kt pt] (.Tuple [a, b] k2 pt2) pos ∧ N[i]? = some x ∧ N[j]? = some y ∧ i ≠ j ∧ sc.names.lookup x = some .local ∧ sc.names.lookup y = some .local ∧
      mEs L N sc es [a, b] = true ∧ isStar a = false ∧ isStar b = false ∧ (py.line == px.line) = true ∧ [a, b].all (foldedForSure 8) = false ∧ [a, b].all (constantsAlone 8) = false) ∨
    (∃ i j l x y z a b c px py pz pt pos kt k2 pt2, t = .tup (.nm i) (.tup (.nm j) (.tup (.nm l) .nil)) ∧ s = .Assign [.Tuple [.Name x px, .Name y py, .Name z pz] kt pt] (.Tuple [a, b, c] k2 pt2) pos ∧ N[i]? = some x ∧ N[j]? = some y ∧ N[l]? = some z ∧ i ≠ j ∧ i ≠ l ∧ j ≠ l ∧
      sc.names.lookup x = some .local ∧ sc.names.lookup y = some .local ∧ sc.names.lookup z = some .local ∧ mEs L N sc es [a, b, c] = true ∧ isStar a = false ∧ isStar b = false ∧ isStar c = false ∧ (py.line == px.line) = true ∧ (pz.line == px.line) = true ∧ [a, b, c].all (foldedForSure 8) = false ∧ [a, b, c].all (constantsAlone 8) = false) := by
  unfold mS at h
  split at h
  · left
    obtain ⟨h, h7⟩ := and2 h
    obtain ⟨h, h6⟩ := and2 h
    obtain ⟨h, h5⟩ := and2 h
    obtain ⟨h, h4⟩ := and2 h
    obtain ⟨h, h3⟩ := and2 h
    obtain ⟨h1, h2⟩ := and2 h
    unfold parOk at h1
    split at h1
    · obtain ⟨h1, g5⟩ := and2 h1
      obtain ⟨h1, g4⟩ := and2 h1
      obtain ⟨h1, g3⟩ := and2 h1
      obtain ⟨g1, g2⟩ := and2 h1
      exact ⟨_, _, _, _, _, _, _, _, _, _, _, _, _, rfl, rfl, of_decide_eq_true g1, of_decide_eq_true g2, beq_eq_false_iff_ne.mp (nt g3), of_decide_eq_true g4, of_decide_eq_true g5, h2, nt h3, nt h4, h5, nt h6, nt h7⟩
    · cases h1
  · right
    obtain ⟨h, h9⟩ := and2 h
    obtain ⟨h, h8⟩ := and2 h
    obtain ⟨h, h7⟩ := and2 h
    obtain ⟨h, h6⟩ := and2 h
    obtain ⟨h, h5⟩ := and2 h
    obtain ⟨h, h4⟩ := and2 h
    obtain ⟨h, h3⟩ := and2 h
    obtain ⟨h1, h2⟩ := and2 h
    unfold parOk3 at h1
    split at h1
    · obtain ⟨h1, g9⟩ := and2 h1
      obtain ⟨h1, g8⟩ := and2 h1
      obtain ⟨h1, g7⟩ := and2 h1
      obtain ⟨h1, g6⟩ := and2 h1
      obtain ⟨h1, g5⟩ := and2 h1
      obtain ⟨h1, g4⟩ := and2 h1
      obtain ⟨h1, g3⟩ := and2 h1
      obtain ⟨g1, g2⟩ := and2 h1
      exact ⟨_, _, _, _, _, _, _, _, _, _, _, _, _, _, _, _, _, rfl, rfl, of_decide_eq_true g1, of_decide_eq_true g2, of_decide_eq_true g3, beq_eq_false_iff_ne.mp (nt g4), beq_eq_false_iff_ne.mp (nt g5), beq_eq_false_iff_ne.mp (nt g6), of_decide_eq_true g7, of_decide_eq_true g8, of_decide_eq_true g9, h2, nt h3, nt h4, nt h5, h6, h7, nt h8, nt h9⟩
    · cases h1
  · cases h
theorem raise_of {L : Lx} {N : List Str} {sc : Scope} {c : Str} {e : E} {s : Stmt} (h : mS L N sc (.raise c e) s = true) : ∃ g x p pos pos2, s = .Raise (some (.Call (.Name g p) [x] [] pos)) none pos2 ∧ c = g ∧ gloB sc c = true ∧ L.exs.contains c = true ∧ mE L N sc e x = true ∧ isStar x = false := by
  unfold mS at h
  split at h
  · obtain ⟨h, h5⟩ := and2 h
    obtain ⟨h, h4⟩ := and2 h
    obtain ⟨h, h3⟩ := and2 h
    obtain ⟨h1, h2⟩ := and2 h
    have h1 := of_decide_eq_true h1
    subst h1
    exact ⟨_, _, _, _, _, rfl, rfl, h2, h3, h4, nt h5⟩
  · cases h
mutual
theorem st_all : ∀ (s : S) (X : Cx) (W : WX) (sc : Scope), HasS X L C Φ W N sc → X.env.scope.kind = .function → ∀ x : Stmt, mS L N sc s x = true → PS X x (tS X C Φ W s)
  | .set t e, X, W, sc, hs, hk, x, hm => by
    cases x with
    | Assign tgs ex p =>
      rcases tgs with _ | ⟨tg, _ | ⟨tg2, tgs⟩⟩ <;> first | cases hm | skip
      obtain ⟨hm, h3⟩ := and2 (show (mE L N sc e ex && mT N sc t tg && tgOk sc tg ex) = true from hm)
      obtain ⟨h1, h2⟩ := and2 hm
      cases tg with
      | Name y py =>
        cases t with
        | nm i =>
          have h2' : (decide (N[i]? = some y) && (match sc.names.lookup y with | some NameKind.local | some .cell => true | _ => false)) = true := h2
          obtain ⟨hi, hl⟩ := and2 h2'
          have hi := of_decide_eq_true hi
          obtain ⟨l1, l2⟩ := loc_of hs.h.ok hl
          refine s_setNm hs ?_
          cases hc : isComp ex with
          | false => exact ps_set (by rw [hs.h.ok.hN]; exact hs.h.ok.nd) (by rw [hs.h.ok.hN]; exact hi) l1 (s_all e X W sc hs.h ex h1).1 (sw_no hc) l2
          | true =>
            have h3 : (!(isComp ex) || swB sc y py ex) = true := h3
            rw [hc] at h3
            obtain ⟨el, gens, scope, q, rfl⟩ := isComp_of h1 hc
            exact s_comp_set hs hk h1 hi h3
        | _ => cases h2
      | Tuple es k q =>
        have hsw : swapsWithSole [.Tuple es k q] ex p.line X.env = pure false := sw_not (ex := ex) (tg := .Tuple es k q) (l := p.line) (env := X.env) rfl
        have hst : swappedStores [.Tuple es k q] ex X.env = pure none := by
          rcases Bool.or_eq_true_iff.mp (show (noStores ex || es.any (isCell sc)) = true from h3) with z | z
          · exact stores_no z
          · obtain ⟨y, hy, hc⟩ := List.any_eq_true.mp z
            cases y with
            | Name y py =>
              refine stores_cell ⟨y, py, hy, ?_⟩
              rcases hs.h.ok.hsc y _ (of_decide_eq_true hc) with e | ⟨e, _⟩
              · exact e
              · cases e
            | _ => cases hc
        exact s_setTg hs (ps_asg (s_all e X W sc hs.h ex h1).1 (g_tgt hs.h.ok t _ h2) hsw hst rfl)
      | _ => cases h3
    | _ => cases hm
  | .par t es, X, W, sc, hs, hk, x, hm => by
    rcases par_of hm with ⟨i, j, x1, y1, a, b, px, py, pt, pos, kt, k2, pt2, rfl, rfl, g1, g2, g3, g4, g5, h2, h3, h4, h5, h6, h7⟩ | ⟨i, j, l, x1, y1, z1, a, b, c, px, py, pz, pt, pos, kt, k2, pt2, rfl, rfl, g1, g2, g3, g4, g5, g6, g7, g8, g9, h2, h3, h4, h5, h6, h7, h8, h9⟩
    · exact s_par hs g1 g2 g3 g4 g5 (s_alls es X W sc hs.h [a, b] h2).1 h3 h4 h5 h6 h7
    · exact s_par3 hs g1 g2 g3 g4 g5 g6 g7 g8 g9 (s_alls es X W sc hs.h [a, b, c] h2).1 h3 h4 h5 h6 h7 h8 h9
  | .setA o f e, X, W, sc, hs, hk, x, hm => by
    cases x with
    | Assign tgs ex p =>
      rcases tgs with _ | ⟨tg, _ | ⟨tg2, tgs⟩⟩ <;> first | cases hm | skip
      · cases tg with
        | Attribute y g q =>
          obtain ⟨hm, h3⟩ := and2 (show (decide (f = g) && mE L N sc o y && mE L N sc e ex) = true from hm)
          obtain ⟨h1, h2⟩ := and2 hm
          cases of_decide_eq_true h1
          exact s_setA hs (s_all o X W sc hs.h y h2).1 (s_all e X W sc hs.h ex h3).1 trivial
        | _ => cases hm
      · cases tg <;> cases hm
    | _ => cases hm
  | .setI o i e, X, W, sc, hs, hk, x, hm => by
    cases x with
    | Assign tgs ex p =>
      rcases tgs with _ | ⟨tg, _ | ⟨tg2, tgs⟩⟩ <;> first | cases hm | skip
      · cases tg with
        | Subscript y z q =>
          obtain ⟨hm, h4⟩ := and2 (show (mE L N sc o y && mE L N sc i z && plainIx z && mE L N sc e ex) = true from hm)
          obtain ⟨hm, h3⟩ := and2 hm
          obtain ⟨h1, h2⟩ := and2 hm
          exact s_setI hs h3 (s_all o X W sc hs.h y h1).1 (s_all i X W sc hs.h z h2).1 (s_all e X W sc hs.h ex h4).1
        | _ => cases hm
      · cases tg <;> cases hm
    | _ => cases hm
  | .aug _ _ _, _, _, _, _, _, _, hm => by cases hm
  | .exp e, X, W, sc, hs, hk, x, hm => by
    cases x with
    | Expr ex p =>
      obtain ⟨h1, h2⟩ := and2 (show (mE L N sc e ex && !(isComp ex)) = true from hm)
      exact s_exp hs (nt h2) (s_all e X W sc hs.h ex h1).1
    | _ => cases hm
  | .ret e, X, W, sc, hs, hk, x, hm => by
    cases x with
    | Return ex p =>
      cases ex with
      | none => cases hm
      | some ex => exact s_ret hs (s_all e X W sc hs.h ex hm).1
    | _ => cases hm
  | .ifs c a b, X, W, sc, hs, hk, x, hm => by
    cases x with
    | If y p q pos =>
      obtain ⟨hm, h3⟩ := and2 (show (mE L N sc c y && mSs L N sc a p && mSs L N sc b q) = true from hm)
      obtain ⟨h1, h2⟩ := and2 hm
      exact s_if hs (s_all c X W sc hs.h y h1).2 (sts_all a X W sc hs hk p h2) (sts_all b X W sc hs hk q h3)
    | _ => cases hm
  | .for_ t r b, X, W, sc, hs, hk, x, hm => by
    cases x with
    | For tg it body els pos =>
      cases els with
      | nil =>
        obtain ⟨hm, h3⟩ := and2 (show (mT N sc t tg && mSr L N sc r it tg && mSs L N sc b body) = true from hm)
        obtain ⟨h1, h2⟩ := and2 hm
        have src := s_alli r X W sc hs.h it tg h2
        exact s_for hs src.1 src.2 h1 (sts_all b X W sc hs hk body h3)
      | cons _ _ => cases hm
    | _ => cases hm
  | .whil c b, X, W, sc, hs, hk, x, hm => by
    cases x with
    | While y body els pos =>
      cases els with
      | nil =>
        obtain ⟨h1, h2⟩ := and2 (show (mE L N sc c y && mSs L N sc b body) = true from hm)
        exact s_while hs (s_all c X W sc hs.h y h1).2 (sts_all b X W sc hs hk body h2)
      | cons _ _ => cases hm
    | _ => cases hm
  | .raise c e, X, W, sc, hs, hk, x, hm => by
    obtain ⟨g, x, p, pos, pos2, rfl, h1, h2, h3, h4, h5⟩ := raise_of hm
    subst h1
    exact s_raise hs h2 h3 h5 (s_all e X W sc hs.h x h4).1
  | .try_ _ _ _ _, _, _, _, _, _, _, hm => by cases hm
  | .brk, X, W, sc, hs, hk, x, hm => by
    cases x with
    | Break p => exact PS.imp ps_break fun E σ H ⟨m, env, st, K, re, rs, w, ak⟩ => ak.bk _ _ _ _ _ w (Wl.refl _ _) rs re
    | _ => cases hm
  | .cont, X, W, sc, hs, hk, x, hm => by
    cases x with
    | Continue p => exact PS.imp ps_continue fun E σ H ⟨m, env, st, K, re, rs, w, ak⟩ => ak.ct _ _ _ _ _ w (Wl.refl _ _) rs re
    | _ => cases hm
  | .pass, X, W, sc, hs, hk, x, hm => by
    cases x with
    | Pass p => exact PS.imp ps_pass fun E σ H ⟨m, env, st, K, re, rs, w, ak⟩ => ak.nx _ _ _ _ _ w (Wl.refl _ _) rs re
    | _ => cases hm
  | .dead, X, W, sc, hs, hk, x, hm => s_dead
theorem sts_all : ∀ (s : Ss) (X : Cx) (W : WX) (sc : Scope), HasS X L C Φ W N sc → X.env.scope.kind = .function → ∀ xs : List Stmt, mSs L N sc s xs = true → PSs X xs (tSs X C Φ W s)
  | .nil, X, W, sc, hs, hk, xs, hm => by
    cases xs with
    | nil => exact s_nil
    | cons _ _ => cases hm
  | .cons s r, X, W, sc, hs, hk, xs, hm => by
    cases xs with
    | nil => cases hm
    | cons x xs =>
      obtain ⟨h1, h2⟩ := and2 (show (mS L N sc s x && mSs L N sc r xs) = true from hm)
      have hx := st_all s X W sc hs hk x h1
      have hr := sts_all r X W sc hs hk xs h2
      cases r with
      | nil =>
        cases xs with
        | nil => exact s_one hx
        | cons _ _ => cases h2
      | cons a b => exact s_cons (fun z => by cases z) hx hr
      | frz a b => exact s_cons (fun z => by cases z) hx hr
  | .frz i r, X, W, sc, hs, hk, xs, hm => s_frz (sts_all r X W sc hs hk xs hm)
end
end
end Vm

set_option Elab.async false
set_option linter.all false
set_option maxRecDepth 100000
set_option maxHeartbeats 4000000
/-! Vm, part 19: defs, the program. -/
namespace Vm
open PySem PySem.Spec PyProof.Rows L2
/-! ### parameters -/
theorem fm_congr {α β : Type} {f g : α → Option β} : ∀ {l : List α}, (∀ x ∈ l, f x = g x) → l.filterMap f = l.filterMap g
  | [], _ => rfl
  | x :: l, h => by
    rw [List.filterMap_cons, List.filterMap_cons, h x (by simp), fm_congr fun y hy => h y (List.mem_cons_of_mem _ hy)]
theorem zip_look : ∀ {ps : List Str} {us : List Value}, ps.Nodup → us.length = ps.length → ps.filterMap (fun n => ((ps.zip us).lookup n).map fun v => (n, v)) = ps.zip us ∧ ∀ n ∈ ps, ((ps.zip us).lookup n).isSome = true
  | [], us, _, h => by cases us <;> first | exact ⟨rfl, fun n hn => by cases hn⟩ | cases h
  | p :: ps, [], _, h => by cases h
  | p :: ps, u :: us, nd, h => by
    obtain ⟨hp, nd'⟩ := List.nodup_cons.mp nd
    obtain ⟨ih1, ih2⟩ := zip_look (us := us) nd' (by simpa using h)
    have hb : (p == p) = true := beq_self_eq_true p
    refine ⟨?_, fun n hn => ?_⟩
    · rw [List.zip_cons_cons, List.filterMap_cons]
      simp only [List.lookup_cons, hb, Option.map_some]
      congr 1
      rw [← ih1]
      rw [ih1]
      refine (fm_congr fun n hn => ?_).trans ih1
      have : (n == p) = false := beq_eq_false_iff_ne.mpr fun z => hp (z ▸ hn)
      rw [this]
    · rw [List.zip_cons_cons, List.lookup_cons]
      cases e : n == p with
      | true => rfl
      | false =>
        rcases List.mem_cons.mp hn with z | z
        · rw [z, hb] at e; cases e
        · exact ih2 n z
theorem bind_plain {fd : FuncData} {as : List Arg} {kd : List (Option Expr)} {dd : List Expr} {ps : List Str} {us : List Value} (hp : fd.params = ⟨[], as, none, [], kd, none, dd⟩) (hd : fd.defaults = .none) (hm : as.map (·.arg) = ps) (nd : ps.Nodup) (hl : us.length = ps.length) :
    bindArgs fd ⟨us, []⟩ = pure (ps.zip us) := by
  obtain ⟨h1, h2⟩ := zip_look nd hl
  have e1 : seqItems? (.none : Value) = pure none := rfl
  have hmiss : (ps.filter fun n => ((ps.zip us).lookup n).isNone) = [] := by
    rw [List.filter_eq_nil_iff]
    intro n hn z
    have := h2 n hn
    rw [Option.isNone_iff_eq_none.mp z] at this
    cases this
  unfold bindArgs
  simp only [hp, hd, hm, e1, List.map_nil, List.nil_append, List.append_nil, pure_bind, Option.getD_none, List.forIn_nil, hl, gt_iff_lt, Nat.lt_irrefl, decide_false, Bool.false_and, Bool.false_eq_true, if_false, List.length_nil, Nat.sub_zero, List.drop_nil, Nat.zero_sub, List.take_length, hmiss, List.isEmpty_nil, Bool.not_true, List.zip_nil_right, Array.toList, Option.isNone_none, Bool.and_true]
  first
    | exact congrArg pure h1
    | simp [h1]
/-! ### a def does what its own syntax says -/
theorem exit_exc {st st' : Sto} {Q : QD} {c : Str} {d : D} (h : wExit st Q (.exc c d) st') : wExit st (fun x s => Q (.exc c x) s) d st' := by
  obtain ⟨n, r, h1, h2, h3, h4, q⟩ := h
  cases h4 with
  | keep l => exact ⟨n, d, h1, h2, h3, .keep l, q⟩
  | exc f => exact ⟨n, _, h1, h2, h3, f, q⟩
theorem relE_start {K : PySem.W.Frag} {mg : Str → Option Value} {m : Wm} {H : Hp} {N : List Str} : ∀ {vs : List V} {ds : List D}, RpL K mg m H vs ds → RpE K mg m H (L2.start N vs) (start ds N.length) := by
  have len : ∀ {vs : List V} {ds : List D}, RpL K mg m H vs ds → vs.length = ds.length := by
    intro vs
    induction vs with
    | nil => intro ds h; cases h; rfl
    | cons v vs ih => intro ds h; cases h with | cons a b => exact congrArg Nat.succ (ih b)
  have at_ : ∀ {vs : List V} {ds : List D}, RpL K mg m H vs ds → ∀ (i : Nat) (d : D), ds[i]? = some d → ∃ v, vs[i]? = some v ∧ Rp K mg m H v d := by
    intro vs
    induction vs with
    | nil => intro ds h i d e; cases h; simp at e
    | cons v vs ih =>
      intro ds h i d e
      cases h with
      | cons a b =>
        cases i with
        | zero =>
          rw [List.getElem?_cons_zero] at e
          cases e
          exact ⟨v, List.getElem?_cons_zero, a⟩
        | succ j =>
          rw [List.getElem?_cons_succ] at e
          obtain ⟨u, e1, e2⟩ := ih b j d e
          exact ⟨u, by rw [List.getElem?_cons_succ]; exact e1, e2⟩
  intro vs ds h
  refine ⟨?_, fun i d e => ?_⟩
  · unfold L2.start start
    simp [len h]
  · unfold start at e
    unfold L2.start
    have l := len h
    by_cases hi : i < ds.length
    · rw [List.getElem?_append_left (by rw [List.length_map]; exact hi), List.getElem?_map] at e
      cases q : ds[i]? with
      | none => rw [q] at e; cases e
      | some d' =>
        rw [q] at e
        cases e
        obtain ⟨v, e1, r⟩ := at_ h i _ q
        exact ⟨v, by rw [List.getElem?_append_left (by rw [List.length_map]; omega), List.getElem?_map, e1]; rfl, r⟩
    · rw [List.getElem?_append_right (by rw [List.length_map]; omega), List.getElem?_replicate] at e
      split at e <;> cases e
/-- what is known wherever a def of the text runs with this room -/
def KnL (P : Program) (w : World) (K : PySem.W.Frag) (mg : Str → Option Value) (base : Heap) (L : Lx) (C : Ctx) (Φ : Fn) (k : Nat) : Prop :=
  ∀ X : Cx, X.prog = P → X.w = w → X.K = K → X.mg = mg → X.base = base → Room k X.A → X.A.guards = some [] → Knows X L C Φ
theorem RpL.len {K : PySem.W.Frag} {mg : Str → Option Value} {m : Wm} {H : Hp} : ∀ {vs : List V} {ds : List D}, RpL K mg m H vs ds → vs.length = ds.length
  | _, _, .nil => rfl
  | _, _, .cons _ r => congrArg Nat.succ (RpL.len r)
/-- what else a def has where lambdas are handed on: its code's table, the def that takes them -/
structure LamD (K : PySem.W.Frag) (mg : Str → Option Value) (base : Heap) (C : Ctx) (f : Addr) (qual : Str) (fd : FuncData) : Prop where
  tb : ∃ c, fd.code = .ref c ∧ LamX.TabB base mg c (He.tabOf K c) ∧ (He.tabOf K c, qual ++ ".<locals>." ++ "<lambda>") ∈ lamT K ∧ ∀ p ∈ lamT K, p.1 = He.tabOf K c → p.2 = qual ++ ".<locals>." ++ "<lambda>"
  fn : ∃ (g : Addr) (pg : Arguments) (bg : List Stmt) (sg : Scope) (dV kV doc pm cdv ct oc : Value) (an od : Option Addr) (osl : Array (Option Value)),
    mg "_law_told" = some (.ref g) ∧ PySem.W.keepIn K (.ref g) = true ∧ K.lookup g = some ⟨oc, od, .func (PySem.W.fnOf "_law_told" "_law_told" pg bg sg dV kV doc pm an cdv ct), osl⟩ ∧ PySem.W.codeIn K cdv "_law_told" = true ∧
    L2.Binds K (PySem.W.fnOf "_law_told" "_law_told" pg bg sg dV kV doc pm an cdv ct) ["look"] [] ∧ FnScope toldN ["look"] sg ∧ toldS sg = true ∧ toldB bg = true
  we : mg "WallError" = some (.ref (He.ga K "WallError"))
  wx : ∀ c, (C.exs.lookup c).isSome = true → PySem.W.exmOne K (.ref (He.ga K c)) (.ref (He.ga K "WallError")) = some true
theorem def_ok {P : Program} {w : World} {K : PySem.W.Frag} {mg : Str → Option Value} {base : Heap} {L : Lx} {C : Ctx} {Φ : Fn} {k : Nat} {x qual : Str} {pms : Arguments} {body : List Stmt} {sc : Scope} {f : Addr} {fd : FuncData} {N ps : List Str} {b : Ss}
    (F : FunD K x qual pms body sc [] [] f fd) (S : FnScope N ps sc) (hm : mSs L N sc b body = true) (kn : KnL P w K mg base L C Φ k) (hk : 1 ≤ k) (LM : L.told = true → LamD K mg base C f qual fd) :
    FnG P w K mg base true (k + 3) f fd ps (spOf K mg ps.length (wDf Φ C x (.fn ps.length N.length b))) := by
  obtain ⟨oc, od, dV, kV, doc, pm, an, cdv, ct, osl, rfl, lk, hcd, _, _⟩ := F.ex
  refine FnG.body lk hcd S (fun vs H Q E h => h.1) fun A fr s H vs Q E room gd h => ?_
  obtain ⟨hv, m, st, ds, Q0, EX0, rs, rl, ⟨e1, e2, wb⟩, aq, ax⟩ := h
  have gd' : (A.deeper (envOfC qual sc s.heap.objs.size f cdv)).guards = some [] := gd rfl
  have o : OkX (cxOf (L2.CX P w) P w K mg base N qual sc f cdv A fr s H E) N sc :=
    ⟨rfl, S.nd, rfl, fun y n e => .inl e, fun _ _ => rfl, by have := room.un; show (A.deeper _).units + 100 < cLine; omega, gd'⟩
  have lam : L.told = true → LamK (cxOf (L2.CX P w) P w K mg base N qual sc f cdv A fr s H E) L C Φ := fun ht =>
    ⟨⟨k, kn, room, hk⟩, (LM ht).tb, (LM ht).fn, (LM ht).we, (LM ht).wx⟩
  refine ⟨_, sts_all b _ (fun cls d _ H' => E cls d H') sc (HasS.mk ⟨o, kn _ rfl rfl rfl rfl rfl (room.mono (by omega)) gd', takes_of rfl rfl rfl rfl, lam, fun _ => ⟨room.mono (by omega), rfl⟩⟩ (passes_of rfl) (room.mono (by omega))) S.kind body hm, ?_⟩
  refine ⟨m, start ds N.length, st, _, relE_start rl, rs, wb, ⟨?_, ?_, ?_, ?_, ?_⟩⟩
  · intro env' st' m' H' σ' q w1 rs1 re1
    obtain ⟨d2, st2, m2, q2, w2, rs2, r2⟩ := exit_ok w1 rs rs1 (.non) q
    exact aq d2 st2 m2 H' .non q2 w2 rs2 r2
  · intro d st' m' H' v q w1 rs1 r1
    obtain ⟨d2, st2, m2, q2, w2, rs2, r2⟩ := exit_ok w1 rs rs1 r1 q
    exact aq d2 st2 m2 H' v q2 w2 rs2 r2
  · exact fun _ _ _ _ _ q _ _ _ => q.elim
  · exact fun _ _ _ _ _ q _ _ _ => q.elim
  · intro e env' st' m' H' σ' cls dx q w1 rs1 re1 ⟨c, v, dd, u, e3, e4, e5, e6, r⟩
    subst e3
    obtain ⟨d2, st2, m2, q2, w2, rs2, r2⟩ := exit_ok w1 rs rs1 r (exit_exc q)
    exact ax _ st2 m2 H' cls dx q2 w2 rs2 ⟨c, d2, dd, u, rfl, e4, e5, e6, r2⟩
end Vm

set_option Elab.async false
set_option linter.all false
set_option maxRecDepth 100000
set_option maxHeartbeats 4000000
/-! Vm, part 20: the law's own call. -/
namespace Vm
open PySem PySem.Spec PyProof.Rows L2
section
variable {P : Program} {w : World} {K : PySem.W.Frag} {mg mb : Str → Option Value} {k : Nat} {g a : Addr} {fd : FuncData} {sp : Sp} {s : Shared} {y : Str}
/-- how the law's call has to end -/
abbrev LawEnd (s : Shared) : Result → Shared → Prop := fun r t => r = .ok (.ret (.bool true)) ∧ OldK s.heap t.heap ∧ t.os = s.os ∧ AllBare t.gens
/-- the call, where at most the script and the tables cs are told of -/
theorem law_core {H : Hp} {ob : Obj} {zs : List V} {cs : List (Addr × Addr)} (ho : HOk P w H s.heap) (hob : s.heap.get? a = some ob) (nd : ∀ es ep, ob.data = .dict es ep → False) (nf : ∀ vs, ob.data = .fields vs → False) (np : ob.data = .plain → False)
    (one : ∀ b u, H b = some u → (b = a ∧ u = .frz ob (.lst zs)) ∨ ∃ p ∈ cs, b = p.2 ∧ u = .tbl #[]) (hk : H a = none ∨ K.lookup a = none)
    (hH : ∀ p ∈ cs, H p.2 = some (.tbl #[])) (nT : ∀ p ∈ cs, K.lookup p.2 = none) (Cd : ∀ p ∈ cs, PySem.W.CodeHd s.heap p.1 p.2)
    (hbm : ∃ (bm : Addr) (ob : Obj), mg "__builtins__" = some (.ref bm) ∧ bm ≠ builtinsNs ∧ s.heap.get? bm = some ob ∧ ob.cls = .type "module" ∧ ob.dict = some builtinsNs ∧ ob.data = .plain)
    (kin : K.In s.heap) (n1 : s.heap.Ns mainGlobals mg) (n2 : s.heap.Ns builtinsNs mb) (n3 : ∀ z : Str, z ≠ "__name__" → mb z = bootBuiltins z) (n4 : s.heap.NoLimit) (g0 : s.gens = #[]) (room : Room k callerA)
    (bd : ∀ (t : Shared) (u : Value), BindsTo t fd ⟨[u], []⟩ [(y, u)]) (F : ∀ B : Heap, K.In B → B.Ns mainGlobals mg → (∀ p ∈ cs, LamX.TabB B mg p.1 p.2) → FnG P w K mg B true k g fd [y] sp) (h : sp [.ref a] H (fun v _ => v = .bl true) fun _ _ _ => False) :
    codeAny (model P w) callerA (.call (.ref g) ⟨[.ref a], []⟩) (LawEnd s) s := by
  have hT : ∀ p ∈ cs, s.heap.get? p.2 = some { cls := .none, data := .fields #[] } := fun p hp => ho p.2 _ (hH p hp)
  have out : ∀ {b : Addr} {o : Obj}, s.heap.get? b = some o → H b = none → (L2.hidT s.heap H).get? b = some o := hidT_get
  -- what is neither the script nor a table
  have free : ∀ {b : Addr} {o : Obj}, s.heap.get? b = some o → o ≠ ob → o.data ≠ .fields #[] → H b = none := fun {b o} e h1 h2 => by
    cases q : H b with
    | none => rfl
    | some u =>
      rcases one b u q with ⟨rfl, _⟩ | ⟨p, hp, rfl, _⟩
      · rw [hob] at e; exact (h1 (Option.some.inj e).symm).elim
      · rw [hT p hp] at e; cases e; exact (h2 rfl).elim
  have toN : ∀ {b : Addr} {m : Str → Option Value}, s.heap.Ns b m → (L2.hidT s.heap H).Ns b m := by
    rintro b m ⟨o, es, ep, e1, e2, e3⟩
    exact ⟨o, es, ep, out e1 (free e1 (fun z => nd _ _ (by rw [← z]; exact e2)) fun z => by rw [e2] at z; cases z), e2, e3⟩
  have kB : K.In (L2.hidT s.heap H) := by
    intro b o e
    refine out (kin b o e) ?_
    cases q : H b with
    | none => rfl
    | some u =>
      rcases one b u q with ⟨rfl, _⟩ | ⟨p, hp, rfl, _⟩
      · rcases hk with z | z
        · rw [q] at z; cases z
        · rw [e] at z; cases z
      · rw [nT p hp] at e; cases e
  have md : Mod K mg (L2.hidT s.heap H) := by
    obtain ⟨mc, c1, c2⟩ := n4
    exact ⟨kB, toN n1, ⟨mb, toN n2, n3⟩, ⟨mc, toN c1, c2⟩⟩
  have TB : ∀ p ∈ cs, LamX.TabB (L2.hidT s.heap H) mg p.1 p.2 := fun p hp => by
    refine ⟨?_, ?_, fun z => ?_⟩
    · obtain ⟨o, us, file, tf, flags, tg, inF, text, tt, e1, r1, r2, r3, r⟩ := Cd p hp
      exact ⟨o, us, file, tf, flags, tg, inF, text, tt, out e1 (free e1 (fun z => nf _ (by rw [← z]; exact r2)) fun z => by
        rw [r2] at z
        cases z
        simp at r3), r1, r2, r3, r⟩
    · obtain ⟨bm, o, b1, b2, b3, b4, b5, b6⟩ := hbm
      refine ⟨bm, o, b1, b2, fun q => ?_, fun q => ?_, out b3 (free b3 (fun z => np (by rw [← z]; exact b6)) fun z => by rw [b6] at z; cases z), b4, b5, b6⟩
      · obtain ⟨o', es, ep, e, hd, _⟩ := n1
        rw [q, e] at b3
        cases b3
        rw [hd] at b6
        cases b6
      · rw [q, hT p hp] at b3
        cases b3
        cases b6
    · obtain ⟨o, es, ep, e, hd, _⟩ := n1
      rw [z, hT p hp] at e
      cases e
      cases hd
  have en : Env0 P w K mg (L2.hidT s.heap H) callerA [] s H :=
    { frames := rfl, mod := md, bs := fun b o e => of_hidT e, bsz := Nat.le_of_eq (hidT_size _ _), funs := trivial, frf := fun b hb => (by cases hb), hok := ho, bare := .of_eq g0 }
  have rel : Vals [V.ref a] [Value.ref a] := .cons rfl .nil
  refine codeAny_mono ((F _ kB (toN n1) TB).run callerA [] s H ⟨[.ref a], []⟩ [.ref a] [.ref a] _ _ room (fun _ => rfl) en (bd s (.ref a)) rel h) fun r t q => ?_
  cases r with
  | error er =>
    obtain ⟨_, _, _, _, _, _, _, _, _, _, _, _, z⟩ := q
    exact z.elim
  | ok fl =>
    cases fl with
    | ret u =>
      obtain ⟨v, H2, c1, c2, un, ok2, rv, ev⟩ := q
      cases (show v = .bl true from ev)
      cases (show u = Value.bool true from rv)
      have key : ∀ b o, (∀ p ∈ cs, b ≠ p.2) → s.heap.get? b = some o → t.heap.get? b = some o := fun b o nb e => by
        cases z : H b with
        | none => exact un.keep b o e z (by intro n; cases n) (by simp)
        | some u =>
          rcases one b u z with ⟨rfl, rfl⟩ | ⟨p, hp, e2, _⟩
          · have z1 := (ho b _ z).1
            have z2 := (ok2 b _ (un.frzs b _ _ z)).1
            rw [e] at z1
            cases z1
            exact z2
          · exact (nb p hp e2).elim
      have grown : ∀ p ∈ cs, ∃ more : Array Value, t.heap.get? p.2 = some { cls := .none, data := .fields more } := fun p hp => by
        obtain ⟨more, z⟩ := un.tbls p.2 #[] (hH p hp)
        exact ⟨_, ok2 p.2 _ z⟩
      refine ⟨rfl, ⟨fun b o e => ?_, fun b o e => ?_⟩, c1, c2⟩
      · by_cases hb : ∃ p ∈ cs, b = p.2
        · obtain ⟨p, hp, rfl⟩ := hb
          obtain ⟨more, hm⟩ := grown p hp
          rw [hT p hp] at e
          cases e
          exact .inr (.inl ⟨((Cd p hp).tab (hT p hp)).isCodeTable, rfl, #[], more, rfl, by rw [Array.empty_append]; exact hm⟩)
        · exact .inl (key b o (fun p hp z => hb ⟨p, hp, z⟩) e)
      · by_cases hb : ∃ p ∈ cs, b = p.2
        · obtain ⟨p, hp, rfl⟩ := hb
          obtain ⟨more, hm⟩ := grown p hp
          exact ⟨_, hm⟩
        · exact ⟨o, key b o (fun p hp z => hb ⟨p, hp, z⟩) e⟩
    | next => exact False.elim q
    | brk => exact False.elim q
    | cont => exact False.elim q
/-- .. with the script -/
theorem law_call1 {cs : List (Addr × Addr)} {vs : List Value} {ns : List Int} (hob : s.heap.get? a = some { cls := .type "list", data := .seq vs.toArray }) (hi : IntsAre vs ns) (hl : ns.length ≤ sizeLine)
    (hT : ∀ p ∈ cs, s.heap.get? p.2 = some { cls := .none, data := .fields #[] }) (nT : ∀ p ∈ cs, K.lookup p.2 = none) (Cd : ∀ p ∈ cs, PySem.W.CodeHd s.heap p.1 p.2)
    (hbm : ∃ (bm : Addr) (ob : Obj), mg "__builtins__" = some (.ref bm) ∧ bm ≠ builtinsNs ∧ s.heap.get? bm = some ob ∧ ob.cls = .type "module" ∧ ob.dict = some builtinsNs ∧ ob.data = .plain)
    (kin : K.In s.heap) (n1 : s.heap.Ns mainGlobals mg) (n2 : s.heap.Ns builtinsNs mb) (n3 : ∀ z : Str, z ≠ "__name__" → mb z = bootBuiltins z) (n4 : s.heap.NoLimit) (g0 : s.gens = #[]) (room : Room k callerA)
    (bd : ∀ (t : Shared) (u : Value), BindsTo t fd ⟨[u], []⟩ [(y, u)]) (F : ∀ B : Heap, K.In B → B.Ns mainGlobals mg → (∀ p ∈ cs, LamX.TabB B mg p.1 p.2) → FnG P w K mg B true k g fd [y] sp)
    (h : ∀ H : Hp, (∀ p ∈ cs, H p.2 = some (.tbl #[])) → Rp K mg [] H (.ref a) (.scr ns) → sp [.ref a] H (fun v _ => v = .bl true) fun _ _ _ => False) :
    codeAny (model P w) callerA (.call (.ref g) ⟨[.ref a], []⟩) (LawEnd s) s := by
  have rv := vals_ints hi
  have len := hi.length
  have nd : ∀ es ep, ({ cls := .type "list", data := .seq vs.toArray } : Obj).data = .dict es ep → False := fun es ep z => by
    have z' : Data.seq vs.toArray _ = Data.dict es ep := z
    cases z'
  have nf : ∀ us, ({ cls := .type "list", data := .seq vs.toArray } : Obj).data = .fields us → False := fun us z => by
    have z' : Data.seq vs.toArray _ = Data.fields us := z
    cases z'
  have np : ({ cls := .type "list", data := .seq vs.toArray } : Obj).data = .plain → False := fun z => by
    have z' : Data.seq vs.toArray _ = Data.plain := z
    cases z'
  have aT : ∀ p ∈ cs, p.2 ≠ a := fun p hp z => by
    have q := hT p hp
    rw [z, hob] at q
    exact nf _ (congrArg Obj.data (Option.some.inj q))
  let tabs : Hp := fun b => if b ∈ cs.map (·.2) then some (.tbl #[]) else none
  have t1 : ∀ p ∈ cs, tabs p.2 = some (.tbl #[]) := fun p hp => if_pos (List.mem_map.mpr ⟨p, hp, rfl⟩)
  have t2 : ∀ b u, tabs b = some u → ∃ p ∈ cs, b = p.2 ∧ u = .tbl #[] := fun b u z => by
    have z : (if b ∈ cs.map (·.2) then some (HO.tbl #[]) else none) = some u := z
    split at z
    · rename_i hb
      obtain ⟨p, hp, e⟩ := List.mem_map.mp hb
      cases z
      exact ⟨p, hp, e.symm, rfl⟩
    · cases z
  have t3 : tabs a = none := by
    cases q : tabs a with
    | none => rfl
    | some u =>
      obtain ⟨p, hp, e, _⟩ := t2 a u q
      exact (aT p hp e.symm).elim
  cases e : K.lookup a with
  | some o =>
    have q := kin a o e
    rw [hob] at q
    cases q
    refine law_core (zs := ns.map V.int) (H := tabs) (fun b u z => ?_) hob nd nf np (fun b u z => .inr (t2 b u z)) (.inl t3) t1 nT Cd hbm kin n1 n2 n3 n4 g0 room bd F (h _ t1 (.scr (.inl ?_)))
    · obtain ⟨p, hp, rfl, rfl⟩ := t2 b u z
      exact hT p hp
    · exact .inr ⟨_, vs.toArray, _, e, rfl, rfl, rfl, by rw [List.size_toArray, len]; exact hl, by simpa using rv⟩
  | none =>
    have at_ : ∀ b u, (if b = a then some (HO.frz { cls := .type "list", data := .seq vs.toArray } (.lst (ns.map V.int))) else tabs b) = some u → (b = a ∧ u = .frz { cls := .type "list", data := .seq vs.toArray } (.lst (ns.map V.int))) ∨ ∃ p ∈ cs, b = p.2 ∧ u = .tbl #[] := by
      intro b u z
      by_cases c : b = a
      · rw [if_pos c] at z; cases z; exact .inl ⟨c, rfl⟩
      · rw [if_neg c] at z; exact .inr (t2 b u z)
    have t4 : ∀ p ∈ cs, (fun b => if b = a then some (HO.frz { cls := .type "list", data := .seq vs.toArray } (.lst (ns.map V.int))) else tabs b) p.2 = some (.tbl #[]) := fun p hp => (if_neg (aT p hp)).trans (t1 p hp)
    refine law_core (zs := ns.map V.int) (H := fun b => if b = a then some (.frz { cls := .type "list", data := .seq vs.toArray } (.lst (ns.map V.int))) else tabs b) (fun b u z => ?_) hob nd nf np at_ (.inr e) t4 nT Cd hbm kin n1 n2 n3 n4 g0 room bd F (h _ t4 (.scr (.inr ⟨{ cls := .type "list", data := .seq vs.toArray }, if_pos rfl⟩)))
    rcases at_ b u z with ⟨rfl, rfl⟩ | ⟨p, hp, rfl, rfl⟩
    · exact ⟨hob, by rw [List.length_map]; exact hl, vs, _, rv, hob⟩
    · exact hT p hp
end
/-- where the tables lie -/
def lamC (K : PySem.W.Frag) (cs : List (Addr × Addr)) : Prop := ∀ p ∈ lamT K, ∃ q ∈ cs, q.2 = p.1
theorem tabs_start {K : PySem.W.Frag} {cs : List (Addr × Addr)} {H : Hp} (h : lamC K cs) (hH : ∀ p ∈ cs, H p.2 = some (.tbl #[])) : LamX.Tabs (lamT K) H := fun p hp => by
  obtain ⟨q, hq, e⟩ := h p hp
  exact LamX.TabS.nil (by rw [← e]; exact hH q hq)
/-- THE END: a law whose def does, by its own syntax, what the law asks -/
theorem walk_vm {l : PySem.W.OpenLaw} {n k : Nat} {q : Program} {loose : List Str} {XP : (Str → Option Value) → Heap → Prop} {YP : World → Heap → Prop} {d : DefRec} {y : Str}
    (hn : l.most = some n) (hn2 : n ≤ sizeLine) (hdf : d.params.defaults = []) (room : Room k callerA)
    (F : ∀ (w : World) (mg : Str → Option Value) (g : Addr) (h : Heap), YP w h → h.Ns mainGlobals mg → mg d.name = some (.ref g) → ∃ (K : PySem.W.Frag) (fd : FuncData) (cs : List (Addr × Addr)) (φ : List D → Sto → QD → QD → Prop), K.In h ∧
      (∀ (t : Shared) (u : Value), BindsTo t fd ⟨[u], []⟩ [(y, u)]) ∧ (∀ p ∈ cs, h.get? p.2 = some { cls := .none, data := .fields #[] }) ∧ (∀ p ∈ cs, K.lookup p.2 = none) ∧ (∀ p ∈ cs, PySem.W.CodeHd h p.1 p.2) ∧ lamC K cs ∧
      (∀ B : Heap, K.In B → B.Ns mainGlobals mg → (∀ p ∈ cs, LamX.TabB B mg p.1 p.2) → FnG l.prog w K mg B true k g fd [y] (spOf K mg 1 φ)) ∧
      ∀ ns : List Int, ns.length ≤ n → (∀ z ∈ ns, Builtin.Int.intBits z ≤ 1048576) → φ [.scr ns] [] (fun x _ => x = .bl true) fun _ _ => False) :
    PySem.W.WalkO q loose XP YP l.row.toRowW d [] (fun f vs => PySem.call f vs) := by
  refine Att.attach_callB hn hdf fun w s₀ s mg mb g o pm cd doc a vs ns G Y ho hd hcd hmg hob hi hlen hbits hg => ?_
  obtain ⟨K, fd, cs, φ, kin, bd, hT, nT, Cd, lc, f, law⟩ := F w mg g _ Y G.T.g hmg
  refine law_call1 hob hi (Nat.le_trans hlen hn2) hT nT Cd G.T.bmain kin G.T.g G.T.b G.T.builtins G.T.nolimit hg room bd f fun H hH r => ⟨rfl, [], [], [.scr ns], _, _, ⟨rfl, fun n a e => (by cases e), fun i j a e => (by cases e), fun n e => (by cases e), tabs_start lc hH⟩, .cons r .nil, law ns hlen hbits, ?_, ?_⟩
  · intro x st' m' H' v e _ _ rx
    subst e
    cases rx
    rfl
  · exact fun _ _ _ _ _ _ e _ _ _ => e
end Vm

set_option Elab.async false
set_option linter.all false
set_option maxRecDepth 100000
set_option maxHeartbeats 4000000
/-! Vm, part 21: what is to be looked up about a text, as one Bool. -/
namespace Vm
open PySem PySem.Spec PyProof.Rows L2
/-- a def of the text -/
structure Dd where
  key : Str
  at_ : Str × Option Str
  name : Str
  qual : Str
  st : Stmt
  N : List Str
  ps : List Str
  b : Ss
  lam : Bool
/-- lambdas are handed on just where it is said so -/
def Dd.lx (L : Lx) (d : Dd) : Lx := { L with told := L.told && d.lam }
def adr (K : PySem.W.Frag) (p : Str × Option Str) : Addr := match p.2 with
  | none => He.ga K p.1
  | some m => match PySem.W.recIn K (He.ma K (He.ga K p.1) m) "property" with
    | some (.ref g :: _) => g
    | _ => He.ma K (He.ga K p.1) m
def Dd.a (K : PySem.W.Frag) (d : Dd) : Addr := adr K d.at_
def fnV (K : PySem.W.Frag) (a : Addr) : He.FnW := match K.lookup a with
  | some ⟨_, _, .func fd, _⟩ => some (fd.name, fd.qualname, fd.params, fd.body, fd.scope, fd.globals, fd.closure, fd.builtins)
  | _ => none
def Dd.val (d : Dd) : He.FnW := some (d.name, d.qual, defArgs d.st, .stmts (defBody d.st), defScope d.st, mainGlobals, [], builtinsNs)
def isNo : Value → Bool
  | .none => true
  | _ => false
def Dd.ok (K : PySem.W.Frag) (d : Dd) : Bool := PySem.W.keepIn K (.ref (d.a K)) && match K.lookup (d.a K) with
  | some ⟨_, _, .func fd, _⟩ => PySem.W.codeIn K fd.code d.qual && isNo fd.defaults
  | _ => false
def plainP (a : Arguments) (ps : List Str) : Bool := match a with
  | ⟨[], as, none, [], _, none, _⟩ => decide (as.map (·.arg) = ps)
  | _ => false
/-- the text alone -/
def Dd.good (L : Lx) (d : Dd) : Bool := plainP (defArgs d.st) d.ps && (C8.scC d.N d.ps (defScope d.st) && (mSs (d.lx L) d.N (defScope d.st) d.b (defBody d.st) && decide d.ps.Nodup))
structure Tx where
  L : Lx
  C : Ctx
  ds : List Dd
  mks : List (Str × Str)
  td : Option Stmt := none
  ini : Option Stmt := none
  file : Str := ""
def Tx.pg (t : Tx) : Prog := t.ds.map (fun d => (d.key, Df.fn d.ps.length d.N.length d.b)) ++ t.mks.map fun q => (q.1, Df.cls q.2)
def Tx.kd (t : Tx) (x : Str) : Option Dd := t.ds.find? fun d => d.key == x
mutual
def gV (K : PySem.W.Frag) : D → Value → Bool
  | .int i, u => match u with
    | .int j _ => decide (j = i)
    | _ => false
  | .str x, u => match u with
    | .str y _ => decide (y = x)
    | _ => false
  | .glo x, u => match u with
    | .ref a => He.eqO (PySem.W.nsIn K mainGlobals x) (some (some (.ref a)))
    | _ => false
  | .tup ds, u => match u with
    | .ref a => match K.lookup a with
      | some ⟨.type c, _, .seq its _, _⟩ => decide (c = "tuple") && (decide (its.size ≤ sizeLine) && gVs K ds its.toList)
      | _ => false
    | _ => false
  | _, _ => false
def gVs (K : PySem.W.Frag) : List D → List Value → Bool
  | [], us => us.isEmpty
  | d :: ds, us => match us with
    | u :: us => gV K d u && gVs K ds us
    | [] => false
end
def gB (K : PySem.W.Frag) (q : Str × D) : Bool := match PySem.W.nsIn K mainGlobals q.1 with
  | some (some u) => gV K q.2 u
  | _ => false
def fnB (t : Tx) (K : PySem.W.Frag) (f : Str) : Bool := match t.kd f with
  | some d => He.eqO (PySem.W.nsIn K mainGlobals f) (some (some (.ref (d.a K))))
  | none => false
def mkB (t : Tx) (K : PySem.W.Frag) (c : Str) : Bool := (t.kd c).isNone && (He.eqO (PySem.W.nsIn K mainGlobals c) (some (some (.ref (He.ga K c)))) && (PySem.W.makesIn K (He.ga K c) && (PySem.W.keepIn K (.ref (He.ga K c)) && match t.mks.lookup c with
  | some i => (match t.kd i with
    | some d => He.eqO (PySem.W.findIn K (.ref (He.ga K c)) "__init__") (some (some (.ref (d.a K)))) && PySem.W.isFn K (.ref (d.a K))
    | none => false)
  | none => false)))
def methB (t : Tx) (K : PySem.W.Frag) (c q key : Str) : Bool := match t.kd key with
  | some d => He.eqO (PySem.W.findIn K (.ref (He.ga K c)) q) (some (some (.ref (d.a K)))) && PySem.W.isFn K (.ref (d.a K))
  | none => false
def prpA (K : PySem.W.Frag) (c q : Str) : Addr := He.ma K (He.ga K c) q
def recB (K : PySem.W.Frag) (p g : Addr) : Bool := match PySem.W.recIn K p "property" with
  | some (.ref x :: _) => decide (x = g)
  | _ => false
def prpB (t : Tx) (K : PySem.W.Frag) (c q key : Str) : Bool := match t.kd key with
  | some d => He.eqO (PySem.W.findIn K (.ref (He.ga K c)) q) (some (some (.ref (prpA K c q)))) && (He.eqO (PySem.W.specialIn K (.ref (prpA K c q)) "__get__") (some (some (.builtin "property.__get__"))) &&
    (decide (PySem.W.takesIn K (.ref (prpA K c q)) = some true) && recB K (prpA K c q) (d.a K)))
  | none => false
def clsB (K : PySem.W.Frag) (c : Str) : Bool := (He.Fa.cls c).ok K && (He.eqO (PySem.W.findIn K (.ref (He.ga K c)) "__class__") (some (some (.builtin "object.__class__"))) && (decide (PySem.W.mroIn K (He.ga K c) (.type "object") = some true) &&
  (He.eqO (PySem.W.specialIn K (.builtin "object.__class__") "__get__") (some (some (.builtin "getset_descriptor.__get__"))) && decide (PySem.W.takesIn K (.builtin "object.__class__") = some true))))
def kitB (t : Tx) (K : PySem.W.Frag) (c : Str) : Bool :=
  (kdNms.all fun n => decide (PySem.W.kitOne K (.type n) (.ref (He.ga K c)) = some false) && PySem.W.notFirst K (He.ga K c) (.type n)) &&
  ((tyNms.all fun n => decide (PySem.W.kitOne K (.ref (He.ga K c)) (.type n) = some false)) &&
  t.C.cls.all fun l => decide (PySem.W.kitOne K (.ref (He.ga K c)) (.ref (He.ga K l.name)) = some (c == l.name)) && PySem.W.notFirst K (He.ga K c) (.ref (He.ga K l.name)))
def clB (t : Tx) (K : PySem.W.Frag) (l : Cl) : Bool := clsB K l.name && ((l.mths.all fun q => methB t K l.name q.1 q.2 && !(t.C.fld l.name q.1)) && ((l.prps.all fun q => prpB t K l.name q.1 q.2) && ((l.flds.all fun f => He.eqO (PySem.W.findIn K (.ref (He.ga K l.name)) f) (some none)) &&
  (kitB t K l.name && ((l.mths.lookup (PySem.Str.ofString "__eq__")).isNone || He.eqO (PySem.W.findIn K (.ref (He.ga K l.name)) "__ne__") (some (some (.builtin "object.__ne__"))))))))
/-! exceptions -/
def oexB (K : PySem.W.Frag) (C : Addr) : Bool := (match K.lookup C with
  | some ⟨.type c, _, .cls cd, sl⟩ => decide (c = "type") && (match cd.mro, sl.toList with
    | .ref C' :: bm, [_, _, _, _, some (.builtin n), _] => decide (C' = C) && (decide (n = "ValueError.__new__") && (!cd.hasDel && (cd.hasDict && HandSPX.refsVE bm)))
    | _, _ => false)
  | _ => false) && (He.eqO (PySem.W.findIn K (.ref C) "__setattr__") (some (some (.builtin "object.__setattr__"))) && (decide (PySem.W.subIn K (.ref C) (.type "BaseException") = some true) && (decide (PySem.W.typeIn K (.ref C) = some (.type "type")) && PySem.W.keepIn K (.ref C))))
def excB (K : PySem.W.Frag) (a : Addr) : Bool := He.eqO (PySem.W.findIn K (.ref a) "__getattribute__") (some (some (.builtin "BaseException.__getattribute__"))) && (He.eqO (PySem.W.findIn K (.ref a) "__getattr__") (some none) && (decide (PySem.W.subIn K (.ref a) (.type "BaseException") = some true) &&
  (PySem.W.hasDictIn K a && (He.eqO (PySem.W.findIn K (.ref a) "__class__") (some (some (.builtin "object.__class__"))) && (He.eqO (PySem.W.specialIn K (.builtin "object.__class__") "__get__") (some (some (.builtin "getset_descriptor.__get__"))) &&
  (decide (PySem.W.takesIn K (.builtin "object.__class__") = some true) && (decide (PySem.W.mroIn K a (.type "object") = some true) && He.eqO (PySem.W.findIn K (.ref a) "value") (some none))))))))
def exB (t : Tx) (K : PySem.W.Frag) (q : Str × List Str) : Bool := excB K (He.ga K q.1) && ((kdNms.all fun n => decide (PySem.W.kitOne K (.type n) (.ref (He.ga K q.1)) = some false)) && ((tyNms.all fun n => decide (PySem.W.kitOne K (.ref (He.ga K q.1)) (.type n) = some (q.2.contains (PySem.Str.ofString n)))) &&
  t.C.exs.all fun r => decide (PySem.W.kitOne K (.ref (He.ga K q.1)) (.ref (He.ga K r.1)) = some (q.2.contains r.1))))
def iniA (K : PySem.W.Frag) : Addr := He.ma K (He.ga K "WallError") "__init__"
/-- a built-in of that name is found -/
def biB (a : Option (Option Value)) (x : String) : Bool := match a with
  | some (some (.builtin n)) => decide (n = x)
  | _ => false
theorem biB_ok {a : Option (Option Value)} {x : String} (h : biB a x = true) : a = some (some (.builtin x)) := by
  unfold biB at h
  split at h
  · rw [of_decide_eq_true h]
  · cases h
def raB (K : PySem.W.Frag) (c : Str) : Bool := He.eqO (PySem.W.nsIn K mainGlobals c) (some (some (.ref (He.ga K c)))) && (oexB K (He.ga K c) && ((PySem.W.clsIn K (He.ga K c)).isSome && (decide (PySem.W.mroIn K (He.ga K c) (.ref (He.ga K "WallError")) = some true) &&
  (biB (PySem.W.ks_superIn K (He.ga K c) (He.ga K "WallError") "__init__") "ValueError.__init__" && (decide (PySem.W.subIn K (.ref (He.ga K c)) (.type "ValueError") = some true) && (He.eqO (PySem.W.findIn K (.ref (He.ga K c)) "value") (some none) &&
  (He.eqO (PySem.W.findIn K (.ref (He.ga K c)) "__init__") (some (some (.ref (iniA K)))) && decide (PySem.W.typeIn K (.ref (iniA K)) = some (.type "function")))))))))
abbrev InW : Type := Option (Str × Str × Arguments × FuncBody × Scope × Addr × List Str × Addr)
def inV (K : PySem.W.Frag) (a : Addr) : InW := match K.lookup a with
  | some ⟨_, _, .func fd, _⟩ => some (fd.name, fd.qualname, fd.params, fd.body, fd.scope, fd.globals, fd.closure.map (·.1), fd.builtins)
  | _ => none
def inVal (st : Stmt) : InW := some ("__init__", "WallError.__init__", defArgs st, .stmts (defBody st), defScope st, mainGlobals, ["__class__"], builtinsNs)
def fileB (K : PySem.W.Frag) (c : Addr) (file : Str) : Bool := match K.lookup c with
  | some ⟨_, _, .fields vs, _⟩ => (match (vs[2]? : Option Value) with
    | some (.str fl _) => decide (fl = file)
    | _ => false)
  | _ => false
def cellB (K : PySem.W.Frag) (c w : Addr) : Bool := match K.lookup c with
  | some ⟨_, _, .cell (some (.ref x)), _⟩ => decide (x = w)
  | _ => false
def iniB (K : PySem.W.Frag) (file : Str) : Bool := (match K.lookup (iniA K) with
  | some ⟨_, _, .func fd, _⟩ => (match fd.code, fd.closure with
    | .ref c, [(_, cc)] => PySem.W.codeIn K (.ref c) "WallError.__init__" && (fileB K c file && (cellB K cc (He.ga K "WallError") && isNo fd.defaults))
    | _, _ => false)
  | _ => false) && ((PySem.W.clsIn K (He.ga K "WallError")).isSome && (He.eqO (PySem.W.nsIn K mainGlobals "super") (some none) && He.eqO (PySem.W.nsIn K cStatics "thirdparty.any") (some none)))
/-! lambdas -/
/-- the code objects of lamT, their tables -/
def lamCs (K : PySem.W.Frag) : List (Addr × Addr) := K.filterMap fun q => match q.2.data with
  | .func fd => (match fd.code with
    | .ref c => if (PySem.W.codeHdIn K c (He.tabOf K c) && (K.lookup (He.tabOf K c)).isNone) = true then some (c, He.tabOf K c) else none
    | _ => none)
  | _ => none
theorem lamCs_at {K : PySem.W.Frag} {p : Addr × Addr} (h : p ∈ lamCs K) : PySem.W.codeHdIn K p.1 p.2 = true ∧ K.lookup p.2 = none ∧ ∃ q, (p.2, q) ∈ lamT K := by
  obtain ⟨⟨a, o⟩, hm, e⟩ := List.mem_filterMap.mp h
  split at e
  · rename_i fd hd
    split at e
    · rename_i c hc
      split at e
      · rename_i hb
        cases e
        obtain ⟨h1, h2⟩ := He.ba hb
        refine ⟨h1, Option.isNone_iff_eq_none.mp h2, fd.qualname ++ ".<locals>." ++ "<lambda>", List.mem_filterMap.mpr ⟨(a, o), hm, ?_⟩⟩
        have hd' : o.data = Data.func fd := hd
        simp only [hd', hc, hb, if_true]
      · cases e
    · cases e
  · cases e
theorem lamT_at {K : PySem.W.Frag} {p : Addr × Str} (h : p ∈ lamT K) : ∃ q ∈ lamCs K, q.2 = p.1 := by
  obtain ⟨⟨a, o⟩, hm, e⟩ := List.mem_filterMap.mp h
  split at e
  · rename_i fd hd
    split at e
    · rename_i c hc
      split at e
      · rename_i hb
        cases e
        refine ⟨(c, He.tabOf K c), List.mem_filterMap.mpr ⟨(a, o), hm, ?_⟩, rfl⟩
        have hd' : o.data = Data.func fd := hd
        simp only [hd', hc, hb, if_true]
      · cases e
    · cases e
  · cases e
def codeA (K : PySem.W.Frag) (a : Addr) : Addr := match K.lookup a with
  | some ⟨_, _, .func fd, _⟩ => (match fd.code with
    | .ref c => c
    | _ => 0)
  | _ => 0
def lamB (T : List (Addr × Str)) (P : Addr) (q : Str) : Bool := T.contains (P, q) && T.all fun p => !decide (p.1 = P) || decide (p.2 = q)
def tdB (t : Tx) (K : PySem.W.Frag) : Bool := He.eqO (PySem.W.nsIn K mainGlobals "_law_told") (some (some (.ref (He.ga K "_law_told")))) && (PySem.W.keepIn K (.ref (He.ga K "_law_told")) && ((match K.lookup (He.ga K "_law_told") with
  | some ⟨_, _, .func fd, _⟩ => PySem.W.codeIn K fd.code "_law_told" && isNo fd.defaults
  | _ => false) && (He.eqO (PySem.W.nsIn K mainGlobals "WallError") (some (some (.ref (He.ga K "WallError")))) && ((t.C.exs.all fun q => decide (PySem.W.exmOne K (.ref (He.ga K q.1)) (.ref (He.ga K "WallError")) = some true)) &&
  t.ds.all fun d => !d.lam || (PySem.W.codeHdIn K (codeA K (d.a K)) (He.tabOf K (codeA K (d.a K))) && lamB (lamT K) (He.tabOf K (codeA K (d.a K))) (d.qual ++ ".<locals>." ++ "<lambda>"))))))
def Tx.xk (t : Tx) (K : PySem.W.Frag) : Bool := t.C.exs.all (exB t K) && ((K.lookup sysModules).isSome && (t.L.exs.isEmpty || (t.ini.isSome && (t.L.exs.all (raB K) && iniB K t.file))) && (!t.L.told || (t.td.isSome && tdB t K)))
def toldVal (st : Stmt) : He.FnW := some ("_law_told", "_law_told", defArgs st, .stmts (defBody st), defScope st, mainGlobals, [], builtinsNs)
/-- the texts of __init__, _law_told alone -/
def iniBody : List Stmt → Bool
  | [.Expr (.Call (.Attribute (.Call (.Name s _) [] [] _) i p2) [.Name v _] [] p4) _, .Assign [.Attribute (.Name s2 _) v2 _] (.Name v3 _) _] => decide (s = "super") && (decide (i = "__init__") && (decide (v = "value") && (decide (s2 = "self") && (decide (v2 = "value") && (decide (v3 = "value") && (p2.endLine == p4.line))))))
  | _ => false
def iniSc (sc : Scope) : Bool := decide (sc.names.lookup ("super" : Str) = some .globalImplicit) && (decide (sc.names.lookup ("__class__" : Str) = some .free) && (decide (sc.names.lookup ("self" : Str) = some .local) && (decide (sc.names.lookup ("value" : Str) = some .local) &&
  ((sc.names.all fun y => !decide (y.2 = .cell) && (!decide (y.2 = .free) || decide (y.1 = "__class__"))) && (decide (sc.kind = .function) && (!sc.isCoroutine && !sc.isGenerator))))))
def iniT (st : Stmt) : Bool := plainP (defArgs st) psI && (iniBody (defBody st) && iniSc (defScope st))
def toldT (st : Stmt) : Bool := plainP (defArgs st) ["look"] && (C8.scC toldN ["look"] (defScope st) && (toldS (defScope st) && toldB (defBody st)))
def Tx.txt (t : Tx) : Bool := (match t.ini with
  | some st => iniT st
  | none => true) && (match t.td with
  | some st => toldT st
  | none => true)
def Tx.ex (t : Tx) (K : PySem.W.Frag) : Bool := t.ds.all (fun d => d.ok K) && (bltNms.all (fun x => He.eqO (PySem.W.nsIn K mainGlobals x) (some none)) && (t.C.glo.all (gB K) && (t.L.fns.all (fnB t K) && (t.L.cls.all (mkB t K) && (t.C.cls.all (clB t K) && t.xk K)))))
/-! ### what it tells -/
section
variable {P : Program} {w : World} {K : PySem.W.Frag} {mg : Str → Option Value} {base : Heap} {t : Tx}
theorem Dd.fun_ {d : Dd} (e : fnV K (d.a K) = d.val) (c : d.ok K = true) : ∃ fd, FunD K d.name d.qual (defArgs d.st) (defBody d.st) (defScope d.st) [] [] (d.a K) fd ∧ fd.defaults = .none := by
  obtain ⟨kp, c2⟩ := He.ba c
  unfold fnV at e
  cases q : K.lookup (d.a K) with
  | none => rw [q] at c2; cases c2
  | some o =>
    obtain ⟨oc, od, dt, osl⟩ := o
    rw [q] at c2 e
    cases dt with
    | func fd =>
      obtain ⟨n1, n2, n3, n4, n5, n6, n7, n8, n9, n10, n11, n12, n13, n14, n15⟩ := fd
      have e2 : (some (n1, n2, n3, n4, n5, n6, n7, n15) : He.FnW) = some (d.name, d.qual, defArgs d.st, .stmts (defBody d.st), defScope d.st, mainGlobals, [], builtinsNs) := e
      simp only [Option.some.injEq, Prod.mk.injEq] at e2
      obtain ⟨rfl, rfl, rfl, rfl, rfl, rfl, rfl, rfl⟩ := e2
      obtain ⟨k1, k2⟩ := He.ba (show (PySem.W.codeIn K n13 d.qual && isNo n8) = true from c2)
      have k3 : n8 = .none := by cases n8 <;> first | rfl | cases k2
      subst k3
      exact ⟨_, ⟨⟨oc, od, .none, n9, n10, n11, n12, n13, n14, osl, rfl, q, k1, .inl ⟨rfl, rfl⟩, .inl rfl⟩, kp⟩, rfl⟩
    | _ => cases c2
theorem binds_of {d : Dd} {L : Lx} {f : Addr} {fd : FuncData} (F : FunD K d.name d.qual (defArgs d.st) (defBody d.st) (defScope d.st) [] [] f fd) (df : fd.defaults = .none) (g : d.good L = true) : Binds K fd d.ps [] ∧ ∀ (s : Shared) (us : List Value), us.length = d.ps.length → BindsTo s fd ⟨us, []⟩ (d.ps.zip us) := by
  obtain ⟨g1, g2⟩ := He.ba g
  obtain ⟨_, g3⟩ := He.ba g2
  obtain ⟨_, g4⟩ := He.ba g3
  obtain ⟨oc, od, dV, kV, doc, pm, an, cdv, ct, osl, rfl, _, _, _, _⟩ := F.ex
  have key : ∀ us : List Value, us.length = d.ps.length → bindArgs (PySem.W.fnOf d.name d.qual (defArgs d.st) (defBody d.st) (defScope d.st) dV kV doc pm an cdv ct) ⟨us, []⟩ = pure (d.ps.zip us) := by
    intro us hl
    unfold plainP at g1
    split at g1
    · rename_i as kd dd e
      exact bind_plain (as := as) (kd := kd) (dd := dd) e df (of_decide_eq_true g1) (of_decide_eq_true g4) hl
    · cases g1
  exact ⟨.all key, fun s us hl => .of_eq (key us hl)⟩
theorem ga_of {x : Str} {a : Addr} (h : PySem.W.nsIn K mainGlobals x = some (some (.ref a))) : He.ga K x = a := by
  unfold He.ga
  rw [h]
mutual
theorem gV_ok (kin : K.In base) (ns : base.Ns mainGlobals mg) : ∀ (d : D) (u : Value), gV K d u = true → ∃ v, RelV v u ∧ ∀ m H, Rp K mg m H v d
  | .int i, u, h => by
    cases u with
    | int j tk => exact ⟨.int i, ⟨tk, by rw [of_decide_eq_true (show decide (j = i) = true from h)]⟩, fun m H => .int i⟩
    | _ => cases h
  | .str x, u, h => by
    cases u with
    | str y tk => exact ⟨.str x, ⟨tk, by rw [of_decide_eq_true (show decide (y = x) = true from h)]⟩, fun m H => .str x⟩
    | _ => cases h
  | .glo x, u, h => by
    cases u with
    | ref a =>
      have e := He.eqO_ok h
      exact ⟨.ref a, rfl, fun m H => .glo (PySem.W.mg_of kin ns e) (ga_of e)⟩
    | _ => cases h
  | .tup ds, u, h => by
    cases u with
    | ref a =>
      have h1 : (match K.lookup a with
        | some ⟨.type c, _, .seq its _, _⟩ => decide (c = "tuple") && (decide (its.size ≤ sizeLine) && gVs K ds its.toList)
        | _ => false) = true := h
      split at h1
      · rename_i c od its n osl q
        obtain ⟨h2, h3⟩ := He.ba h1
        obtain ⟨h4, h5⟩ := He.ba h3
        obtain ⟨vs, r1, r2⟩ := gVs_ok kin ns ds _ h5
        exact ⟨.ref a, rfl, fun m H => .tup (.inr ⟨_, its, n, q, congrArg Value.type (of_decide_eq_true h2), rfl, of_decide_eq_true h4, r1⟩) (r2 m H)⟩
      · cases h1
    | _ => cases h
  | .non, u, h => by cases h
  | .bl _, u, h => by cases h
  | .ty _, u, h => by cases h
  | .scr _, u, h => by cases h
  | .lst _, u, h => by cases h
  | .dct _, u, h => by cases h
  | .dcT _, u, h => by cases h
  | .obj _ _, u, h => by cases h
  | .exc _ _, u, h => by cases h
  | .ref _, u, h => by cases h
theorem gVs_ok (kin : K.In base) (ns : base.Ns mainGlobals mg) : ∀ (ds : List D) (us : List Value), gVs K ds us = true → ∃ vs, Vals vs us ∧ ∀ m H, RpL K mg m H vs ds
  | [], us, h => by
    cases us with
    | nil => exact ⟨[], .nil, fun _ _ => .nil⟩
    | cons _ _ => cases h
  | d :: ds, us, h => by
    cases us with
    | nil => cases h
    | cons u us =>
      obtain ⟨h1, h2⟩ := He.ba (show (gV K d u && gVs K ds us) = true from h)
      obtain ⟨v, r1, r2⟩ := gV_ok kin ns d u h1
      obtain ⟨vs, r3, r4⟩ := gVs_ok kin ns ds us h2
      exact ⟨v :: vs, .cons r1 r3, fun m H => .cons (r2 m H) (r4 m H)⟩
end
/-- all that is told -/
structure Told (P : Program) (w : World) (K : PySem.W.Frag) (mg : Str → Option Value) (base : Heap) (t : Tx) : Prop where
  good : ∀ d ∈ t.ds, d.good t.L = true
  val : ∀ d ∈ t.ds, fnV K (d.a K) = d.val
  ex : t.ex K = true
  kin : K.In base
  ns : base.Ns mainGlobals mg
  txt : t.txt = true
  tdv : ∀ st, t.td = some st → fnV K (He.ga K "_law_told") = toldVal st
  inv : ∀ st, t.ini = some st → inV K (iniA K) = inVal st
  tab : ∀ p ∈ lamCs K, LamX.TabB base mg p.1 p.2
  fil : (P.main.file : Str) = t.file ∧ (P.main.scope.names.lookup ("super" : Str)).isSome = false
theorem kd_mem {x : Str} {d : Dd} (h : t.kd x = some d) : d ∈ t.ds ∧ d.key = x := ⟨List.mem_of_find?_eq_some h, by simpa using List.find?_some h⟩
theorem pg_fn {x : Str} {d : Dd} (h : t.kd x = some d) : t.pg.lookup x = some (.fn d.ps.length d.N.length d.b) := by
  have key : ∀ (l : List Dd) (r : Prog), l.find? (fun d => d.key == x) = some d → (l.map (fun d => (d.key, Df.fn d.ps.length d.N.length d.b)) ++ r).lookup x = some (.fn d.ps.length d.N.length d.b) := by
    intro l r
    induction l with
    | nil => intro h; cases h
    | cons y l ih =>
      intro h
      rw [List.map_cons, List.cons_append, List.lookup_cons]
      cases e : y.key == x with
      | true =>
        rw [List.find?_cons_of_pos (p := fun d : Dd => d.key == x) e] at h
        cases h
        rw [show (x == d.key) = true by rw [beq_iff_eq] at e ⊢; exact e.symm]
      | false =>
        rw [List.find?_cons_of_neg (by simp [e])] at h
        rw [show (x == y.key) = false by rw [beq_eq_false_iff_ne] at e ⊢; exact fun z => e z.symm]
        exact ih h
  exact key _ _ h
theorem pg_cls {x i : Str} (h : t.kd x = none) (e : t.mks.lookup x = some i) : t.pg.lookup x = some (.cls i) := by
  have k1 : ∀ (l : List Dd) (r : Prog), l.find? (fun d => d.key == x) = none → (l.map (fun d => (d.key, Df.fn d.ps.length d.N.length d.b)) ++ r).lookup x = r.lookup x := by
    intro l r
    induction l with
    | nil => intro _; rfl
    | cons y l ih =>
      intro h
      rw [List.map_cons, List.cons_append, List.lookup_cons]
      cases e : y.key == x with
      | true => rw [List.find?_cons_of_pos (p := fun d : Dd => d.key == x) e] at h; cases h
      | false =>
        rw [List.find?_cons_of_neg (by simp [e])] at h
        rw [show (x == y.key) = false by rw [beq_eq_false_iff_ne] at e ⊢; exact fun z => e z.symm]
        exact ih h
  have k2 : ∀ (l : List (Str × Str)), l.lookup x = some i → (l.map fun q => (q.1, Df.cls q.2)).lookup x = some (.cls i) := by
    intro l
    induction l with
    | nil => intro h; cases h
    | cons y l ih =>
      obtain ⟨y1, y2⟩ := y
      intro h
      rw [List.map_cons, List.lookup_cons]
      rw [List.lookup_cons] at h
      cases e : x == y1 with
      | true => rw [e] at h; cases h; rfl
      | false => rw [e] at h; exact ih h
  exact (k1 _ _ h).trans (k2 _ e)
theorem mem_look {α : Type} {x : Str} {v : α} : ∀ {l : List (Str × α)}, l.lookup x = some v → (x, v) ∈ l
  | [], h => by cases h
  | (y, u) :: l, h => by
    rw [List.lookup_cons] at h
    cases e : x == y with
    | true =>
      rw [e] at h
      cases h
      rw [beq_iff_eq.mp e]
      exact List.mem_cons_self ..
    | false =>
      rw [e] at h
      exact List.mem_cons_of_mem _ (mem_look h)
theorem cl_mem {c : Str} {l : Cl} (h : t.C.cl c = some l) : l ∈ t.C.cls ∧ l.name = c := ⟨List.mem_of_find?_eq_some h, by simpa using List.find?_some h⟩
/-- the arity -/
theorem wPr_len {x : Str} {d : Dd} (h : t.kd x = some d) : ∀ (n : Nat) {ds : List D} {st : Sto} {Q EX : QD}, wPr t.C t.pg n x ds st Q EX → ds.length = d.ps.length
  | 0, _, _, _, _, h => h.elim
  | n + 1, ds, st, Q, EX, z => by
    unfold wPr at z
    rw [pg_fn h] at z
    exact z.1
section
variable (T : Told P w K mg base t)
/-- a callee, the promise known -/
theorem callee_of {x : Str} {d : Dd} {n more : Nat} {X : Cx} (h : t.kd x = some d) (T : Told P w K mg base t) (e1 : X.prog = P) (e2 : X.w = w) (e3 : X.K = K) (e4 : X.mg = mg) (e5 : X.base = base) (room : Room (4 * n + more) X.A) (gd : X.A.guards = some [])
    (F : ∀ fd, FunD K d.name d.qual (defArgs d.st) (defBody d.st) (defScope d.st) [] [] (d.a K) fd → FnG P w K mg base true (4 * n) (d.a K) fd d.ps (spOf K mg d.ps.length (wPr t.C t.pg n x))) : Callee X (d.a K) (wPr t.C t.pg n x) more := by
  subst e1 e2 e3 e4 e5
  obtain ⟨hm, _⟩ := kd_mem h
  have ok := (He.ba T.ex).1
  obtain ⟨fd, f, df⟩ := Dd.fun_ (T.val d hm) (List.all_eq_true.mp ok d hm)
  exact ⟨true, 4 * n, fd, d.ps, d.ps.length, F fd f, rfl, fun _ _ _ _ z => wPr_len h n z, room, fun _ => gd, (binds_of f df (T.good d hm)).1⟩
end
end
end Vm

set_option Elab.async false
set_option linter.all false
set_option maxRecDepth 100000
set_option maxHeartbeats 4000000
/-! Vm, part 22: what is looked up is what the rules ask for. -/
namespace Vm
open PySem PySem.Spec PyProof.Rows L2
section
variable {P : Program} {w : World} {K : PySem.W.Frag} {mg : Str → Option Value} {base : Heap} {t : Tx}
def Lvl (P : Program) (w : World) (K : PySem.W.Frag) (mg : Str → Option Value) (base : Heap) (t : Tx) (n : Nat) : Prop :=
  ∀ x d, t.kd x = some d → ∀ fd, FunD K d.name d.qual (defArgs d.st) (defBody d.st) (defScope d.st) [] [] (d.a K) fd → FnG P w K mg base true (4 * n) (d.a K) fd d.ps (spOf K mg d.ps.length (wPr t.C t.pg n x))
theorem cl_some {c : Str} (h : (t.C.cl c).isSome = true) : ∃ l ∈ t.C.cls, l.name = c ∧ t.C.cl c = some l := by
  obtain ⟨l, e⟩ := Option.isSome_iff_exists.mp h
  exact ⟨l, (cl_mem e).1, (cl_mem e).2, e⟩
theorem all_mem {α : Type} {l : List α} {p : α → Bool} (h : l.all p = true) {x : α} (hx : x ∈ l) : p x = true := List.all_eq_true.mp h x hx
theorem kp_of (T : Told P w K mg base t) {d : Dd} (h : d ∈ t.ds) : PySem.W.keepIn K (.ref (d.a K)) = true := (He.ba (all_mem (He.ba T.ex).1 h)).1
theorem meth_of (T : Told P w K mg base t) {c q key : Str} (h : methB t K c q key = true) : ∃ d, t.kd key = some d ∧ Meth K (He.ga K c) q (d.a K) := by
  unfold methB at h
  split at h
  · rename_i d e
    obtain ⟨h1, h2⟩ := He.ba h
    exact ⟨d, e, He.eqO_ok h1, h2, kp_of T (kd_mem e).1⟩
  · cases h
theorem prop_of (T : Told P w K mg base t) {c q key : Str} (h : prpB t K c q key = true) : ∃ d p, t.kd key = some d ∧ PropOf K (He.ga K c) q p (d.a K) := by
  unfold prpB at h
  split at h
  · rename_i d e
    obtain ⟨h1, h2⟩ := He.ba h
    obtain ⟨h3, h4⟩ := He.ba h2
    obtain ⟨h5, h6⟩ := He.ba h4
    refine ⟨d, prpA K c q, e, He.eqO_ok h1, He.eqO_ok h3, of_decide_eq_true h5, ?_⟩
    unfold recB at h6
    split at h6
    · rename_i x r z
      exact ⟨r, by rw [z, of_decide_eq_true h6]⟩
    · cases h6
  · cases h
theorem oexB_ok {C : Addr} (h : oexB K C = true) : OexC K C := by
  obtain ⟨h1, h⟩ := He.ba h
  obtain ⟨h2, h⟩ := He.ba h
  obtain ⟨h3, h⟩ := He.ba h
  obtain ⟨h4, h5⟩ := He.ba h
  refine ⟨?_, He.eqO_ok h2, of_decide_eq_true h3, of_decide_eq_true h4, h5⟩
  split at h1
  · rename_i c od cd sl q
    obtain ⟨g1, h1⟩ := He.ba h1
    split at h1
    · rename_i C' bm k0 k1 k2 k3 n k5 e1 e2
      obtain ⟨g2, h1⟩ := He.ba h1
      obtain ⟨g3, h1⟩ := He.ba h1
      obtain ⟨g4, h1⟩ := He.ba h1
      obtain ⟨g5, g6⟩ := He.ba h1
      have g1 := of_decide_eq_true g1
      have g2 := of_decide_eq_true g2
      have g3 := of_decide_eq_true g3
      subst g1 g2 g3
      obtain ⟨nm, bs, mro, N, qn, hd, sn, sub, ab, col, dl⟩ := cd
      dsimp only at e1 g4 g5
      subst e1
      have g4 : dl = false := by simpa using g4
      subst g4 g5
      have e3 : sl = #[k0, k1, k2, k3, some (.builtin "ValueError.__new__"), k5] := by
        rw [← Array.toArray_toList (xs := sl), e2]
      rw [e3] at q
      exact ⟨nm, qn, N, bs, bm, sn, sub, ab, col, od, k0, k1, k2, k3, k5, q, g6⟩
    · cases h1
  · cases h1
theorem excB_ok {a : Addr} (h : excB K a = true) : ExK K a := by
  obtain ⟨h1, h⟩ := He.ba h
  obtain ⟨h2, h⟩ := He.ba h
  obtain ⟨h3, h⟩ := He.ba h
  obtain ⟨h4, h⟩ := He.ba h
  obtain ⟨h5, h⟩ := He.ba h
  obtain ⟨h6, h⟩ := He.ba h
  obtain ⟨h7, h⟩ := He.ba h
  obtain ⟨h8, h9⟩ := He.ba h
  exact ⟨⟨He.eqO_ok h1, He.eqO_ok h2, of_decide_eq_true h3, h4, He.eqO_ok h5, He.eqO_ok h6, of_decide_eq_true h7, of_decide_eq_true h8⟩, ⟨He.eqO_ok h1, He.eqO_ok h2, of_decide_eq_true h3, h4⟩, He.eqO_ok h9⟩
theorem ex_xk (T : Told P w K mg base t) : t.xk K = true := (He.ba (He.ba (He.ba (He.ba (He.ba (He.ba T.ex).2).2).2).2).2).2
theorem exB_of (T : Told P w K mg base t) {c : Str} {anc : List Str} (h : t.C.exs.lookup c = some anc) : exB t K (c, anc) = true := all_mem (He.ba (ex_xk T)).1 (mem_look h)
theorem iniBody_of {b : List Stmt} (h : iniBody b = true) : ∃ p0 p1 p2 p3 p4 p5 p6 p7 p8 p9, b = [.Expr (.Call (.Attribute (.Call (.Name "super" p0) [] [] p1) "__init__" p2) [.Name "value" p3] [] p4) p5, .Assign [.Attribute (.Name "self" p6) "value" p7] (.Name "value" p8) p9] ∧ (p2.endLine == p4.line) = true := by
  unfold iniBody at h
  split at h
  · simp only [Bool.and_eq_true, decide_eq_true_eq] at h
    obtain ⟨rfl, rfl, rfl, rfl, rfl, rfl, hl⟩ := h
    exact ⟨_, _, _, _, _, _, _, _, _, _, rfl, hl⟩
  · cases h
theorem ini_of (T : Told P w K mg base t) {st : Stmt} (hs : t.ini = some st) (hb : iniB K t.file = true) : ∃ fd cc cda, InF P K (iniA K) (He.ga K "WallError") cc cda fd ∧ fd.params = defArgs st ∧ fd.defaults = .none := by
  have e := T.inv st hs
  have txt := (He.ba T.txt).1
  rw [hs] at txt
  obtain ⟨t1, t2⟩ := He.ba (show iniT st = true from txt)
  obtain ⟨t3, t4⟩ := He.ba t2
  obtain ⟨f1, f2⟩ := T.fil
  unfold iniSc at t4
  simp only [Bool.and_eq_true, decide_eq_true_eq, Bool.not_eq_true', List.all_eq_true, Bool.or_eq_true, decide_eq_false_iff_not] at t4
  obtain ⟨s1, s2, s3, s4, s5, s6, s7, s8⟩ := t4
  obtain ⟨h1, h2⟩ := He.ba hb
  obtain ⟨h3, h4⟩ := He.ba h2
  obtain ⟨h5, h6⟩ := He.ba h4
  obtain ⟨cdD, hcd⟩ := Option.isSome_iff_exists.mp h3
  unfold inV at e
  cases q : K.lookup (iniA K) with
  | none => rw [q] at h1; cases h1
  | some o =>
    obtain ⟨oc, od, dt, osl⟩ := o
    rw [q] at h1 e
    cases dt with
    | func fd =>
      obtain ⟨n1, n2, n3, n4, n5, n6, n7, n8, n9, n10, n11, n12, n13, n14, n15⟩ := fd
      have e2 : (some (n1, n2, n3, n4, n5, n6, n7.map (·.1), n15) : InW) = inVal st := e
      unfold inVal at e2
      simp only [Option.some.injEq, Prod.mk.injEq] at e2
      obtain ⟨rfl, rfl, rfl, rfl, rfl, rfl, ec, rfl⟩ := e2
      obtain ⟨c, y, cc, rfl, rfl, h1⟩ : ∃ c y cc, n13 = .ref c ∧ n7 = [(y, cc)] ∧ (PySem.W.codeIn K (.ref c) "WallError.__init__" && (fileB K c t.file && (cellB K cc (He.ga K "WallError") && isNo n8))) = true := by
        clear ec e q
        cases n13 with
        | ref c =>
          cases n7 with
          | nil => cases h1
          | cons y r =>
            cases r with
            | cons _ _ => cases h1
            | nil => exact ⟨c, y.1, y.2, rfl, rfl, h1⟩
        | _ => cases h1
      have ec : y = "__class__" := by
        simp only [List.map_cons, List.map_nil, List.cons.injEq, and_true] at ec
        exact ec
      subst ec
      obtain ⟨g1, h1⟩ := He.ba h1
      obtain ⟨g2, h1⟩ := He.ba h1
      obtain ⟨g3, g4⟩ := He.ba h1
      have k3 : n8 = .none := by cases n8 <;> first | rfl | cases g4
      subst k3
      unfold fileB at g2
      split at g2
      · rename_i ccl cdd vs ccs q2
        split at g2
        · rename_i fl tf q3
          have g2 := of_decide_eq_true g2
          subst g2
          unfold cellB at g3
          split at g3
          · rename_i cl cld x csl q4
            have g3 := of_decide_eq_true g3
            subst g3
            obtain ⟨p0, p1, p2, p3, p4, p5, p6, p7, p8, p9, eb, hl⟩ := iniBody_of t3
            obtain ⟨ar, hh, ha⟩ : ∃ ar, ((defArgs st).posonlyargs ++ (defArgs st).args).head? = some ar ∧ ar.arg = "self" := by
              unfold plainP at t1
              split at t1
              · rename_i as kd dd ed
                rw [ed]
                have t1 : as.map (·.arg) = psI := of_decide_eq_true t1
                cases as with
                | nil => cases t1
                | cons a r =>
                  rw [List.map_cons] at t1
                  exact ⟨a, rfl, (List.cons.inj t1).1⟩
              · cases t1
            refine ⟨_, cc, c, ⟨oc, ccl, cl, od, cdd, cld, "WallError.__init__", defArgs st, defScope st, .none, n9, n10, n11, n14, n12, osl, ccs, csl, vs, t.file, tf, cdD, ar, p0, p1, p2, p3, p4, p5, p6, p7, p8, p9,
              rfl, ?_, g1, q2, q3, by rw [f1]; exact beq_self_eq_true _, q4, hcd, He.eqO_ok h5, He.eqO_ok h6, s1, s2, s3, s4, fun y hy => (s5 y hy).1, fun y hy => ?_, s6, s7, s8, hh, ha, hl, f2⟩, rfl, rfl⟩
            · rw [q, eb]
            · rcases (s5 _ (PySem.mem_of_lookup hy)).2 with z | z
              · exact absurd rfl z
              · exact z
          · cases g3
        · cases g2
      · cases g2
    | _ => cases h1
theorem sys_of (T : Told P w K mg base t) : ∃ o, base.get? sysModules = some o := by
  obtain ⟨o, e⟩ := Option.isSome_iff_exists.mp (He.ba (He.ba (He.ba (ex_xk T)).2).1).1
  exact ⟨o, T.kin _ _ e⟩
theorem rai_of (T : Told P w K mg base t) {c : Str} (h : t.L.exs.contains c = true) : mg c = some (.ref (He.ga K c)) ∧ ∃ f W fd, ExC K f W (He.ga K c) ∧ PySem.W.findIn K (.ref (He.ga K c)) "__init__" = some (some (.ref f)) ∧ PySem.W.typeIn K (.ref f) = some (.type "function") ∧
    FnOk P w K mg base (L2.CX P w) 1 f fd psI (spI K f W) ∧ Binds K fd psI [] := by
  have x := (He.ba (He.ba (He.ba (ex_xk T)).2).1).2
  have ne : t.L.exs.isEmpty = false := by
    cases q : t.L.exs with
    | nil => rw [q] at h; cases h
    | cons _ _ => rfl
  rw [ne, Bool.false_or] at x
  obtain ⟨x1, x2⟩ := He.ba x
  obtain ⟨x3, x4⟩ := He.ba x2
  obtain ⟨st, hs⟩ := Option.isSome_iff_exists.mp x1
  obtain ⟨fd, cc, cda, F, hp, hd⟩ := ini_of T hs x4
  have r := all_mem x3 (show c ∈ t.L.exs by simpa using h)
  unfold raB at r
  obtain ⟨r1, r⟩ := He.ba r
  obtain ⟨r2, r⟩ := He.ba r
  obtain ⟨r3, r⟩ := He.ba r
  obtain ⟨r4, r⟩ := He.ba r
  obtain ⟨r5, r⟩ := He.ba r
  obtain ⟨r6, r⟩ := He.ba r
  obtain ⟨r7, r⟩ := He.ba r
  obtain ⟨r8, r9⟩ := He.ba r
  refine ⟨PySem.W.mg_of T.kin T.ns (He.eqO_ok r1), iniA K, He.ga K "WallError", fd, ⟨oexB_ok r2, r3, of_decide_eq_true r4, biB_ok r5, of_decide_eq_true r6, He.eqO_ok r7⟩, He.eqO_ok r8, of_decide_eq_true r9, init_fn F T.kin T.ns, .all fun us hl => ?_⟩
  have txt := (He.ba T.txt).1
  rw [hs] at txt
  obtain ⟨t1, _⟩ := He.ba (show iniT st = true from txt)
  unfold plainP at t1
  split at t1
  · rename_i as kd dd ed
    exact bind_plain (as := as) (kd := kd) (dd := dd) (hp.trans ed) hd (of_decide_eq_true t1) (by decide) hl
  · cases t1
theorem lamD_of (T : Told P w K mg base t) {d : Dd} (ht0 : (d.lx t.L).told = true) (hd : d ∈ t.ds) {fd : FuncData} (F : FunD K d.name d.qual (defArgs d.st) (defBody d.st) (defScope d.st) [] [] (d.a K) fd) : LamD K mg base t.C (d.a K) d.qual fd := by
  obtain ⟨ht, hlam⟩ := He.ba (show (t.L.told && d.lam) = true from ht0)
  have x := (He.ba (He.ba (ex_xk T)).2).2
  rw [ht, Bool.not_true, Bool.false_or] at x
  obtain ⟨x1, x2⟩ := He.ba x
  obtain ⟨st, hs⟩ := Option.isSome_iff_exists.mp x1
  unfold tdB at x2
  obtain ⟨y1, x2⟩ := He.ba x2
  obtain ⟨y2, x2⟩ := He.ba x2
  obtain ⟨y3, x2⟩ := He.ba x2
  obtain ⟨y4, x2⟩ := He.ba x2
  obtain ⟨y5, y6⟩ := He.ba x2
  refine ⟨?_, ?_, PySem.W.mg_of T.kin T.ns (He.eqO_ok y4), fun c h => ?_⟩
  · obtain ⟨oc, od, dV, kV, doc, pm, an, cdv, ct, osl, rfl, lk, hcd, _, _⟩ := F.ex
    obtain ⟨c, rfl⟩ := He.codeIn_ref hcd
    have ec : codeA K (d.a K) = c := by unfold codeA; rw [lk]
    have l := all_mem y6 hd
    rw [hlam, Bool.not_true, Bool.false_or, ec] at l
    obtain ⟨l0, l⟩ := He.ba l
    obtain ⟨l1, l2⟩ := He.ba l
    have tb : LamX.TabB base mg c (He.tabOf K c) := by
      obtain ⟨q, hq, e⟩ := lamT_at (show (He.tabOf K c, d.qual ++ ".<locals>." ++ "<lambda>") ∈ lamT K by simpa using l1)
      have tb := T.tab q hq
      have e : q.2 = He.tabOf K c := e
      rw [e] at tb
      exact ⟨PySem.W.codeHd_of_K T.kin l0, tb.bm, tb.gP⟩
    refine ⟨c, rfl, tb, by simpa using l1, fun p hp e => ?_⟩
    have z := all_mem l2 hp
    simp only [e, decide_true, Bool.not_true, Bool.false_or, decide_eq_true_eq] at z
    exact z
  · have e := T.tdv st hs
    have txt := (He.ba T.txt).2
    rw [hs] at txt
    obtain ⟨t1, t2⟩ := He.ba (show toldT st = true from txt)
    obtain ⟨t3, t4⟩ := He.ba t2
    obtain ⟨t5, t6⟩ := He.ba t4
    unfold fnV at e
    cases q : K.lookup (He.ga K "_law_told") with
    | none => rw [q] at y3; cases y3
    | some o =>
      obtain ⟨oc, od, dt, osl⟩ := o
      rw [q] at y3 e
      cases dt with
      | func fd =>
        obtain ⟨n1, n2, n3, n4, n5, n6, n7, n8, n9, n10, n11, n12, n13, n14, n15⟩ := fd
        have e2 : (some (n1, n2, n3, n4, n5, n6, n7, n15) : He.FnW) = toldVal st := e
        unfold toldVal at e2
        simp only [Option.some.injEq, Prod.mk.injEq] at e2
        obtain ⟨rfl, rfl, rfl, rfl, rfl, rfl, rfl, rfl⟩ := e2
        obtain ⟨k1, k2⟩ := He.ba (show (PySem.W.codeIn K n13 "_law_told" && isNo n8) = true from y3)
        have k3 : n8 = .none := by cases n8 <;> first | rfl | cases k2
        subst k3
        refine ⟨_, _, _, _, .none, n9, n10, n11, n13, n14, oc, n12, od, osl, PySem.W.mg_of T.kin T.ns (He.eqO_ok y1), y2, q, k1, .all fun us hl => ?_, C8.fnScope_by t3, t5, t6⟩
        unfold plainP at t1
        split at t1
        · rename_i as kd dd ed
          exact bind_plain (as := as) (kd := kd) (dd := dd) ed rfl (of_decide_eq_true t1) (by decide) hl
        · cases t1
      | _ => cases y3
  · obtain ⟨anc, e⟩ := Option.isSome_iff_exists.mp h
    exact of_decide_eq_true (all_mem y5 (mem_look e))
theorem knows_of (T : Told P w K mg base t) (n : Nat) (A : ∀ j, j ≤ n → Lvl P w K mg base t j) : KnL P w K mg base t.L t.C (wPr t.C t.pg n) (4 * n + 1) := by
  intro X e1 e2 e3 e4 e5 room gd
  have cal : ∀ {x : Str} {d : Dd} {more : Nat}, t.kd x = some d → more ≤ 1 → Callee X (d.a K) (wPr t.C t.pg n x) more := fun {x d more} h hm => callee_of h T e1 e2 e3 e4 e5 (room.mono (by omega)) gd (A n (Nat.le_refl n) x d h)
  subst e1 e2 e3 e4 e5
  obtain ⟨x1, y1⟩ := He.ba T.ex
  obtain ⟨x2, y2⟩ := He.ba y1
  obtain ⟨x3, y3⟩ := He.ba y2
  obtain ⟨x4, y4⟩ := He.ba y3
  obtain ⟨x5, y5⟩ := He.ba y4
  obtain ⟨x6, _⟩ := He.ba y5
  have clf : ∀ {c : Str}, (t.C.cl c).isSome = true → ∃ l ∈ t.C.cls, l.name = c ∧ t.C.cl c = some l ∧ clB t X.K l = true := fun {c} h => by
    obtain ⟨l, hl, e, e'⟩ := cl_some h
    exact ⟨l, hl, e, e', all_mem x6 hl⟩
  have kit : ∀ {c : Str}, (t.C.cl c).isSome = true → kitB t X.K c = true := fun {c} h => by
    obtain ⟨l, _, rfl, _, hb⟩ := clf h
    exact (He.ba (He.ba (He.ba (He.ba (He.ba hb).2).2).2).2).1
  have mths : ∀ {c q f : Str}, t.C.mth c q = some f → (t.C.cl c).isSome = true ∧ methB t X.K c q f = true ∧ t.C.fld c q = false ∧ ∃ l, t.C.cl c = some l ∧ l.mths.lookup q = some f ∧ clB t X.K l = true ∧ l.name = c := fun {c q f} h => by
    obtain ⟨l, e, h2⟩ := Option.bind_eq_some_iff.mp h
    have hs : (t.C.cl c).isSome = true := by rw [e]; rfl
    obtain ⟨l', hl, en, e', hb⟩ := clf hs
    rw [e] at e'
    cases e'
    obtain ⟨m1, m2⟩ := He.ba (all_mem (He.ba (He.ba hb).2).1 (mem_look h2))
    subst en
    exact ⟨hs, m1, by simpa using m2, l, e, h2, hb, rfl⟩
  refine ⟨?_, ?_, ?_, ?_, ?_, ?_, ?_, ?_, ?_, ?_, ?_, ?_, ?_, ?_, ?_, ?_, ?_, ?_, fun c h => rai_of T h, ?_, sys_of T⟩
  · exact fun x hx => PySem.W.mg_none_of T.kin T.ns (He.eqO_ok (all_mem x2 hx))
  · intro x d h
    have q := all_mem x3 (mem_look h)
    have q2 : (match PySem.W.nsIn X.K mainGlobals x with
      | some (some u) => gV X.K d u
      | _ => false) = true := q
    split at q2
    · rename_i u e
      obtain ⟨v, r1, r2⟩ := gV_ok T.kin T.ns d u q2
      exact ⟨u, v, PySem.W.mg_of T.kin T.ns e, r1, r2⟩
    · cases q2
  · intro f hf
    have q := all_mem x4 (by simpa using hf : f ∈ t.L.fns)
    unfold fnB at q
    split at q
    · rename_i d e
      exact ⟨d.a X.K, PySem.W.mg_of T.kin T.ns (He.eqO_ok q), kp_of T (kd_mem e).1, cal e (Nat.zero_le _)⟩
    · cases q
  · intro c hc
    have q := all_mem x5 (by simpa using hc : c ∈ t.L.cls)
    unfold mkB at q
    obtain ⟨q1, q2⟩ := He.ba q
    obtain ⟨q3, q4⟩ := He.ba q2
    obtain ⟨q5, q6⟩ := He.ba q4
    obtain ⟨q7, q8⟩ := He.ba q6
    refine ⟨PySem.W.mg_of T.kin T.ns (He.eqO_ok q3), ?_⟩
    split at q8
    · rename_i i ei
      split at q8
      · rename_i d ed
        obtain ⟨q9, q10⟩ := He.ba q8
        have mk : Mk X.K (He.ga X.K c) (d.a X.K) := ⟨q5, He.eqO_ok q9, q10, q7⟩
        have pc := pg_cls (Option.isNone_iff_eq_none.mp q1) ei
        cases n with
        | zero => exact ⟨_, _, mk, cal ed (Nat.le_refl 1), fun _ _ _ _ h => h.elim⟩
        | succ n =>
          refine ⟨_, wPr t.C t.pg n i, mk, callee_of ed T rfl rfl rfl rfl rfl (room.mono (by omega)) gd (A n (Nat.le_succ n) i d ed), fun ds st Q EX h => ?_⟩
          unfold wPr at h
          rw [pc] at h
          exact h
      · cases q8
    · cases q8
  · intro c q f h
    obtain ⟨h1, h2, h3, _⟩ := mths h
    obtain ⟨d, e, M⟩ := meth_of T h2
    exact ⟨h1, h3, _, M, cal e (Nat.zero_le _)⟩
  · intro c f h
    obtain ⟨h1, h2, h3, _⟩ := mths h
    obtain ⟨d, e, M⟩ := meth_of T h2
    exact ⟨_, M, cal e (Nat.le_refl _)⟩
  · intro c q f h
    obtain ⟨l, e, h2⟩ := Option.bind_eq_some_iff.mp h
    have hs : (t.C.cl c).isSome = true := by rw [e]; rfl
    obtain ⟨l', hl, en, e', hb⟩ := clf hs
    rw [e] at e'
    cases e'
    subst en
    obtain ⟨d, p, ed, M⟩ := prop_of T (all_mem (He.ba (He.ba (He.ba hb).2).2).1 (mem_look h2))
    exact ⟨hs, p, _, M, cal ed (Nat.le_refl _)⟩
  · intro c f h
    unfold Ctx.fld at h
    cases e : t.C.cl c with
    | none => rw [e] at h; cases h
    | some l =>
      rw [e] at h
      obtain ⟨l', hl, en, e', hb⟩ := clf (c := c) (by rw [e]; rfl)
      rw [e] at e'
      cases e'
      subst en
      exact He.eqO_ok (all_mem (He.ba (He.ba (He.ba (He.ba hb).2).2).2).1 (by simpa using h : f ∈ l.flds))
  · intro c h
    obtain ⟨l, _, rfl, _, hb⟩ := clf h
    have q := (He.ba hb).1
    unfold clsB at q
    obtain ⟨q1, q2⟩ := He.ba q
    obtain ⟨q3, q4⟩ := He.ba q2
    obtain ⟨q5, q6⟩ := He.ba q4
    obtain ⟨q7, q8⟩ := He.ba q6
    exact ⟨He.cls_ok q1, He.eqO_ok q3, He.eqO_ok q7, of_decide_eq_true q8, of_decide_eq_true q5⟩
  · intro n hn c h
    exact of_decide_eq_true (He.ba (all_mem (He.ba (kit h)).1 hn)).1
  · intro c c' h h'
    obtain ⟨l, hl, rfl, _, _⟩ := clf h'
    exact of_decide_eq_true (He.ba (all_mem (He.ba (He.ba (kit h)).2).2 hl)).1
  · intro c h n hn
    exact of_decide_eq_true (all_mem (He.ba (He.ba (kit h)).2).1 hn)
  · intro c h n hn
    exact (He.ba (all_mem (He.ba (kit h)).1 hn)).2
  · intro c c' h h'
    obtain ⟨l, hl, rfl, _, _⟩ := clf h'
    exact (He.ba (all_mem (He.ba (He.ba (kit h)).2).2 hl)).2
  · intro c h
    obtain ⟨anc, e⟩ := Option.isSome_iff_exists.mp h
    exact excB_ok (He.ba (exB_of T e)).1
  · intro n hn c h
    obtain ⟨anc, e⟩ := Option.isSome_iff_exists.mp h
    exact of_decide_eq_true (all_mem (He.ba (He.ba (exB_of T e)).2).1 hn)
  · intro c anc e n hn
    exact of_decide_eq_true (all_mem (He.ba (He.ba (He.ba (exB_of T e)).2).2).1 hn)
  · intro c anc c' e h
    obtain ⟨anc', e'⟩ := Option.isSome_iff_exists.mp h
    exact of_decide_eq_true (all_mem (He.ba (He.ba (He.ba (exB_of T e)).2).2).2 (mem_look e'))
  · intro c f h
    obtain ⟨h1, h2, h3, l, el, hl, hb, en⟩ := mths h
    obtain ⟨d, e, M⟩ := meth_of T h2
    refine ⟨?_, _, M, cal e (Nat.le_refl _)⟩
    have q := (He.ba (He.ba (He.ba (He.ba (He.ba hb).2).2).2).2).2
    rw [show l.mths.lookup (PySem.Str.ofString "__eq__") = some f from hl] at q
    subst en
    exact He.eqO_ok (by simpa using q)
theorem levels (T : Told P w K mg base t) : ∀ n j, j ≤ n → Lvl P w K mg base t j
  | 0, j, hj, x, d, hd, fd, F => by
    have : j = 0 := by omega
    subst this
    exact ⟨fun vs H Q E h => h.1, fun A fr s H args us vs Q E _ _ _ _ _ h => by
      obtain ⟨_, m, st, ds, Q0, EX0, _, _, h, _⟩ := h
      exact h.elim⟩
  | n + 1, j, hj, x, d, hd, fd, F => by
    rcases Nat.lt_or_ge n j with h | h
    · have : j = n + 1 := by omega
      subst this
      have kn := knows_of T n (levels T n)
      obtain ⟨hm, _⟩ := kd_mem hd
      obtain ⟨g1, g2⟩ := He.ba (T.good d hm)
      obtain ⟨g3, g4⟩ := He.ba g2
      obtain ⟨g5, _⟩ := He.ba g4
      have f := def_ok F (C8.fnScope_by g3) g5 (L := d.lx t.L) (fun X e1 e2 e3 e4 e5 r gd => (kn X e1 e2 e3 e4 e5 r gd).to rfl rfl rfl rfl rfl rfl rfl rfl fun h => h) (by omega) fun ht => lamD_of T ht hm F
      have e : wPr t.C t.pg (n + 1) x = wDf (wPr t.C t.pg n) t.C d.name (.fn d.ps.length d.N.length d.b) := by
        funext ds st Q EX
        show (match t.pg.lookup x with
          | some d => wDf (wPr t.C t.pg n) t.C x d ds st Q EX
          | none => False) = _
        rw [pg_fn hd]
        rfl
      rw [e]
      exact f
    · exact levels T n j h x d hd fd F
end
end Vm

set_option Elab.async false
set_option linter.all false
set_option maxRecDepth 100000
set_option maxHeartbeats 4000000
/-! Vm, part 23: what the top's run is looked at for. -/
namespace Vm
open PySem PySem.Spec PyProof.Rows L2
abbrev AlV : Type := List He.FnW × Option He.FnW × Option InW × Bool
def obsV (t : Tx) (K : PySem.W.Frag) : AlV := (t.ds.map fun d => fnV K (d.a K), t.td.map fun _ => fnV K (He.ga K "_law_told"), t.ini.map fun _ => inV K (iniA K), t.ex K)
def valV (t : Tx) : AlV := (t.ds.map Dd.val, t.td.map toldVal, t.ini.map inVal, true)
def tabsV (g : Addr → Option Obj) (K : PySem.W.Frag) : Bool := (lamT K).all fun p => match g p.1 with
  | some o => He.emptyTab o
  | none => false
def frV (n : Nat) (g : Addr → Option Obj) : PySem.W.Frag := He.frT g (cStatics :: sysModules :: He.asD g n)
def obsG (n : Nat) (t : Tx) (g : Addr → Option Obj) : AlV × Bool := (obsV t (frV n g), tabsV g (frV n g))
theorem tabsV_ok {h : Heap} {K : PySem.W.Frag} (e : tabsV h.get? K = true) : ∀ p ∈ lamT K, h.get? p.1 = some { cls := .none, data := .fields #[] } := fun p hp => by
  have z := List.all_eq_true.mp e p hp
  cases q : h.get? p.1 with
  | none => rw [q] at z; cases z
  | some o => rw [q] at z; exact congrArg some (He.emptyTab_eq z)
def hookV (n : Nat) (t : Tx) : PySem.W.Hook where
  α := AlV × Bool
  obs := fun s => obsG n t s.heap.get?
  val := fun _ => (valV t, true)
  says := fun _ h => ∃ K : PySem.W.Frag, K.In h ∧ obsV t K = valV t ∧ ∀ p ∈ lamT K, h.get? p.1 = some { cls := .none, data := .fields #[] }
  of := fun _ _ e => ⟨_, He.frT_in, congrArg (fun z : AlV × Bool => z.1) e, tabsV_ok (congrArg (fun z : AlV × Bool => z.2) e)⟩
  keeps := fun _ _ _ ⟨K, hK, c, d⟩ k => ⟨K, PySem.W.Frag.In.keeps hK k, c, fun p hp => k _ _ (d p hp)⟩
theorem obsG_eq {n : Nat} {t : Tx} {g : Addr → Option Obj} {s : Shared} (h : ∀ a, g a = s.heap.get? a) : obsG n t g = (hookV n t).obs s := by
  have e : g = s.heap.get? := funext h
  rw [e]
  rfl
/-! the look, in parts -/
def partB (t : Tx) (K : PySem.W.Frag) : List He.FnW × Option He.FnW × Option InW := (t.ds.map fun d => fnV K (d.a K), t.td.map fun _ => fnV K (He.ga K "_law_told"), t.ini.map fun _ => inV K (iniA K))
def valB (t : Tx) : List He.FnW × Option He.FnW × Option InW := (t.ds.map Dd.val, t.td.map toldVal, t.ini.map inVal)
def partC (t : Tx) (K : PySem.W.Frag) : Bool := t.ds.all (fun d => d.ok K) && (bltNms.all (fun x => He.eqO (PySem.W.nsIn K mainGlobals x) (some none)) && (t.C.glo.all (gB K) && (t.L.fns.all (fnB t K) && t.L.cls.all (mkB t K))))
def partD (t : Tx) (K : PySem.W.Frag) : Bool := t.C.cls.all (clB t K)
def partE (t : Tx) (K : PySem.W.Frag) : Bool := t.C.exs.all (exB t K) && (K.lookup sysModules).isSome
def partF (t : Tx) (K : PySem.W.Frag) : Bool := t.L.exs.isEmpty || (t.ini.isSome && (t.L.exs.all (raB K) && iniB K t.file))
def partG (t : Tx) (n : Nat) (g : Addr → Option Obj) : Bool := (!t.L.told || (t.td.isSome && tdB t (frV n g))) && tabsV g (frV n g)
theorem obs_split {n : Nat} {t : Tx} {g : Addr → Option Obj} (b : partB t (frV n g) = valB t) (c : partC t (frV n g) = true) (d : partD t (frV n g) = true) (e : partE t (frV n g) = true) (f : partF t (frV n g) = true) (h : partG t n g = true) : obsG n t g = (valV t, true) := by
  unfold partC at c
  unfold partD at d
  unfold partE at e
  unfold partF at f
  unfold partG at h
  obtain ⟨c1, c⟩ := Bool.and_eq_true_iff.mp c
  obtain ⟨c2, c⟩ := Bool.and_eq_true_iff.mp c
  obtain ⟨c3, c⟩ := Bool.and_eq_true_iff.mp c
  obtain ⟨c4, c5⟩ := Bool.and_eq_true_iff.mp c
  obtain ⟨e1, e2⟩ := Bool.and_eq_true_iff.mp e
  obtain ⟨h1, h2⟩ := Bool.and_eq_true_iff.mp h
  have xk : t.xk (frV n g) = true := by
    unfold Tx.xk
    rw [e1, e2, f, h1]
    rfl
  have ex : t.ex (frV n g) = true := by
    unfold Tx.ex
    rw [c1, c2, c3, c4, c5, d, xk]
    rfl
  have b1 := congrArg (fun z : List He.FnW × Option He.FnW × Option InW => z.1) b
  have b2 := congrArg (fun z : List He.FnW × Option He.FnW × Option InW => z.2.1) b
  have b3 := congrArg (fun z : List He.FnW × Option He.FnW × Option InW => z.2.2) b
  exact Prod.ext (Prod.ext b1 (Prod.ext b2 (Prod.ext b3 ex))) h2
/-- what is known of the text alone, and where it lies -/
structure TxG (P : Program) (t : Tx) : Prop where
  good : ∀ d ∈ t.ds, d.good t.L = true
  txt : t.txt = true
  fil : (P.main.file : Str) = t.file ∧ (P.main.scope.names.lookup ("super" : Str)).isSome = false
theorem told_head {P : Program} {w : World} {K : PySem.W.Frag} {mg : Str → Option Value} {base : Heap} {t : Tx} (e : obsV t K = valV t) (G : TxG P t) (kin : K.In base) (ns : base.Ns mainGlobals mg) (tab : ∀ p ∈ lamCs K, LamX.TabB base mg p.1 p.2) : Told P w K mg base t := by
  refine ⟨G.good, fun d hd => ?_, congrArg (fun z : AlV => z.2.2.2) e, kin, ns, G.txt, fun st hs => ?_, fun st hs => ?_, tab, G.fil⟩
  · have h1 : t.ds.map (fun d => fnV K (d.a K)) = t.ds.map Dd.val := congrArg (fun z : AlV => z.1) e
    exact List.map_inj_left.mp h1 d hd
  · have h1 : (t.td.map fun _ => fnV K (He.ga K "_law_told")) = t.td.map toldVal := congrArg (fun z : AlV => z.2.1) e
    rw [hs] at h1
    exact Option.some.inj h1
  · have h1 : (t.ini.map fun _ => inV K (iniA K)) = t.ini.map inVal := congrArg (fun z : AlV => z.2.2.1) e
    rw [hs] at h1
    exact Option.some.inj h1
/-- the law's def, by its own syntax -/
theorem law_fn {P : Program} {w : World} {K : PySem.W.Frag} {mg : Str → Option Value} {h : Heap} {t : Tx} {g : Addr} {d : Dd} {x y : Str} (n : Nat) (e : obsV t K = valV t) (G : TxG P t) (kin : K.In h) (ns : h.Ns mainGlobals mg)
    (hd : t.kd x = some d) (ha : d.at_ = (x, none)) (hp : d.ps = [y]) (hf : x ∈ t.L.fns) (hg : mg x = some (.ref g)) :
    ∃ fd, (∀ (s : Shared) (u : Value), BindsTo s fd ⟨[u], []⟩ [(y, u)]) ∧ ∀ B : Heap, K.In B → B.Ns mainGlobals mg → (∀ p ∈ lamCs K, LamX.TabB B mg p.1 p.2) → FnG P w K mg B true (4 * n) g fd [y] (spOf K mg 1 (wPr t.C t.pg n x)) := by
  have ex : t.ex K = true := congrArg (fun z : AlV => z.2.2.2) e
  obtain ⟨hm, _⟩ := kd_mem hd
  obtain ⟨x1, y1⟩ := He.ba ex
  obtain ⟨_, y2⟩ := He.ba y1
  obtain ⟨_, y3⟩ := He.ba y2
  obtain ⟨x4, _⟩ := He.ba y3
  have q := all_mem x4 hf
  unfold fnB at q
  rw [hd] at q
  have eg := PySem.W.mg_of kin ns (He.eqO_ok q)
  rw [hg] at eg
  have eg : g = d.a K := by injection eg with eg; injection eg
  have val : fnV K (d.a K) = d.val := List.map_inj_left.mp (show t.ds.map (fun d => fnV K (d.a K)) = t.ds.map Dd.val from congrArg (fun z : AlV => z.1) e) d hm
  obtain ⟨fd, F, df⟩ := Dd.fun_ val (all_mem x1 hm)
  obtain ⟨_, b⟩ := binds_of F df (G.good d hm)
  refine ⟨fd, fun s u => ?_, fun B kB nB tB => ?_⟩
  · have := b s [u] (by rw [hp]; rfl)
    rw [hp] at this
    exact this
  · have l := levels (told_head (P := P) (w := w) e G kB nB tB) n n (Nat.le_refl n) x d hd fd F
    rw [hp] at l
    rw [eg]
    exact l
end Vm

set_option Elab.async false
set_option linter.all false
set_option maxRecDepth 100000
set_option maxHeartbeats 4000000
/-! Vm, part 24: lemmas for proofs about what the defs do. -/
namespace Vm
open PySem PySem.Spec PyProof.Rows L2
theorem wPr_fn {t : Tx} {n : Nat} {x : Str} {d : Dd} {ds : List D} {st : Sto} {Q EX : QD} (h : t.kd x = some d) (h1 : ds.length = d.ps.length) (h2 : d.ps.length ≤ d.N.length) (w : wSs (wPr t.C t.pg n) t.C d.b (start ds d.N.length) st (bodyKt st Q EX)) :
    wPr t.C t.pg (n + 1) x ds st Q EX := by
  unfold wPr
  rw [pg_fn h]
  exact ⟨h1, h2, w⟩
/-- nothing new is kept -/
theorem exit_same {st st' : Sto} {Q : QD} {d : D} (hl : st'.length = st.length) (ho : ∀ (i : Nat) (o : O), st'[i]? = some o → st[i]? = some o ∨ o.lim st.length = true) (hd : d.lim st.length = true) (q : Q d st') : wExit st Q d st' :=
  ⟨st.length, d, Nat.le_refl _, Nat.le_of_eq hl.symm, fun i o _ e => ho i o e, .keep hd, by rw [← hl, List.take_length]; exact q⟩
theorem exit_set {st : Sto} {Q : QD} {d : D} {p : Nat} {o : O} (hd : d.lim st.length = true) (ho : o.lim st.length = true) (q : Q d (st.set p o)) : wExit st Q d (st.set p o) :=
  exit_same (List.length_set ..) (fun i u e => by
    rw [List.getElem?_set] at e
    split at e
    · split at e
      · cases e; exact .inr ho
      · cases e
    · exact .inl e) hd q
theorem exit_id {st : Sto} {Q : QD} {d : D} (hd : d.lim st.length = true) (q : Q d st) : wExit st Q d st := exit_same rfl (fun _ _ e => .inl e) hd q
theorem bit_nonneg (b : Bool) : (0 : Int) ≤ (if b = true then 1 else 0) := by cases b <;> decide
theorem exit_new {st : Sto} {Q : QD} {o : O} (ho : o.lim (st.length + 1) = true) (q : Q (.ref st.length) (st ++ [o])) : wExit st Q (.ref st.length) (st ++ [o]) := by
  have hl : (st ++ [o]).length = st.length + 1 := by simp
  refine ⟨st.length + 1, .ref st.length, Nat.le_succ _, Nat.le_of_eq hl.symm, fun i u _ e => ?_, .keep (decide_eq_true (Nat.lt_succ_self _)), by rw [← hl, List.take_length]; exact q⟩
  by_cases hi : i < st.length
  · rw [List.getElem?_append_left hi] at e
    exact .inl e
  · rw [List.getElem?_append_right (by omega)] at e
    cases z : i - st.length with
    | zero => rw [z] at e; cases e; exact .inr ho
    | succ m => rw [z] at e; cases e
/-! ### a store with the def's own objects behind it -/
theorem loc_get {A B : Sto} (i : Nat) : (A ++ B)[A.length + i]? = B[i]? := by
  rw [List.getElem?_append_right (by omega)]
  congr 1
  omega
theorem loc_set {A B : Sto} (i : Nat) (o : O) : (A ++ B).set (A.length + i) o = A ++ B.set i o := by
  rw [List.set_append_right _ _ (by omega)]
  congr 2
  omega
theorem base_get {A B : Sto} {p : Nat} (h : p < A.length) : (A ++ B)[p]? = A[p]? := List.getElem?_append_left h
theorem base_set {A B : Sto} {p : Nat} (o : O) (h : p < A.length) : (A ++ B).set p o = A.set p o ++ B := List.set_append_left _ _ h
theorem exit_cut {st A B : Sto} {Q : QD} {d r : D} (hl : A.length = st.length) (ho : ∀ (i : Nat) (o : O), A[i]? = some o → st[i]? = some o ∨ o.lim st.length = true) (fz : Fz (A ++ B) st.length d r) (q : Q r A) : wExit st Q d (A ++ B) := by
  refine ⟨st.length, r, Nat.le_refl _, by rw [List.length_append]; omega, fun i o hi e => ho i o (by rw [← base_get (B := B) (by omega)]; exact e), fz, ?_⟩
  rw [← hl, List.take_left']
  · exact q
  · rfl
theorem set_old {st : Sto} {p : Nat} {o : O} (h : o.lim st.length = true) : ∀ (i : Nat) (u : O), (st.set p o)[i]? = some u → st[i]? = some u ∨ u.lim st.length = true := fun i u e => by
  rw [List.getElem?_set] at e
  split at e
  · split at e
    · cases e; exact .inr h
    · cases e
  · exact .inl e
theorem fz_all {st : Sto} {n : Nat} : ∀ {xs : List D}, limL n xs = true → FzL st n xs xs
  | [], _ => .nil
  | x :: xs, h => by
    obtain ⟨h1, h2⟩ := Bool.and_eq_true_iff.mp (show (x.lim n && limL n xs) = true from h)
    exact .cons (.keep h1) (fz_all h2)
/-! ### loops -/
theorem eachS_inv {g : Sto → Prop} {t : T} {body : Slots → Sto → Kt → Prop} {K : Kt} {items : List D} (Iv : Nat → Slots → Sto → Prop)
    (step : ∀ (i : Nat) (x : D) (env : Slots) (st : Sto), items[i]? = some x → Iv i env st → ∀ N : Slots → Sto → Prop, (∀ env2 st2, Iv (i + 1) env2 st2 → N env2 st2) → g st ∧ bindT t x st env fun env' => body env' st { K with nx := N, ct := N, bk := K.nx })
    (fin : ∀ env st, Iv items.length env st → g st ∧ K.nx env st) : ∀ {env : Slots} {st : Sto}, Iv 0 env st → eachS g t body items env st K := by
  have key : ∀ (rest : List D) (i : Nat), (∀ j, rest[j]? = items[i + j]?) → i + rest.length = items.length → ∀ env st, Iv i env st → eachS g t body rest env st K := by
    intro rest
    induction rest with
    | nil =>
      intro i _ hl env st h
      have : i = items.length := by simpa using hl
      rw [this] at h
      exact fin env st h
    | cons x rest ih =>
      intro i hj hl env st h
      exact step i x env st ((hj 0).symm.trans rfl) h _ fun env2 st2 h2 => ih (i + 1) (fun j => by
        have := hj (j + 1)
        rw [List.getElem?_cons_succ] at this
        rw [this]
        congr 1
        omega) (by rw [List.length_cons] at hl; omega) env2 st2 h2
  intro env st h
  exact key items 0 (fun j => by rw [Nat.zero_add]) (Nat.zero_add _) env st h
end Vm

set_option Elab.async false
set_option linter.all false
set_option maxRecDepth 100000
set_option maxHeartbeats 4000000
/-! Vm, part 25: one step of a def, from its end. -/
namespace Vm
open PySem PySem.Spec PyProof.Rows L2
theorem limL_of {n : Nat} : ∀ {xs : List D}, (∀ x ∈ xs, x.lim n = true) → limL n xs = true
  | [], _ => rfl
  | x :: xs, h => by
    show (x.lim n && limL n xs) = true
    rw [h x (List.mem_cons_self ..), limL_of fun y hy => h y (List.mem_cons_of_mem _ hy)]
    rfl
theorem limL_mem {n : Nat} : ∀ {xs : List D}, limL n xs = true → ∀ x ∈ xs, x.lim n = true
  | [], _, x, h => by cases h
  | y :: xs, hl, x, h => by
    obtain ⟨h1, h2⟩ := Bool.and_eq_true_iff.mp (show (y.lim n && limL n xs) = true from hl)
    rcases List.mem_cons.mp h with z | z
    · rw [z]; exact h1
    · exact limL_mem h2 x z
theorem rngD_len {a b : Int} : (rngD a b).length = (b - a).toNat := by
  unfold rngD
  rw [List.length_map, List.length_range]
theorem rngD_lim {a b : Int} {n : Nat} : limL n (rngD a b) = true := limL_of fun x hx => by
  unfold rngD at hx
  obtain ⟨i, _, rfl⟩ := List.mem_map.mp hx
  rfl
theorem rngD_nat (j : Nat) : rngD 0 j = (List.range j).map fun (i : Nat) => D.int i := by
  unfold rngD
  rw [show ((j : Int) - 0).toNat = j by omega]
  congr 1
  funext i
  rw [Int.zero_add]
section
variable {Φ : Fn} {C : Ctx} {env : Slots} {st : Sto} {Q EX : QD} {K : Kt}
theorem e_var {i : Nat} {d : D} (h : env[i]? = some (some d)) (q : Q d st) : Vm.wE Φ C (.var i) env st Q EX := ⟨d, h, q⟩
theorem e_int {i : Int} (q : Q (.int i) st) : Vm.wE Φ C (.int i) env st Q EX := q
theorem e_str {x : Str} (q : Q (.str x) st) : Vm.wE Φ C (.str x) env st Q EX := q
theorem e_bl {b : Bool} (q : Q (.bl b) st) : Vm.wE Φ C (.bl b) env st Q EX := q
theorem e_non (q : Q .non st) : Vm.wE Φ C .non env st Q EX := q
theorem e_bty {n : String} (q : Q (.ty n) st) : Vm.wE Φ C (.bty n) env st Q EX := q
theorem e_glo {x : Str} {d : D} (h : C.glo.lookup x = some d) (q : Q d st) : Vm.wE Φ C (.glo x) env st Q EX := ⟨d, h, q⟩
theorem e_bin {o : BinO} {a b : E} (q : Vm.wE Φ C a env st (fun x st1 => Vm.wE Φ C b env st1 (fun y st2 => binD st2 o x y fun r => Q r st2) EX) EX) : Vm.wE Φ C (.bin o a b) env st Q EX := q
theorem e_neg {a : E} (q : Vm.wE Φ C a env st (fun x st1 => ∃ i, x = .int i ∧ Q (.int (-i)) st1) EX) : Vm.wE Φ C (.neg a) env st Q EX := q
theorem e_cmp {o : CmpO} {a b : E} (q : Vm.wE Φ C a env st (fun x st1 => Vm.wE Φ C b env st1 (fun y st2 => wCmp Φ C o x y st2 (fun r st3 => Q (.bl r) st3) EX) EX) EX) : Vm.wE Φ C (.cmp o a b) env st Q EX := q
theorem e_cmp2 {o o2 : CmpO} {a b c : E} (q : Vm.wE Φ C a env st (fun x st1 => Vm.wE Φ C b env st1 (fun y st2 => wCmp Φ C o x y st2 (fun r st3 =>
      if r = true then Vm.wE Φ C c env st3 (fun z st4 => wCmp Φ C o2 y z st4 (fun r st5 => Q (.bl r) st5) EX) EX else Q (.bl false) st3) EX) EX) EX) : Vm.wE Φ C (.cmp2 o o2 a b c) env st Q EX := q
theorem e_isN {pos : Bool} {a : E} (q : Vm.wE Φ C a env st (fun x st1 => ∃ b, isND st1 x = some b ∧ Q (.bl (b == pos)) st1) EX) : Vm.wE Φ C (.isN pos a) env st Q EX := q
theorem e_isB {pos b : Bool} {a : E} (q : Vm.wE Φ C a env st (fun x st1 => ∃ c, x = .bl c ∧ Q (.bl ((c == b) == pos)) st1) EX) : Vm.wE Φ C (.isB pos b a) env st Q EX := q
theorem e_bop {i : Bool} {es : Es} (q : wBop Φ C i es env st Q EX) : Vm.wE Φ C (.bop i es) env st Q EX := q
theorem e_not {a : E} (q : Vm.wE Φ C a env st (fun x st1 => ∃ b, x = .bl b ∧ Q (.bl (!b)) st1) EX) : Vm.wE Φ C (.not a) env st Q EX := q
theorem e_ite {c a b : E} (q : Vm.wE Φ C c env st (fun x st1 => ∃ r, x = .bl r ∧ if r = true then Vm.wE Φ C a env st1 Q EX else Vm.wE Φ C b env st1 Q EX) EX) : Vm.wE Φ C (.ite c a b) env st Q EX := q
theorem e_call {f : Str} {es : Es} (q : Vm.wEs Φ C es env st (fun ds st1 => Φ f ds st1 Q EX) EX) : Vm.wE Φ C (.call f es) env st Q EX := q
theorem e_make {f : Str} {es : Es} (q : Vm.wEs Φ C es env st (fun ds st1 => Φ f ds st1 Q EX) EX) : Vm.wE Φ C (.make f es) env st Q EX := q
theorem e_meth {m : Str} {o : E} {es : Es} (q : Vm.wE Φ C o env st (fun x st1 => ∃ c fs g, insOf st1 x = some (c, fs) ∧ fs.lookup m = none ∧ C.mth c m = some g ∧ Vm.wEs Φ C es env st1 (fun ds st2 => Φ g (x :: ds) st2 Q EX) EX) EX) : Vm.wE Φ C (.meth m o es) env st Q EX := q
theorem e_bi {f : Bi} {al : Bool} {es : Es} (q : Vm.wEs Φ C es env st (fun ds st1 => wBi Φ C f al ds st1 Q EX) EX) : Vm.wE Φ C (.bi f al es) env st Q EX := q
theorem e_bm {m : Bm} {o : E} {es : Es} (q : Vm.wE Φ C o env st (fun x st1 => bmOk m st1 x = true ∧ Vm.wEs Φ C es env st1 (fun ds st2 => wBm m x ds st2 Q) EX) EX) : Vm.wE Φ C (.bm m o es) env st Q EX := q
theorem e_attr {f : Str} {o : E} (q : Vm.wE Φ C o env st (fun x st1 => attrD Φ C f x st1 Q EX) EX) : Vm.wE Φ C (.attr f o) env st Q EX := q
theorem e_idx {o i : E} (q : Vm.wE Φ C o env st (fun x st1 => Vm.wE Φ C i env st1 (fun y st2 => idxD x y st2 Q) EX) EX) : Vm.wE Φ C (.idx o i) env st Q EX := q
theorem e_slc {o : E} {lo hi : Eo} (q : Vm.wE Φ C o env st (fun x st1 => wEo Φ C lo env st1 (fun l st2 => wEo Φ C hi env st2 (fun h st3 => slcD x l h st3 Q) EX) EX) EX) : Vm.wE Φ C (.slc o lo hi) env st Q EX := q
theorem e_tup {es : Es} (q : Vm.wEs Φ C es env st (fun ds st1 => ds.length ≤ sizeLine ∧ Q (.tup ds) st1) EX) : Vm.wE Φ C (.tup es) env st Q EX := q
theorem e_lst {al : Bool} {es : Es} (q : Vm.wEs Φ C es env st (fun ds st1 => retL al ds st1 Q) EX) : Vm.wE Φ C (.lst al es) env st Q EX := q
theorem e_dic {al : Bool} {es : Es} (q : Vm.wEs Φ C es env st (fun ds st1 => ∃ ps, pairsK ds = some ps ∧ retK al (mrgK [] ps) st1 Q) EX) : Vm.wE Φ C (.dic al es) env st Q EX := q
theorem e_rngl {al : Bool} {es : Es} (q : Vm.wEs Φ C es env st (fun ds st1 => ∃ lo hi, (ds = [.int hi] ∧ lo = 0 ∨ ds = [.int lo, .int hi]) ∧ RgOk lo hi ∧ retL al (rngD lo hi) st1 Q) EX) : Vm.wE Φ C (.rngl al es) env st Q EX := q
theorem e_comp {al : Bool} {own : List Nat} {elt : E} {t : T} {s : Sr} {ifs : Es} (q : wSr Φ C s env st (fun items g st1 =>
      each g (fun x acc st2 k => bindT t x st2 (wipeE env own) fun env2 => wIfs Φ C ifs env2 st2 fun b st3 =>
        if b = true then Vm.wE Φ C elt env2 st3 (fun y st4 => acc.length < sizeLine ∧ k (acc ++ [y]) st4) (fun _ _ => False) else k acc st3) items [] st1 fun acc st5 => retL al acc st5 Q) EX) : Vm.wE Φ C (.comp al own elt t s ifs) env st Q EX := q
theorem es_nil {Q : List D → Sto → Prop} (q : Q [] st) : Vm.wEs Φ C .nil env st Q EX := q
theorem es_cons {e : E} {r : Es} {Q : List D → Sto → Prop} (q : Vm.wE Φ C e env st (fun d st1 => Vm.wEs Φ C r env st1 (fun ds st2 => Q (d :: ds) st2) EX) EX) : Vm.wEs Φ C (.cons e r) env st Q EX := q
theorem eo_none {Q : Option Int → Sto → Prop} (q : Q none st) : wEo Φ C .none env st Q EX := q
theorem eo_some {e : E} {Q : Option Int → Sto → Prop} (q : Vm.wE Φ C e env st (fun d st1 => ∃ i, d = .int i ∧ Q (some i) st1) EX) : wEo Φ C (.some e) env st Q EX := q
theorem bop_one {i : Bool} {e : E} (q : Vm.wE Φ C e env st Q EX) : wBop Φ C i (.cons e .nil) env st Q EX := q
theorem bop_two {i : Bool} {e e2 : E} {r : Es} (q : Vm.wE Φ C e env st (fun x st1 => ∃ b, x = .bl b ∧ if b = i then wBop Φ C i (.cons e2 r) env st1 Q EX else Q (.bl b) st1) EX) : wBop Φ C i (.cons e (.cons e2 r)) env st Q EX := q
theorem s_set' {t : T} {e : E} (q : Vm.wE Φ C e env st (fun d st1 => bindT t d st1 env fun env' => K.nx env' st1) fun x st1 => K.ex x env st1) : Vm.wS Φ C (.set t e) env st K := q
theorem s_par' {t : T} {es : Es} (q : Vm.wEs Φ C es env st (fun ds st1 => bindT t (.tup ds) st1 env fun env' => K.nx env' st1) fun x st1 => K.ex x env st1) : Vm.wS Φ C (.par t es) env st K := q
theorem s_setA' {o e : E} {f : Str} (q : Vm.wE Φ C e env st (fun d st1 => Vm.wE Φ C o env st1 (fun x st2 => ∃ n c fs, x = .ref n ∧ st2[n]? = some (.ins c fs) ∧ (C.cl c).isSome = true ∧ C.fld c f = true ∧ fs.length < 1000 ∧ K.nx env (st2.set n (.ins c (putF' f d fs)))) fun x st2 => K.ex x env st2) fun x st1 => K.ex x env st1) : Vm.wS Φ C (.setA o f e) env st K := q
theorem s_setI' {o i e : E} (q : Vm.wE Φ C e env st (fun d st1 => Vm.wE Φ C o env st1 (fun x st2 => Vm.wE Φ C i env st2 (fun y st3 => setIx st3 x y d fun st4 => K.nx env st4) fun x st3 => K.ex x env st3) fun x st2 => K.ex x env st2) fun x st1 => K.ex x env st1) : Vm.wS Φ C (.setI o i e) env st K := q
theorem s_exp' {e : E} (q : Vm.wE Φ C e env st (fun _ st1 => K.nx env st1) fun x st1 => K.ex x env st1) : Vm.wS Φ C (.exp e) env st K := q
theorem s_ret' {e : E} (q : Vm.wE Φ C e env st K.rt fun x st1 => K.ex x env st1) : Vm.wS Φ C (.ret e) env st K := q
theorem s_ifs' {c : E} {a b : Ss} (q : Vm.wE Φ C c env st (fun x st1 => ∃ r, x = .bl r ∧ if r = true then Vm.wSs Φ C a env st1 K else Vm.wSs Φ C b env st1 K) fun x st1 => K.ex x env st1) : Vm.wS Φ C (.ifs c a b) env st K := q
theorem s_for' {t : T} {s : Sr} {b : Ss} (q : wSr Φ C s env st (fun items g st1 => eachS g t (fun env2 st2 K2 => Vm.wSs Φ C b env2 st2 K2) items env st1 K) fun x st1 => K.ex x env st1) : Vm.wS Φ C (.for_ t s b) env st K := q
theorem ss_nil (q : K.nx env st) : Vm.wSs Φ C .nil env st K := q
theorem ss_one {s : S} (q : Vm.wS Φ C s env st K) : Vm.wSs Φ C (.cons s .nil) env st K := q
theorem ss_cons {s s2 : S} {r : Ss} (q : Vm.wS Φ C s env st { K with nx := fun env1 st1 => Vm.wSs Φ C (.cons s2 r) env1 st1 K }) : Vm.wSs Φ C (.cons s (.cons s2 r)) env st K := q
theorem ss_frz {i m : Nat} {xs : List D} {r : Ss} (h : env[i]? = some (some (.ref m))) (g : st[m]? = some (.lst xs)) (q : Vm.wSs Φ C r (env.set i (some (.lst xs))) (st.set m .dead) K) : Vm.wSs Φ C (.frz i r) env st K := ⟨m, _, h, g, q⟩
theorem sr_rng {es : Es} {Q : List D → (Sto → Prop) → Sto → Prop} (q : Vm.wEs Φ C es env st (fun ds st1 => ∃ lo hi, (ds = [.int hi] ∧ lo = 0 ∨ ds = [.int lo, .int hi]) ∧ -(2 ^ 62) ≤ lo ∧ lo < 2 ^ 62 ∧ -(2 ^ 62) ≤ hi ∧ hi < 2 ^ 62 ∧ Q (rngD lo hi) (fun _ => True) st1) EX) : wSr Φ C (.rng es) env st Q EX := q
theorem sr_enu {e : E} {Q : List D → (Sto → Prop) → Sto → Prop} (q : Vm.wE Φ C e env st (fun x st1 => ∃ xs, seqOf st1 x = some xs ∧ Q (enumFrom 0 xs) (live x xs) st1) EX) : wSr Φ C (.enu e) env st Q EX := q
theorem sr_ex {e : E} {Q : List D → (Sto → Prop) → Sto → Prop} (q : Vm.wE Φ C e env st (fun x st1 => match x with
    | .str s => Q (s.cps.toList.map fun c => .str ⟨#[c]⟩) (fun _ => True) st1
    | x => ∃ xs, seqOf st1 x = some xs ∧ Q xs (live x xs) st1) EX) : wSr Φ C (.ex e) env st Q EX := q
theorem ifs_nil {Q : Bool → Sto → Prop} (q : Q true st) : wIfs Φ C .nil env st Q := q
theorem ifs_cons {e : E} {r : Es} {Q : Bool → Sto → Prop} (q : Vm.wE Φ C e env st (fun x st1 => ∃ b, x = .bl b ∧ if b = true then wIfs Φ C r env st1 Q else Q false st1) fun _ _ => False) : wIfs Φ C (.cons e r) env st Q := q
theorem sl_lst {xs : List D} {lo hi : Option Int} (q : Q (.lst (cutL xs lo hi)) st) : slcD (.lst xs) lo hi st Q := ⟨xs, rfl, rfl, q⟩
theorem sl_tup {xs : List D} {lo hi : Option Int} (q : Q (.tup (cutL xs lo hi)) st) : slcD (.tup xs) lo hi st Q := q
theorem m_extend {p : Nat} {xs ys : List D} (h : st[p]? = some (.lst xs)) (l : xs.length + ys.length ≤ sizeLine) (q : Q .non (st.set p (.lst (xs ++ ys)))) : wBm .extend (.ref p) [.lst ys] st Q := ⟨_, rfl, p, xs, rfl, h, ys, rfl, rfl, l, q⟩
/-- a comprehension that changes nothing but makes its list -/
theorem each_fm {g : Sto → Prop} {step : D → List D → Sto → (List D → Sto → Prop) → Prop} {R : List D → Sto → Prop} (f : D → Option D) (hg : g st) : ∀ (items acc : List D),
    (∀ x ∈ items, ∀ (a : List D) (k : List D → Sto → Prop), a.length < sizeLine → (∀ y, f x = some y → k (a ++ [y]) st) → (f x = none → k a st) → step x a st k) → acc.length + items.length ≤ sizeLine → R (acc ++ items.filterMap f) st → each g step items acc st R
  | [], acc, _, _, q => ⟨hg, by simpa using q⟩
  | x :: xs, acc, hs, hl, q => by
    rw [List.length_cons] at hl
    refine ⟨hg, hs x (List.mem_cons_self ..) acc _ (by omega) (fun y hy => ?_) fun hn => ?_⟩
    · refine each_fm f hg xs (acc ++ [y]) (fun z hz => hs z (List.mem_cons_of_mem _ hz)) (by rw [List.length_append, List.length_cons, List.length_nil]; omega) ?_
      rw [List.filterMap_cons_some hy] at q
      simpa using q
    · refine each_fm f hg xs acc (fun z hz => hs z (List.mem_cons_of_mem _ hz)) (by omega) ?_
      rw [List.filterMap_cons_none hn] at q
      exact q
/-! #### the operators on values -/
variable {P : D → Prop}
theorem b_addI {i j : Int} (q : P (.int (i + j))) : binD st .add (.int i) (.int j) P := ⟨j, rfl, q⟩
theorem b_addS {a b : Str} (h : a.length + b.length ≤ sizeLine) (q : P (.str (a ++ b))) : binD st .add (.str a) (.str b) P := ⟨b, rfl, h, q⟩
theorem b_addL {xs ys : List D} (h : xs.length + ys.length ≤ sizeLine) (q : P (.lst (xs ++ ys))) : binD st .add (.lst xs) (.lst ys) P := ⟨xs, ys, rfl, rfl, rfl, rfl, h, q⟩
theorem b_sub {i j : Int} (q : P (.int (i - j))) : binD st .sub (.int i) (.int j) P := ⟨i, j, rfl, rfl, q⟩
theorem b_mul {i j : Int} (h : CMul i j) (q : P (.int (i * j))) : binD st .mul (.int i) (.int j) P := ⟨j, rfl, h, q⟩
theorem b_fdiv {i j : Int} (h : CDiv i j) (q : P (.int (i / j))) : binD st .fdiv (.int i) (.int j) P := ⟨i, j, rfl, rfl, h, q⟩
theorem b_mod {i j : Int} (h : 0 < j) (q : P (.int (i % j))) : binD st .mod (.int i) (.int j) P := ⟨i, j, rfl, rfl, h, q⟩
theorem b_pow {i j : Int} (h : PowOk i j) (q : P (.int (i ^ j.toNat))) : binD st .pow (.int i) (.int j) P := ⟨i, j, rfl, rfl, h, q⟩
theorem pow_small {i j : Int} (h0 : 0 ≤ j) (h1 : j ≤ 1000000) (h2 : i.natAbs < 2 ^ 64) : PowOk i j := by
  refine ⟨h0, ?_⟩
  have l : i.natAbs.log2 < 64 := by
    by_cases z : i.natAbs = 0
    · rw [z]; decide
    · exact (Nat.log2_lt z).mpr h2
  have : ((i.natAbs.log2 : Int) + 1) * j ≤ 64 * j := Int.mul_le_mul_of_nonneg_right (by omega) h0
  omega
theorem c_lt {i j : Int} {R : Bool → Sto → Prop} (q : R (decide (i < j)) st) : wCmp Φ C .lt (.int i) (.int j) st R EX := ⟨j, rfl, q⟩
theorem c_le {i j : Int} {R : Bool → Sto → Prop} (q : R (decide (i ≤ j)) st) : wCmp Φ C .le (.int i) (.int j) st R EX := ⟨i, j, rfl, rfl, q⟩
theorem c_gt {i j : Int} {R : Bool → Sto → Prop} (q : R (decide (j < i)) st) : wCmp Φ C .gt (.int i) (.int j) st R EX := ⟨i, j, rfl, rfl, q⟩
theorem c_ge {i j : Int} {R : Bool → Sto → Prop} (q : R (decide (j ≤ i)) st) : wCmp Φ C .ge (.int i) (.int j) st R EX := ⟨i, j, rfl, rfl, q⟩
theorem i_int {al : Bool} {i : Int} (q : Q (.int i) st) : wBi Φ C .int al [.int i] st Q EX := ⟨_, rfl, q⟩
theorem i_intB {al b : Bool} (q : Q (.int (if b = true then 1 else 0)) st) : wBi Φ C .int al [.bl b] st Q EX := ⟨_, rfl, q⟩
theorem i_abs {al : Bool} {i : Int} (q : Q (.int (if i < 0 then -i else i)) st) : wBi Φ C .abs al [.int i] st Q EX := ⟨_, rfl, i, rfl, q⟩
theorem atI_mem {α : Type} {xs : List α} {k : Int} (h0 : 0 ≤ k) (h1 : k < xs.length) : ∃ v, v ∈ xs ∧ atI xs k = some v := by
  have hk : k.toNat < xs.length := by omega
  refine ⟨xs[k.toNat], List.getElem_mem hk, ?_⟩
  unfold atI ixN
  rw [if_pos h0, if_pos h1]
  exact List.getElem?_eq_getElem hk
theorem get_set {p : Nat} {o : O} (h : p < st.length) : (st.set p o)[p]? = some o := by
  rw [List.getElem?_set_self h]
theorem seq_ref {p : Nat} {xs : List D} (h : st[p]? = some (.lst xs)) : seqOf st (.ref p) = some xs := by
  show (match st[p]? with
    | some (.lst xs) => some xs
    | _ => none) = some xs
  rw [h]
theorem x_ref {p : Nat} {xs : List D} {k : Int} {v : D} (h : st[p]? = some (.lst xs)) (a : atI xs k = some v) (q : Q v st) : idxD (.ref p) (.int k) st Q := by
  have e : seqOf st (.ref p) = some xs := seq_ref h
  unfold idxD
  rw [e]
  exact ⟨k, v, rfl, a, q⟩
theorem x_scr {xs : List Int} {k c : Int} (a : atI xs k = some c) (q : Q (.int c) st) : idxD (.scr xs) (.int k) st Q := .inr ⟨xs, k, c, rfl, rfl, a, q⟩
theorem x_lst {xs : List D} {k : Int} {v : D} (a : atI xs k = some v) (q : Q v st) : idxD (.lst xs) (.int k) st Q := ⟨k, v, rfl, a, q⟩
theorem x_tup {xs : List D} {k : Int} {v : D} (a : atI xs k = some v) (q : Q v st) : idxD (.tup xs) (.int k) st Q := ⟨k, v, rfl, a, q⟩
theorem len_of {al : Bool} {x : D} {n : Nat} (h1 : insOf st x = none) (h2 : lenD st x = some n) (q : Q (.int n) st) : wBi Φ C .len al [x] st Q EX := by
  refine ⟨x, rfl, ?_⟩
  show (match insOf st x with
    | some p => ∃ g, C.mth p.1 "__len__" = some g ∧ Φ g [x] st (fun d st' => ∃ n : Nat, d = .int n ∧ n < 2 ^ 62 ∧ Q d st') EX
    | none => ∃ n : Nat, lenD st x = some n ∧ Q (.int n) st)
  rw [h1]
  exact ⟨n, h2, q⟩
theorem i_len_lst {al : Bool} {xs : List D} (q : Q (.int xs.length) st) : wBi Φ C .len al [.lst xs] st Q EX := len_of rfl rfl q
theorem i_len_tup {al : Bool} {xs : List D} (q : Q (.int xs.length) st) : wBi Φ C .len al [.tup xs] st Q EX := len_of rfl rfl q
theorem i_len_scr {al : Bool} {xs : List Int} (q : Q (.int xs.length) st) : wBi Φ C .len al [.scr xs] st Q EX := len_of rfl rfl q
theorem ins_lst {p : Nat} {xs : List D} (h : st[p]? = some (.lst xs)) : insOf st (.ref p) = none := by
  show (match st[p]? with
    | some (.ins c fs) => some (c, fs)
    | _ => none) = none
  rw [h]
theorem i_len_ref {al : Bool} {p : Nat} {xs : List D} (h : st[p]? = some (.lst xs)) (q : Q (.int xs.length) st) : wBi Φ C .len al [.ref p] st Q EX :=
  len_of (ins_lst h) (by unfold lenD; rw [seq_ref h]) q
theorem i_min {al : Bool} {i j : Int} (q : Q (.int (if j < i then j else i)) st) : wBi Φ C .min al [.int i, .int j] st Q EX := ⟨_, _, rfl, i, j, rfl, rfl, q⟩
theorem i_max {al : Bool} {i j : Int} (q : Q (.int (if j > i then j else i)) st) : wBi Φ C .max al [.int i, .int j] st Q EX := ⟨_, _, rfl, i, j, rfl, rfl, q⟩
theorem i_list {al : Bool} {x : D} {xs : List D} (h : seqOf st x = some xs) (q : retL al xs st Q) : wBi Φ C .list al [x] st Q EX := ⟨x, rfl, xs, h, q⟩
theorem i_tuple {al : Bool} {x : D} {xs : List D} (h : seqOf st x = some xs) (q : Q (.tup xs) st) : wBi Φ C .tuple al [x] st Q EX := ⟨x, rfl, xs, h, q⟩
theorem m_append {p : Nat} {xs : List D} {x : D} (h : st[p]? = some (.lst xs)) (l : xs.length < sizeLine) (q : Q .non (st.set p (.lst (xs ++ [x])))) : wBm .append (.ref p) [x] st Q := ⟨x, rfl, p, xs, rfl, h, l, q⟩
theorem m_pop {p : Nat} {xs : List D} {x : D} {i : Nat} (h : st[p]? = some (.lst xs)) (hi : xs[i]? = some x) (hl : i < 2 ^ 62) (q : Q x (st.set p (.lst (xs.eraseIdx i)))) : wBm .pop (.ref p) [.int i] st Q := by
  have hlt : i < xs.length := (List.getElem?_eq_some_iff.mp hi).1
  refine ⟨_, rfl, p, xs, rfl, h, i, i, x, rfl, by omega, by omega, ?_, hi, q⟩
  have h1 : ixN xs.length (i : Int) = some i := by
    unfold ixN
    rw [if_pos (by omega), if_pos (by omega)]
    rfl
  exact (ixN_seq h1).1
theorem bm_ref {p : Nat} {xs : List D} (h : st[p]? = some (.lst xs)) : isLst st (.ref p) = true := by
  show (match st[p]? with
    | some (.lst _) => true
    | _ => false) = true
  rw [h]
theorem r_lst {xs : List D} (h : xs.length ≤ sizeLine) (q : Q (.lst xs) st) : retL false xs st Q := ⟨h, q⟩
theorem r_ref {xs : List D} (h : xs.length ≤ sizeLine) (q : Q (.ref st.length) (st ++ [.lst xs])) : retL true xs st Q := ⟨h, q⟩
theorem t_nm {i : Nat} {d : D} {k : Slots → Prop} (h : i < env.length) (q : k (env.set i (some d))) : bindT (.nm i) d st env k := ⟨h, q⟩
theorem t_cons {a r : T} {x : D} {xs : List D} {k : Slots → Prop} (q : bindT a x st env fun env' => bindT r (.tup xs) st env' k) : bindT (.tup a r) (.tup (x :: xs)) st env k := q
theorem t_end {k : Slots → Prop} (q : k env) : bindT .nil (.tup []) st env k := ⟨rfl, q⟩
theorem rng_one {j : Nat} {Q : List D → (Sto → Prop) → Sto → Prop} (hj : j < 1000000) (q : Q (rngD 0 j) (fun _ => True) st) :
    ∃ lo hi, ([D.int j] = [.int hi] ∧ lo = 0 ∨ [D.int j] = [.int lo, .int hi]) ∧ -(2 ^ 62) ≤ lo ∧ lo < 2 ^ 62 ∧ -(2 ^ 62) ≤ hi ∧ hi < 2 ^ 62 ∧ Q (rngD lo hi) (fun _ => True) st :=
  ⟨0, j, .inl ⟨rfl, rfl⟩, by decide, by decide, by omega, by omega, q⟩
theorem ix_lst {p : Nat} {xs : List D} {j : Int} {m : Nat} {v : D} {k : Sto → Prop} (h : st[p]? = some (.lst xs)) (a : ixN xs.length j = some m) (q : k (st.set p (.lst (xs.set m v)))) : setIx st (.ref p) (.int j) v k := ⟨p, _, rfl, h, j, m, rfl, a, q⟩
end
end Vm

set_option Elab.async false
set_option linter.all false
set_option maxRecDepth 100000
set_option maxHeartbeats 4000000
/-! Vm, part 26: more steps. -/
namespace Vm
open PySem PySem.Spec PyProof.Rows L2
/-- what is gone over -/
def itD (x : D) (st : Sto) (Q : List D → (Sto → Prop) → Sto → Prop) : Prop := match x with
    | .str s => Q (s.cps.toList.map fun c => .str ⟨#[c]⟩) (fun _ => True) st
    | x => ∃ xs, seqOf st x = some xs ∧ Q xs (live x xs) st
section
variable {Φ : Fn} {C : Ctx} {env : Slots} {st : Sto} {Q EX : QD} {K : Kt}
theorem sr_ex' {e : E} {Q : List D → (Sto → Prop) → Sto → Prop} (q : Vm.wE Φ C e env st (fun x st1 => itD x st1 Q) EX) : wSr Φ C (.ex e) env st Q EX := q
theorem it_lst {xs : List D} {Q : List D → (Sto → Prop) → Sto → Prop} (q : Q xs (fun _ => True) st) : itD (.lst xs) st Q := ⟨xs, rfl, q⟩
theorem it_tup {xs : List D} {Q : List D → (Sto → Prop) → Sto → Prop} (q : Q xs (fun _ => True) st) : itD (.tup xs) st Q := ⟨xs, rfl, q⟩
theorem it_str {s : Str} {Q : List D → (Sto → Prop) → Sto → Prop} (q : Q (s.cps.toList.map fun c => .str ⟨#[c]⟩) (fun _ => True) st) : itD (.str s) st Q := q
theorem it_ref {p : Nat} {xs : List D} {Q : List D → (Sto → Prop) → Sto → Prop} (h : st[p]? = some (.lst xs)) (q : Q xs (fun s => s[p]? = some (.lst xs)) st) : itD (.ref p) st Q := ⟨xs, seq_ref h, q⟩
theorem vif {c : Bool} {A B : Prop} (h1 : c = true → A) (h2 : c = false → B) : if c = true then A else B := by
  cases c
  · rw [if_neg (by decide)]; exact h2 rfl
  · rw [if_pos rfl]; exact h1 rfl
theorem vif' {c : Bool} {P : D → Prop} {A B : Prop} (h1 : c = true → A) (h2 : c = false → B) : ∃ b, D.bl c = .bl b ∧ if b = true then A else B := ⟨c, rfl, vif h1 h2⟩
theorem vit {A B : Prop} (h : A) : if true = true then A else B := h
theorem vift {c : Bool} {A B : Prop} (e : c = true) (h : A) : if c = true then A else B := by rw [if_pos e]; exact h
theorem viff {c : Bool} {A B : Prop} (e : c = false) (h : B) : if c = true then A else B := by rw [if_neg (by rw [e]; decide)]; exact h
theorem eqv_int (i j : Int) : PyData.eqv (.int i) (.int j) = decide (i = j) := by
  first
    | rfl
    | (simp [PyData.eqv]; done)
    | (unfold PyData.eqv; simp)
theorem eqv_str (i j : Str) : PyData.eqv (.str i) (.str j) = decide (i = j) := by
  first
    | rfl
    | (simp [PyData.eqv]; done)
    | (unfold PyData.eqv; simp)
theorem c_eqI' {i j : Int} {R : Bool → Sto → Prop} (q : R (decide (i = j)) st) : wCmp Φ C .eq (.int i) (.int j) st R EX := by
  refine .inr ⟨.int i, .int j, rfl, rfl, ?_⟩
  rw [eqv_int]
  exact q
theorem c_neI {i j : Int} {R : Bool → Sto → Prop} (q : R (!decide (i = j)) st) : wCmp Φ C .ne (.int i) (.int j) st R EX := by
  refine .inr ⟨.int i, .int j, rfl, rfl, ?_⟩
  rw [eqv_int]
  exact q
end
/-! ### plain values: None, ints, texts, and tuples and lists of them -/
def pl : Nat → D → Bool
  | _, .non => true
  | _, .int _ => true
  | _, .str s => PyData.strOk s
  | n + 1, .tup xs => xs.all (pl n)
  | n + 1, .lst xs => xs.all (pl n)
  | _, _ => false
theorem pl_data : ∀ {n : Nat} {x : D}, pl n x = true → ∃ p, x.data = some p ∧ p.canLay0 = true ∧ p.depth ≤ n := by
  have lst : ∀ {n : Nat}, (∀ {x : D}, pl n x = true → ∃ p, x.data = some p ∧ p.canLay0 = true ∧ p.depth ≤ n) → ∀ {xs : List D}, xs.all (pl n) = true → ∃ ps, dataL xs = some ps ∧ PyData.canLayAll0 ps = true ∧ PyData.depthAll ps ≤ n := by
    intro n ih xs
    induction xs with
    | nil => exact fun _ => ⟨[], rfl, rfl, Nat.zero_le _⟩
    | cons x xs ih2 =>
      intro h
      rw [List.all_cons, Bool.and_eq_true] at h
      obtain ⟨p, e1, e2, e3⟩ := ih h.1
      obtain ⟨ps, f1, f2, f3⟩ := ih2 h.2
      refine ⟨p :: ps, ?_, ?_, ?_⟩
      · show (x.data).bind (fun d => (dataL xs).map fun ds => d :: ds) = _
        rw [e1, f1]
        rfl
      · rw [PyData.canLayAll0, e2, f2]
        rfl
      · rw [PyData.depthAll]
        omega
  intro n
  induction n with
  | zero =>
    intro x h
    cases x <;> first | exact ⟨_, rfl, rfl, Nat.le_of_eq (by simp only [PyData.depth])⟩ | (cases h; done) | skip
    case str s => exact ⟨_, rfl, by simp only [PyData.canLay0]; exact h, Nat.le_of_eq (by simp only [PyData.depth])⟩
  | succ n ih =>
    intro x h
    cases x <;> first | exact ⟨_, rfl, rfl, by simp only [PyData.depth]; omega⟩ | (cases h; done) | skip
    case str s => exact ⟨_, rfl, by simp only [PyData.canLay0]; exact h, by simp only [PyData.depth]; omega⟩
    case tup xs =>
      obtain ⟨ps, f1, f2, f3⟩ := lst ih (xs := xs) h
      refine ⟨.tuple ps, ?_, by simp only [PyData.canLay0]; exact f2, by simp only [PyData.depth]; omega⟩
      show (dataL xs).map _ = _
      rw [f1]
      rfl
    case lst xs =>
      obtain ⟨ps, f1, f2, f3⟩ := lst ih (xs := xs) h
      refine ⟨.list ps, ?_, by simp only [PyData.canLay0]; exact f2, by simp only [PyData.depth]; omega⟩
      show (dataL xs).map _ = _
      rw [f1]
      rfl
theorem pl_eqv : ∀ {n : Nat} {x y : D} {p q : PyData}, pl n x = true → pl n y = true → x.data = some p → y.data = some q → (PyData.eqv p q = true ↔ x = y) := by
  have lst : ∀ {n : Nat}, (∀ {x y : D} {p q : PyData}, pl n x = true → pl n y = true → x.data = some p → y.data = some q → (PyData.eqv p q = true ↔ x = y)) →
      ∀ {xs ys : List D} {ps qs : List PyData}, xs.all (pl n) = true → ys.all (pl n) = true → dataL xs = some ps → dataL ys = some qs → (PyData.eqvAll ps qs = true ↔ xs = ys) := by
    intro n ih xs
    induction xs with
    | nil =>
      intro ys ps qs _ hy e1 e2
      cases e1
      cases ys with
      | nil => cases e2; simp [PyData.eqvAll]
      | cons y ys =>
        rw [List.all_cons, Bool.and_eq_true] at hy
        obtain ⟨q, g1, _, _⟩ := pl_data hy.1
        have e3 : (y.data).bind (fun d => (dataL ys).map fun ds => d :: ds) = some qs := e2
        rw [g1] at e3
        cases z : dataL ys with
        | none => rw [z] at e3; cases e3
        | some w =>
          rw [z] at e3
          cases e3
          simp [PyData.eqvAll]
    | cons x xs ih2 =>
      intro ys ps qs hx hy e1 e2
      rw [List.all_cons, Bool.and_eq_true] at hx
      obtain ⟨p, g1, _, _⟩ := pl_data hx.1
      have e1' : (x.data).bind (fun d => (dataL xs).map fun ds => d :: ds) = some ps := e1
      rw [g1] at e1'
      cases z : dataL xs with
      | none => rw [z] at e1'; cases e1'
      | some w =>
        rw [z] at e1'
        cases e1'
        cases ys with
        | nil => cases e2; simp [PyData.eqvAll]
        | cons y ys =>
          rw [List.all_cons, Bool.and_eq_true] at hy
          obtain ⟨q, k1, _, _⟩ := pl_data hy.1
          have e3 : (y.data).bind (fun d => (dataL ys).map fun ds => d :: ds) = some qs := e2
          rw [k1] at e3
          cases z2 : dataL ys with
          | none => rw [z2] at e3; cases e3
          | some w2 =>
            rw [z2] at e3
            cases e3
            show PyData.eqvAll (p :: w) (q :: w2) = true ↔ _
            rw [PyData.eqvAll, Bool.and_eq_true, ih hx.1 hy.1 g1 k1, ih2 hx.2 hy.2 z z2]
            exact ⟨fun h => by rw [h.1, h.2], fun h => by cases h; exact ⟨rfl, rfl⟩⟩
  intro n
  induction n with
  | zero =>
    intro x y p q hx hy e1 e2
    cases x <;> first | (cases hx; done) | skip
    all_goals (cases y <;> first | (cases hy; done) | skip)
    all_goals (cases e1; cases e2; simp [PyData.eqv])
  | succ n ih =>
    intro x y p q hx hy e1 e2
    have tl : ∀ {xs : List D} {p : PyData}, (D.tup xs).data = some p → ∃ ps, dataL xs = some ps ∧ p = .tuple ps := by
      intro xs p e
      have e' : (dataL xs).map PyData.tuple = some p := e
      obtain ⟨ps, a, b⟩ := Option.map_eq_some_iff.mp e'
      exact ⟨ps, a, b.symm⟩
    have ll : ∀ {xs : List D} {p : PyData}, (D.lst xs).data = some p → ∃ ps, dataL xs = some ps ∧ p = .list ps := by
      intro xs p e
      have e' : (dataL xs).map PyData.list = some p := e
      obtain ⟨ps, a, b⟩ := Option.map_eq_some_iff.mp e'
      exact ⟨ps, a, b.symm⟩
    cases x <;> first | (cases hx; done) | skip
    all_goals (cases y <;> first | (cases hy; done) | skip)
    case tup.tup xs ys =>
      obtain ⟨ps, a1, rfl⟩ := tl e1
      obtain ⟨qs, b1, rfl⟩ := tl e2
      rw [PyData.eqv, lst ih hx hy a1 b1, D.tup.injEq]
    case lst.lst xs ys =>
      obtain ⟨ps, a1, rfl⟩ := ll e1
      obtain ⟨qs, b1, rfl⟩ := ll e2
      rw [PyData.eqv, lst ih hx hy a1 b1, D.lst.injEq]
    all_goals first
      | (cases e1; cases e2; simp [PyData.eqv]; done)
      | (obtain ⟨ps, a1, rfl⟩ := tl e1; obtain ⟨qs, b1, rfl⟩ := ll e2; simp [PyData.eqv]; done)
      | (obtain ⟨ps, a1, rfl⟩ := ll e1; obtain ⟨qs, b1, rfl⟩ := tl e2; simp [PyData.eqv]; done)
      | (obtain ⟨ps, a1, rfl⟩ := tl e1; cases e2; simp [PyData.eqv]; done)
      | (obtain ⟨ps, a1, rfl⟩ := ll e1; cases e2; simp [PyData.eqv]; done)
      | (cases e1; obtain ⟨qs, b1, rfl⟩ := tl e2; simp [PyData.eqv]; done)
      | (cases e1; obtain ⟨qs, b1, rfl⟩ := ll e2; simp [PyData.eqv]; done)
theorem pl_mono : ∀ {n m : Nat} {x : D}, n ≤ m → pl n x = true → pl m x = true := by
  intro n
  induction n with
  | zero => intro m x _ h; cases m <;> cases x <;> first | exact h | (cases h; done)
  | succ n ih =>
    intro m x hm h
    obtain ⟨k, rfl⟩ : ∃ k, m = k + 1 := ⟨m - 1, by omega⟩
    cases x <;> first | exact h | (cases h; done) | skip
    all_goals exact List.all_eq_true.mpr fun z hz => ih (by omega) (List.all_eq_true.mp h z hz)
/-- a value read where it lies: itself, or the list behind a ref -/
inductive Der (st : Sto) : D → D → Prop where
  | self {x : D} : (∀ n, x ≠ .ref n) → Der st x x
  | ref {n : Nat} {xs : List D} : st[n]? = some (.lst xs) → Der st (.ref n) (.lst xs)
theorem der_data {st : Sto} {x y : D} (h : Der st x y) : dataOf st x = y.data := by
  cases h with
  | self h => cases x <;> first | rfl | exact (h _ rfl).elim
  | ref e =>
    show (match st[_]? with
    | some (O.lst xs) => (dataL xs).map PyData.list
    | _ => none) = _
    rw [e]
    rfl
theorem der_pl {st : Sto} {x : D} {n : Nat} (h : pl n x = true) : Der st x x := .self fun m e => by subst e; cases n <;> cases h
theorem pl_ins {st : Sto} {x y : D} {n : Nat} (d : Der st x y) (h : pl n y = true) : insOf st x = none := by
  cases d with
  | self k => cases x <;> first | rfl | exact (k _ rfl).elim | (cases n <;> cases h)
  | ref e =>
    show (match st[_]? with
    | some (O.ins c fs) => some (c, fs)
    | _ => none) = none
    rw [e]
theorem shapedOf {st : Sto} {x y : D} {n : Nat} (d : Der st x y) (h : pl n y = true) (hn : n ≤ 64) : ∃ p, shapedD st x = some p ∧ y.data = some p := by
  obtain ⟨p, e1, e2, e3⟩ := pl_data h
  refine ⟨p, ?_, e1⟩
  unfold shapedD
  rw [der_data d, e1]
  show (if SeqAt.shaped p = true then some p else none) = some p
  rw [if_pos]
  unfold SeqAt.shaped
  rw [e2, decide_eq_true (show p.depth ≤ 64 by omega)]
  rfl
section
variable {Φ : Fn} {C : Ctx} {env : Slots} {st : Sto} {Q EX : QD} {K : Kt}
theorem c_eqD {x y x' y' : D} {n : Nat} {R : Bool → Sto → Prop} (hn : n ≤ 64) (dx : Der st x x') (dy : Der st y y') (hx : pl n x' = true) (hy : pl n y' = true) (q : ∀ b : Bool, (b = true ↔ x' = y') → R b st) : wCmp Φ C .eq x y st R EX := by
  obtain ⟨p, e1, f1⟩ := shapedOf dx hx hn
  obtain ⟨r, e2, f2⟩ := shapedOf dy hy hn
  show wEq Φ C x y st R EX
  unfold wEq
  rw [pl_ins dx hx]
  exact .inr ⟨p, r, e1, e2, q _ (pl_eqv hx hy f1 f2)⟩
theorem c_neD {x y x' y' : D} {n : Nat} {R : Bool → Sto → Prop} (hn : n ≤ 64) (dx : Der st x x') (dy : Der st y y') (hx : pl n x' = true) (hy : pl n y' = true) (q : ∀ b : Bool, (b = true ↔ x' = y') → R (!b) st) : wCmp Φ C .ne x y st R EX :=
  c_eqD (R := fun b s => R (!b) s) hn dx dy hx hy q
theorem c_eqS {i j : Str} {R : Bool → Sto → Prop} (q : R (decide (i = j)) st) : wCmp Φ C .eq (.str i) (.str j) st R EX := .inl ⟨i, j, rfl, rfl, q⟩
theorem c_neS {i j : Str} {R : Bool → Sto → Prop} (q : R (!decide (i = j)) st) : wCmp Φ C .ne (.str i) (.str j) st R EX := .inl ⟨i, j, rfl, rfl, q⟩
theorem c_eqB {i j : Bool} {R : Bool → Sto → Prop} (q : R (i == j) st) : wCmp Φ C .eq (.bl i) (.bl j) st R EX := .inr ⟨.bool i, .bool j, rfl, rfl, q⟩
theorem c_neB {i j : Bool} {R : Bool → Sto → Prop} (q : R (!(i == j)) st) : wCmp Φ C .ne (.bl i) (.bl j) st R EX := .inr ⟨.bool i, .bool j, rfl, rfl, q⟩
theorem dataL_pl {n : Nat} : ∀ {ys : List D}, (∀ z ∈ ys, pl n z = true) → ∃ ps, dataL ys = some ps ∧ SeqAt.shaped (.list ps) = true ∨ 64 ≤ n := fun {ys} h => by
  by_cases hn : 64 ≤ n
  · exact ⟨[], .inr hn⟩
  · have : pl (n + 1) (.lst ys) = true := List.all_eq_true.mpr h
    obtain ⟨p, e1, e2, e3⟩ := pl_data this
    have e' : (dataL ys).map PyData.list = some p := e1
    obtain ⟨ps, a, b⟩ := Option.map_eq_some_iff.mp e'
    subst b
    refine ⟨ps, .inl ⟨a, ?_⟩⟩
    unfold SeqAt.shaped
    rw [e2, decide_eq_true (show PyData.depth (.list ps) ≤ 64 by omega)]
    rfl
theorem any_pl {n : Nat} {x : D} {p : PyData} (hx : pl n x = true) (ex : x.data = some p) : ∀ {ys : List D} {ps : List PyData}, (∀ z ∈ ys, pl n z = true) → dataL ys = some ps → ((ps.any fun z => PyData.eqv z p) = true ↔ x ∈ ys)
  | [], ps, _, e => by cases e; simp
  | y :: ys, ps, h, e => by
    have e3 : (y.data).bind (fun d => (dataL ys).map fun ds => d :: ds) = some ps := e
    obtain ⟨q, g1, _, _⟩ := pl_data (h y (List.mem_cons_self ..))
    rw [g1] at e3
    cases z : dataL ys with
    | none => rw [z] at e3; cases e3
    | some w =>
      rw [z] at e3
      cases e3
      rw [List.any_cons, Bool.or_eq_true, any_pl hx ex (fun u hu => h u (List.mem_cons_of_mem _ hu)) z, pl_eqv (h y (List.mem_cons_self ..)) hx g1 ex, List.mem_cons]
      exact ⟨fun k => k.imp Eq.symm id, fun k => k.imp Eq.symm id⟩
theorem ins_of_lst {y : D} (h : isLst st y = true ∨ ∃ xs, y = .tup xs) : insOf st y = none := by
  rcases h with h | ⟨xs, rfl⟩
  · cases y <;> first | rfl | (cases h; done) | skip
    case ref m =>
      show (match st[m]? with
      | some (.ins c fs) => some (c, fs)
      | _ => none) = none
      have h' : (match st[m]? with
      | some (.lst _) => true
      | _ => false) = true := h
      cases e : st[m]? with
      | none => rfl
      | some o => rw [e] at h'; cases o <;> first | rfl | cases h'
  · rfl
theorem dct_of_lst {y : D} (h : isLst st y = true ∨ ∃ xs, y = .tup xs) : dctOf st y = none := by
  rcases h with h | ⟨xs, rfl⟩
  · cases y <;> first | rfl | (cases h; done) | skip
    case ref m =>
      show (match st[m]? with
      | some (.dct kvs) => some kvs
      | _ => none) = none
      have h' : (match st[m]? with
      | some (.lst _) => true
      | _ => false) = true := h
      cases e : st[m]? with
      | none => rfl
      | some o => rw [e] at h'; cases o <;> first | rfl | cases h'
  · rfl
theorem c_inD {x x' y : D} {ys : List D} {n : Nat} {R : Bool → Sto → Prop} (hn : n < 64) (hy : isLst st y = true ∨ ∃ xs, y = .tup xs) (hs : seqOf st y = some ys) (dx : Der st x x') (hx : pl n x' = true) (hys : ∀ z ∈ ys, pl n z = true) (q : ∀ b : Bool, (b = true ↔ x' ∈ ys) → R b st) : wCmp Φ C .isin x y st R EX := by
  show wIn Φ C x y st R EX
  unfold wIn
  rw [ins_of_lst hy]
  obtain ⟨p, e1, e2⟩ := shapedOf dx hx (by omega)
  obtain ⟨ps, h⟩ := dataL_pl hys
  rcases h with ⟨a, b⟩ | h
  · have main : inSeq st x y fun b => R b st := ⟨p, ys, ps, e1, hs, a, b, q _ (any_pl hx e2 hys a)⟩
    have dn := dct_of_lst hy
    show inData st x y fun b => R b st
    unfold inData
    rcases hy with hy | ⟨xs, rfl⟩
    · cases y <;> first | (cases hy; done) | skip
      · exact main
      · show (match dctOf st _ with | some kvs => _ | none => _)
        rw [dn]
        exact main
    · exact main
  · omega
theorem c_ninD {x x' y : D} {ys : List D} {n : Nat} {R : Bool → Sto → Prop} (hn : n < 64) (hy : isLst st y = true ∨ ∃ xs, y = .tup xs) (hs : seqOf st y = some ys) (dx : Der st x x') (hx : pl n x' = true) (hys : ∀ z ∈ ys, pl n z = true) (q : ∀ b : Bool, (b = true ↔ x' ∈ ys) → R (!b) st) : wCmp Φ C .notin x y st R EX :=
  c_inD (R := fun b s => R (!b) s) hn hy hs dx hx hys q
theorem mem_strs {a : Str} {xs : List Str} : D.str a ∈ xs.map D.str ↔ a ∈ xs := by
  rw [List.mem_map]
  exact ⟨fun ⟨b, h, e⟩ => by cases e; exact h, fun h => ⟨a, h, rfl⟩⟩
/-- a text in a list of texts -/
theorem c_inL {a : Str} {xs : List Str} {R : Bool → Sto → Prop} (ha : PyData.strOk a = true) (hx : ∀ z ∈ xs, PyData.strOk z = true) (q : R (decide (a ∈ xs)) st) : wCmp Φ C .isin (.str a) (.lst (xs.map D.str)) st R EX :=
  c_inD (n := 0) (by decide) (.inl rfl) rfl (.self (by intro _ h; cases h)) ha (fun z hz => by obtain ⟨b, h, rfl⟩ := List.mem_map.mp hz; exact hx b h) fun b hb => by
    have : b = decide (a ∈ xs) := by rw [Bool.eq_iff_iff, hb, decide_eq_true_iff, mem_strs]
    rw [this]; exact q
theorem c_inT {a : Str} {xs : List Str} {R : Bool → Sto → Prop} (ha : PyData.strOk a = true) (hx : ∀ z ∈ xs, PyData.strOk z = true) (q : R (decide (a ∈ xs)) st) : wCmp Φ C .isin (.str a) (.tup (xs.map D.str)) st R EX :=
  c_inD (n := 0) (by decide) (.inr ⟨_, rfl⟩) rfl (.self (by intro _ h; cases h)) ha (fun z hz => by obtain ⟨b, h, rfl⟩ := List.mem_map.mp hz; exact hx b h) fun b hb => by
    have : b = decide (a ∈ xs) := by rw [Bool.eq_iff_iff, hb, decide_eq_true_iff, mem_strs]
    rw [this]; exact q
end
end Vm

set_option Elab.async false
set_option linter.all false
set_option maxRecDepth 100000
set_option maxHeartbeats 4000000
/-! Vm, part 27: stores in one form, loops. -/
namespace Vm
open PySem PySem.Spec PyProof.Rows L2
theorem pot_get {st B : Sto} {o : O} {p : Nat} (h : p < st.length) : (st.set p o ++ B)[p]? = some o := by
  rw [base_get (by rw [List.length_set]; exact h)]
  exact get_set h
theorem pot_set {st B : Sto} {o o' : O} {p : Nat} (h : p < st.length) : (st.set p o ++ B).set p o' = st.set p o' ++ B := by
  rw [base_set _ (by rw [List.length_set]; exact h), List.set_set]
theorem own_get {st B : Sto} {o : O} {p : Nat} (i : Nat) : (st.set p o ++ B)[st.length + i]? = B[i]? := by
  have := loc_get (A := st.set p o) (B := B) i
  rw [List.length_set] at this
  exact this
theorem own_set {st B : Sto} {o u : O} {p : Nat} (i : Nat) : (st.set p o ++ B).set (st.length + i) u = st.set p o ++ B.set i u := by
  have := loc_set (A := st.set p o) (B := B) i u
  rw [List.length_set] at this
  exact this
theorem loc_get0 {A B : Sto} {o : O} : (A ++ o :: B)[A.length]? = some o := loc_get (A := A) (B := o :: B) 0
theorem loc_set0 {A B : Sto} {o u : O} : (A ++ o :: B).set A.length u = A ++ u :: B := loc_set (A := A) (B := o :: B) 0 u
theorem own_get0 {st B : Sto} {o u : O} {p : Nat} : (st.set p o ++ u :: B)[st.length]? = some u := own_get (B := u :: B) 0
theorem own_set0 {st B : Sto} {o u v : O} {p : Nat} : (st.set p o ++ u :: B).set st.length v = st.set p o ++ v :: B := own_set (B := u :: B) 0
theorem own_len00 {st : Sto} {o o' : O} {p q : Nat} : ((st.set p o).set q o').length = st.length := by simp
theorem own_len0 {st : Sto} {o : O} {p : Nat} : (st.set p o).length = st.length := List.length_set ..
theorem own_len1 {st : Sto} {o a : O} {p : Nat} : (st.set p o ++ [a]).length = st.length + 1 := by simp
theorem own_len2 {st : Sto} {o a b : O} {p : Nat} : (st.set p o ++ [a, b]).length = st.length + 2 := by simp
theorem own_len3 {st : Sto} {o a b c : O} {p : Nat} : (st.set p o ++ [a, b, c]).length = st.length + 3 := by simp
theorem loc_len1 {st : Sto} {a : O} : (st ++ [a]).length = st.length + 1 := by simp
theorem loc_len2 {st : Sto} {a b : O} : (st ++ [a, b]).length = st.length + 2 := by simp
theorem loc_len3 {st : Sto} {a b c : O} : (st ++ [a, b, c]).length = st.length + 3 := by simp
theorem app1 {st : Sto} {a b : O} : st ++ [a] ++ [b] = st ++ [a, b] := by simp
theorem app2 {st : Sto} {a b c : O} : st ++ [a, b] ++ [c] = st ++ [a, b, c] := by simp
theorem app3 {st : Sto} {a b c d : O} : st ++ [a, b, c] ++ [d] = st ++ [a, b, c, d] := by simp
theorem snoc_len {A : Sto} {B : Sto} : (A ++ B).length = A.length + B.length := List.length_append
section
variable {Φ : Fn} {C : Ctx} {env : Slots} {st st2 : Sto} {Q EX : QD} {K : Kt}
theorem m_append' {p : Nat} {xs : List D} {x : D} (h : st[p]? = some (.lst xs)) (l : xs.length < sizeLine) (e : st.set p (.lst (xs ++ [x])) = st2) (q : Q .non st2) : wBm .append (.ref p) [x] st Q := m_append h l (by rw [e]; exact q)
theorem m_extend' {p : Nat} {xs ys : List D} (h : st[p]? = some (.lst xs)) (l : xs.length + ys.length ≤ sizeLine) (e : st.set p (.lst (xs ++ ys)) = st2) (q : Q .non st2) : wBm .extend (.ref p) [.lst ys] st Q := m_extend h l (by rw [e]; exact q)
theorem m_pop' {p : Nat} {xs : List D} {x : D} {i : Nat} (h : st[p]? = some (.lst xs)) (hi : xs[i]? = some x) (hl : i < 2 ^ 62) (e : st.set p (.lst (xs.eraseIdx i)) = st2) (q : Q x st2) : wBm .pop (.ref p) [.int i] st Q := m_pop h hi hl (by rw [e]; exact q)
theorem ix_lst' {p : Nat} {xs : List D} {j : Int} {m : Nat} {v : D} {k : Sto → Prop} (h : st[p]? = some (.lst xs)) (a : ixN xs.length j = some m) (e : st.set p (.lst (xs.set m v)) = st2) (q : k st2) : setIx st (.ref p) (.int j) v k := ix_lst h a (by rw [e]; exact q)
theorem r_ref' {xs : List D} {n : Nat} (h : xs.length ≤ sizeLine) (l : st.length = n) (e : st ++ [.lst xs] = st2) (q : Q (.ref n) st2) : retL true xs st Q := by
  subst l e
  exact ⟨h, q⟩
theorem bm_at {p : Nat} {xs : List D} {m : Bm} {P : Prop} (h : st[p]? = some (.lst xs)) (hm : m = .append ∨ m = .extend ∨ m = .pop) (q : P) : bmOk m st (.ref p) = true ∧ P := by
  rcases hm with rfl | rfl | rfl <;> exact ⟨bm_ref h, q⟩
theorem bm_txt {s : Str} {m : Bm} {P : Prop} (hm : m = .split ∨ m = .join) (q : P) : bmOk m st (.str s) = true ∧ P := by
  rcases hm with rfl | rfl <;> exact ⟨rfl, q⟩
theorem vand {c : Bool} {A : Prop} (h1 : c = true → A) (h2 : c = false → Q (.bl false) st) : ∃ b, D.bl c = .bl b ∧ if b = true then A else Q (.bl b) st := by
  cases c
  · exact ⟨_, rfl, by rw [if_neg (by decide)]; exact h2 rfl⟩
  · exact ⟨_, rfl, by rw [if_pos rfl]; exact h1 rfl⟩
theorem vor {c : Bool} {A : Prop} (h1 : c = true → Q (.bl true) st) (h2 : c = false → A) : ∃ b, D.bl c = .bl b ∧ if b = false then A else Q (.bl b) st := by
  cases c
  · exact ⟨_, rfl, by rw [if_pos rfl]; exact h2 rfl⟩
  · exact ⟨_, rfl, by rw [if_neg (by decide)]; exact h1 rfl⟩
theorem vand' {c : Bool} {A : Prop} (h1 : c = true → A) (h2 : c = false → Q (.bl false) st) : if c = true then A else Q (.bl c) st := by
  cases c
  · rw [if_neg (by decide)]; exact h2 rfl
  · rw [if_pos rfl]; exact h1 rfl
theorem vor' {c : Bool} {A : Prop} (h1 : c = true → Q (.bl true) st) (h2 : c = false → A) : if c = false then A else Q (.bl c) st := by
  cases c
  · rw [if_pos rfl]; exact h2 rfl
  · rw [if_neg (by decide)]; exact h1 rfl
theorem vor_t {A B : Prop} (h : B) : if true = false then A else B := h
theorem vor_f {A B : Prop} (h : A) : if false = false then A else B := h
theorem vand_f {A B : Prop} (h : B) : if false = true then A else B := h
theorem vifn {c : Bool} {A B : Prop} (h1 : c = false → A) (h2 : c = true → B) : if c = false then A else B := by
  cases c
  · rw [if_pos rfl]; exact h1 rfl
  · rw [if_neg (by decide)]; exact h2 rfl
theorem vor_f' {c : Bool} {A B : Prop} (e : c = false) (h : A) : if c = false then A else B := by rw [if_pos e]; exact h
theorem vor_t' {c : Bool} {A B : Prop} (e : c = true) (h : B) : if c = false then A else B := by rw [if_neg (by rw [e]; decide)]; exact h
/-- a loop as a fold: what is walked on stays in a form of its own -/
theorem eachS_fold {σ : Type} {g : Sto → Prop} {t : T} {body : Slots → Sto → Kt → Prop} {items : List D} (f : σ → D → σ) (Rel : σ → Slots → Sto → Prop) (Ok : Nat → σ → Prop)
    (hg : ∀ s env st, Rel s env st → g st)
    (step : ∀ (i : Nat) (x : D) (s : σ) (env : Slots) (st : Sto), items[i]? = some x → Ok i s → Rel s env st → ∀ N : Slots → Sto → Prop, (∀ env2 st2, Ok (i + 1) (f s x) → Rel (f s x) env2 st2 → N env2 st2) → bindT t x st env fun env' => body env' st { K with nx := N, ct := N, bk := K.nx })
    {s0 : σ} (o0 : Ok 0 s0) (r0 : Rel s0 env st) (fin : ∀ env2 st2, Ok items.length (items.foldl f s0) → Rel (items.foldl f s0) env2 st2 → K.nx env2 st2) : eachS g t body items env st K := by
  have take_succ : ∀ (i : Nat) (x : D), items[i]? = some x → (items.take (i + 1)).foldl f s0 = f ((items.take i).foldl f s0) x := fun i x h => by
    rw [List.take_add_one, h, List.foldl_append]
    rfl
  refine eachS_inv (fun i env st => Ok i ((items.take i).foldl f s0) ∧ Rel ((items.take i).foldl f s0) env st) (fun i x env st hi iv N hN => ⟨hg _ _ _ iv.2, ?_⟩) (fun env st iv => ?_) ⟨o0, r0⟩
  · refine step i x _ env st hi iv.1 iv.2 N fun env2 st2 h1 h2 => hN env2 st2 ?_
    rw [take_succ i x hi]
    exact ⟨h1, h2⟩
  · rw [List.take_length] at iv
    exact ⟨hg _ _ _ iv.2, fin env st iv.1 iv.2⟩
theorem ss_consf {s : S} {i : Nat} {r : Ss} (q : Vm.wS Φ C s env st { K with nx := fun env1 st1 => Vm.wSs Φ C (.frz i r) env1 st1 K }) : Vm.wSs Φ C (.cons s (.frz i r)) env st K := q
theorem i_len_str {al : Bool} {s : Str} (h : s.length ≤ sizeLine) (q : Q (.int s.length) st) : wBi Φ C .len al [.str s] st Q EX := len_of rfl (by
  show (if s.length ≤ sizeLine then some s.length else none) = _
  rw [if_pos h]) q
theorem wsr_enu {e : E} {Q : List D → (Sto → Prop) → Sto → Prop} (q : Vm.wE Φ C e env st (fun x st1 => ∃ xs, seqOf st1 x = some xs ∧ Q (enumFrom 0 xs) (live x xs) st1) EX) : wSr Φ C (.enu e) env st Q EX := q
theorem m_split {a b : Str} {parts : List Str} (hb : (b.length == 0) = false) (hl : a.length + 2 ≤ sizeLine) (e : Txt.split a b = parts) (q : Q (.lst (parts.map .str)) st) : wBm .split (.str a) [.str b] st Q := by
  subst e
  exact ⟨_, rfl, a, b, rfl, rfl, hb, hl, q⟩
theorem sStr_map : ∀ xs : List Str, sStr (xs.map D.str) = some xs
  | [] => rfl
  | x :: xs => by
    show (sStr (xs.map D.str)).map (fun ys => x :: ys) = _
    rw [sStr_map xs]
    rfl
theorem m_join {a : Str} {x : D} {zs : List Str} (hs : seqOf st x = some (zs.map D.str)) (hl : (zs.map (·.length)).sum + zs.length * a.length ≤ 16777216) (q : Q (.str (Txt.join a zs)) st) : wBm .join (.str a) [x] st Q :=
  ⟨_, rfl, a, _, zs, rfl, hs, sStr_map zs, hl, q⟩
theorem x_dct {kvs : List (Key × D)} {i : D} {k : Key} {v : D} (hk : keyOf i = some k) (h : valD kvs k = some v) (q : Q v st) : idxD (.dct kvs) i st Q := ⟨k, v, hk, h, q⟩
theorem i_isT {al : Bool} {x : D} {n : String} {b : Bool} (h1 : tyNms.contains n = true) (h : isTy C st n x = some b) (q : Q (.bl b) st) : wBi Φ C .isinst al [x, .ty n] st Q EX := by
  refine ⟨x, .ty n, rfl, b, ?_, q⟩
  have e : ancOf C x = none := by
    cases x with
    | exc c v => cases h
    | _ => rfl
  show (if tyNms.contains n = true then (match ancOf C x with
    | some anc => some (anc.contains (PySem.Str.ofString n))
    | none => isTy C st n x) else none) = some b
  rw [if_pos h1, e]
  exact h
theorem i_all {al : Bool} {bs : List Bool} (q : Q (.bl (bs.all id)) st) : wBi Φ C .all al [.lst (bs.map D.bl)] st Q EX := by
  have e : ∀ bs : List Bool, sBl (bs.map D.bl) = some bs := fun bs => by
    induction bs with
    | nil => rfl
    | cons b bs ih =>
      show (sBl (bs.map D.bl)).map (fun xs => b :: xs) = _
      rw [ih]
      rfl
  exact ⟨_, rfl, _, bs, rfl, rfl, e bs, q⟩
theorem i_any {al : Bool} {bs : List Bool} (q : Q (.bl (bs.any id)) st) : wBi Φ C .any al [.lst (bs.map D.bl)] st Q EX := by
  have e : ∀ bs : List Bool, sBl (bs.map D.bl) = some bs := fun bs => by
    induction bs with
    | nil => rfl
    | cons b bs ih =>
      show (sBl (bs.map D.bl)).map (fun xs => b :: xs) = _
      rw [ih]
      rfl
  exact ⟨_, rfl, _, bs, rfl, rfl, e bs, q⟩
theorem a_fld {c f : Str} {fs : List (Str × D)} {x v : D} (hi : insOf st x = some (c, fs)) (hp : C.prp c f = none) (hf : C.fld c f = true) (hl : fs.lookup f = some v) (q : Q v st) : attrD Φ C f x st Q EX := by
  unfold attrD
  rw [hi]
  show (match C.prp c f with
    | some g => Φ g [x] st Q fun _ _ => False
    | none => ∃ v, C.fld c f = true ∧ fs.lookup f = some v ∧ Q v st)
  rw [hp]
  exact ⟨v, hf, hl, q⟩
theorem a_prp {c f g : Str} {fs : List (Str × D)} {x : D} (hi : insOf st x = some (c, fs)) (hp : C.prp c f = some g) (q : Φ g [x] st Q fun _ _ => False) : attrD Φ C f x st Q EX := by
  unfold attrD
  rw [hi]
  show (match C.prp c f with
    | some g => Φ g [x] st Q fun _ _ => False
    | none => ∃ v, C.fld c f = true ∧ fs.lookup f = some v ∧ Q v st)
  rw [hp]
  exact q
/-- a comprehension over typed items that changes nothing -/
theorem each_ty {α β : Type} {g : Sto → Prop} {step : D → List D → Sto → (List D → Sto → Prop) → Prop} {R : List D → Sto → Prop} {ea : α → D} (f : α → Option β) (eb : β → D) (hg : g st) : ∀ (items : List α) (acc : List D),
    (∀ x ∈ items, ∀ (a : List D) (k : List D → Sto → Prop), a.length < sizeLine → (∀ y, f x = some y → k (a ++ [eb y]) st) → (f x = none → k a st) → step (ea x) a st k) → acc.length + items.length ≤ sizeLine → R (acc ++ (items.filterMap f).map eb) st → each g step (items.map ea) acc st R
  | [], acc, _, _, q => ⟨hg, by simpa using q⟩
  | x :: xs, acc, hs, hl, q => by
    rw [List.length_cons] at hl
    refine ⟨hg, hs x (List.mem_cons_self ..) acc _ (by omega) (fun y hy => ?_) fun hn => ?_⟩
    · refine each_ty f eb hg xs (acc ++ [eb y]) (fun z hz => hs z (List.mem_cons_of_mem _ hz)) (by rw [List.length_append, List.length_cons, List.length_nil]; omega) ?_
      rw [List.filterMap_cons_some hy] at q
      simpa using q
    · refine each_ty f eb hg xs acc (fun z hz => hs z (List.mem_cons_of_mem _ hz)) (by omega) ?_
      rw [List.filterMap_cons_none hn] at q
      exact q
/-- .. without a condition -/
theorem each_mp {α β : Type} {g : Sto → Prop} {step : D → List D → Sto → (List D → Sto → Prop) → Prop} {R : List D → Sto → Prop} {ea : α → D} (f : α → β) (eb : β → D) (items : List α) (hg : g st)
    (hs : ∀ x ∈ items, ∀ (a : List D) (k : List D → Sto → Prop), a.length < sizeLine → k (a ++ [eb (f x)]) st → step (ea x) a st k) (hl : items.length ≤ sizeLine) (q : R ((items.map f).map eb) st) : each g step (items.map ea) [] st R :=
  each_ty (fun x => some (f x)) eb hg items [] (fun x hx a k ha h1 _ => hs x hx a k ha (h1 _ rfl)) (by simpa using hl) (by rw [List.filterMap_eq_map']; exact q)
/-- .. of booleans -/
theorem each_bl {α : Type} {g : Sto → Prop} {step : D → List D → Sto → (List D → Sto → Prop) → Prop} {R : List D → Sto → Prop} {ea : α → D} (f : α → Bool) (items : List α) (hg : g st)
    (hs : ∀ x ∈ items, ∀ (a : List D) (k : List D → Sto → Prop), a.length < sizeLine → k (a ++ [.bl (f x)]) st → step (ea x) a st k) (hl : items.length ≤ sizeLine) (q : R ((items.map f).map D.bl) st) : each g step (items.map ea) [] st R :=
  each_mp f D.bl items hg hs hl q
theorem each_blI {g : Sto → Prop} {step : D → List D → Sto → (List D → Sto → Prop) → Prop} {R : List D → Sto → Prop} (f : D → Bool) (items : List D) (hg : g st)
    (hs : ∀ x ∈ items, ∀ (a : List D) (k : List D → Sto → Prop), a.length < sizeLine → k (a ++ [.bl (f x)]) st → step x a st k) (hl : items.length ≤ sizeLine) (q : R ((items.map f).map D.bl) st) : each g step items [] st R := by
  have := each_bl (ea := fun x : D => x) f items hg hs hl q
  rw [List.map_id'] at this
  exact this
/-- .. that keeps some -/
theorem each_fl {α β : Type} {g : Sto → Prop} {step : D → List D → Sto → (List D → Sto → Prop) → Prop} {R : List D → Sto → Prop} {ea : α → D} (p : α → Bool) (f : α → β) (eb : β → D) (items : List α) (hg : g st)
    (hs : ∀ x ∈ items, ∀ (a : List D) (k : List D → Sto → Prop), a.length < sizeLine → (p x = true → k (a ++ [eb (f x)]) st) → (p x = false → k a st) → step (ea x) a st k) (hl : items.length ≤ sizeLine) (q : R (((items.filter p).map f).map eb) st) : each g step (items.map ea) [] st R := by
  refine each_ty (fun x => if p x = true then some (f x) else none) eb hg items [] (fun x hx a k ha h1 h2 => hs x hx a k ha (fun e => h1 _ (if_pos e)) (fun e => h2 (if_neg (by rw [e]; decide)))) (by simpa using hl) ?_
  have e : ∀ items : List α, items.filterMap (fun x => if p x = true then some (f x) else none) = (items.filter p).map f := fun items => by
    induction items with
    | nil => rfl
    | cons x xs ih =>
      rw [List.filterMap_cons, ih]
      cases h : p x with
      | true => rw [List.filter_cons_of_pos h]; rfl
      | false => rw [List.filter_cons_of_neg (by rw [h]; decide)]; rfl
  rw [e]
  exact q
end
end Vm

set_option Elab.async false
set_option linter.all false
set_option maxRecDepth 100000
set_option maxHeartbeats 4000000
/-! Vm, part 28: more steps. -/
namespace Vm
open PySem PySem.Spec PyProof.Rows L2
theorem vTrue {A B : Prop} {i : Decidable True} (h : A) : @ite Prop True i A B := by rw [if_pos True.intro]; exact h
theorem vFalse {A B : Prop} {i : Decidable False} (h : B) : @ite Prop False i A B := by rw [if_neg (fun z => z)]; exact h
theorem t_consL {a r : T} {x : D} {xs : List D} {st : Sto} {env : Slots} {k : Slots → Prop} (q : bindT a x st env fun env' => bindT r (.tup xs) st env' k) : bindT (.tup a r) (.lst (x :: xs)) st env k := q
theorem ix_dct {st st2 : Sto} {p : Nat} {kvs : List (Key × D)} {y v : D} {q : Key} {k : Sto → Prop} (h : st[p]? = some (.dct kvs)) (hl : kvs.length < sizeLine) (hk : keyOf y = some q) (e : st.set p (.dct (putD kvs q v)) = st2) (z : k st2) : setIx st (.ref p) y v k := by
  subst e
  exact ⟨p, _, rfl, h, hl, q, hk, z⟩
theorem atI_last {α : Type} {xs : List α} (h : xs ≠ []) : atI xs (-1) = some (xs.getLast h) := by
  have hl : 0 < xs.length := List.length_pos_iff.mpr h
  unfold atI ixN
  rw [if_neg (by decide), if_pos (by omega)]
  show xs[((xs.length : Int) + -1).toNat]? = _
  rw [List.getLast_eq_getElem, List.getElem?_eq_getElem (by omega)]
  congr 2
  omega
theorem atI_0 {α : Type} {x : α} {xs : List α} : atI (x :: xs) 0 = some x := by
  unfold atI ixN
  rw [if_pos (by decide), if_pos (by rw [List.length_cons]; omega)]
  rfl
theorem atI_1 {α : Type} {x y : α} {xs : List α} : atI (x :: y :: xs) 1 = some y := by
  unfold atI ixN
  rw [if_pos (by decide), if_pos (by rw [List.length_cons, List.length_cons]; omega)]
  rfl
theorem atI_2 {α : Type} {x y z : α} {xs : List α} : atI (x :: y :: z :: xs) 2 = some z := by
  unfold atI ixN
  rw [if_pos (by decide), if_pos (by rw [List.length_cons, List.length_cons, List.length_cons]; omega)]
  rfl
section
variable {x y z : D} {xs : List D} {st : Sto} {Q : QD}
theorem x_lst0 (q : Q x st) : idxD (.lst (x :: xs)) (.int 0) st Q := x_lst atI_0 q
theorem x_lst1 (q : Q y st) : idxD (.lst (x :: y :: xs)) (.int 1) st Q := x_lst atI_1 q
theorem x_lst2 (q : Q z st) : idxD (.lst (x :: y :: z :: xs)) (.int 2) st Q := x_lst atI_2 q
theorem x_tup0 (q : Q x st) : idxD (.tup (x :: xs)) (.int 0) st Q := x_tup atI_0 q
theorem x_tup1 (q : Q y st) : idxD (.tup (x :: y :: xs)) (.int 1) st Q := x_tup atI_1 q
theorem x_tup2 (q : Q z st) : idxD (.tup (x :: y :: z :: xs)) (.int 2) st Q := x_tup atI_2 q
end
theorem wPr_cls {t : Tx} {n : Nat} {x i : Str} {ds : List D} {st : Sto} {Q EX : QD} (h : t.kd x = none) (e : t.mks.lookup x = some i) (w : wPr t.C t.pg n i (.ref st.length :: ds) (st ++ [.ins x []]) (fun d st' => d = .non ∧ wExit st Q (.ref st.length) st') EX) :
    wPr t.C t.pg (n + 1) x ds st Q EX := by
  unfold wPr
  rw [pg_cls h e]
  exact w
/-- all that is new is kept -/
theorem exit_all {st st' : Sto} {Q : QD} {d : D} (hl : st.length ≤ st'.length) (ho : ∀ (i : Nat) (o : O), st'[i]? = some o → st[i]? = some o ∨ o.lim st'.length = true) (hd : d.lim st'.length = true) (q : Q d st') : wExit st Q d st' :=
  ⟨st'.length, d, hl, Nat.le_refl _, fun i o _ e => ho i o e, .keep hd, by rw [List.take_length]; exact q⟩
def setAt (C : Ctx) (x : D) (f : Str) (d : D) (st : Sto) (P : Sto → Prop) : Prop := ∃ n c fs, x = .ref n ∧ st[n]? = some (.ins c fs) ∧ (C.cl c).isSome = true ∧ C.fld c f = true ∧ fs.length < 1000 ∧ P (st.set n (.ins c (putF' f d fs)))
theorem s_setA2 {Φ : Fn} {C : Ctx} {env : Slots} {st : Sto} {K : Kt} {o e : E} {f : Str} (q : Vm.wE Φ C e env st (fun d st1 => Vm.wE Φ C o env st1 (fun x st2 => setAt C x f d st2 fun st3 => K.nx env st3) fun x st2 => K.ex x env st2) fun x st1 => K.ex x env st1) : Vm.wS Φ C (.setA o f e) env st K := q
theorem set_ins {C : Ctx} {st st2 : Sto} {P : Sto → Prop} {p : Nat} {c f : Str} {fs : List (Str × D)} {d : D} (h : st[p]? = some (.ins c fs)) (h1 : (C.cl c).isSome = true) (h2 : C.fld c f = true) (h3 : fs.length < 1000) (e : st.set p (.ins c (putF' f d fs)) = st2) (q : P st2) :
    setAt C (.ref p) f d st P := by
  subst e
  exact ⟨p, c, fs, rfl, h, h1, h2, h3, q⟩
theorem r_dct {st st2 : Sto} {Q : QD} {kvs : List (Key × D)} {n : Nat} (h : kvs.length ≤ sizeLine) (l : st.length = n) (e : st ++ [.dct kvs] = st2) (q : Q (.ref n) st2) : retK true kvs st Q := by
  subst l e
  exact ⟨h, q⟩
theorem r_dctF {st : Sto} {Q : QD} {kvs : List (Key × D)} (h : kvs.length ≤ sizeLine) (q : Q (.dct kvs) st) : retK false kvs st Q := ⟨h, q⟩
theorem loc_len4 {st : Sto} {a b c d : O} : (st ++ [a, b, c, d]).length = st.length + 4 := by simp
theorem loc_len5 {st : Sto} {a b c d e : O} : (st ++ [a, b, c, d, e]).length = st.length + 5 := by simp
theorem app4 {st : Sto} {a b c d e : O} : st ++ [a, b, c, d] ++ [e] = st ++ [a, b, c, d, e] := by simp
end Vm

set_option Elab.async false
set_option linter.all false
set_option maxRecDepth 100000
set_option maxHeartbeats 4000000
/-! Vm, part 29: steps of errors told. -/
namespace Vm
open PySem PySem.Spec PyProof.Rows L2
section
variable {Φ : Fn} {C : Ctx} {env : Slots} {st : Sto} {Q EX : QD} {K : Kt}
/-- what is told of a call -/
def toldX (C : Ctx) (x : D) (st : Sto) (Q : QD) : Prop := ∃ c v, x = .exc c v ∧ (C.exs.lookup c).isSome = true ∧ Q (.tup [x, .non]) st
theorem e_lens {e : E} (q : Vm.wE Φ C e env st (fun x st1 => ∃ xs ks, (isLst st1 x = true ∨ ∃ ys, x = .tup ys) ∧ seqOf st1 x = some xs ∧ keysOf xs = some ks ∧ ks.length < 900 ∧ Q (.int (dedK ks).length) st1) EX) : Vm.wE Φ C (.lens e) env st Q EX := q
theorem e_ssrt {al : Bool} {e : E} (q : Vm.wE Φ C e env st (fun x st1 => ∃ xs ks, (isLst st1 x = true ∨ ∃ ys, x = .tup ys) ∧ seqOf st1 x = some xs ∧ keysOf xs = some ks ∧ ks.length < 900 ∧ oneK ks ∧ ∀ bs, bs.Perm ((dedK ks).map dK) → retL al (sortD bs) st1 Q) EX) : Vm.wE Φ C (.ssrt al e) env st Q EX := q
theorem e_exv {c : Str} {e : E} (q : Vm.wE Φ C e env st (fun v st1 => Q (.exc c v) st1) EX) : Vm.wE Φ C (.exv c e) env st Q EX := q
theorem e_told {e : E} (q : Vm.wE Φ C e env st (fun d st1 => Q (.tup [.non, d]) st1) fun x st1 => toldX C x st1 Q) : Vm.wE Φ C (.told e) env st Q EX := q
theorem told_x {c : Str} {v : D} (h : (C.exs.lookup c).isSome = true) (q : Q (.tup [.exc c v, .non]) st) : toldX C (.exc c v) st Q := ⟨c, v, rfl, h, q⟩
theorem es_star {e : E} {r : Es} {Q : List D → Sto → Prop} (q : Vm.wE Φ C e env st (fun d st1 => ∃ xs, seqOf st1 d = some xs ∧ Vm.wEs Φ C r env st1 (fun ds st2 => Q (xs ++ ds) st2) EX) EX) : Vm.wEs Φ C (.star e r) env st Q EX := q
theorem e_rev {o : E} (q : Vm.wE Φ C o env st (fun x st1 => revD x st1 Q) EX) : Vm.wE Φ C (.rev o) env st Q EX := q
theorem e_dcop {al : Bool} {e : E} (q : Vm.wE Φ C e env st (fun x st1 => ∃ kvs, dctOf st1 x = some kvs ∧ retK al (mrgK [] kvs) st1 Q) EX) : Vm.wE Φ C (.dcop al e) env st Q EX := q
theorem rv_lst {xs : List D} (q : Q (.lst xs.reverse) st) : revD (.lst xs) st Q := ⟨xs, rfl, rfl, q⟩
theorem rv_tup {xs : List D} (q : Q (.tup xs.reverse) st) : revD (.tup xs) st Q := q
theorem s_raise' {c : Str} {e : E} (q : Vm.wE Φ C e env st (fun v st1 => K.ex (.exc c v) env st1) fun x st1 => K.ex x env st1) : Vm.wS Φ C (.raise c e) env st K := q
theorem a_value {c : Str} {v : D} (h : (C.exs.lookup c).isSome = true) (q : Q v st) : attrD Φ C "value" (.exc c v) st Q EX := ⟨c, v, rfl, h, rfl, q⟩
/-- isinstance of an error -/
def excIs (C : Ctx) (c k : Str) (b : Bool) : Bool := !(C.cl k).isSome && (C.exs.lookup k).isSome && match C.exs.lookup c with
  | some anc => anc.contains k == b
  | none => false
theorem i_isX {al b : Bool} {c k : Str} {v : D} (h : excIs C c k b = true) (q : Q (.bl b) st) : wBi Φ C .isinst al [.exc c v, .glo k] st Q EX := by
  unfold excIs at h
  rw [Bool.and_eq_true, Bool.and_eq_true] at h
  obtain ⟨⟨h1, h2⟩, h3⟩ := h
  split at h3
  · rename_i anc e
    have h4 : anc.contains k = b := by simpa using h3
    refine ⟨_, _, rfl, b, ?_, q⟩
    show (if (C.cl k).isSome = true then isCl C st k (.exc c v) else if (C.exs.lookup k).isSome = true then isXc C st k (.exc c v) else none) = some b
    rw [if_neg (by cases z : (C.cl k).isSome <;> simp_all), if_pos h2]
    show (ancOf C (.exc c v)).map (fun anc => anc.contains k) = _
    have e2 : ancOf C (.exc c v) = some anc := e
    rw [e2, ← h4]
    rfl
  · cases h3
/-- .. of what is none -/
theorem i_isXn {al : Bool} {k : Str} {x : D} (h : (!(C.cl k).isSome && (C.exs.lookup k).isSome) = true) (h3 : (kindOf st x).isSome = true) (q : Q (.bl false) st) : wBi Φ C .isinst al [x, .glo k] st Q EX := by
  obtain ⟨kd, hk⟩ := Option.isSome_iff_exists.mp h3
  rw [Bool.and_eq_true] at h
  refine ⟨_, _, rfl, false, ?_, q⟩
  show (if (C.cl k).isSome = true then isCl C st k x else if (C.exs.lookup k).isSome = true then isXc C st k x else none) = some false
  rw [if_neg (by cases z : (C.cl k).isSome <;> simp_all), if_pos h.2]
  unfold isXc
  rw [hk]
end
end Vm

set_option Elab.async false
set_option maxRecDepth 100000
namespace Vm
open PySem PySem.Spec L2
/-- _law_pot: 0 script 1 k 2 cell 3 own 4 small -/
def b_law_pot : Ss := (.cons (.set (.nm 2) (.ite (.cmp .lt (.var 1) (.bi .len false (.cons (.var 0) .nil))) (.idx (.var 0) (.var 1)) (.bin .add (.bin .mul (.int 157) (.var 1)) (.int 101))))
  (.cons (.set (.nm 3) (.bin .mul (.bin .mod (.bi .int false (.cons (.bi .abs false (.cons (.var 2) .nil)) .nil)) (.bin .pow (.bin .pow (.int 10) (.int 60)) (.int 5))) (.bi .int false (.cons (.cmp .ge (.bi .abs false (.cons (.var 2) .nil)) (.bin .pow (.int 10) (.int 18))) .nil))))
  (.cons (.set (.nm 4) (.bin .mod (.bi .int false (.cons (.var 2) .nil)) (.int 2305843009213693951)))
  (.cons (.ret (.lst true (.cons (.var 3) (.cons (.bin .mod (.bi .int false (.cons (.bin .add (.bin .add (.bin .mul (.var 4) (.int 80441)) (.bin .mul (.bin .mul (.int 8543) (.var 1)) (.var 1))) (.int 113)) .nil)) (.int 2305843009213693921)) (.cons (.int 0) .nil)))))
  .nil))))

/-- _law_take: 0 pot 1 upto 2 digit 3 prime 4 blend -/
def b_law_take : Ss := (.cons (.ifs (.cmp .gt (.idx (.var 0) (.int 0)) (.int 0))
  (.cons (.set (.nm 2) (.bin .mod (.bi .int false (.cons (.idx (.var 0) (.int 0)) .nil)) (.var 1)))
  (.cons (.setI (.var 0) (.int 0) (.bin .fdiv (.idx (.var 0) (.int 0)) (.var 1)))
  (.cons (.ret (.var 2))
  .nil)))
  .nil)
  (.cons (.setI (.var 0) (.int 2) (.bin .add (.idx (.var 0) (.int 2)) (.int 1)))
  (.cons (.set (.nm 3) (.idx (.lst false (.cons (.int 2147483647) (.cons (.int 2147483629) (.cons (.int 2147483587) (.cons (.int 2147483579) (.cons (.int 2147483563) .nil)))))) (.bin .mod (.bi .int false (.cons (.idx (.var 0) (.int 2)) .nil)) (.int 5))))
  (.cons (.set (.nm 4) (.bin .mod (.bi .int false (.cons (.bin .pow (.bi .int false (.cons (.bin .add (.bin .add (.idx (.var 0) (.int 1)) (.bin .mul (.bin .mul (.int 95291) (.idx (.var 0) (.int 2))) (.idx (.var 0) (.int 2)))) (.int 143)) .nil)) (.int 3)) .nil)) (.var 3)))
  (.cons (.ret (.bin .mod (.bi .int false (.cons (.bin .fdiv (.bin .mul (.var 4) (.bin .add (.bin .mod (.bi .int false (.cons (.var 4) .nil)) (.int 10069)) (.bin .mul (.int 91) (.idx (.var 0) (.int 2))))) (.int 131)) .nil)) (.var 1)))
  .nil)))))

/-- _law_of: 0 pot 1 some -/
def b_law_of : Ss := (.cons (.ret (.idx (.var 1) (.call "_law_take" (.cons (.var 0) (.cons (.bi .len false (.cons (.var 1) .nil)) .nil)))))
  .nil)

/-- _law_places: 0 script 1 most -/
def b_law_places : Ss := (.cons (.ret (.rngl false (.cons (.bi .max false (.cons (.int 1) (.cons (.bi .min false (.cons (.var 1) (.cons (.bi .len false (.cons (.var 0) .nil)) .nil))) .nil))) .nil)))
  .nil)

/-- _law_odd: 0 pot 1 some -/
def b_law_odd : Ss := (.cons (.set (.nm 1) (.lst false (.cons .non (.cons (.bl true) (.cons (.bl false) (.cons (.int 0) (.cons (.int 1) (.cons (.neg (.int 1)) (.cons (.int 2) (.cons (.int 40) (.cons (.str "") (.cons (.str "a") (.cons (.str "look") (.cons (.tup .nil) (.cons (.lst false .nil) (.cons (.dic false .nil) (.cons (.tup (.cons (.int 0) .nil)) (.cons (.tup (.cons (.tup .nil) .nil)) (.cons (.lst false (.cons (.int 0) .nil)) (.cons (.tup (.cons (.str "a") .nil)) (.cons (.str "write") .nil)))))))))))))))))))))
  (.cons (.set (.nm 1) (.bin .add (.var 1) (.lst false (.cons (.dic false (.cons (.str "a") (.cons (.int 1) .nil))) (.cons (.tup (.cons (.str "a") (.cons (.str "b") .nil))) (.cons (.tup (.cons (.str "a") (.cons (.int 0) .nil))) (.cons (.tup (.cons (.tup (.cons (.int 1) (.cons (.int 2) .nil))) .nil)) (.cons (.bin .pow (.int 10) (.int 8)) (.cons (.lst false (.cons (.str "a") .nil)) (.cons (.tup (.cons .non .nil)) (.cons (.str "hand") (.cons (.str "oil") (.cons (.tup (.cons (.bl true) (.cons (.int 1) .nil))) .nil)))))))))))))
  (.cons (.ret (.call "_law_of" (.cons (.var 0) (.cons (.bin .add (.var 1) (.lst false (.cons (.tup (.cons (.str "oil") (.cons (.str "bank") .nil))) .nil))) .nil))))
  .nil)))

/-- _law_made_of: 0 value 1 found -/
def b_law_made_of : Ss := (.cons (.set (.nm 1) (.lst true (.cons (.exv "BadBook" (.var 0)) (.cons (.exv "NoClient" (.var 0)) (.cons (.exv "NoKind" (.var 0)) .nil)))))
  (.cons (.exp (.bm .extend (.var 1) (.cons (.lst false (.cons (.exv "BadRivals" (.var 0)) (.cons (.exv "BadWord" (.var 0)) (.cons (.exv "BadRight" (.var 0)) .nil)))) .nil)))
  (.cons (.exp (.bm .extend (.var 1) (.cons (.lst false (.cons (.exv "BadPairs" (.var 0)) (.cons (.exv "BadLot" (.var 0)) (.cons (.exv "BadPair" (.var 0)) .nil)))) .nil)))
  (.cons (.exp (.bm .extend (.var 1) (.cons (.lst false (.cons (.exv "OtherBook" (.var 0)) (.cons (.exv "BadStaff" (.var 0)) (.cons (.exv "BadRun" (.var 0)) .nil)))) .nil)))
  (.cons (.exp (.bm .extend (.var 1) (.cons (.lst false (.cons (.exv "NotApart" (.var 0)) (.cons (.exv "TooMany" (.var 0)) (.cons (.exv "BadOffers" (.var 0)) .nil)))) .nil)))
  (.cons (.exp (.bm .extend (.var 1) (.cons (.lst false (.cons (.exv "BadClients" (.var 0)) (.cons (.exv "BadCases" (.var 0)) (.cons (.exv "NoneFits" (.var 0)) .nil)))) .nil)))
  (.cons (.exp (.bm .extend (.var 1) (.cons (.lst false (.cons (.exv "BadRivalry" (.var 0)) (.cons (.exv "NoPerson" (.var 0)) (.cons (.exv "Full" (.var 0)) .nil)))) .nil)))
  (.cons (.exp (.bm .extend (.var 1) (.cons (.lst false (.cons (.exv "NoRight" (.var 0)) (.cons (.exv "Rival" (.var 0)) (.cons (.exv "Fenced" (.var 0)) .nil)))) .nil)))
  (.cons (.exp (.bm .extend (.var 1) (.cons (.lst false (.cons (.exv "Left" (.var 0)) (.cons (.exv "NothingToUndo" (.var 0)) (.cons (.exv "NothingToRedo" (.var 0)) .nil)))) .nil)))
  (.cons (.exp (.bm .extend (.var 1) (.cons (.lst false (.cons (.exv "NoTrial" (.var 0)) (.cons (.exv "BadJournal" (.var 0)) (.cons (.exv "BadLine" (.var 0)) .nil)))) .nil)))
  (.cons (.ret (.var 1))
  .nil)))))))))))

/-- _law_marks: 0 error 1 found -/
def b_law_marks : Ss := (.cons (.set (.nm 1) (.lst true (.cons (.bi .isinst false (.cons (.var 0) (.cons (.glo "BadBook") .nil))) (.cons (.bi .isinst false (.cons (.var 0) (.cons (.glo "NoClient") .nil))) (.cons (.bi .isinst false (.cons (.var 0) (.cons (.glo "NoKind") .nil))) .nil)))))
  (.cons (.exp (.bm .extend (.var 1) (.cons (.lst false (.cons (.bi .isinst false (.cons (.var 0) (.cons (.glo "BadRivals") .nil))) (.cons (.bi .isinst false (.cons (.var 0) (.cons (.glo "BadWord") .nil))) (.cons (.bi .isinst false (.cons (.var 0) (.cons (.glo "BadRight") .nil))) .nil)))) .nil)))
  (.cons (.exp (.bm .extend (.var 1) (.cons (.lst false (.cons (.bi .isinst false (.cons (.var 0) (.cons (.glo "BadPairs") .nil))) (.cons (.bi .isinst false (.cons (.var 0) (.cons (.glo "BadLot") .nil))) (.cons (.bi .isinst false (.cons (.var 0) (.cons (.glo "BadPair") .nil))) .nil)))) .nil)))
  (.cons (.exp (.bm .extend (.var 1) (.cons (.lst false (.cons (.bi .isinst false (.cons (.var 0) (.cons (.glo "OtherBook") .nil))) (.cons (.bi .isinst false (.cons (.var 0) (.cons (.glo "BadStaff") .nil))) (.cons (.bi .isinst false (.cons (.var 0) (.cons (.glo "BadRun") .nil))) .nil)))) .nil)))
  (.cons (.exp (.bm .extend (.var 1) (.cons (.lst false (.cons (.bi .isinst false (.cons (.var 0) (.cons (.glo "NotApart") .nil))) (.cons (.bi .isinst false (.cons (.var 0) (.cons (.glo "TooMany") .nil))) (.cons (.bi .isinst false (.cons (.var 0) (.cons (.glo "BadOffers") .nil))) .nil)))) .nil)))
  (.cons (.exp (.bm .extend (.var 1) (.cons (.lst false (.cons (.bi .isinst false (.cons (.var 0) (.cons (.glo "BadClients") .nil))) (.cons (.bi .isinst false (.cons (.var 0) (.cons (.glo "BadCases") .nil))) (.cons (.bi .isinst false (.cons (.var 0) (.cons (.glo "NoneFits") .nil))) .nil)))) .nil)))
  (.cons (.exp (.bm .extend (.var 1) (.cons (.lst false (.cons (.bi .isinst false (.cons (.var 0) (.cons (.glo "BadRivalry") .nil))) (.cons (.bi .isinst false (.cons (.var 0) (.cons (.glo "NoPerson") .nil))) (.cons (.bi .isinst false (.cons (.var 0) (.cons (.glo "Full") .nil))) .nil)))) .nil)))
  (.cons (.exp (.bm .extend (.var 1) (.cons (.lst false (.cons (.bi .isinst false (.cons (.var 0) (.cons (.glo "NoRight") .nil))) (.cons (.bi .isinst false (.cons (.var 0) (.cons (.glo "Rival") .nil))) (.cons (.bi .isinst false (.cons (.var 0) (.cons (.glo "Fenced") .nil))) .nil)))) .nil)))
  (.cons (.exp (.bm .extend (.var 1) (.cons (.lst false (.cons (.bi .isinst false (.cons (.var 0) (.cons (.glo "Left") .nil))) (.cons (.bi .isinst false (.cons (.var 0) (.cons (.glo "NothingToUndo") .nil))) (.cons (.bi .isinst false (.cons (.var 0) (.cons (.glo "NothingToRedo") .nil))) .nil)))) .nil)))
  (.cons (.exp (.bm .extend (.var 1) (.cons (.lst false (.cons (.bi .isinst false (.cons (.var 0) (.cons (.glo "NoTrial") .nil))) (.cons (.bi .isinst false (.cons (.var 0) (.cons (.glo "BadJournal") .nil))) (.cons (.bi .isinst false (.cons (.var 0) (.cons (.glo "BadLine") .nil))) .nil)))) .nil)))
  (.cons (.ret (.var 1))
  .nil)))))))))))

/-- _law_nested: 0 pot 1 deep 2 way 3 inner -/
def b_law_nested : Ss := (.cons (.set (.nm 2) (.call "_law_take" (.cons (.var 0) (.cons (.int 5) .nil))))
  (.cons (.ifs (.bop false (.cons (.cmp .eq (.var 1) (.int 0)) (.cons (.cmp .lt (.var 2) (.int 2)) .nil)))
  (.cons (.ret (.call "_law_odd" (.cons (.var 0) .nil)))
  .nil)
  .nil)
  (.cons (.set (.nm 3) (.call "_law_nested" (.cons (.var 0) (.cons (.bin .sub (.var 1) (.int 1)) .nil))))
  (.cons (.ret (.idx (.lst false (.cons (.tup (.cons (.var 3) .nil)) (.cons (.lst false (.cons (.var 3) (.cons (.int 1) .nil))) (.cons (.dic false (.cons (.str "a") (.cons (.var 3) .nil))) .nil)))) (.bin .sub (.var 2) (.int 2))))
  .nil))))

/-- _law_right: 0 pot 1 value 2 whole 3 number 4 error 5 due 6 its -/
def b_law_right : Ss := (.cons (.set (.nm 1) (.call "_law_nested" (.cons (.var 0) (.cons (.int 3) .nil))))
  (.cons (.set (.nm 2) (.exv "WallError" (.var 1)))
  (.cons (.ifs (.bop false (.cons (.cmp .ne (.bi .repr false (.cons (.attr "value" (.var 2)) .nil)) (.bi .repr false (.cons (.var 1) .nil))) (.cons (.not (.bi .isinst false (.cons (.var 2) (.cons (.bty "ValueError") .nil)))) (.cons (.cmp .isin (.bl true) (.call "_law_marks" (.cons (.var 2) .nil))) .nil))))
  (.cons (.ret (.bl false))
  .nil)
  .nil)
  (.cons (.for_ (.tup (.nm 3) (.tup (.nm 4) .nil)) (.enu (.call "_law_made_of" (.cons (.var 1) .nil)))
  (.cons (.set (.nm 5) (.comp false [6] (.cmp .eq (.var 3) (.var 6)) (.nm 6) (.rng (.cons (.int 30) .nil)) .nil))
  (.cons (.ifs (.bop false (.cons (.cmp .ne (.bi .repr false (.cons (.attr "value" (.var 4)) .nil)) (.bi .repr false (.cons (.var 1) .nil))) (.cons (.not (.bi .isinst false (.cons (.var 4) (.cons (.glo "WallError") .nil)))) (.cons (.cmp .ne (.call "_law_marks" (.cons (.var 4) .nil)) (.var 5)) .nil))))
  (.cons (.ret (.bl false))
  .nil)
  .nil)
  .nil)))
  (.cons (.ret (.bl true))
  .nil)))))

/-- law: 0 script 1 place 2 pot 3 lap -/
def b_law : Ss := (.cons (.for_ (.nm 1) (.ex (.call "_law_places" (.cons (.var 0) (.cons (.int 4) .nil))))
  (.cons (.set (.nm 2) (.call "_law_pot" (.cons (.var 0) (.cons (.var 1) .nil))))
  (.cons (.ifs (.not (.bi .all false (.cons (.comp false [3] (.call "_law_right" (.cons (.var 2) .nil)) (.nm 3) (.rng (.cons (.int 6) .nil)) .nil) .nil)))
  (.cons (.ret (.bl false))
  .nil)
  .nil)
  .nil)))
  (.cons (.ret (.bl true))
  .nil))

def theC : Ctx := {
 cls := [
],
 exs := [
  ("WallError", ["WallError", "ValueError"]),
  ("BadBook", ["BadBook", "WallError", "ValueError"]),
  ("NoClient", ["NoClient", "WallError", "ValueError"]),
  ("NoKind", ["NoKind", "WallError", "ValueError"]),
  ("BadRivals", ["BadRivals", "WallError", "ValueError"]),
  ("BadWord", ["BadWord", "WallError", "ValueError"]),
  ("BadRight", ["BadRight", "WallError", "ValueError"]),
  ("BadPairs", ["BadPairs", "WallError", "ValueError"]),
  ("BadLot", ["BadLot", "WallError", "ValueError"]),
  ("BadPair", ["BadPair", "WallError", "ValueError"]),
  ("OtherBook", ["OtherBook", "WallError", "ValueError"]),
  ("BadStaff", ["BadStaff", "WallError", "ValueError"]),
  ("BadRun", ["BadRun", "WallError", "ValueError"]),
  ("NotApart", ["NotApart", "WallError", "ValueError"]),
  ("TooMany", ["TooMany", "WallError", "ValueError"]),
  ("BadOffers", ["BadOffers", "WallError", "ValueError"]),
  ("BadClients", ["BadClients", "WallError", "ValueError"]),
  ("BadCases", ["BadCases", "WallError", "ValueError"]),
  ("NoneFits", ["NoneFits", "WallError", "ValueError"]),
  ("BadRivalry", ["BadRivalry", "WallError", "ValueError"]),
  ("NoPerson", ["NoPerson", "WallError", "ValueError"]),
  ("Full", ["Full", "WallError", "ValueError"]),
  ("NoRight", ["NoRight", "WallError", "ValueError"]),
  ("Rival", ["Rival", "WallError", "ValueError"]),
  ("Fenced", ["Fenced", "WallError", "ValueError"]),
  ("Left", ["Left", "WallError", "ValueError"]),
  ("NothingToUndo", ["NothingToUndo", "WallError", "ValueError"]),
  ("NothingToRedo", ["NothingToRedo", "WallError", "ValueError"]),
  ("NoTrial", ["NoTrial", "WallError", "ValueError"]),
  ("BadJournal", ["BadJournal", "WallError", "ValueError"]),
  ("BadLine", ["BadLine", "WallError", "ValueError"])],
 glo := [
  ("WallError", .glo "WallError"),
  ("BadBook", .glo "BadBook"),
  ("NoClient", .glo "NoClient"),
  ("NoKind", .glo "NoKind"),
  ("BadRivals", .glo "BadRivals"),
  ("BadWord", .glo "BadWord"),
  ("BadRight", .glo "BadRight"),
  ("BadPairs", .glo "BadPairs"),
  ("BadLot", .glo "BadLot"),
  ("BadPair", .glo "BadPair"),
  ("OtherBook", .glo "OtherBook"),
  ("BadStaff", .glo "BadStaff"),
  ("BadRun", .glo "BadRun"),
  ("NotApart", .glo "NotApart"),
  ("TooMany", .glo "TooMany"),
  ("BadOffers", .glo "BadOffers"),
  ("BadClients", .glo "BadClients"),
  ("BadCases", .glo "BadCases"),
  ("NoneFits", .glo "NoneFits"),
  ("BadRivalry", .glo "BadRivalry"),
  ("NoPerson", .glo "NoPerson"),
  ("Full", .glo "Full"),
  ("NoRight", .glo "NoRight"),
  ("Rival", .glo "Rival"),
  ("Fenced", .glo "Fenced"),
  ("Left", .glo "Left"),
  ("NothingToUndo", .glo "NothingToUndo"),
  ("NothingToRedo", .glo "NothingToRedo"),
  ("NoTrial", .glo "NoTrial"),
  ("BadJournal", .glo "BadJournal"),
  ("BadLine", .glo "BadLine")] }
end Vm

set_option Elab.async false
set_option linter.all false
set_option maxRecDepth 100000
set_option maxHeartbeats 0
namespace K00
open Vm PySem PySem.Spec PyProof.Rows L2
def top (i : Nat) : Stmt := PySem.Challenge.pw_wallbooks_k00_errors_and_what_they_keep.main.body.getD i (.Pass ⟨0, 0, 0, 0⟩)
def mth (i j : Nat) : Stmt := match top i with
  | .ClassDef _ _ _ b _ _ _ _ _ _ _ => b.getD j (.Pass ⟨0, 0, 0, 0⟩)
  | s => s
def d_law_pot : Dd := ⟨PySem.Str.ofString "_law_pot", (PySem.Str.ofString "_law_pot", none), PySem.Str.ofString "_law_pot", PySem.Str.ofString "_law_pot", top 33, [PySem.Str.ofString "script", PySem.Str.ofString "k", PySem.Str.ofString "cell", PySem.Str.ofString "own", PySem.Str.ofString "small"], [PySem.Str.ofString "script", PySem.Str.ofString "k"], b_law_pot, false⟩
def d_law_take : Dd := ⟨PySem.Str.ofString "_law_take", (PySem.Str.ofString "_law_take", none), PySem.Str.ofString "_law_take", PySem.Str.ofString "_law_take", top 34, [PySem.Str.ofString "pot", PySem.Str.ofString "upto", PySem.Str.ofString "digit", PySem.Str.ofString "prime", PySem.Str.ofString "blend"], [PySem.Str.ofString "pot", PySem.Str.ofString "upto"], b_law_take, false⟩
def d_law_of : Dd := ⟨PySem.Str.ofString "_law_of", (PySem.Str.ofString "_law_of", none), PySem.Str.ofString "_law_of", PySem.Str.ofString "_law_of", top 35, [PySem.Str.ofString "pot", PySem.Str.ofString "some"], [PySem.Str.ofString "pot", PySem.Str.ofString "some"], b_law_of, false⟩
def d_law_places : Dd := ⟨PySem.Str.ofString "_law_places", (PySem.Str.ofString "_law_places", none), PySem.Str.ofString "_law_places", PySem.Str.ofString "_law_places", top 36, [PySem.Str.ofString "script", PySem.Str.ofString "most"], [PySem.Str.ofString "script", PySem.Str.ofString "most"], b_law_places, false⟩
def d_law_odd : Dd := ⟨PySem.Str.ofString "_law_odd", (PySem.Str.ofString "_law_odd", none), PySem.Str.ofString "_law_odd", PySem.Str.ofString "_law_odd", top 37, [PySem.Str.ofString "pot", PySem.Str.ofString "some"], [PySem.Str.ofString "pot"], b_law_odd, false⟩
def d_law_made_of : Dd := ⟨PySem.Str.ofString "_law_made_of", (PySem.Str.ofString "_law_made_of", none), PySem.Str.ofString "_law_made_of", PySem.Str.ofString "_law_made_of", top 38, [PySem.Str.ofString "value", PySem.Str.ofString "found"], [PySem.Str.ofString "value"], b_law_made_of, false⟩
def d_law_marks : Dd := ⟨PySem.Str.ofString "_law_marks", (PySem.Str.ofString "_law_marks", none), PySem.Str.ofString "_law_marks", PySem.Str.ofString "_law_marks", top 39, [PySem.Str.ofString "error", PySem.Str.ofString "found"], [PySem.Str.ofString "error"], b_law_marks, false⟩
def d_law_nested : Dd := ⟨PySem.Str.ofString "_law_nested", (PySem.Str.ofString "_law_nested", none), PySem.Str.ofString "_law_nested", PySem.Str.ofString "_law_nested", top 40, [PySem.Str.ofString "pot", PySem.Str.ofString "deep", PySem.Str.ofString "way", PySem.Str.ofString "inner"], [PySem.Str.ofString "pot", PySem.Str.ofString "deep"], b_law_nested, false⟩
def d_law_right : Dd := ⟨PySem.Str.ofString "_law_right", (PySem.Str.ofString "_law_right", none), PySem.Str.ofString "_law_right", PySem.Str.ofString "_law_right", top 41, [PySem.Str.ofString "pot", PySem.Str.ofString "value", PySem.Str.ofString "whole", PySem.Str.ofString "number", PySem.Str.ofString "error", PySem.Str.ofString "due", PySem.Str.ofString "its"], [PySem.Str.ofString "pot"], b_law_right, false⟩
def d_law : Dd := ⟨PySem.Str.ofString "law", (PySem.Str.ofString "law", none), PySem.Str.ofString "law", PySem.Str.ofString "law", top 42, [PySem.Str.ofString "script", PySem.Str.ofString "place", PySem.Str.ofString "pot", PySem.Str.ofString "lap"], [PySem.Str.ofString "script"], b_law, false⟩
def ds : List Dd := [d_law_pot, d_law_take, d_law_of, d_law_places, d_law_odd, d_law_made_of, d_law_marks, d_law_nested, d_law_right, d_law]
def tx : Tx := ⟨⟨[PySem.Str.ofString "_law_pot", PySem.Str.ofString "_law_take", PySem.Str.ofString "_law_of", PySem.Str.ofString "_law_places", PySem.Str.ofString "_law_odd", PySem.Str.ofString "_law_made_of", PySem.Str.ofString "_law_marks", PySem.Str.ofString "_law_nested", PySem.Str.ofString "_law_right", PySem.Str.ofString "law"], [], [PySem.Str.ofString "WallError", PySem.Str.ofString "BadBook", PySem.Str.ofString "NoClient", PySem.Str.ofString "NoKind", PySem.Str.ofString "BadRivals", PySem.Str.ofString "BadWord", PySem.Str.ofString "BadRight", PySem.Str.ofString "BadPairs", PySem.Str.ofString "BadLot", PySem.Str.ofString "BadPair", PySem.Str.ofString "OtherBook", PySem.Str.ofString "BadStaff", PySem.Str.ofString "BadRun", PySem.Str.ofString "NotApart", PySem.Str.ofString "TooMany", PySem.Str.ofString "BadOffers", PySem.Str.ofString "BadClients", PySem.Str.ofString "BadCases", PySem.Str.ofString "NoneFits", PySem.Str.ofString "BadRivalry", PySem.Str.ofString "NoPerson", PySem.Str.ofString "Full", PySem.Str.ofString "NoRight", PySem.Str.ofString "Rival", PySem.Str.ofString "Fenced", PySem.Str.ofString "Left", PySem.Str.ofString "NothingToUndo", PySem.Str.ofString "NothingToRedo", PySem.Str.ofString "NoTrial", PySem.Str.ofString "BadJournal", PySem.Str.ofString "BadLine"], false, true⟩, theC, ds, [], none, some (mth 1 0), PySem.Challenge.pw_wallbooks_k00_errors_and_what_they_keep.main.file⟩
/-
law at top 42
-/
theorem k_law_pot : tx.kd (PySem.Str.ofString "_law_pot") = some d_law_pot := by kernel_rfl
theorem k_law_take : tx.kd (PySem.Str.ofString "_law_take") = some d_law_take := by kernel_rfl
theorem k_law_of : tx.kd (PySem.Str.ofString "_law_of") = some d_law_of := by kernel_rfl
theorem k_law_places : tx.kd (PySem.Str.ofString "_law_places") = some d_law_places := by kernel_rfl
theorem k_law_odd : tx.kd (PySem.Str.ofString "_law_odd") = some d_law_odd := by kernel_rfl
theorem k_law_made_of : tx.kd (PySem.Str.ofString "_law_made_of") = some d_law_made_of := by kernel_rfl
theorem k_law_marks : tx.kd (PySem.Str.ofString "_law_marks") = some d_law_marks := by kernel_rfl
theorem k_law_nested : tx.kd (PySem.Str.ofString "_law_nested") = some d_law_nested := by kernel_rfl
theorem k_law_right : tx.kd (PySem.Str.ofString "_law_right") = some d_law_right := by kernel_rfl
theorem k_law : tx.kd (PySem.Str.ofString "law") = some d_law := by kernel_rfl
end K00

set_option Elab.async false
set_option linter.all false
set_option maxRecDepth 100000
set_option maxHeartbeats 0
namespace K00
open Vm PySem PySem.W PySem.Calls PyProof.Rows
abbrev R : OpenRow := OpenLaw.row PySem.Challenge.rw_wallbooks_k00_errors_and_what_they_keep
abbrev qv : Program := view R.prog [42]
def names0 : List PySem.Str := [PySem.Str.ofString "WallError", PySem.Str.ofString "BadBook", PySem.Str.ofString "NoClient", PySem.Str.ofString "NoKind", PySem.Str.ofString "BadRivals", PySem.Str.ofString "BadWord", PySem.Str.ofString "BadRight", PySem.Str.ofString "BadPairs", PySem.Str.ofString "BadLot", PySem.Str.ofString "BadPair", PySem.Str.ofString "OtherBook", PySem.Str.ofString "BadStaff", PySem.Str.ofString "BadRun", PySem.Str.ofString "NotApart", PySem.Str.ofString "TooMany", PySem.Str.ofString "BadOffers"]
def names1 : List PySem.Str := [PySem.Str.ofString "BadClients", PySem.Str.ofString "BadCases", PySem.Str.ofString "NoneFits", PySem.Str.ofString "BadRivalry", PySem.Str.ofString "NoPerson", PySem.Str.ofString "Full", PySem.Str.ofString "NoRight", PySem.Str.ofString "Rival", PySem.Str.ofString "Fenced", PySem.Str.ofString "Left", PySem.Str.ofString "NothingToUndo", PySem.Str.ofString "NothingToRedo", PySem.Str.ofString "NoTrial", PySem.Str.ofString "BadJournal", PySem.Str.ofString "BadLine", PySem.Str.ofString "_law_pot"]
def names2 : List PySem.Str := [PySem.Str.ofString "_law_take", PySem.Str.ofString "_law_of", PySem.Str.ofString "_law_places", PySem.Str.ofString "_law_odd", PySem.Str.ofString "_law_made_of", PySem.Str.ofString "_law_marks", PySem.Str.ofString "_law_nested", PySem.Str.ofString "_law_right"]
def names : List PySem.Str := names0 ++ names1 ++ names2
abbrev hk : Hook := hookV 5 tx
def ob (s : SharedT) : AlV × Bool := obsG 5 tx (HandSHeadRun.getT s)
theorem ob_eq (s : SharedT) : ob s = hk.obs s.abs := obsG_eq (HandSHeadRun.getT_eq s)
noncomputable def oo (w : World) (os : OsState) : Option SharedT := HandSHeadRun.endF (HandSHeadRun.stepQ (HandSHeadRun.denQ HandSHeadRun.tabQ) R.prog w) 9000 R.prog w os
abbrev Kf (s : SharedT) : PySem.W.Frag := frV 5 (HandSHeadRun.getT s)
theorem pA (w : World) (os : OsState) : (oo w os).map (fun s => (HandSHeadRun.looksF R.prog (boot_heap w.params) s.abs, HandSHeadRun.seenQ qv names (importedModules R.prog.main.body) (fun s => xlAt qv [] s && recOk R.toRowW.records s) s.abs)) = some (true, openGood qv names) := by kernel_rfl
theorem pB (w : World) (os : OsState) : (oo w os).map (fun s => partB tx (Kf s)) = some (valB tx) := by kernel_rfl
theorem pC (w : World) (os : OsState) : (oo w os).map (fun s => partC tx (Kf s)) = some true := by kernel_rfl
theorem pD (w : World) (os : OsState) : (oo w os).map (fun s => partD tx (Kf s)) = some true := by kernel_rfl
theorem pE (w : World) (os : OsState) : (oo w os).map (fun s => partE tx (Kf s)) = some true := by kernel_rfl
theorem pF (w : World) (os : OsState) : (oo w os).map (fun s => partF tx (Kf s)) = some true := by kernel_rfl
theorem pG (w : World) (os : OsState) : (oo w os).map (fun s => partG tx 5 (HandSHeadRun.getT s)) = some true := by kernel_rfl
theorem run (w : World) : HandSHeadRun.RunEq R qv hk ob 9000 names w := by
  intro os
  have a := pA w os
  have b := pB w os
  have c := pC w os
  have d := pD w os
  have e := pE w os
  have f := pF w os
  have g := pG w os
  show (oo w os).map _ = _
  cases h : oo w os with
  | none => rw [h] at a; cases a
  | some s =>
    rw [h] at a b c d e f g
    have hob : ob s = (valV tx, true) := obs_split (n := 5) (g := HandSHeadRun.getT s) (Option.some.inj b) (Option.some.inj c) (Option.some.inj d) (Option.some.inj e) (Option.some.inj f) (Option.some.inj g)
    have a1 := congrArg Prod.fst (Option.some.inj a)
    have a2 := congrArg Prod.snd (Option.some.inj a)
    exact congrArg some (Prod.ext a1 (Prod.ext a2 hob))
end K00

set_option Elab.async false
set_option linter.all false
set_option maxRecDepth 100000
set_option maxHeartbeats 0
namespace K00
open Vm PySem PySem.W PySem.Calls PyProof.Rows
theorem good : ∀ d ∈ tx.ds, d.good tx.L = true := List.all_eq_true.mp (by decide +kernel : tx.ds.all (fun d => d.good tx.L) = true)
abbrev lw : PySem.W.OpenLaw := PySem.Challenge.rw_wallbooks_k00_errors_and_what_they_keep
abbrev df : DefRec := HandSHeadRun.topDef lw.prog 42
theorem txg : TxG lw.prog tx := ⟨good, by decide +kernel, by kernel_rfl, by kernel_rfl⟩
/-- what the law's def does by its own syntax is all that is left to show -/
theorem holds_by (law : ∀ ns : List Int, ns.length ≤ 63 → (∀ z ∈ ns, Builtin.Int.intBits z ≤ 1048576) → wPr theC tx.pg 30 (PySem.Str.ofString "law") [.scr ns] [] (fun x _ => x = .bl true) fun _ _ => False) : lw.Holds := by
  w_on; o_law
  refine HandSHeadRun.head_any (r := R) (q := qv) (H := hk) (ob := ob) (M := 9000) (loose := names) (d := df) (kwd := []) ob_eq
    (by kernel_rfl) (fun s => by kernel_rfl) run (by kernel_rfl) (by kernel_rfl) (by kernel_rfl) (by rfl) (by first | assumption | decide +kernel) (by decide +kernel) ⟨rfl, rfl, rfl, rfl, rfl, by decide +kernel⟩ ?hw ?hc
  case hw => w_witness2
  case hc =>
    refine walk_vm (l := lw) (n := 63) (k := 4 * 30) (y := PySem.Str.ofString "script") rfl (by decide) (by kernel_rfl) ⟨rfl, by decide, by decide⟩ ?F
    intro w mg g h Y G hm
    obtain ⟨K, kin, c, tab⟩ := Y
    have hg : mg (PySem.Str.ofString "law") = some (.ref g) := by
      have e : df.name = PySem.Str.ofString "law" := by kernel_rfl
      rw [← e]
      exact hm
    obtain ⟨fd, b, f⟩ := law_fn (P := lw.prog) (w := w) (t := tx) (d := d_law) (x := PySem.Str.ofString "law") (y := PySem.Str.ofString "script") 30 c txg kin G (by kernel_rfl) rfl rfl (by decide +kernel) hg
    refine ⟨K, fd, lamCs K, _, kin, b, fun p hp => ?_, fun p hp => (lamCs_at hp).2.1, fun p hp => PySem.W.codeHd_of_K kin (lamCs_at hp).1, fun p hp => lamT_at hp, f, law⟩
    obtain ⟨_, _, q, hq⟩ := lamCs_at hp
    exact tab _ hq
end K00

set_option Elab.async false
set_option linter.all false
set_option maxRecDepth 100000
set_option maxHeartbeats 4000000
namespace K00
open Vm PySem PySem.Spec PyProof.Rows L2
local macro_rules | `(tactic| walk_at "ve") => `(tactic| first
  | ((with_reducible apply e_var); (· exact rfl)) | with_reducible refine e_int ?_ | with_reducible refine e_str ?_ | with_reducible refine e_bl ?_ | with_reducible refine e_non ?_ | with_reducible refine e_bty ?_ | ((with_reducible apply e_glo); (· exact rfl))
  | with_reducible refine e_bin ?_ | with_reducible refine e_neg ?_ | with_reducible refine e_cmp ?_ | with_reducible refine e_cmp2 ?_ | with_reducible refine e_isN ?_ | with_reducible refine e_isB ?_ | with_reducible refine e_bop ?_ | with_reducible refine e_not ?_ | with_reducible refine e_ite ?_ | with_reducible refine e_call ?_ | with_reducible refine e_make ?_ | with_reducible refine e_meth ?_ | with_reducible refine e_bi ?_ | with_reducible refine e_bm ?_ | with_reducible refine e_attr ?_ | with_reducible refine e_idx ?_ | with_reducible refine e_slc ?_ | with_reducible refine e_tup ?_ | with_reducible refine e_lst ?_ | with_reducible refine e_dic ?_ | with_reducible refine e_rngl ?_ | with_reducible refine e_comp ?_
  | with_reducible refine es_nil ?_ | with_reducible refine es_cons ?_ | with_reducible refine eo_none ?_ | with_reducible refine eo_some ?_ | with_reducible refine bop_two ?_ | with_reducible refine bop_one ?_ | with_reducible refine sr_rng ?_
  | with_reducible refine b_addI ?_ | with_reducible refine b_sub ?_ | ((with_reducible refine b_mod ?h ?_); case h => first | assumption | decide | decide +kernel) | ((with_reducible refine b_fdiv ?h ?_); case h => first | decide | exact ⟨by first | assumption | omega, by first | assumption | omega⟩) | ((with_reducible refine b_mul ?h ?_); case h => first | decide | exact Or.inl ⟨by omega, by omega⟩ | exact Or.inr ⟨by omega, by omega⟩) | ((with_reducible refine b_pow ?h ?_); case h => first | decide | exact pow_small (by decide) (by decide) (by omega) | exact ⟨by decide, by decide +kernel⟩) | with_reducible refine c_lt ?_ | with_reducible refine c_le ?_ | with_reducible refine c_gt ?_ | with_reducible refine c_ge ?_ | with_reducible refine i_int ?_ | with_reducible refine i_intB ?_ | with_reducible refine i_abs ?_
  | ((with_reducible apply x_ref); (· first | assumption | exact get_set (by first | assumption | (simp only [List.length_set]; assumption))); (· exact rfl)) | ((with_reducible apply x_lst); (· exact rfl)) | ((with_reducible apply x_tup); (· exact rfl))
  | with_reducible refine t_cons ?_ | with_reducible refine t_end ?_
  | ((with_reducible refine t_nm ?h ?_); case h => exact Nat.le_of_ble_eq_true rfl)
  | ((with_reducible refine r_lst ?h ?_); case h => exact Nat.le_of_ble_eq_true rfl) | ((with_reducible refine r_ref ?h ?_); case h => exact Nat.le_of_ble_eq_true rfl)
  | ((with_reducible apply ix_lst); (· first | assumption | exact get_set (by first | assumption | (simp only [List.length_set]; assumption))); (· exact rfl))
  | with_reducible refine i_len_lst ?_ | with_reducible refine i_len_tup ?_ | with_reducible refine i_len_scr ?_ | with_reducible refine i_min ?_ | with_reducible refine i_max ?_
  | with_reducible refine ⟨_, rfl, ?_⟩
  | dsimp only [bodyKt, List.set_cons_zero, List.set_cons_succ])
local macro_rules | `(tactic| walk_at "vs") => `(tactic| first
  | with_reducible refine ss_cons ?_ | with_reducible refine ss_one ?_ | with_reducible refine ss_nil ?_
  | with_reducible refine s_set' ?_ | with_reducible refine s_par' ?_ | with_reducible refine s_setA' ?_ | with_reducible refine s_setI' ?_ | with_reducible refine s_exp' ?_ | with_reducible refine s_ret' ?_ | with_reducible refine s_ifs' ?_ | with_reducible refine s_for' ?_)
local macro_rules | `(tactic| walk_at "vm") => `(tactic| first | walk_at "vs" | walk_at "ve")
theorem w_take {n p : Nat} {own small lap u : Int} {st : Sto} {Q EX : QD} (hp : st[p]? = some (.lst [.int own, .int small, .int lap])) (h0 : 0 ≤ own) (h1 : 0 ≤ small) (h1' : small < 2305843009213693951) (h2 : 0 ≤ lap) (h3 : lap < 1000000) (hu : 0 < u) (hu2 : u < 1000)
    (k : ∀ d own' lap' : Int, 0 ≤ d → d < u → 0 ≤ own' → 0 ≤ lap' → lap' ≤ lap + 1 → Q (.int d) (st.set p (.lst [.int own', .int small, .int lap']))) : wPr tx.C tx.pg (n + 1) (PySem.Str.ofString "_law_take") [.ref p, .int u] st Q EX := by
  have hpl : p < st.length := (List.getElem?_eq_some_iff.mp hp).1
  refine wPr_fn k_law_take rfl (by decide) ?_
  simp only [d_law_take, b_law_take, Vm.start, List.map_cons, List.map_nil, List.length_cons, List.length_nil, Nat.reduceAdd, Nat.reduceSub, List.replicate, List.cons_append, List.nil_append]
  repeat walk_at "vm"
  by_cases ho : 0 < own
  · rw [if_pos (decide_eq_true ho)]
    repeat walk_at "vm"
    exact exit_set rfl rfl (k _ _ _ (Int.emod_nonneg _ (by omega)) (Int.emod_lt_of_pos _ hu) (Int.ediv_nonneg h0 (by omega)) h2 (by omega))
  · rw [if_neg (by simp [ho])]
    repeat walk_at "vm"
    obtain ⟨v, hv, ha⟩ := atI_mem (xs := [D.int 2147483647, D.int 2147483629, D.int 2147483587, D.int 2147483579, D.int 2147483563]) (k := (lap + 1) % 5) (Int.emod_nonneg _ (by decide)) (Int.emod_lt_of_pos _ (by decide))
    refine x_lst ha ?_
    obtain ⟨pr, rfl, hp0, hp1⟩ : ∃ pr : Int, v = .int pr ∧ 0 < pr ∧ pr < 2147483648 := by
      simp only [List.mem_cons, List.not_mem_nil, or_false] at hv
      rcases hv with rfl | rfl | rfl | rfl | rfl <;> exact ⟨_, rfl, by decide, by decide⟩
    repeat walk_at "vm"
    have e0 : 0 ≤ 95291 * (lap + 1) * (lap + 1) := Int.mul_nonneg (by omega) (by omega)
    have e1 : 95291 * (lap + 1) * (lap + 1) ≤ 95291 * 1000000 * 1000000 := Int.mul_le_mul (by omega) (by omega) (by omega) (by omega)
    refine b_pow (pow_small (by decide) (by decide) (by omega)) ?_
    generalize (small + 95291 * (lap + 1) * (lap + 1) + 143) ^ Int.toNat 3 = cube
    have hb0 : 0 ≤ cube % pr := Int.emod_nonneg _ (by omega)
    have hb1 : cube % pr < pr := Int.emod_lt_of_pos _ hp0
    repeat walk_at "vm"
    exact exit_set rfl rfl (k _ _ _ (Int.emod_nonneg _ (by omega)) (Int.emod_lt_of_pos _ hu) h0 (by omega) (by omega))
def PotOk (o : O) (L : Int) : Prop := ∃ own small lap : Int, o = .lst [.int own, .int small, .int lap] ∧ 0 ≤ own ∧ 0 ≤ small ∧ small < 2305843009213693951 ∧ 0 ≤ lap ∧ lap ≤ L
theorem PotOk.lim {o : O} {L : Int} {n : Nat} (h : PotOk o L) : o.lim n = true := by
  obtain ⟨_, _, _, rfl, _⟩ := h
  rfl
theorem PotOk.mono {o : O} {L L' : Int} (h : PotOk o L) (hl : L ≤ L') : PotOk o L' := by
  obtain ⟨a, b, c, h1, h2, h3, h4, h5, h6⟩ := h
  exact ⟨a, b, c, h1, h2, h3, h4, h5, by omega⟩
theorem take_ok {n p : Nat} {o : O} {L u : Int} {st : Sto} {Q EX : QD} (hp : st[p]? = some o) (ho : PotOk o L) (hL : L < 1000000) (hu : 0 < u) (hu2 : u < 1000)
    (k : ∀ (d : Int) (o' : O), 0 ≤ d → d < u → PotOk o' (L + 1) → Q (.int d) (st.set p o')) : wPr tx.C tx.pg (n + 1) (PySem.Str.ofString "_law_take") [.ref p, .int u] st Q EX := by
  obtain ⟨own, small, lap, rfl, h0, h1, h2, h3, h4⟩ := ho
  exact w_take hp h0 h1 h2 h3 (by omega) hu hu2 fun d own' lap' d0 d1 o0 l0 l1 => k d _ d0 d1 ⟨own', small, lap', rfl, o0, h1, h2, l0, by omega⟩
theorem of_ok {n p : Nat} {o : O} {L : Int} {xs : List D} {st : Sto} {Q EX : QD} (hp : st[p]? = some o) (ho : PotOk o L) (hL : L < 1000000) (hx : 0 < xs.length) (hx2 : xs.length < 1000) (hlim : ∀ x ∈ xs, x.lim st.length = true)
    (k : ∀ (d : D) (o' : O), d ∈ xs → PotOk o' (L + 1) → Q d (st.set p o')) : wPr tx.C tx.pg (n + 2) (PySem.Str.ofString "_law_of") [.ref p, .lst xs] st Q EX := by
  refine wPr_fn k_law_of rfl (by decide) ?_
  simp only [d_law_of, b_law_of, Vm.start, List.map_cons, List.map_nil, List.length_cons, List.length_nil, Nat.reduceAdd, Nat.reduceSub, List.replicate, List.cons_append, List.nil_append]
  repeat walk_at "vm"
  refine take_ok hp ho hL (by omega) (by omega) fun d o' d0 d1 po => ?_
  obtain ⟨v, hv, ha⟩ := atI_mem (xs := xs) d0 d1
  refine x_lst ha ?_
  exact exit_set (hlim v hv) po.lim (k v o' hv po)
theorem places_ok {n m : Nat} {ns : List Int} {st : Sto} {Q EX : QD} (hm : 1 ≤ m) (hm2 : m < 100) (hn : ns.length < 1000)
    (k : ∀ j : Nat, 1 ≤ j → j ≤ m → Q (.lst (rngD 0 j)) st) : wPr tx.C tx.pg (n + 1) (PySem.Str.ofString "_law_places") [.scr ns, .int m] st Q EX := by
  refine wPr_fn k_law_places rfl (by decide) ?_
  simp only [d_law_places, b_law_places, Vm.start, List.map_cons, List.map_nil, List.length_cons, List.length_nil, Nat.reduceAdd, Nat.reduceSub, List.replicate, List.cons_append, List.nil_append]
  repeat walk_at "vm"
  have h0 : (if (if (ns.length : Int) < (m : Int) then (ns.length : Int) else (m : Int)) > 1 then (if (ns.length : Int) < (m : Int) then (ns.length : Int) else (m : Int)) else 1) = ((max 1 (min m ns.length) : Nat) : Int) := by
    split <;> split <;> omega
  rw [h0]
  refine ⟨0, _, .inl ⟨rfl, rfl⟩, RgOk.of_le (by omega) (by omega) (by omega) (by omega), r_lst (by rw [rngD_len, sizeLine_eq]; omega) (exit_id rngD_lim (k _ (by omega) (by omega)))⟩
theorem pot_ok {n j : Nat} {ns : List Int} {st : Sto} {Q EX : QD} (hj : j < 1000) (hn : ns.length < 1000)
    (k : ∀ o : O, PotOk o 0 → Q (.ref st.length) (st ++ [o])) : wPr tx.C tx.pg (n + 1) (PySem.Str.ofString "_law_pot") [.scr ns, .int j] st Q EX := by
  refine wPr_fn k_law_pot rfl (by decide) ?_
  simp only [d_law_pot, b_law_pot, Vm.start, List.map_cons, List.map_nil, List.length_cons, List.length_nil, Nat.reduceAdd, Nat.reduceSub, List.replicate, List.cons_append, List.nil_append]
  repeat walk_at "vm"
  have key : ∀ cell : Int, wSs (wPr tx.C tx.pg n) tx.C (match d_law_pot.b with | .cons _ r => r | r => r) [some (D.scr ns), some (D.int j), some (.int cell), none, none] st (bodyKt st Q EX) := by
    intro cell
    simp only [d_law_pot, b_law_pot]
    repeat walk_at "vm"
    exact exit_new rfl (k _ ⟨_, _, _, rfl, Int.mul_nonneg (Int.emod_nonneg _ (by decide +kernel)) (bit_nonneg _), Int.emod_nonneg _ (by decide), Int.lt_trans (Int.emod_lt_of_pos _ (by decide)) (by decide), Int.le_refl 0, Int.le_refl 0⟩)
  by_cases hc : (j : Int) < ns.length
  · rw [if_pos (decide_eq_true hc)]
    repeat walk_at "ve"
    obtain ⟨v, _, ha⟩ := atI_mem (xs := ns) (k := (j : Int)) (by omega) hc
    refine x_scr ha ?_
    repeat walk_at "ve"
    exact key v
  · rw [if_neg (by simpa using hc)]
    repeat walk_at "ve"
    exact key _
end K00

set_option Elab.async false
set_option linter.all false
set_option maxRecDepth 100000
set_option maxHeartbeats 4000000
namespace K00
open Vm PySem PySem.Spec PyProof.Rows L2
local macro_rules | `(tactic| walk_at "ve") => `(tactic| first
  | ((with_reducible apply e_var); (· exact rfl)) | with_reducible refine e_int ?_ | with_reducible refine e_str ?_ | with_reducible refine e_bl ?_ | with_reducible refine e_non ?_ | with_reducible refine e_bty ?_ | ((with_reducible apply e_glo); (· exact rfl))
  | with_reducible refine e_bin ?_ | with_reducible refine e_neg ?_ | with_reducible refine e_cmp ?_ | with_reducible refine e_cmp2 ?_ | with_reducible refine e_isN ?_ | with_reducible refine e_isB ?_ | with_reducible refine e_bop ?_ | with_reducible refine e_not ?_ | with_reducible refine e_ite ?_ | with_reducible refine e_call ?_ | with_reducible refine e_make ?_ | with_reducible refine e_meth ?_ | with_reducible refine e_bi ?_ | with_reducible refine e_bm ?_ | with_reducible refine e_attr ?_ | with_reducible refine e_idx ?_ | with_reducible refine e_slc ?_ | with_reducible refine e_tup ?_ | with_reducible refine e_lst ?_ | with_reducible refine e_dic ?_ | with_reducible refine e_rngl ?_ | with_reducible refine e_comp ?_
  | with_reducible refine es_nil ?_ | with_reducible refine es_cons ?_ | with_reducible refine eo_none ?_ | with_reducible refine eo_some ?_ | with_reducible refine bop_two ?_ | with_reducible refine bop_one ?_ | with_reducible refine sr_rng ?_
  | with_reducible refine b_addI ?_ | with_reducible refine b_sub ?_ | ((with_reducible refine b_mod ?h ?_); case h => first | assumption | decide | decide +kernel) | ((with_reducible refine b_fdiv ?h ?_); case h => first | decide | exact ⟨by first | assumption | omega, by first | assumption | omega⟩) | ((with_reducible refine b_mul ?h ?_); case h => first | decide | exact Or.inl ⟨by omega, by omega⟩ | exact Or.inr ⟨by omega, by omega⟩) | ((with_reducible refine b_pow ?h ?_); case h => first | decide | exact pow_small (by decide) (by decide) (by omega) | exact ⟨by decide, by decide +kernel⟩) | with_reducible refine c_lt ?_ | with_reducible refine c_le ?_ | with_reducible refine c_gt ?_ | with_reducible refine c_ge ?_ | with_reducible refine i_int ?_ | with_reducible refine i_intB ?_ | with_reducible refine i_abs ?_
  | ((with_reducible apply x_ref); (· first | assumption | exact get_set (by first | assumption | (simp only [List.length_set]; assumption))); (· exact rfl)) | ((with_reducible apply x_lst); (· exact rfl)) | ((with_reducible apply x_tup); (· exact rfl))
  | with_reducible refine t_cons ?_ | with_reducible refine t_end ?_
  | ((with_reducible refine t_nm ?h ?_); case h => exact Nat.le_of_ble_eq_true rfl)
  | ((with_reducible refine r_lst ?h ?_); case h => exact Nat.le_of_ble_eq_true rfl) | ((with_reducible refine r_ref ?h ?_); case h => exact Nat.le_of_ble_eq_true rfl)
  | ((with_reducible apply ix_lst); (· first | assumption | exact get_set (by first | assumption | (simp only [List.length_set]; assumption))); (· exact rfl))
  | with_reducible refine i_len_lst ?_ | with_reducible refine i_len_tup ?_ | with_reducible refine i_len_scr ?_ | with_reducible refine i_min ?_ | with_reducible refine i_max ?_
  | with_reducible refine ⟨_, rfl, ?_⟩
  | dsimp only [bodyKt, List.set_cons_zero, List.set_cons_succ])
local macro_rules | `(tactic| walk_at "vs") => `(tactic| first
  | with_reducible refine ss_cons ?_ | with_reducible refine ss_one ?_ | with_reducible refine ss_nil ?_
  | with_reducible refine s_set' ?_ | with_reducible refine s_par' ?_ | with_reducible refine s_setA' ?_ | with_reducible refine s_setI' ?_ | with_reducible refine s_exp' ?_ | with_reducible refine s_ret' ?_ | with_reducible refine s_ifs' ?_ | with_reducible refine s_for' ?_)
local macro_rules | `(tactic| walk_at "vm") => `(tactic| first | walk_at "vs" | walk_at "ve")
theorem perm_erase {xs : List D} {i : Nat} {x : D} (h : xs[i]? = some x) : (x :: xs.eraseIdx i).Perm xs := by
  obtain ⟨hi, rfl⟩ := List.getElem?_eq_some_iff.mp h
  rw [List.eraseIdx_eq_take_drop_succ]
  have e : xs = xs.take i ++ xs[i] :: xs.drop (i + 1) := by
    rw [← List.drop_eq_getElem_cons hi, List.take_append_drop]
  exact (List.perm_middle.symm).trans (List.Perm.of_eq e.symm)
end K00

set_option Elab.async false
set_option linter.all false
set_option maxRecDepth 100000
set_option maxHeartbeats 4000000
namespace K00
open Vm PySem PySem.Spec PyProof.Rows L2
local macro_rules | `(tactic| walk_at "ve") => `(tactic| first
  | ((with_reducible apply e_var); (· exact rfl)) | with_reducible refine e_int ?_ | with_reducible refine e_str ?_ | with_reducible refine e_bl ?_ | with_reducible refine e_non ?_ | with_reducible refine e_bty ?_ | ((with_reducible apply e_glo); (· exact rfl))
  | with_reducible refine e_bin ?_ | with_reducible refine e_neg ?_ | with_reducible refine e_cmp ?_ | with_reducible refine e_cmp2 ?_ | with_reducible refine e_isN ?_ | with_reducible refine e_isB ?_ | with_reducible refine e_bop ?_ | with_reducible refine e_not ?_ | with_reducible refine e_ite ?_ | with_reducible refine e_call ?_ | with_reducible refine e_make ?_ | with_reducible refine e_meth ?_ | with_reducible refine e_bi ?_ | with_reducible refine e_bm ?_ | with_reducible refine e_attr ?_ | with_reducible refine e_idx ?_ | with_reducible refine e_slc ?_ | with_reducible refine e_tup ?_ | with_reducible refine e_lst ?_ | with_reducible refine e_dic ?_ | with_reducible refine e_rngl ?_ | with_reducible refine e_comp ?_
  | with_reducible refine es_nil ?_ | with_reducible refine es_cons ?_ | with_reducible refine eo_none ?_ | with_reducible refine eo_some ?_ | with_reducible refine bop_two ?_ | with_reducible refine bop_one ?_ | with_reducible refine sr_rng ?_
  | with_reducible refine b_addI ?_ | with_reducible refine b_sub ?_ | ((with_reducible refine b_mod ?h ?_); case h => first | assumption | decide | decide +kernel) | ((with_reducible refine b_fdiv ?h ?_); case h => first | decide | exact ⟨by first | assumption | omega, by first | assumption | omega⟩) | ((with_reducible refine b_mul ?h ?_); case h => first | decide | exact Or.inl ⟨by omega, by omega⟩ | exact Or.inr ⟨by omega, by omega⟩) | ((with_reducible refine b_pow ?h ?_); case h => first | decide | exact pow_small (by decide) (by decide) (by omega) | exact ⟨by decide, by decide +kernel⟩) | with_reducible refine c_lt ?_ | with_reducible refine c_le ?_ | with_reducible refine c_gt ?_ | with_reducible refine c_ge ?_ | with_reducible refine i_int ?_ | with_reducible refine i_intB ?_ | with_reducible refine i_abs ?_
  | ((with_reducible apply x_ref); (· first | assumption | exact get_set (by first | assumption | (simp only [List.length_set]; assumption))); (· exact rfl)) | ((with_reducible apply x_lst); (· exact rfl)) | ((with_reducible apply x_tup); (· exact rfl))
  | with_reducible refine t_cons ?_ | with_reducible refine t_end ?_
  | ((with_reducible refine t_nm ?h ?_); case h => exact Nat.le_of_ble_eq_true rfl)
  | ((with_reducible refine r_lst ?h ?_); case h => exact Nat.le_of_ble_eq_true rfl) | ((with_reducible refine r_ref ?h ?_); case h => exact Nat.le_of_ble_eq_true rfl)
  | ((with_reducible apply ix_lst); (· first | assumption | exact get_set (by first | assumption | (simp only [List.length_set]; assumption))); (· exact rfl))
  | with_reducible refine i_len_lst ?_ | with_reducible refine i_len_tup ?_ | with_reducible refine i_len_scr ?_ | with_reducible refine i_min ?_ | with_reducible refine i_max ?_
  | with_reducible refine ⟨_, rfl, ?_⟩
  | dsimp only [bodyKt, List.set_cons_zero, List.set_cons_succ])
local macro_rules | `(tactic| walk_at "vs") => `(tactic| first
  | with_reducible refine ss_cons ?_ | with_reducible refine ss_one ?_ | with_reducible refine ss_nil ?_
  | with_reducible refine s_set' ?_ | with_reducible refine s_par' ?_ | with_reducible refine s_setA' ?_ | with_reducible refine s_setI' ?_ | with_reducible refine s_exp' ?_ | with_reducible refine s_ret' ?_ | with_reducible refine s_ifs' ?_ | with_reducible refine s_for' ?_)
local macro_rules | `(tactic| walk_at "vm") => `(tactic| first | walk_at "vs" | walk_at "ve")
def words14 : List Str := ["oil", "bank", "mill", "rail", "a", "b", "clients", "rivals", "kind", "looks", "pair", "house", "zzzzzzzz", "writes"]
def unS : D → Str
  | .str x => x
  | _ => ""
theorem drawn_str {ys zs : List D} {ws : List Str} (h : (ys ++ zs).Perm (ws.map D.str)) (nd : ws.Nodup) : ∃ names : List Str, ys = names.map D.str ∧ names.Nodup ∧ (∀ x ∈ names, x ∈ ws) ∧ names.length = ys.length := by
  have hs : ∀ y ∈ ys, ∃ x ∈ ws, y = D.str x := fun y hy => by
    obtain ⟨x, hx, e⟩ := List.mem_map.mp (h.mem_iff.mp (List.mem_append_left _ hy))
    exact ⟨x, hx, e.symm⟩
  have e : ys = (ys.map unS).map D.str := by
    rw [List.map_map]
    have : ys.map (D.str ∘ unS) = ys.map id := List.map_congr_left fun y hy => by
      obtain ⟨x, _, rfl⟩ := hs y hy
      rfl
    rw [this, List.map_id]
  have h2 := h.map unS
  rw [List.map_append, List.map_map] at h2
  have e2 : ws.map (unS ∘ D.str) = ws := by
    have : ws.map (unS ∘ D.str) = ws.map id := List.map_congr_left fun _ _ => rfl
    rw [this, List.map_id]
  rw [e2] at h2
  refine ⟨ys.map unS, e, ?_, fun x hx => h2.mem_iff.mp (List.mem_append_left _ hx), List.length_map ..⟩
  exact (List.nodup_append.mp (h2.nodup_iff.mpr nd)).1
end K00

set_option Elab.async false
set_option linter.all false
set_option maxRecDepth 100000
set_option maxHeartbeats 4000000
namespace K00
open Vm PySem PySem.Spec PyProof.Rows L2
local macro_rules | `(tactic| walk_at "ve") => `(tactic| first
  | ((with_reducible apply e_var); (· exact rfl)) | with_reducible refine e_int ?_ | with_reducible refine e_str ?_ | with_reducible refine e_bl ?_ | with_reducible refine e_non ?_ | with_reducible refine e_bty ?_ | ((with_reducible apply e_glo); (· exact rfl))
  | with_reducible refine e_bin ?_ | with_reducible refine e_neg ?_ | with_reducible refine e_cmp ?_ | with_reducible refine e_cmp2 ?_ | with_reducible refine e_isN ?_ | with_reducible refine e_isB ?_ | with_reducible refine e_bop ?_ | with_reducible refine e_not ?_ | with_reducible refine e_ite ?_ | with_reducible refine e_call ?_ | with_reducible refine e_make ?_ | with_reducible refine e_meth ?_ | with_reducible refine e_bi ?_ | with_reducible refine e_bm ?_ | with_reducible refine e_attr ?_ | with_reducible refine e_idx ?_ | with_reducible refine e_slc ?_ | with_reducible refine e_tup ?_ | with_reducible refine e_lst ?_ | with_reducible refine e_dic ?_ | with_reducible refine e_rngl ?_ | with_reducible refine e_comp ?_
  | with_reducible refine es_nil ?_ | with_reducible refine es_cons ?_ | with_reducible refine eo_none ?_ | with_reducible refine eo_some ?_ | with_reducible refine bop_two ?_ | with_reducible refine bop_one ?_ | with_reducible refine sr_rng ?_ | with_reducible refine sr_enu ?_ | with_reducible refine sr_ex ?_ | with_reducible refine ifs_nil ?_ | with_reducible refine ifs_cons ?_ | with_reducible refine sl_lst ?_ | with_reducible refine sl_tup ?_
  | with_reducible refine b_addI ?_ | with_reducible refine b_sub ?_ | ((with_reducible refine b_mod ?h ?_); case h => first | assumption | decide | decide +kernel) | ((with_reducible refine b_fdiv ?h ?_); case h => first | decide | exact ⟨by first | assumption | omega, by first | assumption | omega⟩) | ((with_reducible refine b_mul ?h ?_); case h => first | decide | exact Or.inl ⟨by omega, by omega⟩ | exact Or.inr ⟨by omega, by omega⟩) | ((with_reducible refine b_pow ?h ?_); case h => first | decide | exact pow_small (by decide) (by decide) (by omega) | exact ⟨by decide, by decide +kernel⟩) | with_reducible refine c_lt ?_ | with_reducible refine c_le ?_ | with_reducible refine c_gt ?_ | with_reducible refine c_ge ?_ | with_reducible refine i_int ?_ | with_reducible refine i_intB ?_ | with_reducible refine i_abs ?_
  | ((with_reducible apply x_ref); (· first | assumption | exact get_set (by first | assumption | (simp only [List.length_set]; assumption))); (· exact rfl)) | ((with_reducible apply x_lst); (· exact rfl)) | ((with_reducible apply x_tup); (· exact rfl))
  | with_reducible refine t_cons ?_ | with_reducible refine t_end ?_
  | ((with_reducible refine t_nm ?h ?_); case h => exact Nat.le_of_ble_eq_true rfl)
  | ((with_reducible refine r_lst ?h ?_); case h => exact Nat.le_of_ble_eq_true rfl) | ((with_reducible refine r_ref ?h ?_); case h => exact Nat.le_of_ble_eq_true rfl)
  | ((with_reducible apply ix_lst); (· first | assumption | exact get_set (by first | assumption | (simp only [List.length_set]; assumption))); (· exact rfl))
  | with_reducible refine i_len_lst ?_ | with_reducible refine i_len_tup ?_ | with_reducible refine i_len_scr ?_ | with_reducible refine i_min ?_ | with_reducible refine i_max ?_
  | with_reducible refine ⟨_, rfl, ?_⟩
  | dsimp only [bodyKt, List.set_cons_zero, List.set_cons_succ])
local macro_rules | `(tactic| walk_at "vs") => `(tactic| first
  | with_reducible refine ss_cons ?_ | with_reducible refine ss_one ?_ | with_reducible refine ss_nil ?_
  | with_reducible refine s_set' ?_ | with_reducible refine s_par' ?_ | with_reducible refine s_setA' ?_ | with_reducible refine s_setI' ?_ | with_reducible refine s_exp' ?_ | with_reducible refine s_ret' ?_ | with_reducible refine s_ifs' ?_ | with_reducible refine s_for' ?_)
local macro_rules | `(tactic| walk_at "vm") => `(tactic| first | walk_at "vs" | walk_at "ve")
theorem enum_get : ∀ {xs : List D} {s i : Nat}, (enumFrom s xs)[i]? = (xs[i]?).map fun x => D.tup [.int ((s + i : Nat) : Int), x]
  | [], _, _ => by simp [enumFrom]
  | x :: xs, s, 0 => rfl
  | x :: xs, s, i + 1 => by
    show (enumFrom (s + 1) xs)[i]? = _
    rw [enum_get, List.getElem?_cons_succ]
    congr 1
    funext y
    rw [show s + 1 + i = s + (i + 1) by omega]
theorem enum_len : ∀ {xs : List D} {s : Nat}, (enumFrom s xs).length = xs.length
  | [], _ => rfl
  | x :: xs, s => congrArg Nat.succ enum_len
def pairOf (x y : Str) : D := .tup [.str x, .str y]
/-- the pairs that begin with one of the first i -/
def pairsTo (names : List Str) (i : Nat) : List D := (List.range i).flatMap fun a => (names.drop (a + 1)).map fun y => pairOf (names.getD a "") y
theorem cut_drop {xs : List D} {j : Nat} (h : j ≤ xs.length) : cutL xs (some (j : Int)) none = xs.drop j := by
  unfold cutL
  rw [HT.sIx_nat, HT.sIx_none, Nat.min_eq_left h]
  exact List.take_of_length_le (by rw [List.length_drop]; omega)
theorem pairsTo_succ {names : List Str} {i : Nat} (h : i < names.length) : pairsTo names (i + 1) = pairsTo names i ++ (names.drop (i + 1)).map fun y => pairOf names[i] y := by
  unfold pairsTo
  rw [List.range_succ, List.flatMap_append]
  congr 1
  rw [List.flatMap_cons, List.flatMap_nil, List.append_nil]
  have : names.getD i "" = names[i] := by rw [List.getD_eq_getElem?_getD, List.getElem?_eq_getElem h]; rfl
  rw [this]
theorem pairsTo_len {names : List Str} (hl : names.length ≤ 20) : ∀ i : Nat, (pairsTo names i).length ≤ 20 * i
  | 0 => Nat.le_refl 0
  | i + 1 => by
    unfold pairsTo
    rw [List.range_succ, List.flatMap_append, List.length_append]
    have := pairsTo_len hl i
    unfold pairsTo at this
    rw [List.flatMap_cons, List.flatMap_nil, List.append_nil, List.length_map, List.length_drop]
    omega
theorem pairsTo_lim {names : List Str} {i n : Nat} : limL n (pairsTo names i) = true := limL_of fun x hx => by
  obtain ⟨a, _, hb⟩ := List.mem_flatMap.mp hx
  obtain ⟨y, _, rfl⟩ := List.mem_map.mp hb
  rfl
end K00

set_option Elab.async false
set_option linter.all false
set_option maxRecDepth 100000
set_option maxHeartbeats 4000000
namespace K00
open Vm PySem PySem.Spec PyProof.Rows L2
local macro_rules | `(tactic| walk_at "ve") => `(tactic| first
  | ((with_reducible apply e_var); (· exact rfl)) | with_reducible refine e_int ?_ | with_reducible refine e_str ?_ | with_reducible refine e_bl ?_ | with_reducible refine e_non ?_ | with_reducible refine e_bty ?_ | ((with_reducible apply e_glo); (· exact rfl))
  | with_reducible refine e_bin ?_ | with_reducible refine e_neg ?_ | with_reducible refine e_cmp ?_ | with_reducible refine e_cmp2 ?_ | with_reducible refine e_isN ?_ | with_reducible refine e_isB ?_ | with_reducible refine e_bop ?_ | with_reducible refine e_not ?_ | with_reducible refine e_ite ?_ | with_reducible refine e_call ?_ | with_reducible refine e_make ?_ | with_reducible refine e_meth ?_ | with_reducible refine e_bi ?_ | with_reducible refine e_bm ?_ | with_reducible refine e_attr ?_ | with_reducible refine e_idx ?_ | with_reducible refine e_slc ?_ | with_reducible refine e_tup ?_ | with_reducible refine e_lst ?_ | with_reducible refine e_dic ?_ | with_reducible refine e_rngl ?_ | with_reducible refine e_comp ?_
  | with_reducible refine es_nil ?_ | with_reducible refine es_cons ?_ | with_reducible refine eo_none ?_ | with_reducible refine eo_some ?_ | with_reducible refine bop_two ?_ | with_reducible refine bop_one ?_ | with_reducible refine sr_rng ?_ | with_reducible refine sr_enu ?_ | with_reducible refine sr_ex ?_ | with_reducible refine ifs_nil ?_ | with_reducible refine ifs_cons ?_ | with_reducible refine sl_lst ?_ | with_reducible refine sl_tup ?_
  | with_reducible refine b_addI ?_ | with_reducible refine b_sub ?_ | ((with_reducible refine b_mod ?h ?_); case h => first | assumption | decide | decide +kernel) | ((with_reducible refine b_fdiv ?h ?_); case h => first | decide | exact ⟨by first | assumption | omega, by first | assumption | omega⟩) | ((with_reducible refine b_mul ?h ?_); case h => first | decide | exact Or.inl ⟨by omega, by omega⟩ | exact Or.inr ⟨by omega, by omega⟩) | ((with_reducible refine b_pow ?h ?_); case h => first | decide | exact pow_small (by decide) (by decide) (by omega) | exact ⟨by decide, by decide +kernel⟩) | with_reducible refine c_lt ?_ | with_reducible refine c_le ?_ | with_reducible refine c_gt ?_ | with_reducible refine c_ge ?_ | with_reducible refine i_int ?_ | with_reducible refine i_intB ?_ | with_reducible refine i_abs ?_
  | ((with_reducible apply x_ref); (· first | assumption | exact get_set (by first | assumption | (simp only [List.length_set]; assumption))); (· exact rfl)) | ((with_reducible apply x_lst); (· exact rfl)) | ((with_reducible apply x_tup); (· exact rfl))
  | with_reducible refine t_cons ?_ | with_reducible refine t_end ?_
  | ((with_reducible refine t_nm ?h ?_); case h => exact Nat.le_of_ble_eq_true rfl)
  | ((with_reducible refine r_lst ?h ?_); case h => exact Nat.le_of_ble_eq_true rfl) | ((with_reducible refine r_ref ?h ?_); case h => exact Nat.le_of_ble_eq_true rfl)
  | ((with_reducible apply ix_lst); (· first | assumption | exact get_set (by first | assumption | (simp only [List.length_set]; assumption))); (· exact rfl))
  | with_reducible refine i_len_lst ?_ | with_reducible refine i_len_tup ?_ | with_reducible refine i_len_scr ?_ | with_reducible refine i_min ?_ | with_reducible refine i_max ?_
  | with_reducible refine ⟨_, rfl, ?_⟩
  | dsimp only [bodyKt, List.set_cons_zero, List.set_cons_succ])
local macro_rules | `(tactic| walk_at "vs") => `(tactic| first
  | with_reducible refine ss_cons ?_ | with_reducible refine ss_one ?_ | with_reducible refine ss_nil ?_
  | with_reducible refine s_set' ?_ | with_reducible refine s_par' ?_ | with_reducible refine s_setA' ?_ | with_reducible refine s_setI' ?_ | with_reducible refine s_exp' ?_ | with_reducible refine s_ret' ?_ | with_reducible refine s_ifs' ?_ | with_reducible refine s_for' ?_)
local macro_rules | `(tactic| walk_at "vm") => `(tactic| first | walk_at "vs" | walk_at "ve")
theorem each_inv {g : Sto → Prop} {step : D → List D → Sto → (List D → Sto → Prop) → Prop} {R : List D → Sto → Prop} {items : List D} (Iv : Nat → List D → Sto → Prop)
    (hs : ∀ (i : Nat) (x : D) (acc : List D) (st : Sto), items[i]? = some x → Iv i acc st → g st ∧ ∀ N : List D → Sto → Prop, (∀ a s, Iv (i + 1) a s → N a s) → step x acc st N)
    (fin : ∀ acc st, Iv items.length acc st → g st ∧ R acc st) : ∀ {acc : List D} {st : Sto}, Iv 0 acc st → each g step items acc st R := by
  have key : ∀ (rest : List D) (i : Nat), (∀ j, rest[j]? = items[i + j]?) → i + rest.length = items.length → ∀ acc st, Iv i acc st → each g step rest acc st R := by
    intro rest
    induction rest with
    | nil =>
      intro i _ hl acc st h
      have : i = items.length := by simpa using hl
      rw [this] at h
      exact fin acc st h
    | cons x rest ih =>
      intro i hj hl acc st h
      obtain ⟨hg, hn⟩ := hs i x acc st ((hj 0).symm.trans rfl) h
      exact ⟨hg, hn _ fun a s h2 => ih (i + 1) (fun j => by
        have := hj (j + 1)
        rw [List.getElem?_cons_succ] at this
        rw [this]
        congr 1
        omega) (by rw [List.length_cons] at hl; omega) a s h2⟩
  intro acc st h
  exact key items 0 (fun j => by rw [Nat.zero_add]) (Nat.zero_add _) acc st h
theorem c_eqI {Φ : Fn} {C : Vm.Ctx} {st : Sto} {EX : QD} {i j : Int} {R : Bool → Sto → Prop} (q : R (decide (i = j)) st) : wCmp Φ C .eq (.int i) (.int j) st R EX := by
  refine .inr ⟨.int i, .int j, rfl, rfl, ?_⟩
  have : PyData.eqv (.int i) (.int j) = decide (i = j) := by
    first
      | rfl
      | (simp [PyData.eqv]; done)
      | (unfold PyData.eqv; simp)
  rw [this]
  exact q
end K00

set_option Elab.async false
set_option linter.all false
set_option maxRecDepth 100000
set_option maxHeartbeats 4000000
namespace K00
open Vm PySem PySem.Spec PyProof.Rows L2 TL
local macro_rules | `(tactic| walk_at "wg") => `(tactic| first | assumption | (with_reducible exact own_get0) | (with_reducible exact loc_get0) | exact own_get 1 | exact own_get 2 | exact loc_get 1 | exact loc_get 2 | exact pot_get (by assumption) | exact get_set (by first | assumption | (simp only [List.length_set]; assumption)))
local macro_rules | `(tactic| walk_at "wu") => `(tactic| first | (with_reducible exact own_set0) | (with_reducible exact loc_set0) | exact own_set 1 | exact own_set 2 | exact loc_set 1 | exact loc_set 2 | exact pot_set (by assumption) | exact rfl)
local macro_rules | `(tactic| walk_at "wo") => `(tactic| first | assumption | decide | decide +kernel)
local macro_rules | `(tactic| walk_at "we") => `(tactic| first
  | ((with_reducible apply e_var); (· exact rfl)) | with_reducible refine e_int ?_ | with_reducible refine e_str ?_ | with_reducible refine e_bl ?_ | with_reducible refine e_non ?_ | with_reducible refine e_bty ?_ | ((with_reducible apply e_glo); (· exact rfl))
  | with_reducible refine e_bin ?_ | with_reducible refine e_neg ?_ | with_reducible refine e_cmp ?_ | with_reducible refine e_cmp2 ?_ | with_reducible refine e_isN ?_ | with_reducible refine e_isB ?_ | with_reducible refine e_bop ?_ | with_reducible refine e_not ?_ | with_reducible refine e_ite ?_ | with_reducible refine e_call ?_ | with_reducible refine e_make ?_ | with_reducible refine e_meth ?_ | with_reducible refine e_bi ?_ | with_reducible refine e_bm ?_ | with_reducible refine e_attr ?_ | with_reducible refine e_idx ?_ | with_reducible refine e_slc ?_ | with_reducible refine e_tup ?_ | with_reducible refine e_lst ?_ | with_reducible refine e_dic ?_ | with_reducible refine e_rngl ?_ | with_reducible refine e_comp ?_ | with_reducible refine e_told ?_
  | with_reducible refine es_nil ?_ | with_reducible refine es_cons ?_ | with_reducible refine es_star ?_ | with_reducible refine eo_none ?_ | with_reducible refine eo_some ?_ | with_reducible refine bop_two ?_ | with_reducible refine bop_one ?_ | with_reducible refine sr_rng ?_ | with_reducible refine sr_ex' ?_ | with_reducible refine sr_enu ?_
  | with_reducible refine ifs_cons ?_ | with_reducible refine ifs_nil ?_)
local macro_rules | `(tactic| walk_at "wv") => `(tactic| first
  | ((with_reducible apply told_x); (· kernel_rfl)) | ((with_reducible apply a_value); (· kernel_rfl)) | ((with_reducible apply i_isX (b := true)); (· kernel_rfl)) | ((with_reducible apply i_isX (b := false)); (· kernel_rfl)) | ((with_reducible apply i_isXn); (· kernel_rfl); (· exact rfl))
  | with_reducible refine it_lst ?_ | with_reducible refine it_tup ?_ | ((with_reducible apply it_ref); (· walk_at "wg"))
  | with_reducible refine b_addI ?_ | with_reducible refine b_sub ?_ | ((with_reducible refine b_mod ?vm_h ?_); case vm_h => first | assumption | decide | decide +kernel) | ((with_reducible refine b_fdiv ?vm_h ?_); case vm_h => first | decide | exact ⟨by first | assumption | omega, by first | assumption | omega⟩) | ((with_reducible refine b_mul ?vm_h ?_); case vm_h => first | decide | exact Or.inl ⟨by omega, by omega⟩ | exact Or.inr ⟨by omega, by omega⟩) | ((with_reducible refine b_pow ?vm_h ?_); case vm_h => first | decide | exact pow_small (by decide) (by decide) (by omega) | exact ⟨by decide, by decide +kernel⟩) | with_reducible refine c_lt ?_ | with_reducible refine c_le ?_ | with_reducible refine c_gt ?_ | with_reducible refine c_ge ?_ | with_reducible refine i_int ?_ | with_reducible refine i_intB ?_ | with_reducible refine i_abs ?_
  | with_reducible refine c_eqI' ?_ | with_reducible refine c_neI ?_
  | with_reducible refine c_eqS ?_ | with_reducible refine c_neS ?_ | with_reducible refine c_eqB ?_ | with_reducible refine c_neB ?_
  | with_reducible refine x_lst0 ?_ | with_reducible refine x_lst1 ?_ | with_reducible refine x_lst2 ?_ | with_reducible refine x_tup0 ?_ | with_reducible refine x_tup1 ?_ | with_reducible refine x_tup2 ?_
  | ((with_reducible apply x_ref); (· walk_at "wg"); (· exact rfl)) | ((with_reducible apply x_lst); (· exact rfl)) | ((with_reducible apply x_tup); (· exact rfl))
  | with_reducible refine x_clients ?_ | with_reducible refine x_rivals ?_ | with_reducible refine x_kinds ?_
  | with_reducible refine rd_a0 ?_ | with_reducible refine rd_a1 ?_ | with_reducible refine rd_a2 ?_ | with_reducible refine rd_a3 ?_ | with_reducible refine rd_a4 ?_ | with_reducible refine rd_l1 ?_ | with_reducible refine rd_l2 ?_ | with_reducible refine rd_l3 ?_ | with_reducible refine rd_l4 ?_ | ((with_reducible apply rd_meth); (· kernel_rfl); (· kernel_rfl))
  | ((with_reducible apply set_ins); (· walk_at "wg"); (· kernel_rfl); (· kernel_rfl); (· exact Nat.lt_of_lt_of_le (Nat.lt_succ_self _) (Nat.le_of_ble_eq_true rfl)); (· walk_at "wu"))
  | ((with_reducible apply r_dct); (· exact Nat.le_of_ble_eq_true rfl); (· first | exact loc_len4 | exact loc_len3 | exact loc_len2 | exact loc_len1 | exact rfl); (· first | exact app4 | exact app3 | exact app2 | exact app1 | exact rfl))
  | ((with_reducible refine r_dctF ?vm_h ?_); case vm_h => first | exact Nat.le_of_ble_eq_true rfl | decide +kernel)
  | with_reducible refine t_cons ?_ | with_reducible refine t_consL ?_ | with_reducible refine t_end ?_
  | ((with_reducible refine t_nm ?vm_h ?_); case vm_h => exact Nat.le_of_ble_eq_true rfl)
  | ((with_reducible refine r_lst ?vm_h ?_); case vm_h => exact Nat.le_of_ble_eq_true rfl)
  | ((with_reducible apply r_ref'); (· exact Nat.le_of_ble_eq_true rfl); (· first | exact own_len3 | exact own_len2 | exact own_len1 | exact own_len00 | exact own_len0 | exact loc_len3 | exact loc_len2 | exact loc_len1 | exact rfl); (· first | exact app3 | exact app2 | exact app1 | exact rfl))
  | ((with_reducible apply ix_lst'); (· walk_at "wg"); (· exact rfl); (· walk_at "wu"))
  | ((with_reducible apply bm_at); (· walk_at "wg"); (· first | exact .inl rfl | exact .inr (.inl rfl) | exact .inr (.inr rfl)))
  | ((with_reducible refine bm_txt ?vm_m ?_); (case vm_m => first | exact .inl rfl | exact .inr rfl))
  | with_reducible refine i_len_lst ?_ | with_reducible refine i_len_tup ?_ | with_reducible refine i_len_scr ?_ | ((with_reducible apply i_len_ref); (· walk_at "wg")) | with_reducible refine i_min ?_ | with_reducible refine i_max ?_
  | with_reducible refine sl_lst ?_ | with_reducible refine sl_tup ?_
  | ((with_reducible apply i_tuple); (· first | exact rfl | exact seq_ref (by walk_at "wg"))) | ((with_reducible apply i_list); (· first | exact rfl | exact seq_ref (by walk_at "wg")))
  | ((with_reducible apply i_isT); (· decide +kernel); (· exact rfl)) | ((with_reducible apply i_len_str); (· assumption)) | with_reducible refine c_letter ?_ | with_reducible refine it_str ?_
  | with_reducible refine ⟨_, rfl, ?_⟩
  | (with_reducible refine ⟨?vm_h, ?_⟩; case vm_h => exact Nat.le_of_ble_eq_true rfl)
  | dsimp only [bodyKt, List.set_cons_zero, List.set_cons_succ]
  | with_reducible refine vit ?_ | with_reducible refine vand_f ?_ | with_reducible refine vor_t ?_ | with_reducible refine vor_f ?_ | with_reducible refine vTrue ?_ | with_reducible refine vFalse ?_ | simp only [Bool.not_true, Bool.not_false]
  | ((with_reducible refine vift ?vm_h ?_); case vm_h => decide) | ((with_reducible refine viff ?vm_h ?_); case vm_h => decide)
  | ((with_reducible refine vor_f' ?vm_h ?_); case vm_h => decide) | ((with_reducible refine vor_t' ?vm_h ?_); case vm_h => decide)
  | rw [pot_set (by assumption)] | rw [List.set_set])
local macro_rules | `(tactic| walk_at "ws") => `(tactic| first
  | with_reducible refine ss_cons ?_ | with_reducible refine ss_consf ?_ | with_reducible refine ss_one ?_ | with_reducible refine ss_nil ?_
  | with_reducible refine s_set' ?_ | with_reducible refine s_par' ?_ | with_reducible refine s_setA2 ?_ | with_reducible refine s_setI' ?_ | with_reducible refine s_exp' ?_ | with_reducible refine s_ret' ?_ | with_reducible refine s_ifs' ?_ | with_reducible refine s_for' ?_ | with_reducible refine s_raise' ?_)
local macro_rules | `(tactic| walk_at "w") => `(tactic| first | walk_at "ws" | walk_at "we" | walk_at "wv")
local macro_rules | `(tactic| walk_at "w*") => `(tactic| repeat walk_at "w")
local macro_rules | `(tactic| walk_at "wstart") => `(tactic| simp only [Vm.start, List.map_cons, List.map_nil, List.length_cons, List.length_nil, Nat.reduceAdd, Nat.reduceSub, List.replicate, List.cons_append, List.nil_append])
/-- a house's papers, as the law makes them -/
structure Lore where
  clients : List Str
  rivals : List (Str × Str)
  kinds : List (Str × List Str × List Str)
def Lore.d (l : Lore) : D := .dct [(.inr "clients", .lst (l.clients.map .str)), (.inr "rivals", .lst (l.rivals.map fun q => pairOf q.1 q.2)), (.inr "kinds", .lst (l.kinds.map fun r => .tup [.str r.1, .lst (r.2.1.map .str), .lst (r.2.2.map .str)]))]
def kinds6 : List Str := ["hand", "clerk", "kind", "looks", "oil", "a"]
def swp (q : Str × Str) : Str × Str := (q.2, q.1)
def flp (w : (Str × Str) × Bool) : Str × Str := if w.2 = true then swp w.1 else w.1
def pairsS (names : List Str) (i : Nat) : List (Str × Str) := (List.range i).flatMap fun a => (names.drop (a + 1)).map fun y => (names.getD a "", y)
theorem pairs_map {names : List Str} {i : Nat} : pairsTo names i = (pairsS names i).map fun q => pairOf q.1 q.2 := by
  unfold pairsTo pairsS
  rw [List.map_flatMap]
  congr 1
  funext a
  rw [List.map_map]
  rfl
/-- a name: one to eight small letters -/
def Nm (x : Str) : Bool := decide (0 < x.length) && decide (x.length ≤ 8) && (tl x).all fun c => decide (97 ≤ c) && decide (c ≤ 122)
/-- names of the clients, unlike; each two of them at most once as rivals; one to four kinds, unlike, their lots in the clients' order -/
structure LoreOk (l : Lore) : Prop where
  c1 : 2 ≤ l.clients.length
  c2 : l.clients.length ≤ 8
  c3 : l.clients.Nodup
  c4 : ∀ x ∈ l.clients, Nm x = true
  r1 : ∀ q ∈ l.rivals, q.1 ∈ l.clients ∧ q.2 ∈ l.clients ∧ q.1 ≠ q.2
  r2 : l.rivals.Pairwise fun a b => a ≠ b ∧ (a.2, a.1) ≠ b
  r3 : l.rivals.length ≤ 200
  k1 : 1 ≤ l.kinds.length
  k2 : l.kinds.length ≤ 4
  k3 : (l.kinds.map (·.1)).Nodup
  k4 : ∀ r ∈ l.kinds, Nm r.1 = true ∧ r.2.1.Sublist l.clients ∧ r.2.2.Sublist l.clients
def rowD (r : Str × List Str × List Str) : D := .tup [.str r.1, .lst (r.2.1.map .str), .lst (r.2.2.map .str)]
/-- the pairs, by the first one -/
def pairsR : List Str → List (Str × Str)
  | [] => []
  | x :: r => r.map (fun y => (x, y)) ++ pairsR r
theorem pairsS_eq : ∀ names : List Str, pairsS names names.length = pairsR names
  | [] => rfl
  | x :: r => by
    unfold pairsS
    rw [List.length_cons, List.range_succ_eq_map, List.flatMap_cons, List.flatMap_map]
    show (r.map fun y => (x, y)) ++ _ = (r.map fun y => (x, y)) ++ _
    congr 1
    exact pairsS_eq r
theorem pairsR_mem : ∀ {names : List Str} {q : Str × Str}, q ∈ pairsR names → q.1 ∈ names ∧ q.2 ∈ names
  | [], q, h => by cases h
  | x :: r, q, h => by
    rcases List.mem_append.mp h with z | z
    · obtain ⟨y, hy, rfl⟩ := List.mem_map.mp z
      exact ⟨List.mem_cons_self .., List.mem_cons_of_mem _ hy⟩
    · have := pairsR_mem z
      exact ⟨List.mem_cons_of_mem _ this.1, List.mem_cons_of_mem _ this.2⟩
theorem pairsR_ne : ∀ {names : List Str} {q : Str × Str}, names.Nodup → q ∈ pairsR names → q.1 ≠ q.2
  | [], q, _, h => by cases h
  | x :: r, q, nd, h => by
    obtain ⟨n1, n2⟩ := List.nodup_cons.mp nd
    rcases List.mem_append.mp h with z | z
    · obtain ⟨y, hy, rfl⟩ := List.mem_map.mp z
      exact fun e => n1 (by rw [show x = y from e]; exact hy)
    · exact pairsR_ne n2 z
/-- two unlike pairs, also turned about -/
def Far (a b : Str × Str) : Prop := a ≠ b ∧ swp a ≠ b
theorem swp_swp (a : Str × Str) : swp (swp a) = a := rfl
theorem far_symm {a b : Str × Str} (h : Far a b) : Far b a := ⟨fun e => h.1 e.symm, fun e => h.2 (by rw [← e, swp_swp])⟩
theorem pairsR_far : ∀ {names : List Str}, names.Nodup → (pairsR names).Pairwise Far
  | [], _ => .nil
  | x :: r, nd => by
    obtain ⟨n1, n2⟩ := List.nodup_cons.mp nd
    refine List.pairwise_append.mpr ⟨?_, pairsR_far n2, ?_⟩
    · refine List.pairwise_map.mpr (n2.imp_of_mem fun {a b} ha hb h => ⟨fun e => h (congrArg Prod.snd e), fun e => ?_⟩)
      have e1 : a = x := congrArg Prod.fst e
      exact n1 (e1 ▸ ha)
    · intro a ha b hb
      obtain ⟨y, hy, rfl⟩ := List.mem_map.mp ha
      have := pairsR_mem hb
      exact ⟨fun e => n1 (by rw [show x = b.1 from congrArg Prod.fst e]; exact this.1), fun e => n1 (by rw [show x = b.2 from congrArg Prod.snd e]; exact this.2)⟩
theorem flp_far {u v : (Str × Str) × Bool} (h : Far u.1 v.1) : Far (flp u) (flp v) := by
  obtain ⟨a, s⟩ := u
  obtain ⟨b, t⟩ := v
  obtain ⟨h1, h2⟩ := h
  have h3 : swp a ≠ swp b := fun e => h1 (by rw [← swp_swp a, e, swp_swp])
  have h4 : a ≠ swp b := fun e => h2 (by rw [e, swp_swp])
  cases s <;> cases t
  · exact ⟨h1, h2⟩
  · exact ⟨h4, h3⟩
  · exact ⟨h2, h1⟩
  · exact ⟨h3, fun e => h4 (by rw [← swp_swp a]; exact e)⟩
def unP : D → Str × Str
  | .tup [.str a, .str b] => (a, b)
  | _ => ("", "")
theorem perm_pairs {ys : List D} {ws : List (Str × Str)} (h : ys.Perm (ws.map fun q => pairOf q.1 q.2)) : ∃ l : List (Str × Str), l.Perm ws ∧ ys = l.map fun q => pairOf q.1 q.2 := by
  have h2 := h.map unP
  rw [List.map_map] at h2
  have e : ws.map (unP ∘ fun q => pairOf q.1 q.2) = ws := by
    have : ws.map (unP ∘ fun q => pairOf q.1 q.2) = ws.map id := List.map_congr_left fun _ _ => rfl
    rw [this, List.map_id]
  rw [e] at h2
  refine ⟨_, h2, ?_⟩
  rw [List.map_map]
  have : ys.map ((fun q => pairOf q.1 q.2) ∘ unP) = ys.map id := List.map_congr_left fun y hy => by
    obtain ⟨q, _, rfl⟩ := List.mem_map.mp (h.mem_iff.mp hy)
    rfl
  rw [this, List.map_id]
theorem mrg_lore {a b c : D} : mrgK [] [(Sum.inr (PySem.Str.ofString "clients"), a), (Sum.inr (PySem.Str.ofString "rivals"), b), (Sum.inr (PySem.Str.ofString "kinds"), c)] = [(Sum.inr (PySem.Str.ofString "clients"), a), (Sum.inr (PySem.Str.ofString "rivals"), b), (Sum.inr (PySem.Str.ofString "kinds"), c)] := by kernel_rfl
end K00

set_option Elab.async false
set_option linter.all false
set_option maxRecDepth 100000
set_option maxHeartbeats 4000000
namespace K00
open Vm PySem PySem.Spec PyProof.Rows L2 TL
local macro_rules | `(tactic| walk_at "wg") => `(tactic| first | assumption | (with_reducible exact own_get0) | (with_reducible exact loc_get0) | exact own_get 1 | exact own_get 2 | exact loc_get 1 | exact loc_get 2 | exact pot_get (by assumption) | exact get_set (by first | assumption | (simp only [List.length_set]; assumption)))
local macro_rules | `(tactic| walk_at "wu") => `(tactic| first | (with_reducible exact own_set0) | (with_reducible exact loc_set0) | exact own_set 1 | exact own_set 2 | exact loc_set 1 | exact loc_set 2 | exact pot_set (by assumption) | exact rfl)
local macro_rules | `(tactic| walk_at "wo") => `(tactic| first | assumption | decide | decide +kernel)
local macro_rules | `(tactic| walk_at "we") => `(tactic| first
  | ((with_reducible apply e_var); (· exact rfl)) | with_reducible refine e_int ?_ | with_reducible refine e_str ?_ | with_reducible refine e_bl ?_ | with_reducible refine e_non ?_ | with_reducible refine e_bty ?_ | ((with_reducible apply e_glo); (· exact rfl))
  | with_reducible refine e_bin ?_ | with_reducible refine e_neg ?_ | with_reducible refine e_cmp ?_ | with_reducible refine e_cmp2 ?_ | with_reducible refine e_isN ?_ | with_reducible refine e_isB ?_ | with_reducible refine e_bop ?_ | with_reducible refine e_not ?_ | with_reducible refine e_ite ?_ | with_reducible refine e_call ?_ | with_reducible refine e_make ?_ | with_reducible refine e_meth ?_ | with_reducible refine e_bi ?_ | with_reducible refine e_bm ?_ | with_reducible refine e_attr ?_ | with_reducible refine e_idx ?_ | with_reducible refine e_slc ?_ | with_reducible refine e_tup ?_ | with_reducible refine e_lst ?_ | with_reducible refine e_dic ?_ | with_reducible refine e_rngl ?_ | with_reducible refine e_comp ?_ | with_reducible refine e_told ?_
  | with_reducible refine es_nil ?_ | with_reducible refine es_cons ?_ | with_reducible refine es_star ?_ | with_reducible refine eo_none ?_ | with_reducible refine eo_some ?_ | with_reducible refine bop_two ?_ | with_reducible refine bop_one ?_ | with_reducible refine sr_rng ?_ | with_reducible refine sr_ex' ?_ | with_reducible refine sr_enu ?_
  | with_reducible refine ifs_cons ?_ | with_reducible refine ifs_nil ?_)
local macro_rules | `(tactic| walk_at "wv") => `(tactic| first
  | ((with_reducible apply told_x); (· kernel_rfl)) | ((with_reducible apply a_value); (· kernel_rfl)) | ((with_reducible apply i_isX (b := true)); (· kernel_rfl)) | ((with_reducible apply i_isX (b := false)); (· kernel_rfl)) | ((with_reducible apply i_isXn); (· kernel_rfl); (· exact rfl))
  | with_reducible refine it_lst ?_ | with_reducible refine it_tup ?_ | ((with_reducible apply it_ref); (· walk_at "wg"))
  | with_reducible refine b_addI ?_ | with_reducible refine b_sub ?_ | ((with_reducible refine b_mod ?vm_h ?_); case vm_h => first | assumption | decide | decide +kernel) | ((with_reducible refine b_fdiv ?vm_h ?_); case vm_h => first | decide | exact ⟨by first | assumption | omega, by first | assumption | omega⟩) | ((with_reducible refine b_mul ?vm_h ?_); case vm_h => first | decide | exact Or.inl ⟨by omega, by omega⟩ | exact Or.inr ⟨by omega, by omega⟩) | ((with_reducible refine b_pow ?vm_h ?_); case vm_h => first | decide | exact pow_small (by decide) (by decide) (by omega) | exact ⟨by decide, by decide +kernel⟩) | with_reducible refine c_lt ?_ | with_reducible refine c_le ?_ | with_reducible refine c_gt ?_ | with_reducible refine c_ge ?_ | with_reducible refine i_int ?_ | with_reducible refine i_intB ?_ | with_reducible refine i_abs ?_
  | with_reducible refine c_eqI' ?_ | with_reducible refine c_neI ?_
  | with_reducible refine c_eqS ?_ | with_reducible refine c_neS ?_ | with_reducible refine c_eqB ?_ | with_reducible refine c_neB ?_
  | with_reducible refine x_lst0 ?_ | with_reducible refine x_lst1 ?_ | with_reducible refine x_lst2 ?_ | with_reducible refine x_tup0 ?_ | with_reducible refine x_tup1 ?_ | with_reducible refine x_tup2 ?_
  | ((with_reducible apply x_ref); (· walk_at "wg"); (· exact rfl)) | ((with_reducible apply x_lst); (· exact rfl)) | ((with_reducible apply x_tup); (· exact rfl))
  | with_reducible refine x_clients ?_ | with_reducible refine x_rivals ?_ | with_reducible refine x_kinds ?_
  | with_reducible refine rd_a0 ?_ | with_reducible refine rd_a1 ?_ | with_reducible refine rd_a2 ?_ | with_reducible refine rd_a3 ?_ | with_reducible refine rd_a4 ?_ | with_reducible refine rd_l1 ?_ | with_reducible refine rd_l2 ?_ | with_reducible refine rd_l3 ?_ | with_reducible refine rd_l4 ?_ | ((with_reducible apply rd_meth); (· kernel_rfl); (· kernel_rfl))
  | ((with_reducible apply set_ins); (· walk_at "wg"); (· kernel_rfl); (· kernel_rfl); (· exact Nat.lt_of_lt_of_le (Nat.lt_succ_self _) (Nat.le_of_ble_eq_true rfl)); (· walk_at "wu"))
  | ((with_reducible apply r_dct); (· exact Nat.le_of_ble_eq_true rfl); (· first | exact loc_len4 | exact loc_len3 | exact loc_len2 | exact loc_len1 | exact rfl); (· first | exact app4 | exact app3 | exact app2 | exact app1 | exact rfl))
  | ((with_reducible refine r_dctF ?vm_h ?_); case vm_h => first | exact Nat.le_of_ble_eq_true rfl | decide +kernel)
  | with_reducible refine t_cons ?_ | with_reducible refine t_consL ?_ | with_reducible refine t_end ?_
  | ((with_reducible refine t_nm ?vm_h ?_); case vm_h => exact Nat.le_of_ble_eq_true rfl)
  | ((with_reducible refine r_lst ?vm_h ?_); case vm_h => exact Nat.le_of_ble_eq_true rfl)
  | ((with_reducible apply r_ref'); (· exact Nat.le_of_ble_eq_true rfl); (· first | exact own_len3 | exact own_len2 | exact own_len1 | exact own_len00 | exact own_len0 | exact loc_len3 | exact loc_len2 | exact loc_len1 | exact rfl); (· first | exact app3 | exact app2 | exact app1 | exact rfl))
  | ((with_reducible apply ix_lst'); (· walk_at "wg"); (· exact rfl); (· walk_at "wu"))
  | ((with_reducible apply bm_at); (· walk_at "wg"); (· first | exact .inl rfl | exact .inr (.inl rfl) | exact .inr (.inr rfl)))
  | ((with_reducible refine bm_txt ?vm_m ?_); (case vm_m => first | exact .inl rfl | exact .inr rfl))
  | with_reducible refine i_len_lst ?_ | with_reducible refine i_len_tup ?_ | with_reducible refine i_len_scr ?_ | ((with_reducible apply i_len_ref); (· walk_at "wg")) | with_reducible refine i_min ?_ | with_reducible refine i_max ?_
  | with_reducible refine sl_lst ?_ | with_reducible refine sl_tup ?_
  | ((with_reducible apply i_tuple); (· first | exact rfl | exact seq_ref (by walk_at "wg"))) | ((with_reducible apply i_list); (· first | exact rfl | exact seq_ref (by walk_at "wg")))
  | ((with_reducible apply i_isT); (· decide +kernel); (· exact rfl)) | ((with_reducible apply i_len_str); (· assumption)) | with_reducible refine c_letter ?_ | with_reducible refine it_str ?_
  | with_reducible refine ⟨_, rfl, ?_⟩
  | (with_reducible refine ⟨?vm_h, ?_⟩; case vm_h => exact Nat.le_of_ble_eq_true rfl)
  | dsimp only [bodyKt, List.set_cons_zero, List.set_cons_succ]
  | with_reducible refine vit ?_ | with_reducible refine vand_f ?_ | with_reducible refine vor_t ?_ | with_reducible refine vor_f ?_ | with_reducible refine vTrue ?_ | with_reducible refine vFalse ?_ | simp only [Bool.not_true, Bool.not_false]
  | ((with_reducible refine vift ?vm_h ?_); case vm_h => decide) | ((with_reducible refine viff ?vm_h ?_); case vm_h => decide)
  | ((with_reducible refine vor_f' ?vm_h ?_); case vm_h => decide) | ((with_reducible refine vor_t' ?vm_h ?_); case vm_h => decide)
  | rw [pot_set (by assumption)] | rw [List.set_set])
local macro_rules | `(tactic| walk_at "ws") => `(tactic| first
  | with_reducible refine ss_cons ?_ | with_reducible refine ss_consf ?_ | with_reducible refine ss_one ?_ | with_reducible refine ss_nil ?_
  | with_reducible refine s_set' ?_ | with_reducible refine s_par' ?_ | with_reducible refine s_setA2 ?_ | with_reducible refine s_setI' ?_ | with_reducible refine s_exp' ?_ | with_reducible refine s_ret' ?_ | with_reducible refine s_ifs' ?_ | with_reducible refine s_for' ?_ | with_reducible refine s_raise' ?_)
local macro_rules | `(tactic| walk_at "w") => `(tactic| first | walk_at "ws" | walk_at "we" | walk_at "wv")
local macro_rules | `(tactic| walk_at "w*") => `(tactic| repeat walk_at "w")
local macro_rules | `(tactic| walk_at "wstart") => `(tactic| simp only [Vm.start, List.map_cons, List.map_nil, List.length_cons, List.length_nil, Nat.reduceAdd, Nat.reduceSub, List.replicate, List.cons_append, List.nil_append])
theorem nm_len {x : Str} (h : Nm x = true) : 0 < x.length ∧ x.length ≤ 8 := by
  unfold Nm at h
  rw [Bool.and_eq_true, Bool.and_eq_true] at h
  exact ⟨of_decide_eq_true h.1.1, of_decide_eq_true h.1.2⟩
theorem nm_at {x : Str} (h : Nm x = true) {c : Nat} (hc : c ∈ tl x) : 97 ≤ c ∧ c ≤ 122 := by
  unfold Nm at h
  rw [Bool.and_eq_true] at h
  have := List.all_eq_true.mp h.2 c hc
  rw [Bool.and_eq_true] at this
  exact ⟨of_decide_eq_true this.1, of_decide_eq_true this.2⟩
theorem nm_ok {x : Str} (h : Nm x = true) : PyData.strOk x = true := by
  unfold PyData.strOk
  rw [← Array.all_toList]
  exact List.all_eq_true.mpr fun c hc => decide_eq_true (by have := nm_at h hc; omega)
theorem nm_no {x : Str} (h : Nm x = true) {s : Nat} (hs : s < 97) : s ∉ tl x := fun hc => by have := nm_at h hc; omega
/-- a line of words, a text of lines -/
def ln (ws : List Str) : Str := Txt.join " " ws
def pg (ls : List Str) : Str := Txt.join "\n" ls
theorem ln_eq (ws : List Str) : ln ws = Str.join " " ws := join_eq _ _
theorem tl_blank : tl (PySem.Str.ofString " ") = [32] := by decide +kernel
theorem tl_feed : tl (PySem.Str.ofString "\n") = [10] := by decide +kernel
theorem mem_join {s : Nat} {y : List Nat} (hy : s ∉ y) : ∀ {ps : List (List Nat)}, (∀ p ∈ ps, s ∉ p) → s ∉ joinL y ps
  | [], _ => by intro h; cases h
  | [p], h => h p (List.mem_singleton.mpr rfl)
  | p :: q :: r, h => by
    show s ∉ p ++ (y ++ joinL y (q :: r))
    rw [List.mem_append, List.mem_append]
    rintro (z | z | z)
    · exact h p (List.mem_cons_self ..) z
    · exact hy z
    · exact mem_join hy (fun p hp => h p (List.mem_cons_of_mem _ hp)) z
theorem ln_feed {ws : List Str} (h : ∀ w ∈ ws, Nm w = true) : 10 ∉ tl (ln ws) := by
  rw [ln_eq, tl_join, tl_blank]
  exact mem_join (by decide) fun p hp => by
    obtain ⟨w, hw, rfl⟩ := List.mem_map.mp hp
    exact nm_no (h w hw) (by decide)
theorem ln_split {ws : List Str} (hne : ws ≠ []) (h : ∀ w ∈ ws, Nm w = true) : Txt.split (ln ws) " " = ws :=
  split_join tl_blank (by decide +kernel) hne fun p hp => nm_no (h p hp) (by decide)
theorem pg_split {ls : List Str} (hne : ls ≠ []) (h : ∀ l ∈ ls, 10 ∉ tl l) : Txt.split (pg ls) "\n" = ls :=
  split_join tl_feed (by decide +kernel) hne h
theorem sum_le {α : Type} {f : α → Nat} {b : Nat} : ∀ {xs : List α}, (∀ x ∈ xs, f x ≤ b) → (xs.map f).sum ≤ b * xs.length
  | [], _ => Nat.le_refl _
  | x :: xs, h => by
    rw [List.map_cons, List.sum_cons, List.length_cons, Nat.mul_add]
    have := sum_le (xs := xs) fun y hy => h y (List.mem_cons_of_mem _ hy)
    have := h x (List.mem_cons_self ..)
    omega
theorem blank_len : (PySem.Str.ofString " ").length = 1 := by decide +kernel
theorem feed_len : (PySem.Str.ofString "\n").length = 1 := by decide +kernel
theorem ln_len {ws : List Str} (h : ∀ w ∈ ws, Nm w = true) : (ln ws).length ≤ 9 * ws.length := by
  have h1 := StrLaws.join_length_le " " ws
  have h2 := sum_le (f := fun w : Str => w.length) (b := 8) (xs := ws) fun w hw => (nm_len (h w hw)).2
  rw [ln_eq]
  rw [blank_len] at h1
  omega
theorem join_ok {P : Nat → Prop} (hP : ∀ s ∈ ([] : List Nat), P s) {y : List Nat} (hy : ∀ s ∈ y, P s) : ∀ {ps : List (List Nat)}, (∀ p ∈ ps, ∀ s ∈ p, P s) → ∀ s ∈ joinL y ps, P s
  | [], _ => fun s h => by cases h
  | [p], h => h p (List.mem_singleton.mpr rfl)
  | p :: q :: r, h => by
    show ∀ s ∈ p ++ (y ++ joinL y (q :: r)), P s
    intro s hs
    rcases List.mem_append.mp hs with z | z
    · exact h p (List.mem_cons_self ..) s z
    · rcases List.mem_append.mp z with z | z
      · exact hy s z
      · exact join_ok hP hy (fun p hp => h p (List.mem_cons_of_mem _ hp)) s z
theorem strOk_of {x : Str} (h : ∀ c ∈ tl x, c < 1114112) : PyData.strOk x = true := by
  unfold PyData.strOk
  rw [← Array.all_toList]
  exact List.all_eq_true.mpr fun c hc => decide_eq_true (h c hc)
theorem of_strOk {x : Str} (h : PyData.strOk x = true) : ∀ c ∈ tl x, c < 1114112 := by
  unfold PyData.strOk at h
  rw [← Array.all_toList] at h
  exact fun c hc => of_decide_eq_true (List.all_eq_true.mp h c hc)
theorem strOk_join {y : Str} (hy : PyData.strOk y = true) {ws : List Str} (h : ∀ w ∈ ws, PyData.strOk w = true) : PyData.strOk (Txt.join y ws) = true := strOk_of (by
  rw [join_eq, tl_join]
  exact join_ok (P := fun c => c < 1114112) (fun s hs => by cases hs) (of_strOk hy) fun p hp => by
    obtain ⟨w, hw, rfl⟩ := List.mem_map.mp hp
    exact of_strOk (h w hw))
/-- the words of the lines of a book -/
def words (l : Lore) : List (List Str) := (("clients" : Str) :: l.clients) :: (l.rivals.map fun q => [("rivals" : Str), q.1, q.2]) ++ l.kinds.flatMap fun r => [[("kind" : Str), r.1], ("looks" : Str) :: r.2.1, ("writes" : Str) :: r.2.2]
def lines (l : Lore) : List Str := (words l).map ln
def text (l : Lore) : Str := pg (lines l)
theorem LoreOk.sub {l : Lore} (h : LoreOk l) {r : Str × List Str × List Str} (hr : r ∈ l.kinds) : (∀ x ∈ r.2.1, Nm x = true) ∧ ∀ x ∈ r.2.2, Nm x = true :=
  ⟨fun x hx => h.c4 x ((h.k4 r hr).2.1.subset hx), fun x hx => h.c4 x ((h.k4 r hr).2.2.subset hx)⟩
theorem words_nm {l : Lore} (h : LoreOk l) : ∀ ws ∈ words l, ws ≠ [] ∧ ws.length ≤ 9 ∧ ∀ w ∈ ws, Nm w = true := by
  intro ws hws
  rcases List.mem_append.mp hws with z | z
  · rcases List.mem_cons.mp z with rfl | z
    · refine ⟨by simp, by rw [List.length_cons]; have := h.c2; omega, fun w hw => ?_⟩
      rcases List.mem_cons.mp hw with rfl | hw
      · decide +kernel
      · exact h.c4 w hw
    · obtain ⟨q, hq, rfl⟩ := List.mem_map.mp z
      refine ⟨by simp, Nat.le_of_ble_eq_true rfl, fun w hw => ?_⟩
      have := h.r1 q hq
      simp only [List.mem_cons, List.not_mem_nil, or_false] at hw
      rcases hw with rfl | rfl | rfl
      · decide +kernel
      · exact h.c4 _ this.1
      · exact h.c4 _ this.2.1
  · obtain ⟨r, hr, hm⟩ := List.mem_flatMap.mp z
    have k4 := h.k4 r hr
    have sb := h.sub hr
    have e1 := k4.2.1.length_le
    have e2 := k4.2.2.length_le
    have c2 := h.c2
    simp only [List.mem_cons, List.not_mem_nil, or_false] at hm
    rcases hm with rfl | rfl | rfl
    · refine ⟨by simp, Nat.le_of_ble_eq_true rfl, fun w hw => ?_⟩
      simp only [List.mem_cons, List.not_mem_nil, or_false] at hw
      rcases hw with rfl | rfl
      · decide +kernel
      · exact k4.1
    · refine ⟨by simp, by rw [List.length_cons]; omega, fun w hw => ?_⟩
      rcases List.mem_cons.mp hw with rfl | hw
      · decide +kernel
      · exact sb.1 w hw
    · refine ⟨by simp, by rw [List.length_cons]; omega, fun w hw => ?_⟩
      rcases List.mem_cons.mp hw with rfl | hw
      · decide +kernel
      · exact sb.2 w hw
theorem words_len {l : Lore} (h : LoreOk l) : (words l).length ≤ 220 := by
  unfold words
  rw [List.length_append, List.length_cons, List.length_map, List.length_flatMap]
  have := h.r3
  have := h.k2
  have := sum_le (f := fun r : Str × List Str × List Str => [[("kind" : Str), r.1], ("looks" : Str) :: r.2.1, ("writes" : Str) :: r.2.2].length) (b := 3) (xs := l.kinds) fun _ _ => Nat.le_refl _
  omega
theorem lines_len {l : Lore} (h : LoreOk l) : ∀ x ∈ lines l, x.length ≤ 81 := fun x hx => by
  obtain ⟨ws, hw, rfl⟩ := List.mem_map.mp hx
  have := words_nm h ws hw
  have := ln_len this.2.2
  omega
theorem lines_split {l : Lore} (h : LoreOk l) : Txt.split (text l) "\n" = lines l := pg_split (by unfold lines words; simp) fun x hx => by
  obtain ⟨ws, hw, rfl⟩ := List.mem_map.mp hx
  exact ln_feed (words_nm h ws hw).2.2
theorem text_len {l : Lore} (h : LoreOk l) : (text l).length ≤ 20000 := by
  have h1 := StrLaws.join_length_le "\n" (lines l)
  have h2 := sum_le (f := fun w : Str => w.length) (b := 81) (xs := lines l) fun w hw => lines_len h w hw
  have h3 : (lines l).length ≤ 220 := by unfold lines; rw [List.length_map]; exact words_len h
  unfold text pg
  rw [join_eq]
  rw [feed_len] at h1
  omega
theorem ln_ok {ws : List Str} (h : ∀ w ∈ ws, Nm w = true) : PyData.strOk (ln ws) = true := strOk_join (by decide +kernel) fun w hw => (nm_ok (h w hw))
theorem lines_ok' {l : Lore} (h : LoreOk l) : ∀ x ∈ lines l, PyData.strOk x = true := fun x hx => by
  obtain ⟨ws, hw, rfl⟩ := List.mem_map.mp hx
  exact ln_ok (words_nm h ws hw).2.2
theorem text_strOk {l : Lore} (h : LoreOk l) : PyData.strOk (text l) = true := strOk_join (by decide +kernel) (lines_ok' h)
theorem app_assoc (a b c : Str) : a ++ b ++ c = a ++ (b ++ c) := ext_tl (by rw [tl_append, tl_append, tl_append, tl_append, List.append_assoc])
theorem ln_cons (a b : Str) (r : List Str) : ln (a :: b :: r) = a ++ " " ++ ln (b :: r) := by
  rw [ln_eq, ln_eq]
  rfl
theorem ln_clients {c : Str} {cs : List Str} : (PySem.Str.ofString "clients ") ++ ln (c :: cs) = ln (("clients" : Str) :: c :: cs) := by
  rw [ln_cons]
  congr 1
theorem ln_rivals (a b : Str) : (PySem.Str.ofString "rivals ") ++ a ++ " " ++ b = ln [("rivals" : Str), a, b] := by
  rw [ln_cons, ln_cons]
  rw [show ln [b] = b from by rw [ln_eq]; rfl]
  rw [show PySem.Str.ofString "rivals" ++ PySem.Str.ofString " " = PySem.Str.ofString "rivals " from by decide +kernel]
  rw [app_assoc, app_assoc, app_assoc]
theorem ln_kind (a : Str) : (PySem.Str.ofString "kind ") ++ a = ln [("kind" : Str), a] := by
  rw [ln_cons]
  rw [show ln [a] = a from by rw [ln_eq]; rfl]
  rw [show PySem.Str.ofString "kind" ++ PySem.Str.ofString " " = PySem.Str.ofString "kind " from by decide +kernel]
section
variable {n : Nat} {l : Lore} {st : Sto} {Q EX : QD}
theorem x_clients (q : Q (.lst (l.clients.map .str)) st) : idxD l.d (.str "clients") st Q := x_dct rfl (by kernel_rfl) q
theorem x_rivals (q : Q (.lst (l.rivals.map fun q => pairOf q.1 q.2)) st) : idxD l.d (.str "rivals") st Q := x_dct rfl (by kernel_rfl) q
theorem x_kinds (q : Q (.lst (l.kinds.map rowD)) st) : idxD l.d (.str "kinds") st Q := x_dct rfl (by kernel_rfl) q
end
end K00

set_option Elab.async false
set_option linter.all false
set_option maxRecDepth 100000
set_option maxHeartbeats 4000000
namespace K00
open Vm PySem PySem.Spec PyProof.Rows L2 TL
local macro_rules | `(tactic| walk_at "wg") => `(tactic| first | assumption | (with_reducible exact own_get0) | (with_reducible exact loc_get0) | exact own_get 1 | exact own_get 2 | exact loc_get 1 | exact loc_get 2 | exact pot_get (by assumption) | exact get_set (by first | assumption | (simp only [List.length_set]; assumption)))
local macro_rules | `(tactic| walk_at "wu") => `(tactic| first | (with_reducible exact own_set0) | (with_reducible exact loc_set0) | exact own_set 1 | exact own_set 2 | exact loc_set 1 | exact loc_set 2 | exact pot_set (by assumption) | exact rfl)
local macro_rules | `(tactic| walk_at "wo") => `(tactic| first | assumption | decide | decide +kernel)
local macro_rules | `(tactic| walk_at "we") => `(tactic| first
  | ((with_reducible apply e_var); (· exact rfl)) | with_reducible refine e_int ?_ | with_reducible refine e_str ?_ | with_reducible refine e_bl ?_ | with_reducible refine e_non ?_ | with_reducible refine e_bty ?_ | ((with_reducible apply e_glo); (· exact rfl))
  | with_reducible refine e_bin ?_ | with_reducible refine e_neg ?_ | with_reducible refine e_cmp ?_ | with_reducible refine e_cmp2 ?_ | with_reducible refine e_isN ?_ | with_reducible refine e_isB ?_ | with_reducible refine e_bop ?_ | with_reducible refine e_not ?_ | with_reducible refine e_ite ?_ | with_reducible refine e_call ?_ | with_reducible refine e_make ?_ | with_reducible refine e_meth ?_ | with_reducible refine e_bi ?_ | with_reducible refine e_bm ?_ | with_reducible refine e_attr ?_ | with_reducible refine e_idx ?_ | with_reducible refine e_slc ?_ | with_reducible refine e_tup ?_ | with_reducible refine e_lst ?_ | with_reducible refine e_dic ?_ | with_reducible refine e_rngl ?_ | with_reducible refine e_comp ?_ | with_reducible refine e_told ?_
  | with_reducible refine es_nil ?_ | with_reducible refine es_cons ?_ | with_reducible refine es_star ?_ | with_reducible refine eo_none ?_ | with_reducible refine eo_some ?_ | with_reducible refine bop_two ?_ | with_reducible refine bop_one ?_ | with_reducible refine sr_rng ?_ | with_reducible refine sr_ex' ?_ | with_reducible refine sr_enu ?_
  | with_reducible refine ifs_cons ?_ | with_reducible refine ifs_nil ?_)
local macro_rules | `(tactic| walk_at "wv") => `(tactic| first
  | ((with_reducible apply told_x); (· kernel_rfl)) | ((with_reducible apply a_value); (· kernel_rfl)) | ((with_reducible apply i_isX (b := true)); (· kernel_rfl)) | ((with_reducible apply i_isX (b := false)); (· kernel_rfl)) | ((with_reducible apply i_isXn); (· kernel_rfl); (· exact rfl))
  | with_reducible refine it_lst ?_ | with_reducible refine it_tup ?_ | ((with_reducible apply it_ref); (· walk_at "wg"))
  | with_reducible refine b_addI ?_ | with_reducible refine b_sub ?_ | ((with_reducible refine b_mod ?vm_h ?_); case vm_h => first | assumption | decide | decide +kernel) | ((with_reducible refine b_fdiv ?vm_h ?_); case vm_h => first | decide | exact ⟨by first | assumption | omega, by first | assumption | omega⟩) | ((with_reducible refine b_mul ?vm_h ?_); case vm_h => first | decide | exact Or.inl ⟨by omega, by omega⟩ | exact Or.inr ⟨by omega, by omega⟩) | ((with_reducible refine b_pow ?vm_h ?_); case vm_h => first | decide | exact pow_small (by decide) (by decide) (by omega) | exact ⟨by decide, by decide +kernel⟩) | with_reducible refine c_lt ?_ | with_reducible refine c_le ?_ | with_reducible refine c_gt ?_ | with_reducible refine c_ge ?_ | with_reducible refine i_int ?_ | with_reducible refine i_intB ?_ | with_reducible refine i_abs ?_
  | with_reducible refine c_eqI' ?_ | with_reducible refine c_neI ?_
  | with_reducible refine c_eqS ?_ | with_reducible refine c_neS ?_ | with_reducible refine c_eqB ?_ | with_reducible refine c_neB ?_
  | with_reducible refine x_lst0 ?_ | with_reducible refine x_lst1 ?_ | with_reducible refine x_lst2 ?_ | with_reducible refine x_tup0 ?_ | with_reducible refine x_tup1 ?_ | with_reducible refine x_tup2 ?_
  | ((with_reducible apply x_ref); (· walk_at "wg"); (· exact rfl)) | ((with_reducible apply x_lst); (· exact rfl)) | ((with_reducible apply x_tup); (· exact rfl))
  | with_reducible refine x_clients ?_ | with_reducible refine x_rivals ?_ | with_reducible refine x_kinds ?_
  | with_reducible refine rd_a0 ?_ | with_reducible refine rd_a1 ?_ | with_reducible refine rd_a2 ?_ | with_reducible refine rd_a3 ?_ | with_reducible refine rd_a4 ?_ | with_reducible refine rd_l1 ?_ | with_reducible refine rd_l2 ?_ | with_reducible refine rd_l3 ?_ | with_reducible refine rd_l4 ?_ | ((with_reducible apply rd_meth); (· kernel_rfl); (· kernel_rfl))
  | ((with_reducible apply set_ins); (· walk_at "wg"); (· kernel_rfl); (· kernel_rfl); (· exact Nat.lt_of_lt_of_le (Nat.lt_succ_self _) (Nat.le_of_ble_eq_true rfl)); (· walk_at "wu"))
  | ((with_reducible apply r_dct); (· exact Nat.le_of_ble_eq_true rfl); (· first | exact loc_len4 | exact loc_len3 | exact loc_len2 | exact loc_len1 | exact rfl); (· first | exact app4 | exact app3 | exact app2 | exact app1 | exact rfl))
  | ((with_reducible refine r_dctF ?vm_h ?_); case vm_h => first | exact Nat.le_of_ble_eq_true rfl | decide +kernel)
  | with_reducible refine t_cons ?_ | with_reducible refine t_consL ?_ | with_reducible refine t_end ?_
  | ((with_reducible refine t_nm ?vm_h ?_); case vm_h => exact Nat.le_of_ble_eq_true rfl)
  | ((with_reducible refine r_lst ?vm_h ?_); case vm_h => exact Nat.le_of_ble_eq_true rfl)
  | ((with_reducible apply r_ref'); (· exact Nat.le_of_ble_eq_true rfl); (· first | exact own_len3 | exact own_len2 | exact own_len1 | exact own_len00 | exact own_len0 | exact loc_len3 | exact loc_len2 | exact loc_len1 | exact rfl); (· first | exact app3 | exact app2 | exact app1 | exact rfl))
  | ((with_reducible apply ix_lst'); (· walk_at "wg"); (· exact rfl); (· walk_at "wu"))
  | ((with_reducible apply bm_at); (· walk_at "wg"); (· first | exact .inl rfl | exact .inr (.inl rfl) | exact .inr (.inr rfl)))
  | ((with_reducible refine bm_txt ?vm_m ?_); (case vm_m => first | exact .inl rfl | exact .inr rfl))
  | with_reducible refine i_len_lst ?_ | with_reducible refine i_len_tup ?_ | with_reducible refine i_len_scr ?_ | ((with_reducible apply i_len_ref); (· walk_at "wg")) | with_reducible refine i_min ?_ | with_reducible refine i_max ?_
  | with_reducible refine sl_lst ?_ | with_reducible refine sl_tup ?_
  | ((with_reducible apply i_tuple); (· first | exact rfl | exact seq_ref (by walk_at "wg"))) | ((with_reducible apply i_list); (· first | exact rfl | exact seq_ref (by walk_at "wg")))
  | ((with_reducible apply i_isT); (· decide +kernel); (· exact rfl)) | ((with_reducible apply i_len_str); (· assumption)) | with_reducible refine c_letter ?_ | with_reducible refine it_str ?_
  | with_reducible refine ⟨_, rfl, ?_⟩
  | (with_reducible refine ⟨?vm_h, ?_⟩; case vm_h => exact Nat.le_of_ble_eq_true rfl)
  | dsimp only [bodyKt, List.set_cons_zero, List.set_cons_succ]
  | with_reducible refine vit ?_ | with_reducible refine vand_f ?_ | with_reducible refine vor_t ?_ | with_reducible refine vor_f ?_ | with_reducible refine vTrue ?_ | with_reducible refine vFalse ?_ | simp only [Bool.not_true, Bool.not_false]
  | ((with_reducible refine vift ?vm_h ?_); case vm_h => decide) | ((with_reducible refine viff ?vm_h ?_); case vm_h => decide)
  | ((with_reducible refine vor_f' ?vm_h ?_); case vm_h => decide) | ((with_reducible refine vor_t' ?vm_h ?_); case vm_h => decide)
  | rw [pot_set (by assumption)] | rw [List.set_set])
local macro_rules | `(tactic| walk_at "ws") => `(tactic| first
  | with_reducible refine ss_cons ?_ | with_reducible refine ss_consf ?_ | with_reducible refine ss_one ?_ | with_reducible refine ss_nil ?_
  | with_reducible refine s_set' ?_ | with_reducible refine s_par' ?_ | with_reducible refine s_setA2 ?_ | with_reducible refine s_setI' ?_ | with_reducible refine s_exp' ?_ | with_reducible refine s_ret' ?_ | with_reducible refine s_ifs' ?_ | with_reducible refine s_for' ?_ | with_reducible refine s_raise' ?_)
local macro_rules | `(tactic| walk_at "w") => `(tactic| first | walk_at "ws" | walk_at "we" | walk_at "wv")
local macro_rules | `(tactic| walk_at "w*") => `(tactic| repeat walk_at "w")
local macro_rules | `(tactic| walk_at "wstart") => `(tactic| simp only [Vm.start, List.map_cons, List.map_nil, List.length_cons, List.length_nil, Nat.reduceAdd, Nat.reduceSub, List.replicate, List.cons_append, List.nil_append])
theorem lim_strs {xs : List Str} {n : Nat} : limL n (xs.map D.str) = true := limL_of fun x hx => by obtain ⟨y, _, rfl⟩ := List.mem_map.mp hx; rfl
theorem lim_pairs {xs : List (Str × Str)} {n : Nat} : limL n (xs.map fun q => pairOf q.1 q.2) = true := limL_of fun x hx => by obtain ⟨y, _, rfl⟩ := List.mem_map.mp hx; rfl
theorem lim_lore {l : Lore} {n : Nat} : l.d.lim n = true := by
  have l3 : limL n (l.kinds.map rowD) = true := limL_of fun x hx => by
    obtain ⟨r, _, rfl⟩ := List.mem_map.mp hx
    show (true && (limL n (r.2.1.map D.str) && (limL n (r.2.2.map D.str) && true))) = true
    rw [lim_strs, lim_strs]
    rfl
  show (limL n (l.clients.map D.str) && (limL n (l.rivals.map fun q => pairOf q.1 q.2) && (limL n (l.kinds.map rowD) && true))) = true
  rw [lim_strs, l3, lim_pairs]
  rfl
theorem pl_pair {a b : Str} {n : Nat} (ha : PyData.strOk a = true) (hb : PyData.strOk b = true) : pl (n + 1) (pairOf a b) = true := by
  show (pl n (.str a) && (pl n (.str b) && true)) = true
  have e : ∀ s : Str, pl n (.str s) = PyData.strOk s := fun s => by cases n <;> rfl
  rw [e, e, ha, hb]
  rfl
theorem pair_inj {a b c d : Str} : pairOf a b = pairOf c d ↔ (a, b) = (c, d) := by
  unfold pairOf
  simp
theorem mem_pairs {a b : Str} {xs : List (Str × Str)} : pairOf a b ∈ xs.map (fun q => pairOf q.1 q.2) ↔ (a, b) ∈ xs := by
  rw [List.mem_map]
  exact ⟨fun ⟨q, h, e⟩ => by rw [pair_inj] at e; obtain ⟨q1, q2⟩ := q; rw [← e]; exact h, fun h => ⟨(a, b), h, rfl⟩⟩
section
variable {Φ : Fn} {C : Vm.Ctx} {n : Nat} {l : Lore} {st : Sto} {Q EX : QD}
theorem c_inP {a b : Str} {xs : List (Str × Str)} {R : Bool → Sto → Prop} (ha : PyData.strOk a = true) (hb : PyData.strOk b = true) (hx : ∀ z ∈ xs, PyData.strOk z.1 = true ∧ PyData.strOk z.2 = true) (q : R (decide ((a, b) ∈ xs)) st) : wCmp Φ C .isin (.tup [.str a, .str b]) (.lst (xs.map fun q => pairOf q.1 q.2)) st R EX :=
  c_inD (n := 1) (by decide) (.inl rfl) rfl (.self (by intro _ h; cases h)) (pl_pair ha hb) (fun z hz => by obtain ⟨b, h, rfl⟩ := List.mem_map.mp hz; exact pl_pair (hx b h).1 (hx b h).2) fun r hr => by
    have : r = decide ((a, b) ∈ xs) := by rw [Bool.eq_iff_iff, hr, decide_eq_true_iff]; exact mem_pairs
    rw [this]; exact q
/-- a value that holds no refs, texts within all right -/
def immed : D → Bool
  | .str s => PyData.strOk s
  | .non | .bl _ | .int _ | .tup _ | .lst _ | .dct _ | .dcT _ => true
  | _ => false
def isS : D → Bool
  | .str _ => true
  | _ => false
def strIn (v : D) (xs : List Str) : Bool := match v with
  | .str s => decide (s ∈ xs)
  | _ => false
theorem isTy_str {v : D} (h : immed v = true) : isTy C st "str" v = some (isS v) := by
  cases v <;> first | (cases h; done) | exact rfl
theorem pairs_len {x y : Str} (hx : Nm x = true) (hy : Nm y = true) : x.length ≤ 8 ∧ y.length ≤ 8 := ⟨(nm_len hx).2, (nm_len hy).2⟩
theorem strs_sum {xs : List Str} (h : ∀ x ∈ xs, Nm x = true) : (xs.map (·.length)).sum ≤ 8 * xs.length := sum_le (f := fun x : Str => x.length) fun x hx => (nm_len (h x hx)).2
end
end K00

set_option Elab.async false
set_option linter.all false
set_option maxRecDepth 100000
set_option maxHeartbeats 4000000
namespace K00
open Vm PySem PySem.Spec PyProof.Rows L2 TL
local macro_rules | `(tactic| walk_at "wg") => `(tactic| first | assumption | (with_reducible exact own_get0) | (with_reducible exact loc_get0) | exact own_get 1 | exact own_get 2 | exact loc_get 1 | exact loc_get 2 | exact pot_get (by assumption) | exact get_set (by first | assumption | (simp only [List.length_set]; assumption)))
local macro_rules | `(tactic| walk_at "wu") => `(tactic| first | (with_reducible exact own_set0) | (with_reducible exact loc_set0) | exact own_set 1 | exact own_set 2 | exact loc_set 1 | exact loc_set 2 | exact pot_set (by assumption) | exact rfl)
local macro_rules | `(tactic| walk_at "wo") => `(tactic| first | assumption | decide | decide +kernel)
local macro_rules | `(tactic| walk_at "we") => `(tactic| first
  | ((with_reducible apply e_var); (· exact rfl)) | with_reducible refine e_int ?_ | with_reducible refine e_str ?_ | with_reducible refine e_bl ?_ | with_reducible refine e_non ?_ | with_reducible refine e_bty ?_ | ((with_reducible apply e_glo); (· exact rfl))
  | with_reducible refine e_bin ?_ | with_reducible refine e_neg ?_ | with_reducible refine e_cmp ?_ | with_reducible refine e_cmp2 ?_ | with_reducible refine e_isN ?_ | with_reducible refine e_isB ?_ | with_reducible refine e_bop ?_ | with_reducible refine e_not ?_ | with_reducible refine e_ite ?_ | with_reducible refine e_call ?_ | with_reducible refine e_make ?_ | with_reducible refine e_meth ?_ | with_reducible refine e_bi ?_ | with_reducible refine e_bm ?_ | with_reducible refine e_attr ?_ | with_reducible refine e_idx ?_ | with_reducible refine e_slc ?_ | with_reducible refine e_tup ?_ | with_reducible refine e_lst ?_ | with_reducible refine e_dic ?_ | with_reducible refine e_rngl ?_ | with_reducible refine e_comp ?_ | with_reducible refine e_told ?_
  | with_reducible refine es_nil ?_ | with_reducible refine es_cons ?_ | with_reducible refine es_star ?_ | with_reducible refine eo_none ?_ | with_reducible refine eo_some ?_ | with_reducible refine bop_two ?_ | with_reducible refine bop_one ?_ | with_reducible refine sr_rng ?_ | with_reducible refine sr_ex' ?_ | with_reducible refine sr_enu ?_
  | with_reducible refine ifs_cons ?_ | with_reducible refine ifs_nil ?_)
local macro_rules | `(tactic| walk_at "wv") => `(tactic| first
  | ((with_reducible apply told_x); (· kernel_rfl)) | ((with_reducible apply a_value); (· kernel_rfl)) | ((with_reducible apply i_isX (b := true)); (· kernel_rfl)) | ((with_reducible apply i_isX (b := false)); (· kernel_rfl)) | ((with_reducible apply i_isXn); (· kernel_rfl); (· exact rfl))
  | with_reducible refine it_lst ?_ | with_reducible refine it_tup ?_ | ((with_reducible apply it_ref); (· walk_at "wg"))
  | with_reducible refine b_addI ?_ | with_reducible refine b_sub ?_ | ((with_reducible refine b_mod ?vm_h ?_); case vm_h => first | assumption | decide | decide +kernel) | ((with_reducible refine b_fdiv ?vm_h ?_); case vm_h => first | decide | exact ⟨by first | assumption | omega, by first | assumption | omega⟩) | ((with_reducible refine b_mul ?vm_h ?_); case vm_h => first | decide | exact Or.inl ⟨by omega, by omega⟩ | exact Or.inr ⟨by omega, by omega⟩) | ((with_reducible refine b_pow ?vm_h ?_); case vm_h => first | decide | exact pow_small (by decide) (by decide) (by omega) | exact ⟨by decide, by decide +kernel⟩) | with_reducible refine c_lt ?_ | with_reducible refine c_le ?_ | with_reducible refine c_gt ?_ | with_reducible refine c_ge ?_ | with_reducible refine i_int ?_ | with_reducible refine i_intB ?_ | with_reducible refine i_abs ?_
  | with_reducible refine c_eqI' ?_ | with_reducible refine c_neI ?_
  | with_reducible refine c_eqS ?_ | with_reducible refine c_neS ?_ | with_reducible refine c_eqB ?_ | with_reducible refine c_neB ?_
  | with_reducible refine x_lst0 ?_ | with_reducible refine x_lst1 ?_ | with_reducible refine x_lst2 ?_ | with_reducible refine x_tup0 ?_ | with_reducible refine x_tup1 ?_ | with_reducible refine x_tup2 ?_
  | ((with_reducible apply x_ref); (· walk_at "wg"); (· exact rfl)) | ((with_reducible apply x_lst); (· exact rfl)) | ((with_reducible apply x_tup); (· exact rfl))
  | with_reducible refine x_clients ?_ | with_reducible refine x_rivals ?_ | with_reducible refine x_kinds ?_
  | with_reducible refine rd_a0 ?_ | with_reducible refine rd_a1 ?_ | with_reducible refine rd_a2 ?_ | with_reducible refine rd_a3 ?_ | with_reducible refine rd_a4 ?_ | with_reducible refine rd_l1 ?_ | with_reducible refine rd_l2 ?_ | with_reducible refine rd_l3 ?_ | with_reducible refine rd_l4 ?_ | ((with_reducible apply rd_meth); (· kernel_rfl); (· kernel_rfl))
  | ((with_reducible apply set_ins); (· walk_at "wg"); (· kernel_rfl); (· kernel_rfl); (· exact Nat.lt_of_lt_of_le (Nat.lt_succ_self _) (Nat.le_of_ble_eq_true rfl)); (· walk_at "wu"))
  | ((with_reducible apply r_dct); (· exact Nat.le_of_ble_eq_true rfl); (· first | exact loc_len4 | exact loc_len3 | exact loc_len2 | exact loc_len1 | exact rfl); (· first | exact app4 | exact app3 | exact app2 | exact app1 | exact rfl))
  | ((with_reducible refine r_dctF ?vm_h ?_); case vm_h => first | exact Nat.le_of_ble_eq_true rfl | decide +kernel)
  | with_reducible refine t_cons ?_ | with_reducible refine t_consL ?_ | with_reducible refine t_end ?_
  | ((with_reducible refine t_nm ?vm_h ?_); case vm_h => exact Nat.le_of_ble_eq_true rfl)
  | ((with_reducible refine r_lst ?vm_h ?_); case vm_h => exact Nat.le_of_ble_eq_true rfl)
  | ((with_reducible apply r_ref'); (· exact Nat.le_of_ble_eq_true rfl); (· first | exact own_len3 | exact own_len2 | exact own_len1 | exact own_len00 | exact own_len0 | exact loc_len3 | exact loc_len2 | exact loc_len1 | exact rfl); (· first | exact app3 | exact app2 | exact app1 | exact rfl))
  | ((with_reducible apply ix_lst'); (· walk_at "wg"); (· exact rfl); (· walk_at "wu"))
  | ((with_reducible apply bm_at); (· walk_at "wg"); (· first | exact .inl rfl | exact .inr (.inl rfl) | exact .inr (.inr rfl)))
  | ((with_reducible refine bm_txt ?vm_m ?_); (case vm_m => first | exact .inl rfl | exact .inr rfl))
  | with_reducible refine i_len_lst ?_ | with_reducible refine i_len_tup ?_ | with_reducible refine i_len_scr ?_ | ((with_reducible apply i_len_ref); (· walk_at "wg")) | with_reducible refine i_min ?_ | with_reducible refine i_max ?_
  | with_reducible refine sl_lst ?_ | with_reducible refine sl_tup ?_
  | ((with_reducible apply i_tuple); (· first | exact rfl | exact seq_ref (by walk_at "wg"))) | ((with_reducible apply i_list); (· first | exact rfl | exact seq_ref (by walk_at "wg")))
  | ((with_reducible apply i_isT); (· decide +kernel); (· exact rfl)) | ((with_reducible apply i_len_str); (· assumption)) | with_reducible refine c_letter ?_ | with_reducible refine it_str ?_
  | with_reducible refine ⟨_, rfl, ?_⟩
  | (with_reducible refine ⟨?vm_h, ?_⟩; case vm_h => exact Nat.le_of_ble_eq_true rfl)
  | dsimp only [bodyKt, List.set_cons_zero, List.set_cons_succ]
  | with_reducible refine vit ?_ | with_reducible refine vand_f ?_ | with_reducible refine vor_t ?_ | with_reducible refine vor_f ?_ | with_reducible refine vTrue ?_ | with_reducible refine vFalse ?_ | simp only [Bool.not_true, Bool.not_false]
  | ((with_reducible refine vift ?vm_h ?_); case vm_h => decide) | ((with_reducible refine viff ?vm_h ?_); case vm_h => decide)
  | ((with_reducible refine vor_f' ?vm_h ?_); case vm_h => decide) | ((with_reducible refine vor_t' ?vm_h ?_); case vm_h => decide)
  | rw [pot_set (by assumption)] | rw [List.set_set])
local macro_rules | `(tactic| walk_at "ws") => `(tactic| first
  | with_reducible refine ss_cons ?_ | with_reducible refine ss_consf ?_ | with_reducible refine ss_one ?_ | with_reducible refine ss_nil ?_
  | with_reducible refine s_set' ?_ | with_reducible refine s_par' ?_ | with_reducible refine s_setA2 ?_ | with_reducible refine s_setI' ?_ | with_reducible refine s_exp' ?_ | with_reducible refine s_ret' ?_ | with_reducible refine s_ifs' ?_ | with_reducible refine s_for' ?_ | with_reducible refine s_raise' ?_)
local macro_rules | `(tactic| walk_at "w") => `(tactic| first | walk_at "ws" | walk_at "we" | walk_at "wv")
local macro_rules | `(tactic| walk_at "w*") => `(tactic| repeat walk_at "w")
local macro_rules | `(tactic| walk_at "wstart") => `(tactic| simp only [Vm.start, List.map_cons, List.map_nil, List.length_cons, List.length_nil, Nat.reduceAdd, Nat.reduceSub, List.replicate, List.cons_append, List.nil_append])
theorem cut_take {xs : List D} {j : Nat} : cutL xs none (some (j : Int)) = xs.take j := by
  unfold cutL
  rw [HT.sIx_nat, HT.sIx_none, List.drop_zero, Nat.sub_zero]
  by_cases h : j ≤ xs.length
  · rw [Nat.min_eq_left h]
  · rw [Nat.min_eq_right (by omega), List.take_of_length_le (Nat.le_refl _), List.take_of_length_le (by omega)]
/-- a list or tuple, frozen or not -/
def SeqIs (st : Sto) (x : D) (xs : List D) : Prop := (isLst st x = true ∨ ∃ ys, x = .tup ys) ∧ seqOf st x = some xs
theorem SeqIs.lst {st : Sto} {xs : List D} : SeqIs st (.lst xs) xs := ⟨.inl rfl, rfl⟩
theorem SeqIs.tup {st : Sto} {xs : List D} : SeqIs st (.tup xs) xs := ⟨.inr ⟨_, rfl⟩, rfl⟩
theorem SeqIs.ref {st : Sto} {p : Nat} {xs : List D} (h : st[p]? = some (.lst xs)) : SeqIs st (.ref p) xs := ⟨.inl (bm_ref h), seq_ref h⟩
theorem pl_str {s : Str} {n : Nat} (h : PyData.strOk s = true) : pl n (.str s) = true := by cases n <;> exact h
theorem self_str {st : Sto} {s : Str} : Der st (.str s) (.str s) := .self (by intro _ h; cases h)
theorem self_tup {st : Sto} {s : List D} : Der st (.tup s) (.tup s) := .self (by intro _ h; cases h)
theorem self_lst {st : Sto} {s : List D} : Der st (.lst s) (.lst s) := .self (by intro _ h; cases h)
theorem pl_strs {xs : List Str} {n : Nat} (h : ∀ x ∈ xs, PyData.strOk x = true) : pl (n + 1) (.tup (xs.map .str)) = true := List.all_eq_true.mpr fun z hz => by
  obtain ⟨y, hy, rfl⟩ := List.mem_map.mp hz
  exact pl_str (h y hy)
theorem plm_strs {xs : List Str} {n : Nat} (h : ∀ x ∈ xs, PyData.strOk x = true) : ∀ z ∈ xs.map D.str, pl n z = true := fun z hz => by
  obtain ⟨y, hy, rfl⟩ := List.mem_map.mp hz
  exact pl_str (h y hy)
theorem strs_inj : ∀ {xs ys : List Str}, xs.map D.str = ys.map D.str ↔ xs = ys := fun {xs ys} => by
  constructor
  · intro h
    have h2 := congrArg (List.map unS) h
    rw [List.map_map, List.map_map] at h2
    have e : ∀ zs : List Str, zs.map (unS ∘ D.str) = zs := fun zs => by
      have : zs.map (unS ∘ D.str) = zs.map id := List.map_congr_left fun _ _ => rfl
      rw [this, List.map_id]
    rw [e, e] at h2
    exact h2
  · intro h; rw [h]
section
variable {Φ : Fn} {C : Vm.Ctx} {n : Nat} {l : Lore} {st : Sto} {Q EX : QD}
theorem c_inS {s : Str} {y : D} {ws : List Str} {R : Bool → Sto → Prop} (hy : SeqIs st y (ws.map D.str)) (hs : PyData.strOk s = true) (hw : ∀ x ∈ ws, PyData.strOk x = true) (q : R (decide (s ∈ ws)) st) : wCmp Φ C .isin (.str s) y st R EX :=
  c_inD (n := 0) (by decide) hy.1 hy.2 self_str (pl_str hs) (plm_strs hw) fun b hb => by
    have : b = decide (s ∈ ws) := by rw [Bool.eq_iff_iff, hb, decide_eq_true_iff, mem_strs]
    rw [this]; exact q
theorem c_ninS {s : Str} {y : D} {ws : List Str} {R : Bool → Sto → Prop} (hy : SeqIs st y (ws.map D.str)) (hs : PyData.strOk s = true) (hw : ∀ x ∈ ws, PyData.strOk x = true) (q : R (!decide (s ∈ ws)) st) : wCmp Φ C .notin (.str s) y st R EX := c_inS (R := fun b s => R (!b) s) hy hs hw q
theorem letters_at : tl (PySem.Str.ofString "abcdefghijklmnopqrstuvwxyz") = (List.range 26).map (97 + ·) := by decide +kernel
theorem c_letter {c : Nat} {R : Bool → Sto → Prop} (q : R (decide (97 ≤ c) && decide (c ≤ 122)) st) : wCmp Φ C .isin (.str ⟨#[c]⟩) (.str (PySem.Str.ofString "abcdefghijklmnopqrstuvwxyz")) st R EX := by
  refine ⟨_, rfl, ?_⟩
  rw [StrLaws.found_one]
  have e : decide (c ∈ (PySem.Str.ofString "abcdefghijklmnopqrstuvwxyz").cps.toList) = (decide (97 ≤ c) && decide (c ≤ 122)) := by
    rw [Bool.eq_iff_iff, decide_eq_true_iff, Bool.and_eq_true, decide_eq_true_iff, decide_eq_true_iff]
    show c ∈ tl (PySem.Str.ofString "abcdefghijklmnopqrstuvwxyz") ↔ _
    rw [letters_at, List.mem_map]
    constructor
    · rintro ⟨a, ha, rfl⟩
      have := List.mem_range.mp ha
      omega
    · rintro ⟨h1, h2⟩
      exact ⟨c - 97, List.mem_range.mpr (by omega), by omega⟩
  rw [e]
  exact q
/-- the lot of some clients -/
def lotOf (cs ss : List Str) : List Str := cs.filter fun c => decide (c ∈ ss)
/-- is a value a lot -/
def isLotD (cs : List Str) (v : D) : Bool := match v with
  | .tup xs => match sStr xs with
    | some ss => decide (ss = lotOf cs ss)
    | none => false
  | _ => false
theorem sStr_eq : ∀ {xs : List D} {ss : List Str}, sStr xs = some ss → xs = ss.map D.str
  | [], ss, h => by cases h; rfl
  | x :: xs, ss, h => by
    cases x <;> first | (cases h; done) | skip
    case str s =>
      have h' : (sStr xs).map (fun ys => s :: ys) = some ss := h
      obtain ⟨r, h1, rfl⟩ := Option.map_eq_some_iff.mp h'
      rw [sStr_eq h1]
      rfl
theorem sStr_all : ∀ {xs : List D}, (sStr xs).isSome = xs.all isS
  | [] => rfl
  | x :: xs => by
    cases x <;> first | exact rfl | skip
    case str s =>
      show ((sStr xs).map (fun ys => s :: ys)).isSome = _
      rw [Option.isSome_map, sStr_all]
      rfl
def isT : D → Bool
  | .tup _ => true
  | _ => false
theorem isTy_tup {v : D} (h : immed v = true) : isTy C st "tuple" v = some (isT v) := by
  cases v <;> first | (cases h; done) | exact rfl
end
end K00

set_option Elab.async false
set_option linter.all false
set_option maxRecDepth 100000
set_option maxHeartbeats 4000000
namespace K00
open Vm PySem PySem.Spec PyProof.Rows L2 TL
local macro_rules | `(tactic| walk_at "wg") => `(tactic| first | assumption | (with_reducible exact own_get0) | (with_reducible exact loc_get0) | exact own_get 1 | exact own_get 2 | exact loc_get 1 | exact loc_get 2 | exact pot_get (by assumption) | exact get_set (by first | assumption | (simp only [List.length_set]; assumption)))
local macro_rules | `(tactic| walk_at "wu") => `(tactic| first | (with_reducible exact own_set0) | (with_reducible exact loc_set0) | exact own_set 1 | exact own_set 2 | exact loc_set 1 | exact loc_set 2 | exact pot_set (by assumption) | exact rfl)
local macro_rules | `(tactic| walk_at "wo") => `(tactic| first | assumption | decide | decide +kernel)
local macro_rules | `(tactic| walk_at "we") => `(tactic| first
  | ((with_reducible apply e_var); (· exact rfl)) | with_reducible refine e_int ?_ | with_reducible refine e_str ?_ | with_reducible refine e_bl ?_ | with_reducible refine e_non ?_ | with_reducible refine e_bty ?_ | ((with_reducible apply e_glo); (· exact rfl))
  | with_reducible refine e_bin ?_ | with_reducible refine e_neg ?_ | with_reducible refine e_cmp ?_ | with_reducible refine e_cmp2 ?_ | with_reducible refine e_isN ?_ | with_reducible refine e_isB ?_ | with_reducible refine e_bop ?_ | with_reducible refine e_not ?_ | with_reducible refine e_ite ?_ | with_reducible refine e_call ?_ | with_reducible refine e_make ?_ | with_reducible refine e_meth ?_ | with_reducible refine e_bi ?_ | with_reducible refine e_bm ?_ | with_reducible refine e_attr ?_ | with_reducible refine e_idx ?_ | with_reducible refine e_slc ?_ | with_reducible refine e_tup ?_ | with_reducible refine e_lst ?_ | with_reducible refine e_dic ?_ | with_reducible refine e_rngl ?_ | with_reducible refine e_comp ?_ | with_reducible refine e_told ?_
  | with_reducible refine es_nil ?_ | with_reducible refine es_cons ?_ | with_reducible refine es_star ?_ | with_reducible refine eo_none ?_ | with_reducible refine eo_some ?_ | with_reducible refine bop_two ?_ | with_reducible refine bop_one ?_ | with_reducible refine sr_rng ?_ | with_reducible refine sr_ex' ?_ | with_reducible refine sr_enu ?_
  | with_reducible refine ifs_cons ?_ | with_reducible refine ifs_nil ?_)
local macro_rules | `(tactic| walk_at "wv") => `(tactic| first
  | ((with_reducible apply told_x); (· kernel_rfl)) | ((with_reducible apply a_value); (· kernel_rfl)) | ((with_reducible apply i_isX (b := true)); (· kernel_rfl)) | ((with_reducible apply i_isX (b := false)); (· kernel_rfl)) | ((with_reducible apply i_isXn); (· kernel_rfl); (· exact rfl))
  | with_reducible refine it_lst ?_ | with_reducible refine it_tup ?_ | ((with_reducible apply it_ref); (· walk_at "wg"))
  | with_reducible refine b_addI ?_ | with_reducible refine b_sub ?_ | ((with_reducible refine b_mod ?vm_h ?_); case vm_h => first | assumption | decide | decide +kernel) | ((with_reducible refine b_fdiv ?vm_h ?_); case vm_h => first | decide | exact ⟨by first | assumption | omega, by first | assumption | omega⟩) | ((with_reducible refine b_mul ?vm_h ?_); case vm_h => first | decide | exact Or.inl ⟨by omega, by omega⟩ | exact Or.inr ⟨by omega, by omega⟩) | ((with_reducible refine b_pow ?vm_h ?_); case vm_h => first | decide | exact pow_small (by decide) (by decide) (by omega) | exact ⟨by decide, by decide +kernel⟩) | with_reducible refine c_lt ?_ | with_reducible refine c_le ?_ | with_reducible refine c_gt ?_ | with_reducible refine c_ge ?_ | with_reducible refine i_int ?_ | with_reducible refine i_intB ?_ | with_reducible refine i_abs ?_
  | with_reducible refine c_eqI' ?_ | with_reducible refine c_neI ?_
  | with_reducible refine c_eqS ?_ | with_reducible refine c_neS ?_ | with_reducible refine c_eqB ?_ | with_reducible refine c_neB ?_
  | with_reducible refine x_lst0 ?_ | with_reducible refine x_lst1 ?_ | with_reducible refine x_lst2 ?_ | with_reducible refine x_tup0 ?_ | with_reducible refine x_tup1 ?_ | with_reducible refine x_tup2 ?_
  | ((with_reducible apply x_ref); (· walk_at "wg"); (· exact rfl)) | ((with_reducible apply x_lst); (· exact rfl)) | ((with_reducible apply x_tup); (· exact rfl))
  | with_reducible refine x_clients ?_ | with_reducible refine x_rivals ?_ | with_reducible refine x_kinds ?_
  | with_reducible refine rd_a0 ?_ | with_reducible refine rd_a1 ?_ | with_reducible refine rd_a2 ?_ | with_reducible refine rd_a3 ?_ | with_reducible refine rd_a4 ?_ | with_reducible refine rd_l1 ?_ | with_reducible refine rd_l2 ?_ | with_reducible refine rd_l3 ?_ | with_reducible refine rd_l4 ?_ | ((with_reducible apply rd_meth); (· kernel_rfl); (· kernel_rfl))
  | ((with_reducible apply set_ins); (· walk_at "wg"); (· kernel_rfl); (· kernel_rfl); (· exact Nat.lt_of_lt_of_le (Nat.lt_succ_self _) (Nat.le_of_ble_eq_true rfl)); (· walk_at "wu"))
  | ((with_reducible apply r_dct); (· exact Nat.le_of_ble_eq_true rfl); (· first | exact loc_len4 | exact loc_len3 | exact loc_len2 | exact loc_len1 | exact rfl); (· first | exact app4 | exact app3 | exact app2 | exact app1 | exact rfl))
  | ((with_reducible refine r_dctF ?vm_h ?_); case vm_h => first | exact Nat.le_of_ble_eq_true rfl | decide +kernel)
  | with_reducible refine t_cons ?_ | with_reducible refine t_consL ?_ | with_reducible refine t_end ?_
  | ((with_reducible refine t_nm ?vm_h ?_); case vm_h => exact Nat.le_of_ble_eq_true rfl)
  | ((with_reducible refine r_lst ?vm_h ?_); case vm_h => exact Nat.le_of_ble_eq_true rfl)
  | ((with_reducible apply r_ref'); (· exact Nat.le_of_ble_eq_true rfl); (· first | exact own_len3 | exact own_len2 | exact own_len1 | exact own_len00 | exact own_len0 | exact loc_len3 | exact loc_len2 | exact loc_len1 | exact rfl); (· first | exact app3 | exact app2 | exact app1 | exact rfl))
  | ((with_reducible apply ix_lst'); (· walk_at "wg"); (· exact rfl); (· walk_at "wu"))
  | ((with_reducible apply bm_at); (· walk_at "wg"); (· first | exact .inl rfl | exact .inr (.inl rfl) | exact .inr (.inr rfl)))
  | ((with_reducible refine bm_txt ?vm_m ?_); (case vm_m => first | exact .inl rfl | exact .inr rfl))
  | with_reducible refine i_len_lst ?_ | with_reducible refine i_len_tup ?_ | with_reducible refine i_len_scr ?_ | ((with_reducible apply i_len_ref); (· walk_at "wg")) | with_reducible refine i_min ?_ | with_reducible refine i_max ?_
  | with_reducible refine sl_lst ?_ | with_reducible refine sl_tup ?_
  | ((with_reducible apply i_tuple); (· first | exact rfl | exact seq_ref (by walk_at "wg"))) | ((with_reducible apply i_list); (· first | exact rfl | exact seq_ref (by walk_at "wg")))
  | ((with_reducible apply i_isT); (· decide +kernel); (· exact rfl)) | ((with_reducible apply i_len_str); (· assumption)) | with_reducible refine c_letter ?_ | with_reducible refine it_str ?_
  | with_reducible refine ⟨_, rfl, ?_⟩
  | (with_reducible refine ⟨?vm_h, ?_⟩; case vm_h => exact Nat.le_of_ble_eq_true rfl)
  | dsimp only [bodyKt, List.set_cons_zero, List.set_cons_succ]
  | with_reducible refine vit ?_ | with_reducible refine vand_f ?_ | with_reducible refine vor_t ?_ | with_reducible refine vor_f ?_ | with_reducible refine vTrue ?_ | with_reducible refine vFalse ?_ | simp only [Bool.not_true, Bool.not_false]
  | ((with_reducible refine vift ?vm_h ?_); case vm_h => decide) | ((with_reducible refine viff ?vm_h ?_); case vm_h => decide)
  | ((with_reducible refine vor_f' ?vm_h ?_); case vm_h => decide) | ((with_reducible refine vor_t' ?vm_h ?_); case vm_h => decide)
  | rw [pot_set (by assumption)] | rw [List.set_set])
local macro_rules | `(tactic| walk_at "ws") => `(tactic| first
  | with_reducible refine ss_cons ?_ | with_reducible refine ss_consf ?_ | with_reducible refine ss_one ?_ | with_reducible refine ss_nil ?_
  | with_reducible refine s_set' ?_ | with_reducible refine s_par' ?_ | with_reducible refine s_setA2 ?_ | with_reducible refine s_setI' ?_ | with_reducible refine s_exp' ?_ | with_reducible refine s_ret' ?_ | with_reducible refine s_ifs' ?_ | with_reducible refine s_for' ?_ | with_reducible refine s_raise' ?_)
local macro_rules | `(tactic| walk_at "w") => `(tactic| first | walk_at "ws" | walk_at "we" | walk_at "wv")
local macro_rules | `(tactic| walk_at "w*") => `(tactic| repeat walk_at "w")
local macro_rules | `(tactic| walk_at "wstart") => `(tactic| simp only [Vm.start, List.map_cons, List.map_nil, List.length_cons, List.length_nil, Nat.reduceAdd, Nat.reduceSub, List.replicate, List.cons_append, List.nil_append])
theorem joinL_sub {y : List Nat} : ∀ {ps : List (List Nat)} {p : List Nat}, p ∈ ps → ∀ c ∈ p, c ∈ joinL y ps
  | [q], p, h, c, hc => by rw [List.mem_singleton.mp h] at hc; exact hc
  | a :: q :: r, p, h, c, hc => by
    show c ∈ a ++ (y ++ joinL y (q :: r))
    rcases List.mem_cons.mp h with rfl | h
    · exact List.mem_append_left _ hc
    · exact List.mem_append_right _ (List.mem_append_right _ (joinL_sub h c hc))
theorem joinL_len {y : List Nat} : ∀ {ps : List (List Nat)}, ps ≠ [] → (joinL y ps).length + y.length = (ps.map List.length).sum + ps.length * y.length
  | [], h => absurd rfl h
  | [p], _ => by
    show p.length + y.length = _
    simp
  | p :: q :: r, _ => by
    have ih := joinL_len (y := y) (ps := q :: r) (by simp)
    show (p ++ (y ++ joinL y (q :: r))).length + y.length = _
    rw [List.length_append, List.length_append, List.map_cons, List.sum_cons, List.length_cons (as := q :: r), Nat.succ_mul]
    omega
theorem split_ne {x : Str} {c : Nat} : Txt.split x ⟨#[c]⟩ ≠ [] := fun h => by
  have e := StrLaws.join_split x ⟨#[c]⟩
  rw [h] at e
  have e2 : x = Str.empty := e.symm
  rw [e2] at h
  revert h
  unfold Txt.split
  rw [if_pos (by rfl)]
  intro h
  cases h
theorem one_blank : PySem.Str.ofString " " = ⟨#[32]⟩ := by decide +kernel
theorem one_feed : PySem.Str.ofString "\n" = ⟨#[10]⟩ := by decide +kernel
/-- the words of a line -/
def wds (x : Str) : List Str := Txt.split x " "
theorem wds_ne {x : Str} : wds x ≠ [] := by
  unfold wds
  rw [one_blank]
  exact split_ne
theorem wds_tl (x : Str) : joinL [32] ((wds x).map tl) = tl x := by
  have := StrLaws.join_split x " "
  have e := tl_join " " (wds x)
  rw [tl_blank] at e
  rw [← e]
  exact congrArg tl this
theorem wds_ok {x : Str} (h : PyData.strOk x = true) : ∀ w ∈ wds x, PyData.strOk w = true := fun w hw => strOk_of fun c hc =>
  of_strOk h c (by rw [← wds_tl x]; exact joinL_sub (List.mem_map.mpr ⟨w, hw, rfl⟩) c hc)
theorem sum_mem_le : ∀ {xs : List Nat} {a : Nat}, a ∈ xs → a ≤ xs.sum
  | x :: xs, a, h => by
    rw [List.sum_cons]
    rcases List.mem_cons.mp h with rfl | h
    · omega
    · have := sum_mem_le h
      omega
theorem wds_len {x : Str} : (wds x).length ≤ x.length + 1 ∧ ∀ w ∈ wds x, w.length ≤ x.length := by
  have h := joinL_len (y := [32]) (ps := (wds x).map tl) (by simpa using wds_ne)
  rw [wds_tl, List.length_map, List.map_map, List.length_singleton, Nat.mul_one] at h
  have e := len_tl x
  refine ⟨by omega, fun w hw => ?_⟩
  have h2 : w.length ≤ ((wds x).map (List.length ∘ tl)).sum := by
    rw [len_tl w]
    exact sum_mem_le (List.mem_map.mpr ⟨w, hw, rfl⟩)
  have h3 : 1 ≤ (wds x).length := List.length_pos_iff.mpr wds_ne
  omega
/-- what has been read -/
structure Rd where
  clients : List Str := []
  rivals : List (Str × Str) := []
  kinds : List Str := []
  looks : List (Str × List Str) := []
  writes : List (Str × List Str) := []
def kvD (xs : List (Str × List Str)) : List (Key × D) := xs.map fun q => (.inr q.1, .tup (q.2.map .str))
/-- its fields, its objects, the first one at b -/
def rdF (b : Nat) (r : Rd) : List (Str × D) := [("told_clients", .tup (r.clients.map .str)), ("told_rivals", .ref (b + 1)), ("told_kinds", .ref (b + 2)), ("told_looks", .ref (b + 3)), ("told_writes", .ref (b + 4))]
theorem ins_ref {st : Sto} {p : Nat} {c : Str} {fs : List (Str × D)} (h : st[p]? = some (.ins c fs)) : insOf st (.ref p) = some (c, fs) := by
  show (match st[p]? with
    | some (.ins c fs) => some (c, fs)
    | _ => none) = _
  rw [h]
section
variable {A : Sto} {r : Rd}
variable {Φ : Fn} {n : Nat} {st : Sto} {Q EX : QD}
theorem i_len_dct {Φ : Fn} {C : Vm.Ctx} {al : Bool} {p : Nat} {kvs : List (Key × D)} (h : st[p]? = some (.dct kvs)) (q : Q (.int kvs.length) st) : wBi Φ C .len al [.ref p] st Q EX := len_of (by
    show (match st[p]? with
    | some (.ins c fs) => some (c, fs)
    | _ => none) = none
    rw [h]) (by
    unfold lenD
    have : seqOf st (.ref p) = none := by
      show (match st[p]? with
      | some (.lst xs) => some xs
      | _ => none) = none
      rw [h]
    rw [this]
    show (match (match st[p]? with
      | some (.dct kvs) => some kvs
      | _ => none) with
      | some kvs => some kvs.length
      | none => none) = _
    rw [h]) q
end
end K00

set_option Elab.async false
set_option linter.all false
set_option maxRecDepth 100000
set_option maxHeartbeats 4000000
namespace K00
open Vm PySem PySem.Spec PyProof.Rows L2 TL
local macro_rules | `(tactic| walk_at "wg") => `(tactic| first | assumption | (with_reducible exact own_get0) | (with_reducible exact loc_get0) | exact own_get 1 | exact own_get 2 | exact loc_get 1 | exact loc_get 2 | exact pot_get (by assumption) | exact get_set (by first | assumption | (simp only [List.length_set]; assumption)))
local macro_rules | `(tactic| walk_at "wu") => `(tactic| first | (with_reducible exact own_set0) | (with_reducible exact loc_set0) | exact own_set 1 | exact own_set 2 | exact loc_set 1 | exact loc_set 2 | exact pot_set (by assumption) | exact rfl)
local macro_rules | `(tactic| walk_at "wo") => `(tactic| first | assumption | decide | decide +kernel)
local macro_rules | `(tactic| walk_at "we") => `(tactic| first
  | ((with_reducible apply e_var); (· exact rfl)) | with_reducible refine e_int ?_ | with_reducible refine e_str ?_ | with_reducible refine e_bl ?_ | with_reducible refine e_non ?_ | with_reducible refine e_bty ?_ | ((with_reducible apply e_glo); (· exact rfl))
  | with_reducible refine e_bin ?_ | with_reducible refine e_neg ?_ | with_reducible refine e_cmp ?_ | with_reducible refine e_cmp2 ?_ | with_reducible refine e_isN ?_ | with_reducible refine e_isB ?_ | with_reducible refine e_bop ?_ | with_reducible refine e_not ?_ | with_reducible refine e_ite ?_ | with_reducible refine e_call ?_ | with_reducible refine e_make ?_ | with_reducible refine e_meth ?_ | with_reducible refine e_bi ?_ | with_reducible refine e_bm ?_ | with_reducible refine e_attr ?_ | with_reducible refine e_idx ?_ | with_reducible refine e_slc ?_ | with_reducible refine e_tup ?_ | with_reducible refine e_lst ?_ | with_reducible refine e_dic ?_ | with_reducible refine e_rngl ?_ | with_reducible refine e_comp ?_ | with_reducible refine e_told ?_
  | with_reducible refine es_nil ?_ | with_reducible refine es_cons ?_ | with_reducible refine es_star ?_ | with_reducible refine eo_none ?_ | with_reducible refine eo_some ?_ | with_reducible refine bop_two ?_ | with_reducible refine bop_one ?_ | with_reducible refine sr_rng ?_ | with_reducible refine sr_ex' ?_ | with_reducible refine sr_enu ?_
  | with_reducible refine ifs_cons ?_ | with_reducible refine ifs_nil ?_)
local macro_rules | `(tactic| walk_at "wv") => `(tactic| first
  | ((with_reducible apply told_x); (· kernel_rfl)) | ((with_reducible apply a_value); (· kernel_rfl)) | ((with_reducible apply i_isX (b := true)); (· kernel_rfl)) | ((with_reducible apply i_isX (b := false)); (· kernel_rfl)) | ((with_reducible apply i_isXn); (· kernel_rfl); (· exact rfl))
  | with_reducible refine it_lst ?_ | with_reducible refine it_tup ?_ | ((with_reducible apply it_ref); (· walk_at "wg"))
  | with_reducible refine b_addI ?_ | with_reducible refine b_sub ?_ | ((with_reducible refine b_mod ?vm_h ?_); case vm_h => first | assumption | decide | decide +kernel) | ((with_reducible refine b_fdiv ?vm_h ?_); case vm_h => first | decide | exact ⟨by first | assumption | omega, by first | assumption | omega⟩) | ((with_reducible refine b_mul ?vm_h ?_); case vm_h => first | decide | exact Or.inl ⟨by omega, by omega⟩ | exact Or.inr ⟨by omega, by omega⟩) | ((with_reducible refine b_pow ?vm_h ?_); case vm_h => first | decide | exact pow_small (by decide) (by decide) (by omega) | exact ⟨by decide, by decide +kernel⟩) | with_reducible refine c_lt ?_ | with_reducible refine c_le ?_ | with_reducible refine c_gt ?_ | with_reducible refine c_ge ?_ | with_reducible refine i_int ?_ | with_reducible refine i_intB ?_ | with_reducible refine i_abs ?_
  | with_reducible refine c_eqI' ?_ | with_reducible refine c_neI ?_
  | with_reducible refine c_eqS ?_ | with_reducible refine c_neS ?_ | with_reducible refine c_eqB ?_ | with_reducible refine c_neB ?_
  | with_reducible refine x_lst0 ?_ | with_reducible refine x_lst1 ?_ | with_reducible refine x_lst2 ?_ | with_reducible refine x_tup0 ?_ | with_reducible refine x_tup1 ?_ | with_reducible refine x_tup2 ?_
  | ((with_reducible apply x_ref); (· walk_at "wg"); (· exact rfl)) | ((with_reducible apply x_lst); (· exact rfl)) | ((with_reducible apply x_tup); (· exact rfl))
  | with_reducible refine x_clients ?_ | with_reducible refine x_rivals ?_ | with_reducible refine x_kinds ?_
  | with_reducible refine rd_a0 ?_ | with_reducible refine rd_a1 ?_ | with_reducible refine rd_a2 ?_ | with_reducible refine rd_a3 ?_ | with_reducible refine rd_a4 ?_ | with_reducible refine rd_l1 ?_ | with_reducible refine rd_l2 ?_ | with_reducible refine rd_l3 ?_ | with_reducible refine rd_l4 ?_ | ((with_reducible apply rd_meth); (· kernel_rfl); (· kernel_rfl))
  | ((with_reducible apply set_ins); (· walk_at "wg"); (· kernel_rfl); (· kernel_rfl); (· exact Nat.lt_of_lt_of_le (Nat.lt_succ_self _) (Nat.le_of_ble_eq_true rfl)); (· walk_at "wu"))
  | ((with_reducible apply r_dct); (· exact Nat.le_of_ble_eq_true rfl); (· first | exact loc_len4 | exact loc_len3 | exact loc_len2 | exact loc_len1 | exact rfl); (· first | exact app4 | exact app3 | exact app2 | exact app1 | exact rfl))
  | ((with_reducible refine r_dctF ?vm_h ?_); case vm_h => first | exact Nat.le_of_ble_eq_true rfl | decide +kernel)
  | with_reducible refine t_cons ?_ | with_reducible refine t_consL ?_ | with_reducible refine t_end ?_
  | ((with_reducible refine t_nm ?vm_h ?_); case vm_h => exact Nat.le_of_ble_eq_true rfl)
  | ((with_reducible refine r_lst ?vm_h ?_); case vm_h => exact Nat.le_of_ble_eq_true rfl)
  | ((with_reducible apply r_ref'); (· exact Nat.le_of_ble_eq_true rfl); (· first | exact own_len3 | exact own_len2 | exact own_len1 | exact own_len00 | exact own_len0 | exact loc_len3 | exact loc_len2 | exact loc_len1 | exact rfl); (· first | exact app3 | exact app2 | exact app1 | exact rfl))
  | ((with_reducible apply ix_lst'); (· walk_at "wg"); (· exact rfl); (· walk_at "wu"))
  | ((with_reducible apply bm_at); (· walk_at "wg"); (· first | exact .inl rfl | exact .inr (.inl rfl) | exact .inr (.inr rfl)))
  | ((with_reducible refine bm_txt ?vm_m ?_); (case vm_m => first | exact .inl rfl | exact .inr rfl))
  | with_reducible refine i_len_lst ?_ | with_reducible refine i_len_tup ?_ | with_reducible refine i_len_scr ?_ | ((with_reducible apply i_len_ref); (· walk_at "wg")) | with_reducible refine i_min ?_ | with_reducible refine i_max ?_
  | with_reducible refine sl_lst ?_ | with_reducible refine sl_tup ?_
  | ((with_reducible apply i_tuple); (· first | exact rfl | exact seq_ref (by walk_at "wg"))) | ((with_reducible apply i_list); (· first | exact rfl | exact seq_ref (by walk_at "wg")))
  | ((with_reducible apply i_isT); (· decide +kernel); (· exact rfl)) | ((with_reducible apply i_len_str); (· assumption)) | with_reducible refine c_letter ?_ | with_reducible refine it_str ?_
  | with_reducible refine ⟨_, rfl, ?_⟩
  | (with_reducible refine ⟨?vm_h, ?_⟩; case vm_h => exact Nat.le_of_ble_eq_true rfl)
  | dsimp only [bodyKt, List.set_cons_zero, List.set_cons_succ]
  | with_reducible refine vit ?_ | with_reducible refine vand_f ?_ | with_reducible refine vor_t ?_ | with_reducible refine vor_f ?_ | with_reducible refine vTrue ?_ | with_reducible refine vFalse ?_ | simp only [Bool.not_true, Bool.not_false]
  | ((with_reducible refine vift ?vm_h ?_); case vm_h => decide) | ((with_reducible refine viff ?vm_h ?_); case vm_h => decide)
  | ((with_reducible refine vor_f' ?vm_h ?_); case vm_h => decide) | ((with_reducible refine vor_t' ?vm_h ?_); case vm_h => decide)
  | rw [pot_set (by assumption)] | rw [List.set_set])
local macro_rules | `(tactic| walk_at "ws") => `(tactic| first
  | with_reducible refine ss_cons ?_ | with_reducible refine ss_consf ?_ | with_reducible refine ss_one ?_ | with_reducible refine ss_nil ?_
  | with_reducible refine s_set' ?_ | with_reducible refine s_par' ?_ | with_reducible refine s_setA2 ?_ | with_reducible refine s_setI' ?_ | with_reducible refine s_exp' ?_ | with_reducible refine s_ret' ?_ | with_reducible refine s_ifs' ?_ | with_reducible refine s_for' ?_ | with_reducible refine s_raise' ?_)
local macro_rules | `(tactic| walk_at "w") => `(tactic| first | walk_at "ws" | walk_at "we" | walk_at "wv")
local macro_rules | `(tactic| walk_at "w*") => `(tactic| repeat walk_at "w")
local macro_rules | `(tactic| walk_at "wstart") => `(tactic| simp only [Vm.start, List.map_cons, List.map_nil, List.length_cons, List.length_nil, Nat.reduceAdd, Nat.reduceSub, List.replicate, List.cons_append, List.nil_append])
def putS (xs : List (Str × List Str)) (k : Str) (v : List Str) : List (Str × List Str) :=
  if (xs.any fun q => decide (q.1 = k)) = true then xs.map (fun q => if q.1 = k then (q.1, v) else q) else xs ++ [(k, v)]
theorem kvD_put {xs : List (Str × List Str)} {k : Str} {v : List Str} : putD (kvD xs) (Sum.inr k : Key) (.tup (v.map .str)) = kvD (putS xs k v) := by
  have e1 : ((kvD xs).any fun kv => decide (kv.1 = (Sum.inr k : Key))) = xs.any fun q => decide (q.1 = k) := by
    unfold kvD
    rw [List.any_map]
    congr 1
    funext q
    show decide ((Sum.inr q.1 : Key) = Sum.inr k) = _
    simp
  unfold putD putS
  rw [e1]
  split
  · unfold kvD
    rw [List.map_map, List.map_map]
    refine List.map_congr_left fun q _ => ?_
    show (if (Sum.inr q.1 : Key) = Sum.inr k then _ else _) = (fun q : Str × List Str => ((Sum.inr q.1 : Key), D.tup (q.2.map .str))) (if q.1 = k then (q.1, v) else q)
    by_cases h : q.1 = k
    · rw [if_pos (by rw [h]), if_pos h]
    · rw [if_neg (by simpa using h), if_neg h]
  · unfold kvD
    rw [List.map_append]
    rfl
theorem nodup_strs {xs : List Str} : (xs.map D.str).Nodup ↔ xs.Nodup := by
  unfold List.Nodup
  rw [List.pairwise_map]
  exact ⟨fun h => h.imp fun k e => k (by rw [e]), fun h => h.imp fun k e => k (by cases e; rfl)⟩
def takeClients (r : Rd) (ns : List Str) : Bool × Rd := if (decide (2 ≤ ns.length) && decide (ns.length ≤ 8) && ns.all Nm) = true then (decide ns.Nodup, { r with clients := ns }) else (false, r)
def takeRivals (r : Rd) (ns : List Str) : Bool × Rd := match ns with
  | [a, b] => if (decide (r.kinds = []) && decide (a ∈ r.clients) && decide (b ∈ r.clients) && !decide (a = b) && !decide ((a, b) ∈ r.rivals) && !decide ((b, a) ∈ r.rivals)) = true then (true, { r with rivals := r.rivals ++ [(a, b)] }) else (false, r)
  | _ => (false, r)
def takeKind (r : Rd) (k : Str) : Bool × Rd := if (Nm k && !decide (k ∈ r.kinds)) = true then (decide (r.kinds.length + 1 ≤ 4), { r with kinds := r.kinds ++ [k] }) else (false, r)
def takeLot (r : Rd) (xs : List (Str × List Str)) (ns : List Str) : Bool × List (Str × List Str) := (decide (ns = lotOf r.clients ns), putS xs (r.kinds.getLastD "") ns)
/-- a reading as it may be -/
structure RdOk (B : Nat) (r : Rd) : Prop where
  c : r.clients.length ≤ 8
  c2 : ∀ x ∈ r.clients, PyData.strOk x = true
  cn : r.clients.Nodup
  v : r.rivals.length ≤ B
  v2 : ∀ q ∈ r.rivals, PyData.strOk q.1 = true ∧ PyData.strOk q.2 = true
  k : r.kinds.length ≤ B
  k2 : ∀ x ∈ r.kinds, PyData.strOk x = true
  l : r.looks.length ≤ B
  w : r.writes.length ≤ B
section
variable {n B : Nat} {A : Sto} {r : Rd} {st : Sto} {Q EX : QD}
theorem c_inPS {Φ : Fn} {C : Vm.Ctx} {y : D} {a b : Str} {xs : List (Str × Str)} {R : Bool → Sto → Prop} (hy : SeqIs st y (xs.map fun q => pairOf q.1 q.2)) (ha : PyData.strOk a = true) (hb : PyData.strOk b = true) (hx : ∀ z ∈ xs, PyData.strOk z.1 = true ∧ PyData.strOk z.2 = true) (q : R (decide ((a, b) ∈ xs)) st) : wCmp Φ C .isin (.tup [.str a, .str b]) y st R EX :=
  c_inD (n := 1) (by decide) hy.1 hy.2 self_tup (pl_pair ha hb) (fun z hz => by obtain ⟨b, h, rfl⟩ := List.mem_map.mp hz; exact pl_pair (hx b h).1 (hx b h).2) fun r hr => by
    have : r = decide ((a, b) ∈ xs) := by rw [Bool.eq_iff_iff, hr, decide_eq_true_iff]; exact mem_pairs
    rw [this]; exact q
theorem lim_len {v : D} {m : Nat} (h : ∀ n, v.lim n = true) : v.lim m = true := h m
end
end K00

set_option Elab.async false
set_option linter.all false
set_option maxRecDepth 100000
set_option maxHeartbeats 4000000
namespace K00
open Vm PySem PySem.Spec PyProof.Rows L2 TL
local macro_rules | `(tactic| walk_at "wg") => `(tactic| first | assumption | (with_reducible exact own_get0) | (with_reducible exact loc_get0) | exact own_get 1 | exact own_get 2 | exact loc_get 1 | exact loc_get 2 | exact pot_get (by assumption) | exact get_set (by first | assumption | (simp only [List.length_set]; assumption)))
local macro_rules | `(tactic| walk_at "wu") => `(tactic| first | (with_reducible exact own_set0) | (with_reducible exact loc_set0) | exact own_set 1 | exact own_set 2 | exact loc_set 1 | exact loc_set 2 | exact pot_set (by assumption) | exact rfl)
local macro_rules | `(tactic| walk_at "wo") => `(tactic| first | assumption | decide | decide +kernel)
local macro_rules | `(tactic| walk_at "we") => `(tactic| first
  | ((with_reducible apply e_var); (· exact rfl)) | with_reducible refine e_int ?_ | with_reducible refine e_str ?_ | with_reducible refine e_bl ?_ | with_reducible refine e_non ?_ | with_reducible refine e_bty ?_ | ((with_reducible apply e_glo); (· exact rfl))
  | with_reducible refine e_bin ?_ | with_reducible refine e_neg ?_ | with_reducible refine e_cmp ?_ | with_reducible refine e_cmp2 ?_ | with_reducible refine e_isN ?_ | with_reducible refine e_isB ?_ | with_reducible refine e_bop ?_ | with_reducible refine e_not ?_ | with_reducible refine e_ite ?_ | with_reducible refine e_call ?_ | with_reducible refine e_make ?_ | with_reducible refine e_meth ?_ | with_reducible refine e_bi ?_ | with_reducible refine e_bm ?_ | with_reducible refine e_attr ?_ | with_reducible refine e_idx ?_ | with_reducible refine e_slc ?_ | with_reducible refine e_tup ?_ | with_reducible refine e_lst ?_ | with_reducible refine e_dic ?_ | with_reducible refine e_rngl ?_ | with_reducible refine e_comp ?_ | with_reducible refine e_told ?_
  | with_reducible refine es_nil ?_ | with_reducible refine es_cons ?_ | with_reducible refine es_star ?_ | with_reducible refine eo_none ?_ | with_reducible refine eo_some ?_ | with_reducible refine bop_two ?_ | with_reducible refine bop_one ?_ | with_reducible refine sr_rng ?_ | with_reducible refine sr_ex' ?_ | with_reducible refine sr_enu ?_
  | with_reducible refine ifs_cons ?_ | with_reducible refine ifs_nil ?_)
local macro_rules | `(tactic| walk_at "wv") => `(tactic| first
  | ((with_reducible apply told_x); (· kernel_rfl)) | ((with_reducible apply a_value); (· kernel_rfl)) | ((with_reducible apply i_isX (b := true)); (· kernel_rfl)) | ((with_reducible apply i_isX (b := false)); (· kernel_rfl)) | ((with_reducible apply i_isXn); (· kernel_rfl); (· exact rfl))
  | with_reducible refine it_lst ?_ | with_reducible refine it_tup ?_ | ((with_reducible apply it_ref); (· walk_at "wg"))
  | with_reducible refine b_addI ?_ | with_reducible refine b_sub ?_ | ((with_reducible refine b_mod ?vm_h ?_); case vm_h => first | assumption | decide | decide +kernel) | ((with_reducible refine b_fdiv ?vm_h ?_); case vm_h => first | decide | exact ⟨by first | assumption | omega, by first | assumption | omega⟩) | ((with_reducible refine b_mul ?vm_h ?_); case vm_h => first | decide | exact Or.inl ⟨by omega, by omega⟩ | exact Or.inr ⟨by omega, by omega⟩) | ((with_reducible refine b_pow ?vm_h ?_); case vm_h => first | decide | exact pow_small (by decide) (by decide) (by omega) | exact ⟨by decide, by decide +kernel⟩) | with_reducible refine c_lt ?_ | with_reducible refine c_le ?_ | with_reducible refine c_gt ?_ | with_reducible refine c_ge ?_ | with_reducible refine i_int ?_ | with_reducible refine i_intB ?_ | with_reducible refine i_abs ?_
  | with_reducible refine c_eqI' ?_ | with_reducible refine c_neI ?_
  | with_reducible refine c_eqS ?_ | with_reducible refine c_neS ?_ | with_reducible refine c_eqB ?_ | with_reducible refine c_neB ?_
  | with_reducible refine x_lst0 ?_ | with_reducible refine x_lst1 ?_ | with_reducible refine x_lst2 ?_ | with_reducible refine x_tup0 ?_ | with_reducible refine x_tup1 ?_ | with_reducible refine x_tup2 ?_
  | ((with_reducible apply x_ref); (· walk_at "wg"); (· exact rfl)) | ((with_reducible apply x_lst); (· exact rfl)) | ((with_reducible apply x_tup); (· exact rfl))
  | with_reducible refine x_clients ?_ | with_reducible refine x_rivals ?_ | with_reducible refine x_kinds ?_
  | with_reducible refine rd_a0 ?_ | with_reducible refine rd_a1 ?_ | with_reducible refine rd_a2 ?_ | with_reducible refine rd_a3 ?_ | with_reducible refine rd_a4 ?_ | with_reducible refine rd_l1 ?_ | with_reducible refine rd_l2 ?_ | with_reducible refine rd_l3 ?_ | with_reducible refine rd_l4 ?_ | ((with_reducible apply rd_meth); (· kernel_rfl); (· kernel_rfl))
  | ((with_reducible apply set_ins); (· walk_at "wg"); (· kernel_rfl); (· kernel_rfl); (· exact Nat.lt_of_lt_of_le (Nat.lt_succ_self _) (Nat.le_of_ble_eq_true rfl)); (· walk_at "wu"))
  | ((with_reducible apply r_dct); (· exact Nat.le_of_ble_eq_true rfl); (· first | exact loc_len4 | exact loc_len3 | exact loc_len2 | exact loc_len1 | exact rfl); (· first | exact app4 | exact app3 | exact app2 | exact app1 | exact rfl))
  | ((with_reducible refine r_dctF ?vm_h ?_); case vm_h => first | exact Nat.le_of_ble_eq_true rfl | decide +kernel)
  | with_reducible refine t_cons ?_ | with_reducible refine t_consL ?_ | with_reducible refine t_end ?_
  | ((with_reducible refine t_nm ?vm_h ?_); case vm_h => exact Nat.le_of_ble_eq_true rfl)
  | ((with_reducible refine r_lst ?vm_h ?_); case vm_h => exact Nat.le_of_ble_eq_true rfl)
  | ((with_reducible apply r_ref'); (· exact Nat.le_of_ble_eq_true rfl); (· first | exact own_len3 | exact own_len2 | exact own_len1 | exact own_len00 | exact own_len0 | exact loc_len3 | exact loc_len2 | exact loc_len1 | exact rfl); (· first | exact app3 | exact app2 | exact app1 | exact rfl))
  | ((with_reducible apply ix_lst'); (· walk_at "wg"); (· exact rfl); (· walk_at "wu"))
  | ((with_reducible apply bm_at); (· walk_at "wg"); (· first | exact .inl rfl | exact .inr (.inl rfl) | exact .inr (.inr rfl)))
  | ((with_reducible refine bm_txt ?vm_m ?_); (case vm_m => first | exact .inl rfl | exact .inr rfl))
  | with_reducible refine i_len_lst ?_ | with_reducible refine i_len_tup ?_ | with_reducible refine i_len_scr ?_ | ((with_reducible apply i_len_ref); (· walk_at "wg")) | with_reducible refine i_min ?_ | with_reducible refine i_max ?_
  | with_reducible refine sl_lst ?_ | with_reducible refine sl_tup ?_
  | ((with_reducible apply i_tuple); (· first | exact rfl | exact seq_ref (by walk_at "wg"))) | ((with_reducible apply i_list); (· first | exact rfl | exact seq_ref (by walk_at "wg")))
  | ((with_reducible apply i_isT); (· decide +kernel); (· exact rfl)) | ((with_reducible apply i_len_str); (· assumption)) | with_reducible refine c_letter ?_ | with_reducible refine it_str ?_
  | with_reducible refine ⟨_, rfl, ?_⟩
  | (with_reducible refine ⟨?vm_h, ?_⟩; case vm_h => exact Nat.le_of_ble_eq_true rfl)
  | dsimp only [bodyKt, List.set_cons_zero, List.set_cons_succ]
  | with_reducible refine vit ?_ | with_reducible refine vand_f ?_ | with_reducible refine vor_t ?_ | with_reducible refine vor_f ?_ | with_reducible refine vTrue ?_ | with_reducible refine vFalse ?_ | simp only [Bool.not_true, Bool.not_false]
  | ((with_reducible refine vift ?vm_h ?_); case vm_h => decide) | ((with_reducible refine viff ?vm_h ?_); case vm_h => decide)
  | ((with_reducible refine vor_f' ?vm_h ?_); case vm_h => decide) | ((with_reducible refine vor_t' ?vm_h ?_); case vm_h => decide)
  | rw [pot_set (by assumption)] | rw [List.set_set])
local macro_rules | `(tactic| walk_at "ws") => `(tactic| first
  | with_reducible refine ss_cons ?_ | with_reducible refine ss_consf ?_ | with_reducible refine ss_one ?_ | with_reducible refine ss_nil ?_
  | with_reducible refine s_set' ?_ | with_reducible refine s_par' ?_ | with_reducible refine s_setA2 ?_ | with_reducible refine s_setI' ?_ | with_reducible refine s_exp' ?_ | with_reducible refine s_ret' ?_ | with_reducible refine s_ifs' ?_ | with_reducible refine s_for' ?_ | with_reducible refine s_raise' ?_)
local macro_rules | `(tactic| walk_at "w") => `(tactic| first | walk_at "ws" | walk_at "we" | walk_at "wv")
local macro_rules | `(tactic| walk_at "w*") => `(tactic| repeat walk_at "w")
local macro_rules | `(tactic| walk_at "wstart") => `(tactic| simp only [Vm.start, List.map_cons, List.map_nil, List.length_cons, List.length_nil, Nat.reduceAdd, Nat.reduceSub, List.replicate, List.cons_append, List.nil_append])
def takeW (r : Rd) (ws : List Str) : Bool × Rd := match ws with
  | [] => (false, r)
  | w :: ns =>
    if r.clients = [] then (if w = "clients" then takeClients r ns else (false, r))
    else if r.looks.length < r.kinds.length then (if w = "looks" then ((takeLot r r.looks ns).1, { r with looks := (takeLot r r.looks ns).2 }) else (false, r))
    else if r.writes.length < r.kinds.length then (if w = "writes" then ((takeLot r r.writes ns).1, { r with writes := (takeLot r r.writes ns).2 }) else (false, r))
    else if ns.length = 1 then (if w = "kind" then takeKind r (ns.headD "") else (false, r))
    else (if w = "rivals" then takeRivals r ns else (false, r))
theorem last_strs {ks : List Str} (h : ks ≠ []) : atI (ks.map D.str) (-1) = some (.str (ks.getLastD "")) := by
  rw [atI_last (by simpa using h), List.getLast_map]
  congr 2
  cases ks with
  | nil => exact absurd rfl h
  | cons k ks => rfl
theorem isLot_strs {cs ns : List Str} : isLotD cs (.tup (ns.map D.str)) = decide (ns = lotOf cs ns) := by
  show (match sStr (ns.map D.str) with
    | some ss => decide (ss = lotOf cs ss)
    | none => false) = _
  rw [sStr_map]
section
variable {n B : Nat} {A : Sto} {r : Rd} {st : Sto} {Q EX : QD}
theorem cut_one {w : D} {ns : List Str} : cutL (w :: ns.map D.str) (some 1) none = ns.map D.str := by
  have := cut_drop (xs := w :: ns.map D.str) (j := 1) (by rw [List.length_cons]; omega)
  exact this
end
end K00

set_option Elab.async false
set_option linter.all false
set_option maxRecDepth 100000
set_option maxHeartbeats 4000000
namespace K00
open Vm PySem PySem.Spec PyProof.Rows L2 TL
local macro_rules | `(tactic| walk_at "wg") => `(tactic| first | assumption | (with_reducible exact own_get0) | (with_reducible exact loc_get0) | exact own_get 1 | exact own_get 2 | exact loc_get 1 | exact loc_get 2 | exact pot_get (by assumption) | exact get_set (by first | assumption | (simp only [List.length_set]; assumption)))
local macro_rules | `(tactic| walk_at "wu") => `(tactic| first | (with_reducible exact own_set0) | (with_reducible exact loc_set0) | exact own_set 1 | exact own_set 2 | exact loc_set 1 | exact loc_set 2 | exact pot_set (by assumption) | exact rfl)
local macro_rules | `(tactic| walk_at "wo") => `(tactic| first | assumption | decide | decide +kernel)
local macro_rules | `(tactic| walk_at "we") => `(tactic| first
  | ((with_reducible apply e_var); (· exact rfl)) | with_reducible refine e_int ?_ | with_reducible refine e_str ?_ | with_reducible refine e_bl ?_ | with_reducible refine e_non ?_ | with_reducible refine e_bty ?_ | ((with_reducible apply e_glo); (· exact rfl))
  | with_reducible refine e_bin ?_ | with_reducible refine e_neg ?_ | with_reducible refine e_cmp ?_ | with_reducible refine e_cmp2 ?_ | with_reducible refine e_isN ?_ | with_reducible refine e_isB ?_ | with_reducible refine e_bop ?_ | with_reducible refine e_not ?_ | with_reducible refine e_ite ?_ | with_reducible refine e_call ?_ | with_reducible refine e_make ?_ | with_reducible refine e_meth ?_ | with_reducible refine e_bi ?_ | with_reducible refine e_bm ?_ | with_reducible refine e_attr ?_ | with_reducible refine e_idx ?_ | with_reducible refine e_slc ?_ | with_reducible refine e_tup ?_ | with_reducible refine e_lst ?_ | with_reducible refine e_dic ?_ | with_reducible refine e_rngl ?_ | with_reducible refine e_comp ?_ | with_reducible refine e_told ?_
  | with_reducible refine es_nil ?_ | with_reducible refine es_cons ?_ | with_reducible refine es_star ?_ | with_reducible refine eo_none ?_ | with_reducible refine eo_some ?_ | with_reducible refine bop_two ?_ | with_reducible refine bop_one ?_ | with_reducible refine sr_rng ?_ | with_reducible refine sr_ex' ?_ | with_reducible refine sr_enu ?_
  | with_reducible refine ifs_cons ?_ | with_reducible refine ifs_nil ?_)
local macro_rules | `(tactic| walk_at "wv") => `(tactic| first
  | ((with_reducible apply told_x); (· kernel_rfl)) | ((with_reducible apply a_value); (· kernel_rfl)) | ((with_reducible apply i_isX (b := true)); (· kernel_rfl)) | ((with_reducible apply i_isX (b := false)); (· kernel_rfl)) | ((with_reducible apply i_isXn); (· kernel_rfl); (· exact rfl))
  | with_reducible refine it_lst ?_ | with_reducible refine it_tup ?_ | ((with_reducible apply it_ref); (· walk_at "wg"))
  | with_reducible refine b_addI ?_ | with_reducible refine b_sub ?_ | ((with_reducible refine b_mod ?vm_h ?_); case vm_h => first | assumption | decide | decide +kernel) | ((with_reducible refine b_fdiv ?vm_h ?_); case vm_h => first | decide | exact ⟨by first | assumption | omega, by first | assumption | omega⟩) | ((with_reducible refine b_mul ?vm_h ?_); case vm_h => first | decide | exact Or.inl ⟨by omega, by omega⟩ | exact Or.inr ⟨by omega, by omega⟩) | ((with_reducible refine b_pow ?vm_h ?_); case vm_h => first | decide | exact pow_small (by decide) (by decide) (by omega) | exact ⟨by decide, by decide +kernel⟩) | with_reducible refine c_lt ?_ | with_reducible refine c_le ?_ | with_reducible refine c_gt ?_ | with_reducible refine c_ge ?_ | with_reducible refine i_int ?_ | with_reducible refine i_intB ?_ | with_reducible refine i_abs ?_
  | with_reducible refine c_eqI' ?_ | with_reducible refine c_neI ?_
  | with_reducible refine c_eqS ?_ | with_reducible refine c_neS ?_ | with_reducible refine c_eqB ?_ | with_reducible refine c_neB ?_
  | with_reducible refine x_lst0 ?_ | with_reducible refine x_lst1 ?_ | with_reducible refine x_lst2 ?_ | with_reducible refine x_tup0 ?_ | with_reducible refine x_tup1 ?_ | with_reducible refine x_tup2 ?_
  | ((with_reducible apply x_ref); (· walk_at "wg"); (· exact rfl)) | ((with_reducible apply x_lst); (· exact rfl)) | ((with_reducible apply x_tup); (· exact rfl))
  | with_reducible refine x_clients ?_ | with_reducible refine x_rivals ?_ | with_reducible refine x_kinds ?_
  | with_reducible refine rd_a0 ?_ | with_reducible refine rd_a1 ?_ | with_reducible refine rd_a2 ?_ | with_reducible refine rd_a3 ?_ | with_reducible refine rd_a4 ?_ | with_reducible refine rd_l1 ?_ | with_reducible refine rd_l2 ?_ | with_reducible refine rd_l3 ?_ | with_reducible refine rd_l4 ?_ | ((with_reducible apply rd_meth); (· kernel_rfl); (· kernel_rfl))
  | ((with_reducible apply set_ins); (· walk_at "wg"); (· kernel_rfl); (· kernel_rfl); (· exact Nat.lt_of_lt_of_le (Nat.lt_succ_self _) (Nat.le_of_ble_eq_true rfl)); (· walk_at "wu"))
  | ((with_reducible apply r_dct); (· exact Nat.le_of_ble_eq_true rfl); (· first | exact loc_len4 | exact loc_len3 | exact loc_len2 | exact loc_len1 | exact rfl); (· first | exact app4 | exact app3 | exact app2 | exact app1 | exact rfl))
  | ((with_reducible refine r_dctF ?vm_h ?_); case vm_h => first | exact Nat.le_of_ble_eq_true rfl | decide +kernel)
  | with_reducible refine t_cons ?_ | with_reducible refine t_consL ?_ | with_reducible refine t_end ?_
  | ((with_reducible refine t_nm ?vm_h ?_); case vm_h => exact Nat.le_of_ble_eq_true rfl)
  | ((with_reducible refine r_lst ?vm_h ?_); case vm_h => exact Nat.le_of_ble_eq_true rfl)
  | ((with_reducible apply r_ref'); (· exact Nat.le_of_ble_eq_true rfl); (· first | exact own_len3 | exact own_len2 | exact own_len1 | exact own_len00 | exact own_len0 | exact loc_len3 | exact loc_len2 | exact loc_len1 | exact rfl); (· first | exact app3 | exact app2 | exact app1 | exact rfl))
  | ((with_reducible apply ix_lst'); (· walk_at "wg"); (· exact rfl); (· walk_at "wu"))
  | ((with_reducible apply bm_at); (· walk_at "wg"); (· first | exact .inl rfl | exact .inr (.inl rfl) | exact .inr (.inr rfl)))
  | ((with_reducible refine bm_txt ?vm_m ?_); (case vm_m => first | exact .inl rfl | exact .inr rfl))
  | with_reducible refine i_len_lst ?_ | with_reducible refine i_len_tup ?_ | with_reducible refine i_len_scr ?_ | ((with_reducible apply i_len_ref); (· walk_at "wg")) | with_reducible refine i_min ?_ | with_reducible refine i_max ?_
  | with_reducible refine sl_lst ?_ | with_reducible refine sl_tup ?_
  | ((with_reducible apply i_tuple); (· first | exact rfl | exact seq_ref (by walk_at "wg"))) | ((with_reducible apply i_list); (· first | exact rfl | exact seq_ref (by walk_at "wg")))
  | ((with_reducible apply i_isT); (· decide +kernel); (· exact rfl)) | ((with_reducible apply i_len_str); (· assumption)) | with_reducible refine c_letter ?_ | with_reducible refine it_str ?_
  | with_reducible refine ⟨_, rfl, ?_⟩
  | (with_reducible refine ⟨?vm_h, ?_⟩; case vm_h => exact Nat.le_of_ble_eq_true rfl)
  | dsimp only [bodyKt, List.set_cons_zero, List.set_cons_succ]
  | with_reducible refine vit ?_ | with_reducible refine vand_f ?_ | with_reducible refine vor_t ?_ | with_reducible refine vor_f ?_ | with_reducible refine vTrue ?_ | with_reducible refine vFalse ?_ | simp only [Bool.not_true, Bool.not_false]
  | ((with_reducible refine vift ?vm_h ?_); case vm_h => decide) | ((with_reducible refine viff ?vm_h ?_); case vm_h => decide)
  | ((with_reducible refine vor_f' ?vm_h ?_); case vm_h => decide) | ((with_reducible refine vor_t' ?vm_h ?_); case vm_h => decide)
  | rw [pot_set (by assumption)] | rw [List.set_set])
local macro_rules | `(tactic| walk_at "ws") => `(tactic| first
  | with_reducible refine ss_cons ?_ | with_reducible refine ss_consf ?_ | with_reducible refine ss_one ?_ | with_reducible refine ss_nil ?_
  | with_reducible refine s_set' ?_ | with_reducible refine s_par' ?_ | with_reducible refine s_setA2 ?_ | with_reducible refine s_setI' ?_ | with_reducible refine s_exp' ?_ | with_reducible refine s_ret' ?_ | with_reducible refine s_ifs' ?_ | with_reducible refine s_for' ?_ | with_reducible refine s_raise' ?_)
local macro_rules | `(tactic| walk_at "w") => `(tactic| first | walk_at "ws" | walk_at "we" | walk_at "wv")
local macro_rules | `(tactic| walk_at "w*") => `(tactic| repeat walk_at "w")
local macro_rules | `(tactic| walk_at "wstart") => `(tactic| simp only [Vm.start, List.map_cons, List.map_nil, List.length_cons, List.length_nil, Nat.reduceAdd, Nat.reduceSub, List.replicate, List.cons_append, List.nil_append])
section
variable {n B : Nat} {A : Sto} {r : Rd} {st : Sto} {Q EX : QD}
def readL (r : Rd) : List Str → Option Rd
  | [] => some r
  | x :: xs => if (takeW r (wds x)).1 = true then readL (takeW r (wds x)).2 xs else none
theorem putS_len {xs : List (Str × List Str)} {k : Str} {v : List Str} : (putS xs k v).length ≤ xs.length + 1 := by
  unfold putS
  split
  · rw [List.length_map]; omega
  · rw [List.length_append, List.length_singleton]; omega
theorem takeW_ok {ws : List Str} (ok : RdOk B r) (hs : ∀ x ∈ ws, PyData.strOk x = true) (h : (takeW r ws).1 = true) : RdOk (B + 1) (takeW r ws).2 := by
  have up : RdOk (B + 1) r := ⟨ok.c, ok.c2, ok.cn, by have := ok.v; omega, ok.v2, by have := ok.k; omega, ok.k2, by have := ok.l; omega, by have := ok.w; omega⟩
  cases ws with
  | nil => exact up
  | cons w ns =>
    have hn : ∀ y ∈ ns, PyData.strOk y = true := fun y hy => hs y (List.mem_cons_of_mem _ hy)
    revert h
    unfold takeW
    dsimp only
    split
    · split
      · unfold takeClients
        split
        · rename_i h1
          rw [Bool.and_eq_true, Bool.and_eq_true] at h1
          exact fun h2 => { up with c := of_decide_eq_true h1.1.2, c2 := hn, cn := of_decide_eq_true h2 }
        · exact fun _ => up
      · exact fun _ => up
    · split
      · split
        · exact fun _ => { up with l := Nat.le_trans putS_len (by have := ok.l; omega) }
        · exact fun _ => up
      · split
        · split
          · exact fun _ => { up with w := Nat.le_trans putS_len (by have := ok.w; omega) }
          · exact fun _ => up
        · split
          · split
            · unfold takeKind
              split
              · refine fun _ => { up with k := by rw [List.length_append, List.length_singleton]; have := ok.k; omega, k2 := fun x hx => ?_ }
                rcases List.mem_append.mp hx with z | z
                · exact ok.k2 x z
                · rw [List.mem_singleton.mp z]
                  cases ns with
                  | nil => exact (by decide +kernel : PyData.strOk "" = true)
                  | cons s _ => exact hn s (List.mem_cons_self ..)
              · exact fun _ => up
            · exact fun _ => up
          · split
            · unfold takeRivals
              split
              · split
                · refine fun _ => { up with v := by rw [List.length_append, List.length_singleton]; have := ok.v; omega, v2 := fun q hq => ?_ }
                  rcases List.mem_append.mp hq with z | z
                  · exact ok.v2 q z
                  · rw [List.mem_singleton.mp z]
                    exact ⟨hn _ (by simp), hn _ (by simp)⟩
                · exact fun _ => up
              · exact fun _ => up
            · exact fun _ => up
end
end K00

set_option Elab.async false
set_option linter.all false
set_option maxRecDepth 100000
set_option maxHeartbeats 4000000
namespace K00
open Vm PySem PySem.Spec PyProof.Rows L2 TL
local macro_rules | `(tactic| walk_at "wg") => `(tactic| first | assumption | (with_reducible exact own_get0) | (with_reducible exact loc_get0) | exact own_get 1 | exact own_get 2 | exact loc_get 1 | exact loc_get 2 | exact pot_get (by assumption) | exact get_set (by first | assumption | (simp only [List.length_set]; assumption)))
local macro_rules | `(tactic| walk_at "wu") => `(tactic| first | (with_reducible exact own_set0) | (with_reducible exact loc_set0) | exact own_set 1 | exact own_set 2 | exact loc_set 1 | exact loc_set 2 | exact pot_set (by assumption) | exact rfl)
local macro_rules | `(tactic| walk_at "wo") => `(tactic| first | assumption | decide | decide +kernel)
local macro_rules | `(tactic| walk_at "we") => `(tactic| first
  | ((with_reducible apply e_var); (· exact rfl)) | with_reducible refine e_int ?_ | with_reducible refine e_str ?_ | with_reducible refine e_bl ?_ | with_reducible refine e_non ?_ | with_reducible refine e_bty ?_ | ((with_reducible apply e_glo); (· exact rfl))
  | with_reducible refine e_bin ?_ | with_reducible refine e_neg ?_ | with_reducible refine e_cmp ?_ | with_reducible refine e_cmp2 ?_ | with_reducible refine e_isN ?_ | with_reducible refine e_isB ?_ | with_reducible refine e_bop ?_ | with_reducible refine e_not ?_ | with_reducible refine e_ite ?_ | with_reducible refine e_call ?_ | with_reducible refine e_make ?_ | with_reducible refine e_meth ?_ | with_reducible refine e_bi ?_ | with_reducible refine e_bm ?_ | with_reducible refine e_attr ?_ | with_reducible refine e_idx ?_ | with_reducible refine e_slc ?_ | with_reducible refine e_tup ?_ | with_reducible refine e_lst ?_ | with_reducible refine e_dic ?_ | with_reducible refine e_rngl ?_ | with_reducible refine e_comp ?_ | with_reducible refine e_told ?_
  | with_reducible refine es_nil ?_ | with_reducible refine es_cons ?_ | with_reducible refine es_star ?_ | with_reducible refine eo_none ?_ | with_reducible refine eo_some ?_ | with_reducible refine bop_two ?_ | with_reducible refine bop_one ?_ | with_reducible refine sr_rng ?_ | with_reducible refine sr_ex' ?_ | with_reducible refine sr_enu ?_
  | with_reducible refine ifs_cons ?_ | with_reducible refine ifs_nil ?_)
local macro_rules | `(tactic| walk_at "wv") => `(tactic| first
  | ((with_reducible apply told_x); (· kernel_rfl)) | ((with_reducible apply a_value); (· kernel_rfl)) | ((with_reducible apply i_isX (b := true)); (· kernel_rfl)) | ((with_reducible apply i_isX (b := false)); (· kernel_rfl)) | ((with_reducible apply i_isXn); (· kernel_rfl); (· exact rfl))
  | with_reducible refine it_lst ?_ | with_reducible refine it_tup ?_ | ((with_reducible apply it_ref); (· walk_at "wg"))
  | with_reducible refine b_addI ?_ | with_reducible refine b_sub ?_ | ((with_reducible refine b_mod ?vm_h ?_); case vm_h => first | assumption | decide | decide +kernel) | ((with_reducible refine b_fdiv ?vm_h ?_); case vm_h => first | decide | exact ⟨by first | assumption | omega, by first | assumption | omega⟩) | ((with_reducible refine b_mul ?vm_h ?_); case vm_h => first | decide | exact Or.inl ⟨by omega, by omega⟩ | exact Or.inr ⟨by omega, by omega⟩) | ((with_reducible refine b_pow ?vm_h ?_); case vm_h => first | decide | exact pow_small (by decide) (by decide) (by omega) | exact ⟨by decide, by decide +kernel⟩) | with_reducible refine c_lt ?_ | with_reducible refine c_le ?_ | with_reducible refine c_gt ?_ | with_reducible refine c_ge ?_ | with_reducible refine i_int ?_ | with_reducible refine i_intB ?_ | with_reducible refine i_abs ?_
  | with_reducible refine c_eqI' ?_ | with_reducible refine c_neI ?_
  | with_reducible refine c_eqS ?_ | with_reducible refine c_neS ?_ | with_reducible refine c_eqB ?_ | with_reducible refine c_neB ?_
  | with_reducible refine x_lst0 ?_ | with_reducible refine x_lst1 ?_ | with_reducible refine x_lst2 ?_ | with_reducible refine x_tup0 ?_ | with_reducible refine x_tup1 ?_ | with_reducible refine x_tup2 ?_
  | ((with_reducible apply x_ref); (· walk_at "wg"); (· exact rfl)) | ((with_reducible apply x_lst); (· exact rfl)) | ((with_reducible apply x_tup); (· exact rfl))
  | with_reducible refine x_clients ?_ | with_reducible refine x_rivals ?_ | with_reducible refine x_kinds ?_
  | with_reducible refine rd_a0 ?_ | with_reducible refine rd_a1 ?_ | with_reducible refine rd_a2 ?_ | with_reducible refine rd_a3 ?_ | with_reducible refine rd_a4 ?_ | with_reducible refine rd_l1 ?_ | with_reducible refine rd_l2 ?_ | with_reducible refine rd_l3 ?_ | with_reducible refine rd_l4 ?_ | ((with_reducible apply rd_meth); (· kernel_rfl); (· kernel_rfl))
  | ((with_reducible apply set_ins); (· walk_at "wg"); (· kernel_rfl); (· kernel_rfl); (· exact Nat.lt_of_lt_of_le (Nat.lt_succ_self _) (Nat.le_of_ble_eq_true rfl)); (· walk_at "wu"))
  | ((with_reducible apply r_dct); (· exact Nat.le_of_ble_eq_true rfl); (· first | exact loc_len4 | exact loc_len3 | exact loc_len2 | exact loc_len1 | exact rfl); (· first | exact app4 | exact app3 | exact app2 | exact app1 | exact rfl))
  | ((with_reducible refine r_dctF ?vm_h ?_); case vm_h => first | exact Nat.le_of_ble_eq_true rfl | decide +kernel)
  | with_reducible refine t_cons ?_ | with_reducible refine t_consL ?_ | with_reducible refine t_end ?_
  | ((with_reducible refine t_nm ?vm_h ?_); case vm_h => exact Nat.le_of_ble_eq_true rfl)
  | ((with_reducible refine r_lst ?vm_h ?_); case vm_h => exact Nat.le_of_ble_eq_true rfl)
  | ((with_reducible apply r_ref'); (· exact Nat.le_of_ble_eq_true rfl); (· first | exact own_len3 | exact own_len2 | exact own_len1 | exact own_len00 | exact own_len0 | exact loc_len3 | exact loc_len2 | exact loc_len1 | exact rfl); (· first | exact app3 | exact app2 | exact app1 | exact rfl))
  | ((with_reducible apply ix_lst'); (· walk_at "wg"); (· exact rfl); (· walk_at "wu"))
  | ((with_reducible apply bm_at); (· walk_at "wg"); (· first | exact .inl rfl | exact .inr (.inl rfl) | exact .inr (.inr rfl)))
  | ((with_reducible refine bm_txt ?vm_m ?_); (case vm_m => first | exact .inl rfl | exact .inr rfl))
  | with_reducible refine i_len_lst ?_ | with_reducible refine i_len_tup ?_ | with_reducible refine i_len_scr ?_ | ((with_reducible apply i_len_ref); (· walk_at "wg")) | with_reducible refine i_min ?_ | with_reducible refine i_max ?_
  | with_reducible refine sl_lst ?_ | with_reducible refine sl_tup ?_
  | ((with_reducible apply i_tuple); (· first | exact rfl | exact seq_ref (by walk_at "wg"))) | ((with_reducible apply i_list); (· first | exact rfl | exact seq_ref (by walk_at "wg")))
  | ((with_reducible apply i_isT); (· decide +kernel); (· exact rfl)) | ((with_reducible apply i_len_str); (· assumption)) | with_reducible refine c_letter ?_ | with_reducible refine it_str ?_
  | with_reducible refine ⟨_, rfl, ?_⟩
  | (with_reducible refine ⟨?vm_h, ?_⟩; case vm_h => exact Nat.le_of_ble_eq_true rfl)
  | dsimp only [bodyKt, List.set_cons_zero, List.set_cons_succ]
  | with_reducible refine vit ?_ | with_reducible refine vand_f ?_ | with_reducible refine vor_t ?_ | with_reducible refine vor_f ?_ | with_reducible refine vTrue ?_ | with_reducible refine vFalse ?_ | simp only [Bool.not_true, Bool.not_false]
  | ((with_reducible refine vift ?vm_h ?_); case vm_h => decide) | ((with_reducible refine viff ?vm_h ?_); case vm_h => decide)
  | ((with_reducible refine vor_f' ?vm_h ?_); case vm_h => decide) | ((with_reducible refine vor_t' ?vm_h ?_); case vm_h => decide)
  | rw [pot_set (by assumption)] | rw [List.set_set])
local macro_rules | `(tactic| walk_at "ws") => `(tactic| first
  | with_reducible refine ss_cons ?_ | with_reducible refine ss_consf ?_ | with_reducible refine ss_one ?_ | with_reducible refine ss_nil ?_
  | with_reducible refine s_set' ?_ | with_reducible refine s_par' ?_ | with_reducible refine s_setA2 ?_ | with_reducible refine s_setI' ?_ | with_reducible refine s_exp' ?_ | with_reducible refine s_ret' ?_ | with_reducible refine s_ifs' ?_ | with_reducible refine s_for' ?_ | with_reducible refine s_raise' ?_)
local macro_rules | `(tactic| walk_at "w") => `(tactic| first | walk_at "ws" | walk_at "we" | walk_at "wv")
local macro_rules | `(tactic| walk_at "w*") => `(tactic| repeat walk_at "w")
local macro_rules | `(tactic| walk_at "wstart") => `(tactic| simp only [Vm.start, List.map_cons, List.map_nil, List.length_cons, List.length_nil, Nat.reduceAdd, Nat.reduceSub, List.replicate, List.cons_append, List.nil_append])
/-- the rivals of a client, as they come -/
def somes (r : Rd) (c : Str) : List Str := (r.rivals.filter fun q => decide (q.1 = c)).map (·.2) ++ (r.rivals.filter fun q => decide (q.2 = c)).map (·.1)
def rvTo (r : Rd) (cs : List Str) : List (Str × List Str) := cs.map fun c => (c, lotOf r.clients (somes r c))
theorem putS_new {xs : List (Str × List Str)} {k : Str} {v : List Str} (h : k ∉ xs.map (·.1)) : putS xs k v = xs ++ [(k, v)] := by
  unfold putS
  rw [if_neg]
  rw [List.any_eq_true]
  rintro ⟨q, hq, e⟩
  exact h (List.mem_map.mpr ⟨q, hq, of_decide_eq_true e⟩)
def bkF (st : Nat) (x : Str) : List (Str × D) := [("own_text", .str x), ("own_reading", .ref (st + 1)), ("own_rivals", .ref (st + 6))]
section
variable {n B : Nat} {A : Sto} {r : Rd} {st : Sto} {Q EX : QD} {fs : List (Str × D)} {kv : List (Str × List Str)} {T : List O} {Φ : Fn}
theorem kv_lim {m : Nat} : ∀ xs : List (Str × List Str), limK m (kvD xs) = true := fun xs => by
  induction xs with
  | nil => rfl
  | cons x xs ih =>
    show (limL m (x.2.map D.str) && limK m (kvD xs)) = true
    rw [lim_strs, ih]
    rfl
theorem kv_fz {S : Sto} {m : Nat} : ∀ xs : List (Str × List Str), FzK S m (kvD xs) (kvD xs)
  | [] => .nil
  | x :: xs => .cons (.keep lim_strs) (kv_fz xs)
theorem somes_ok (ok : RdOk B r) (c : Str) : (∀ y ∈ somes r c, PyData.strOk y = true) ∧ (somes r c).length ≤ 2 * r.rivals.length := by
  refine ⟨fun y hy => ?_, ?_⟩
  · rcases List.mem_append.mp hy with z | z
    · obtain ⟨q, hq, rfl⟩ := List.mem_map.mp z
      exact (ok.v2 q (List.mem_filter.mp hq).1).2
    · obtain ⟨q, hq, rfl⟩ := List.mem_map.mp z
      exact (ok.v2 q (List.mem_filter.mp hq).1).1
  · unfold somes
    rw [List.length_append, List.length_map, List.length_map]
    have := (List.filter_sublist (l := r.rivals) (p := fun q => decide (q.1 = c))).length_le
    have := (List.filter_sublist (l := r.rivals) (p := fun q => decide (q.2 = c))).length_le
    omega
end
end K00

set_option Elab.async false
set_option linter.all false
set_option maxRecDepth 100000
set_option maxHeartbeats 4000000
namespace K00
open Vm PySem PySem.Spec PyProof.Rows L2 TL
local macro_rules | `(tactic| walk_at "wg") => `(tactic| first | assumption | (with_reducible exact own_get0) | (with_reducible exact loc_get0) | exact own_get 1 | exact own_get 2 | exact loc_get 1 | exact loc_get 2 | exact pot_get (by assumption) | exact get_set (by first | assumption | (simp only [List.length_set]; assumption)))
local macro_rules | `(tactic| walk_at "wu") => `(tactic| first | (with_reducible exact own_set0) | (with_reducible exact loc_set0) | exact own_set 1 | exact own_set 2 | exact loc_set 1 | exact loc_set 2 | exact pot_set (by assumption) | exact rfl)
local macro_rules | `(tactic| walk_at "wo") => `(tactic| first | assumption | decide | decide +kernel)
local macro_rules | `(tactic| walk_at "we") => `(tactic| first
  | ((with_reducible apply e_var); (· exact rfl)) | with_reducible refine e_int ?_ | with_reducible refine e_str ?_ | with_reducible refine e_bl ?_ | with_reducible refine e_non ?_ | with_reducible refine e_bty ?_ | ((with_reducible apply e_glo); (· exact rfl))
  | with_reducible refine e_bin ?_ | with_reducible refine e_neg ?_ | with_reducible refine e_cmp ?_ | with_reducible refine e_cmp2 ?_ | with_reducible refine e_isN ?_ | with_reducible refine e_isB ?_ | with_reducible refine e_bop ?_ | with_reducible refine e_not ?_ | with_reducible refine e_ite ?_ | with_reducible refine e_call ?_ | with_reducible refine e_make ?_ | with_reducible refine e_meth ?_ | with_reducible refine e_bi ?_ | with_reducible refine e_bm ?_ | with_reducible refine e_attr ?_ | with_reducible refine e_idx ?_ | with_reducible refine e_slc ?_ | with_reducible refine e_tup ?_ | with_reducible refine e_lst ?_ | with_reducible refine e_dic ?_ | with_reducible refine e_rngl ?_ | with_reducible refine e_comp ?_ | with_reducible refine e_told ?_
  | with_reducible refine es_nil ?_ | with_reducible refine es_cons ?_ | with_reducible refine es_star ?_ | with_reducible refine eo_none ?_ | with_reducible refine eo_some ?_ | with_reducible refine bop_two ?_ | with_reducible refine bop_one ?_ | with_reducible refine sr_rng ?_ | with_reducible refine sr_ex' ?_ | with_reducible refine sr_enu ?_
  | with_reducible refine ifs_cons ?_ | with_reducible refine ifs_nil ?_)
local macro_rules | `(tactic| walk_at "wv") => `(tactic| first
  | ((with_reducible apply told_x); (· kernel_rfl)) | ((with_reducible apply a_value); (· kernel_rfl)) | ((with_reducible apply i_isX (b := true)); (· kernel_rfl)) | ((with_reducible apply i_isX (b := false)); (· kernel_rfl)) | ((with_reducible apply i_isXn); (· kernel_rfl); (· exact rfl))
  | with_reducible refine it_lst ?_ | with_reducible refine it_tup ?_ | ((with_reducible apply it_ref); (· walk_at "wg"))
  | with_reducible refine b_addI ?_ | with_reducible refine b_sub ?_ | ((with_reducible refine b_mod ?vm_h ?_); case vm_h => first | assumption | decide | decide +kernel) | ((with_reducible refine b_fdiv ?vm_h ?_); case vm_h => first | decide | exact ⟨by first | assumption | omega, by first | assumption | omega⟩) | ((with_reducible refine b_mul ?vm_h ?_); case vm_h => first | decide | exact Or.inl ⟨by omega, by omega⟩ | exact Or.inr ⟨by omega, by omega⟩) | ((with_reducible refine b_pow ?vm_h ?_); case vm_h => first | decide | exact pow_small (by decide) (by decide) (by omega) | exact ⟨by decide, by decide +kernel⟩) | with_reducible refine c_lt ?_ | with_reducible refine c_le ?_ | with_reducible refine c_gt ?_ | with_reducible refine c_ge ?_ | with_reducible refine i_int ?_ | with_reducible refine i_intB ?_ | with_reducible refine i_abs ?_
  | with_reducible refine c_eqI' ?_ | with_reducible refine c_neI ?_
  | with_reducible refine c_eqS ?_ | with_reducible refine c_neS ?_ | with_reducible refine c_eqB ?_ | with_reducible refine c_neB ?_
  | with_reducible refine x_lst0 ?_ | with_reducible refine x_lst1 ?_ | with_reducible refine x_lst2 ?_ | with_reducible refine x_tup0 ?_ | with_reducible refine x_tup1 ?_ | with_reducible refine x_tup2 ?_
  | ((with_reducible apply x_ref); (· walk_at "wg"); (· exact rfl)) | ((with_reducible apply x_lst); (· exact rfl)) | ((with_reducible apply x_tup); (· exact rfl))
  | with_reducible refine x_clients ?_ | with_reducible refine x_rivals ?_ | with_reducible refine x_kinds ?_
  | with_reducible refine rd_a0 ?_ | with_reducible refine rd_a1 ?_ | with_reducible refine rd_a2 ?_ | with_reducible refine rd_a3 ?_ | with_reducible refine rd_a4 ?_ | with_reducible refine rd_l1 ?_ | with_reducible refine rd_l2 ?_ | with_reducible refine rd_l3 ?_ | with_reducible refine rd_l4 ?_ | ((with_reducible apply rd_meth); (· kernel_rfl); (· kernel_rfl))
  | ((with_reducible apply set_ins); (· walk_at "wg"); (· kernel_rfl); (· kernel_rfl); (· exact Nat.lt_of_lt_of_le (Nat.lt_succ_self _) (Nat.le_of_ble_eq_true rfl)); (· walk_at "wu"))
  | ((with_reducible apply r_dct); (· exact Nat.le_of_ble_eq_true rfl); (· first | exact loc_len4 | exact loc_len3 | exact loc_len2 | exact loc_len1 | exact rfl); (· first | exact app4 | exact app3 | exact app2 | exact app1 | exact rfl))
  | ((with_reducible refine r_dctF ?vm_h ?_); case vm_h => first | exact Nat.le_of_ble_eq_true rfl | decide +kernel)
  | with_reducible refine t_cons ?_ | with_reducible refine t_consL ?_ | with_reducible refine t_end ?_
  | ((with_reducible refine t_nm ?vm_h ?_); case vm_h => exact Nat.le_of_ble_eq_true rfl)
  | ((with_reducible refine r_lst ?vm_h ?_); case vm_h => exact Nat.le_of_ble_eq_true rfl)
  | ((with_reducible apply r_ref'); (· exact Nat.le_of_ble_eq_true rfl); (· first | exact own_len3 | exact own_len2 | exact own_len1 | exact own_len00 | exact own_len0 | exact loc_len3 | exact loc_len2 | exact loc_len1 | exact rfl); (· first | exact app3 | exact app2 | exact app1 | exact rfl))
  | ((with_reducible apply ix_lst'); (· walk_at "wg"); (· exact rfl); (· walk_at "wu"))
  | ((with_reducible apply bm_at); (· walk_at "wg"); (· first | exact .inl rfl | exact .inr (.inl rfl) | exact .inr (.inr rfl)))
  | ((with_reducible refine bm_txt ?vm_m ?_); (case vm_m => first | exact .inl rfl | exact .inr rfl))
  | with_reducible refine i_len_lst ?_ | with_reducible refine i_len_tup ?_ | with_reducible refine i_len_scr ?_ | ((with_reducible apply i_len_ref); (· walk_at "wg")) | with_reducible refine i_min ?_ | with_reducible refine i_max ?_
  | with_reducible refine sl_lst ?_ | with_reducible refine sl_tup ?_
  | ((with_reducible apply i_tuple); (· first | exact rfl | exact seq_ref (by walk_at "wg"))) | ((with_reducible apply i_list); (· first | exact rfl | exact seq_ref (by walk_at "wg")))
  | ((with_reducible apply i_isT); (· decide +kernel); (· exact rfl)) | ((with_reducible apply i_len_str); (· assumption)) | with_reducible refine c_letter ?_ | with_reducible refine it_str ?_
  | with_reducible refine ⟨_, rfl, ?_⟩
  | (with_reducible refine ⟨?vm_h, ?_⟩; case vm_h => exact Nat.le_of_ble_eq_true rfl)
  | dsimp only [bodyKt, List.set_cons_zero, List.set_cons_succ]
  | with_reducible refine vit ?_ | with_reducible refine vand_f ?_ | with_reducible refine vor_t ?_ | with_reducible refine vor_f ?_ | with_reducible refine vTrue ?_ | with_reducible refine vFalse ?_ | simp only [Bool.not_true, Bool.not_false]
  | ((with_reducible refine vift ?vm_h ?_); case vm_h => decide) | ((with_reducible refine viff ?vm_h ?_); case vm_h => decide)
  | ((with_reducible refine vor_f' ?vm_h ?_); case vm_h => decide) | ((with_reducible refine vor_t' ?vm_h ?_); case vm_h => decide)
  | rw [pot_set (by assumption)] | rw [List.set_set])
local macro_rules | `(tactic| walk_at "ws") => `(tactic| first
  | with_reducible refine ss_cons ?_ | with_reducible refine ss_consf ?_ | with_reducible refine ss_one ?_ | with_reducible refine ss_nil ?_
  | with_reducible refine s_set' ?_ | with_reducible refine s_par' ?_ | with_reducible refine s_setA2 ?_ | with_reducible refine s_setI' ?_ | with_reducible refine s_exp' ?_ | with_reducible refine s_ret' ?_ | with_reducible refine s_ifs' ?_ | with_reducible refine s_for' ?_ | with_reducible refine s_raise' ?_)
local macro_rules | `(tactic| walk_at "w") => `(tactic| first | walk_at "ws" | walk_at "we" | walk_at "wv")
local macro_rules | `(tactic| walk_at "w*") => `(tactic| repeat walk_at "w")
local macro_rules | `(tactic| walk_at "wstart") => `(tactic| simp only [Vm.start, List.map_cons, List.map_nil, List.length_cons, List.length_nil, Nat.reduceAdd, Nat.reduceSub, List.replicate, List.cons_append, List.nil_append])
theorem lotOf_sub : ∀ {cs ns : List Str}, ns.Sublist cs → cs.Nodup → lotOf cs ns = ns := by
  intro cs ns h
  induction h with
  | slnil => exact fun _ => rfl
  | @cons ns l a h ih =>
    intro nd
    obtain ⟨n1, n2⟩ := List.nodup_cons.mp nd
    unfold lotOf
    rw [List.filter_cons_of_neg (by simpa using fun z => n1 (h.subset z))]
    exact ih n2
  | @cons_cons ns l a h ih =>
    intro nd
    obtain ⟨n1, n2⟩ := List.nodup_cons.mp nd
    unfold lotOf
    rw [List.filter_cons_of_pos (by simp)]
    congr 1
    rw [← ih n2]
    unfold lotOf
    refine List.filter_congr fun x hx => ?_
    have hne : x ≠ a := fun e => n1 (e ▸ hx)
    simp only [List.mem_cons, hne, false_or]
    rw [show List.filter (fun c => decide (c ∈ ns)) l = ns from ih n2]
/-- what the text of a book tells -/
def rdOf (l : Lore) : Rd := { clients := l.clients, rivals := l.rivals, kinds := l.kinds.map (·.1), looks := l.kinds.map fun r => (r.1, r.2.1), writes := l.kinds.map fun r => (r.1, r.2.2) }
theorem readL_app : ∀ {xs ys : List Str} {r r2 : Rd}, readL r xs = some r2 → readL r (xs ++ ys) = readL r2 ys
  | [], ys, r, r2, h => by cases h; rfl
  | x :: xs, ys, r, r2, h => by
    unfold readL at h
    show (if (takeW r (wds x)).1 = true then readL (takeW r (wds x)).2 (xs ++ ys) else none) = _
    split at h
    · rename_i e
      rw [if_pos e]
      exact readL_app h
    · cases h
theorem readL_one {r r2 : Rd} {ws : List Str} (hne : ws ≠ []) (hn : ∀ w ∈ ws, Nm w = true) (h : takeW r ws = (true, r2)) : readL r [ln ws] = some r2 := by
  have e : wds (ln ws) = ws := ln_split hne hn
  unfold readL
  rw [e, h]
  rfl
theorem rivals_read {l : Lore} (h : LoreOk l) : ∀ (ys xs : List (Str × Str)), l.rivals = xs ++ ys → readL { clients := l.clients, rivals := xs } (ys.map fun q => ln [(PySem.Str.ofString "rivals"), q.1, q.2]) = some { clients := l.clients, rivals := l.rivals }
  | [], xs, e => by rw [e, List.append_nil]; rfl
  | q :: ys, xs, e => by
    have hq : q ∈ l.rivals := by rw [e]; simp
    have r1 := h.r1 q hq
    have r2 := h.r2
    rw [e] at r2
    have far : ∀ a ∈ xs, a ≠ q ∧ (a.2, a.1) ≠ q := fun a ha => (List.pairwise_append.mp r2).2.2 a ha q (List.mem_cons_self ..)
    have nm : ∀ w ∈ [(PySem.Str.ofString "rivals"), q.1, q.2], Nm w = true := fun w hw => by
      simp only [List.mem_cons, List.not_mem_nil, or_false] at hw
      rcases hw with rfl | rfl | rfl
      · decide +kernel
      · exact h.c4 _ r1.1
      · exact h.c4 _ r1.2.1
    have hc : l.clients ≠ [] := fun z => by have := h.c1; rw [z] at this; exact absurd this (by decide)
    have n1 : (q.1, q.2) ∉ xs := fun z => (far _ z).1 rfl
    have n2 : (q.2, q.1) ∉ xs := fun z => (far _ z).2 rfl
    have ht : takeW { clients := l.clients, rivals := xs } [(PySem.Str.ofString "rivals"), q.1, q.2] = (true, { clients := l.clients, rivals := xs ++ [q] }) := by
      unfold takeW
      dsimp only
      rw [if_neg hc, if_neg (by decide), if_neg (by decide), if_neg (by simp), if_pos rfl]
      unfold takeRivals
      dsimp only
      rw [if_pos (by simp [r1.1, r1.2.1, r1.2.2, n1, n2])]
    rw [List.map_cons]
    refine (readL_app (xs := [ln [(PySem.Str.ofString "rivals"), q.1, q.2]]) (readL_one (by simp) nm ht)).trans ?_
    exact rivals_read h ys (xs ++ [q]) (by rw [e]; simp)
theorem takeKind_yes {r : Rd} {k : Str} (h : Nm k = true) (hn : k ∉ r.kinds) (hl : r.kinds.length + 1 ≤ 4) : takeKind r k = (true, { r with kinds := r.kinds ++ [k] }) := by
  unfold takeKind
  rw [if_pos (by rw [h, decide_eq_false hn]; rfl), decide_eq_true hl]
theorem kinds_read {l : Lore} (h : LoreOk l) : ∀ (ys xs : List (Str × List Str × List Str)), l.kinds = xs ++ ys →
    readL { clients := l.clients, rivals := l.rivals, kinds := xs.map (·.1), looks := xs.map fun r => (r.1, r.2.1), writes := xs.map fun r => (r.1, r.2.2) } ((ys.flatMap fun r => [[(PySem.Str.ofString "kind"), r.1], (PySem.Str.ofString "looks") :: r.2.1, (PySem.Str.ofString "writes") :: r.2.2]).map ln) = some (rdOf l)
  | [], xs, e => by
    rw [List.append_nil] at e
    unfold rdOf
    rw [e]
    rfl
  | r :: ys, xs, e => by
    have hr : r ∈ l.kinds := by rw [e]; simp
    have k4 := h.k4 r hr
    have sb := h.sub hr
    have hc : l.clients ≠ [] := fun z => by have := h.c1; rw [z] at this; exact absurd this (by decide)
    have k3 := h.k3
    rw [e, List.map_append, List.map_cons] at k3
    have hnew : r.1 ∉ xs.map (·.1) := fun z => (List.nodup_append.mp k3).2.2 _ z _ (List.mem_cons_self ..) rfl
    have hlen : xs.length + 1 ≤ 4 := by
      have := h.k2
      rw [e, List.length_append, List.length_cons] at this
      omega
    have wnm : ∀ w : Str, (w = PySem.Str.ofString "kind" ∨ w = PySem.Str.ofString "looks" ∨ w = PySem.Str.ofString "writes") → Nm w = true := fun w hw => by
      rcases hw with rfl | rfl | rfl <;> decide +kernel
    have t1 : takeW { clients := l.clients, rivals := l.rivals, kinds := xs.map (·.1), looks := xs.map fun r => (r.1, r.2.1), writes := xs.map fun r => (r.1, r.2.2) } [(PySem.Str.ofString "kind"), r.1] = (true, { clients := l.clients, rivals := l.rivals, kinds := xs.map (·.1) ++ [r.1], looks := xs.map fun r => (r.1, r.2.1), writes := xs.map fun r => (r.1, r.2.2) }) := by
      unfold takeW
      dsimp only
      rw [if_neg hc, if_neg (by simp), if_neg (by simp), if_pos (show [r.1].length = 1 from rfl), if_pos rfl]
      exact takeKind_yes k4.1 hnew (by rw [List.length_map]; exact hlen)
    have t2 : takeW { clients := l.clients, rivals := l.rivals, kinds := xs.map (·.1) ++ [r.1], looks := xs.map fun r => (r.1, r.2.1), writes := xs.map fun r => (r.1, r.2.2) } ((PySem.Str.ofString "looks") :: r.2.1) = (true, { clients := l.clients, rivals := l.rivals, kinds := xs.map (·.1) ++ [r.1], looks := (xs.map fun r => (r.1, r.2.1)) ++ [(r.1, r.2.1)], writes := xs.map fun r => (r.1, r.2.2) }) := by
      unfold takeW
      dsimp only
      rw [if_neg hc, if_pos (by simp), if_pos rfl]
      unfold takeLot
      dsimp only
      rw [lotOf_sub k4.2.1 h.c3, show (xs.map (·.1) ++ [r.1]).getLastD "" = r.1 from by simp, putS_new (by rw [List.map_map]; exact hnew), decide_eq_true rfl]
    have t3 : takeW { clients := l.clients, rivals := l.rivals, kinds := xs.map (·.1) ++ [r.1], looks := (xs.map fun r => (r.1, r.2.1)) ++ [(r.1, r.2.1)], writes := xs.map fun r => (r.1, r.2.2) } ((PySem.Str.ofString "writes") :: r.2.2) = (true, { clients := l.clients, rivals := l.rivals, kinds := xs.map (·.1) ++ [r.1], looks := (xs.map fun r => (r.1, r.2.1)) ++ [(r.1, r.2.1)], writes := (xs.map fun r => (r.1, r.2.2)) ++ [(r.1, r.2.2)] }) := by
      unfold takeW
      dsimp only
      rw [if_neg hc, if_neg (by simp), if_pos (by simp), if_pos rfl]
      unfold takeLot
      dsimp only
      rw [lotOf_sub k4.2.2 h.c3, show (xs.map (·.1) ++ [r.1]).getLastD "" = r.1 from by simp, putS_new (by rw [List.map_map]; exact hnew), decide_eq_true rfl]
    have e2 : ((r :: ys).flatMap fun r => [[(PySem.Str.ofString "kind"), r.1], (PySem.Str.ofString "looks") :: r.2.1, (PySem.Str.ofString "writes") :: r.2.2]).map ln = [ln [(PySem.Str.ofString "kind"), r.1]] ++ ([ln ((PySem.Str.ofString "looks") :: r.2.1)] ++ ([ln ((PySem.Str.ofString "writes") :: r.2.2)] ++ (ys.flatMap fun r => [[(PySem.Str.ofString "kind"), r.1], (PySem.Str.ofString "looks") :: r.2.1, (PySem.Str.ofString "writes") :: r.2.2]).map ln)) := by
      rw [List.flatMap_cons, List.map_append]
      rfl
    rw [e2]
    refine (readL_app (readL_one (by simp) (fun w hw => ?_) t1)).trans ((readL_app (readL_one (by simp) (fun w hw => ?_) t2)).trans ((readL_app (readL_one (by simp) (fun w hw => ?_) t3)).trans ?_))
    · simp only [List.mem_cons, List.not_mem_nil, or_false] at hw
      rcases hw with rfl | rfl
      · exact wnm _ (.inl rfl)
      · exact k4.1
    · rcases List.mem_cons.mp hw with rfl | hw
      · exact wnm _ (.inr (.inl rfl))
      · exact sb.1 w hw
    · rcases List.mem_cons.mp hw with rfl | hw
      · exact wnm _ (.inr (.inr rfl))
      · exact sb.2 w hw
    · have := kinds_read h ys (xs ++ [r]) (by rw [e]; simp)
      rw [List.map_append, List.map_append, List.map_append] at this
      exact this
theorem lore_read {l : Lore} (h : LoreOk l) : readL {} (lines l) = some (rdOf l) := by
  have hcn : ∀ w ∈ (PySem.Str.ofString "clients") :: l.clients, Nm w = true := fun w hw => by
    rcases List.mem_cons.mp hw with rfl | hw
    · decide +kernel
    · exact h.c4 w hw
  have t0 : takeW {} ((PySem.Str.ofString "clients") :: l.clients) = (true, { clients := l.clients }) := by
    unfold takeW
    dsimp only
    rw [if_pos rfl, if_pos rfl]
    unfold takeClients
    have hall : l.clients.all Nm = true := List.all_eq_true.mpr h.c4
    rw [hall, decide_eq_true h.c1, decide_eq_true h.c2, decide_eq_true h.c3]
    rfl
  have e : lines l = [ln ((PySem.Str.ofString "clients") :: l.clients)] ++ ((l.rivals.map fun q => ln [(PySem.Str.ofString "rivals"), q.1, q.2]) ++ (l.kinds.flatMap fun r => [[(PySem.Str.ofString "kind"), r.1], (PySem.Str.ofString "looks") :: r.2.1, (PySem.Str.ofString "writes") :: r.2.2]).map ln) := by
    unfold lines words
    rw [List.map_append, List.map_cons, List.map_map]
    rfl
  rw [e]
  exact (readL_app (readL_one (by simp) hcn t0)).trans ((readL_app (rivals_read h l.rivals [] rfl)).trans (kinds_read h l.kinds [] rfl))
section
variable {n B : Nat} {l : Lore} {st : Sto} {Q EX : QD}
end
end K00

set_option Elab.async false
set_option linter.all false
set_option maxRecDepth 100000
set_option maxHeartbeats 4000000
namespace K00
open Vm PySem PySem.Spec PyProof.Rows L2 TL
local macro_rules | `(tactic| walk_at "wg") => `(tactic| first | assumption | (with_reducible exact own_get0) | (with_reducible exact loc_get0) | exact own_get 1 | exact own_get 2 | exact loc_get 1 | exact loc_get 2 | exact pot_get (by assumption) | exact get_set (by first | assumption | (simp only [List.length_set]; assumption)))
local macro_rules | `(tactic| walk_at "wu") => `(tactic| first | (with_reducible exact own_set0) | (with_reducible exact loc_set0) | exact own_set 1 | exact own_set 2 | exact loc_set 1 | exact loc_set 2 | exact pot_set (by assumption) | exact rfl)
local macro_rules | `(tactic| walk_at "wo") => `(tactic| first | assumption | decide | decide +kernel)
local macro_rules | `(tactic| walk_at "we") => `(tactic| first
  | ((with_reducible apply e_var); (· exact rfl)) | with_reducible refine e_int ?_ | with_reducible refine e_str ?_ | with_reducible refine e_bl ?_ | with_reducible refine e_non ?_ | with_reducible refine e_bty ?_ | ((with_reducible apply e_glo); (· exact rfl))
  | with_reducible refine e_bin ?_ | with_reducible refine e_neg ?_ | with_reducible refine e_cmp ?_ | with_reducible refine e_cmp2 ?_ | with_reducible refine e_isN ?_ | with_reducible refine e_isB ?_ | with_reducible refine e_bop ?_ | with_reducible refine e_not ?_ | with_reducible refine e_ite ?_ | with_reducible refine e_call ?_ | with_reducible refine e_make ?_ | with_reducible refine e_meth ?_ | with_reducible refine e_bi ?_ | with_reducible refine e_bm ?_ | with_reducible refine e_attr ?_ | with_reducible refine e_idx ?_ | with_reducible refine e_slc ?_ | with_reducible refine e_tup ?_ | with_reducible refine e_lst ?_ | with_reducible refine e_dic ?_ | with_reducible refine e_rngl ?_ | with_reducible refine e_comp ?_ | with_reducible refine e_told ?_
  | with_reducible refine es_nil ?_ | with_reducible refine es_cons ?_ | with_reducible refine es_star ?_ | with_reducible refine eo_none ?_ | with_reducible refine eo_some ?_ | with_reducible refine bop_two ?_ | with_reducible refine bop_one ?_ | with_reducible refine sr_rng ?_ | with_reducible refine sr_ex' ?_ | with_reducible refine sr_enu ?_
  | with_reducible refine ifs_cons ?_ | with_reducible refine ifs_nil ?_)
local macro_rules | `(tactic| walk_at "wv") => `(tactic| first
  | ((with_reducible apply told_x); (· kernel_rfl)) | ((with_reducible apply a_value); (· kernel_rfl)) | ((with_reducible apply i_isX (b := true)); (· kernel_rfl)) | ((with_reducible apply i_isX (b := false)); (· kernel_rfl)) | ((with_reducible apply i_isXn); (· kernel_rfl); (· exact rfl))
  | with_reducible refine it_lst ?_ | with_reducible refine it_tup ?_ | ((with_reducible apply it_ref); (· walk_at "wg"))
  | with_reducible refine b_addI ?_ | with_reducible refine b_sub ?_ | ((with_reducible refine b_mod ?vm_h ?_); case vm_h => first | assumption | decide | decide +kernel) | ((with_reducible refine b_fdiv ?vm_h ?_); case vm_h => first | decide | exact ⟨by first | assumption | omega, by first | assumption | omega⟩) | ((with_reducible refine b_mul ?vm_h ?_); case vm_h => first | decide | exact Or.inl ⟨by omega, by omega⟩ | exact Or.inr ⟨by omega, by omega⟩) | ((with_reducible refine b_pow ?vm_h ?_); case vm_h => first | decide | exact pow_small (by decide) (by decide) (by omega) | exact ⟨by decide, by decide +kernel⟩) | with_reducible refine c_lt ?_ | with_reducible refine c_le ?_ | with_reducible refine c_gt ?_ | with_reducible refine c_ge ?_ | with_reducible refine i_int ?_ | with_reducible refine i_intB ?_ | with_reducible refine i_abs ?_
  | with_reducible refine c_eqI' ?_ | with_reducible refine c_neI ?_
  | with_reducible refine c_eqS ?_ | with_reducible refine c_neS ?_ | with_reducible refine c_eqB ?_ | with_reducible refine c_neB ?_
  | with_reducible refine x_lst0 ?_ | with_reducible refine x_lst1 ?_ | with_reducible refine x_lst2 ?_ | with_reducible refine x_tup0 ?_ | with_reducible refine x_tup1 ?_ | with_reducible refine x_tup2 ?_
  | ((with_reducible apply x_ref); (· walk_at "wg"); (· exact rfl)) | ((with_reducible apply x_lst); (· exact rfl)) | ((with_reducible apply x_tup); (· exact rfl))
  | with_reducible refine x_clients ?_ | with_reducible refine x_rivals ?_ | with_reducible refine x_kinds ?_
  | with_reducible refine rd_a0 ?_ | with_reducible refine rd_a1 ?_ | with_reducible refine rd_a2 ?_ | with_reducible refine rd_a3 ?_ | with_reducible refine rd_a4 ?_ | with_reducible refine rd_l1 ?_ | with_reducible refine rd_l2 ?_ | with_reducible refine rd_l3 ?_ | with_reducible refine rd_l4 ?_ | ((with_reducible apply rd_meth); (· kernel_rfl); (· kernel_rfl))
  | ((with_reducible apply set_ins); (· walk_at "wg"); (· kernel_rfl); (· kernel_rfl); (· exact Nat.lt_of_lt_of_le (Nat.lt_succ_self _) (Nat.le_of_ble_eq_true rfl)); (· walk_at "wu"))
  | ((with_reducible apply r_dct); (· exact Nat.le_of_ble_eq_true rfl); (· first | exact loc_len4 | exact loc_len3 | exact loc_len2 | exact loc_len1 | exact rfl); (· first | exact app4 | exact app3 | exact app2 | exact app1 | exact rfl))
  | ((with_reducible refine r_dctF ?vm_h ?_); case vm_h => first | exact Nat.le_of_ble_eq_true rfl | decide +kernel)
  | with_reducible refine t_cons ?_ | with_reducible refine t_consL ?_ | with_reducible refine t_end ?_
  | ((with_reducible refine t_nm ?vm_h ?_); case vm_h => exact Nat.le_of_ble_eq_true rfl)
  | ((with_reducible refine r_lst ?vm_h ?_); case vm_h => exact Nat.le_of_ble_eq_true rfl)
  | ((with_reducible apply r_ref'); (· exact Nat.le_of_ble_eq_true rfl); (· first | exact own_len3 | exact own_len2 | exact own_len1 | exact own_len00 | exact own_len0 | exact loc_len3 | exact loc_len2 | exact loc_len1 | exact rfl); (· first | exact app3 | exact app2 | exact app1 | exact rfl))
  | ((with_reducible apply ix_lst'); (· walk_at "wg"); (· exact rfl); (· walk_at "wu"))
  | ((with_reducible apply bm_at); (· walk_at "wg"); (· first | exact .inl rfl | exact .inr (.inl rfl) | exact .inr (.inr rfl)))
  | ((with_reducible refine bm_txt ?vm_m ?_); (case vm_m => first | exact .inl rfl | exact .inr rfl))
  | with_reducible refine i_len_lst ?_ | with_reducible refine i_len_tup ?_ | with_reducible refine i_len_scr ?_ | ((with_reducible apply i_len_ref); (· walk_at "wg")) | with_reducible refine i_min ?_ | with_reducible refine i_max ?_
  | with_reducible refine sl_lst ?_ | with_reducible refine sl_tup ?_
  | ((with_reducible apply i_tuple); (· first | exact rfl | exact seq_ref (by walk_at "wg"))) | ((with_reducible apply i_list); (· first | exact rfl | exact seq_ref (by walk_at "wg")))
  | ((with_reducible apply i_isT); (· decide +kernel); (· exact rfl)) | ((with_reducible apply i_len_str); (· assumption)) | with_reducible refine c_letter ?_ | with_reducible refine it_str ?_
  | with_reducible refine ⟨_, rfl, ?_⟩
  | (with_reducible refine ⟨?vm_h, ?_⟩; case vm_h => exact Nat.le_of_ble_eq_true rfl)
  | dsimp only [bodyKt, List.set_cons_zero, List.set_cons_succ]
  | with_reducible refine vit ?_ | with_reducible refine vand_f ?_ | with_reducible refine vor_t ?_ | with_reducible refine vor_f ?_ | with_reducible refine vTrue ?_ | with_reducible refine vFalse ?_ | simp only [Bool.not_true, Bool.not_false]
  | ((with_reducible refine vift ?vm_h ?_); case vm_h => decide) | ((with_reducible refine viff ?vm_h ?_); case vm_h => decide)
  | ((with_reducible refine vor_f' ?vm_h ?_); case vm_h => decide) | ((with_reducible refine vor_t' ?vm_h ?_); case vm_h => decide)
  | rw [pot_set (by assumption)] | rw [List.set_set])
local macro_rules | `(tactic| walk_at "ws") => `(tactic| first
  | with_reducible refine ss_cons ?_ | with_reducible refine ss_consf ?_ | with_reducible refine ss_one ?_ | with_reducible refine ss_nil ?_
  | with_reducible refine s_set' ?_ | with_reducible refine s_par' ?_ | with_reducible refine s_setA2 ?_ | with_reducible refine s_setI' ?_ | with_reducible refine s_exp' ?_ | with_reducible refine s_ret' ?_ | with_reducible refine s_ifs' ?_ | with_reducible refine s_for' ?_ | with_reducible refine s_raise' ?_)
local macro_rules | `(tactic| walk_at "w") => `(tactic| first | walk_at "ws" | walk_at "we" | walk_at "wv")
local macro_rules | `(tactic| walk_at "w*") => `(tactic| repeat walk_at "w")
local macro_rules | `(tactic| walk_at "wstart") => `(tactic| simp only [Vm.start, List.map_cons, List.map_nil, List.length_cons, List.length_nil, Nat.reduceAdd, Nat.reduceSub, List.replicate, List.cons_append, List.nil_append])
/-- pairs, ascending -/
def srt (xs : List (Str × Str)) : List (Str × Str) := (sortD (xs.map fun q => pairOf q.1 q.2)).map unP
theorem sort_perm (xs : List D) : (sortD xs).Perm xs := List.mergeSort_perm _ _
theorem srt_eq (xs : List (Str × Str)) : sortD (xs.map fun q => pairOf q.1 q.2) = (srt xs).map fun q => pairOf q.1 q.2 := by
  obtain ⟨l, _, e⟩ := perm_pairs (sort_perm (xs.map fun q => pairOf q.1 q.2))
  unfold srt
  have h2 : (l.map fun q => pairOf q.1 q.2).map unP = l := by
    rw [List.map_map]
    have : (l.map (unP ∘ fun q => pairOf q.1 q.2)) = l.map id := List.map_congr_left fun _ _ => rfl
    rw [this, List.map_id]
  rw [e]
  exact congrArg (List.map _) h2.symm
theorem srt_perm (xs : List (Str × Str)) : (srt xs).Perm xs := by
  have h := (sort_perm (xs.map fun q => pairOf q.1 q.2)).map unP
  rw [List.map_map] at h
  have : (xs.map (unP ∘ fun q => pairOf q.1 q.2)) = xs.map id := List.map_congr_left fun _ _ => rfl
  rw [this, List.map_id] at h
  exact h
theorem dataL_pairs : ∀ xs : List (Str × Str), dataL (xs.map fun q => pairOf q.1 q.2) = some (xs.map fun q => PyData.tuple [.str q.1, .str q.2])
  | [] => rfl
  | q :: xs => by
    show ((pairOf q.1 q.2).data).bind (fun d => (dataL (xs.map fun q => pairOf q.1 q.2)).map fun ds => d :: ds) = _
    rw [dataL_pairs xs]
    rfl
theorem i_sortedP {Φ : Fn} {C : Vm.Ctx} {st : Sto} {x : D} {xs : List (Str × Str)} {Q EX : QD} (hx : isLst st x = true) (hs : seqOf st x = some (xs.map fun q => pairOf q.1 q.2)) (hl : xs.length ≤ sizeLine) (q : Q (.lst ((srt xs).map fun q => pairOf q.1 q.2)) st) : wBi Φ C .sorted false [x] st Q EX := by
  refine ⟨x, rfl, _, _, hx, hs, dataL_pairs xs, ?_, ?_, ?_, ?_, ?_⟩
  · intro d hd d' hd'
    obtain ⟨a, _, rfl⟩ := List.mem_map.mp hd
    obtain ⟨b, _, rfl⟩ := List.mem_map.mp hd'
    simp [PySem.W.alike, PySem.W.alikeAll]
  · refine .inl fun d hd => ?_
    obtain ⟨a, _, rfl⟩ := List.mem_map.mp hd
    exact ⟨_, _, rfl⟩
  · intro d hd
    obtain ⟨a, _, rfl⟩ := List.mem_map.mp hd
    simp [PyData.depth, PyData.depthAll]
  · rw [srt_eq, List.length_map, (srt_perm xs).length_eq]
    exact hl
  · rw [srt_eq]
    exact q
/-- are two rivals -/
def rvl (l : Lore) (a b : Str) : Bool := decide ((a, b) ∈ l.rivals ∨ (b, a) ∈ l.rivals)
theorem mem_somes {l : Lore} {a b : Str} : b ∈ somes (rdOf l) a ↔ rvl l a b = true := by
  unfold somes rvl
  rw [List.mem_append, List.mem_map, List.mem_map, decide_eq_true_iff]
  constructor
  · rintro (⟨q, h, rfl⟩ | ⟨q, h, rfl⟩)
    · rw [List.mem_filter, decide_eq_true_iff] at h
      exact .inl (by rw [← h.2]; exact h.1)
    · rw [List.mem_filter, decide_eq_true_iff] at h
      exact .inr (by rw [← h.2]; exact h.1)
  · rintro (h | h)
    · exact .inl ⟨(a, b), by rw [List.mem_filter]; exact ⟨h, by simp⟩, rfl⟩
    · exact .inr ⟨(b, a), by rw [List.mem_filter]; exact ⟨h, by simp⟩, rfl⟩
/-- the rivals of a client, in sequence -/
def rivalsOf (l : Lore) (a : Str) : List Str := l.clients.filter fun b => rvl l a b
theorem lot_somes {l : Lore} {a : Str} : lotOf (rdOf l).clients (somes (rdOf l) a) = rivalsOf l a := by
  unfold lotOf rivalsOf
  show List.filter _ l.clients = List.filter _ l.clients
  refine List.filter_congr fun b _ => ?_
  rw [Bool.eq_iff_iff, decide_eq_true_iff, mem_somes]
def ownRv (l : Lore) : List (Str × List Str) := l.clients.map fun a => (a, rivalsOf l a)
theorem rv_eq {l : Lore} : rvTo (rdOf l) (rdOf l).clients = ownRv l := by
  unfold rvTo ownRv
  exact List.map_congr_left fun a _ => by rw [lot_somes]
theorem kv_look {α : Type} {f g : α → Str} {h : α → List Str} : ∀ {xs : List α} {a : α}, a ∈ xs → (xs.map f).Nodup → valD (kvD (xs.map fun x => (f x, h x))) (Sum.inr (f a) : Key) = some (.tup ((h a).map .str))
  | x :: xs, a, hm, nd => by
    rw [List.map_cons] at nd
    obtain ⟨n1, n2⟩ := List.nodup_cons.mp nd
    unfold valD kvD
    rw [List.map_cons, List.map_cons, List.find?_cons]
    by_cases e : f x = f a
    · have ea : a = x ∨ a ∈ xs := List.mem_cons.mp hm
      rcases ea with rfl | ea
      · simp
      · exact absurd (List.mem_map.mpr ⟨a, ea, e.symm⟩) n1
    · have ea : a ∈ xs := by
        rcases List.mem_cons.mp hm with rfl | ea
        · exact absurd rfl e
        · exact ea
      rw [show decide ((Sum.inr (f x) : Key) = Sum.inr (f a)) = false from decide_eq_false (by simpa using e)]
      exact kv_look (f := f) (g := g) ea n2
theorem own_look {l : Lore} {a : Str} (h : LoreOk l) (ha : a ∈ l.clients) : valD (kvD (ownRv l)) (Sum.inr a : Key) = some (.tup ((rivalsOf l a).map .str)) :=
  kv_look (f := fun a : Str => a) (g := fun a => a) (h := rivalsOf l) ha (by rw [List.map_id']; exact h.c3)
section
variable {Φ : Fn} {n : Nat} {l : Lore} {st : Sto} {Q EX : QD}
end
end K00

set_option Elab.async false
set_option linter.all false
set_option maxRecDepth 100000
set_option maxHeartbeats 4000000
namespace K00
open Vm PySem PySem.Spec PyProof.Rows L2 TL
local macro_rules | `(tactic| walk_at "wg") => `(tactic| first | assumption | (with_reducible exact own_get0) | (with_reducible exact loc_get0) | exact own_get 1 | exact own_get 2 | exact loc_get 1 | exact loc_get 2 | exact pot_get (by assumption) | exact get_set (by first | assumption | (simp only [List.length_set]; assumption)))
local macro_rules | `(tactic| walk_at "wu") => `(tactic| first | (with_reducible exact own_set0) | (with_reducible exact loc_set0) | exact own_set 1 | exact own_set 2 | exact loc_set 1 | exact loc_set 2 | exact pot_set (by assumption) | exact rfl)
local macro_rules | `(tactic| walk_at "wo") => `(tactic| first | assumption | decide | decide +kernel)
local macro_rules | `(tactic| walk_at "we") => `(tactic| first
  | ((with_reducible apply e_var); (· exact rfl)) | with_reducible refine e_int ?_ | with_reducible refine e_str ?_ | with_reducible refine e_bl ?_ | with_reducible refine e_non ?_ | with_reducible refine e_bty ?_ | ((with_reducible apply e_glo); (· exact rfl))
  | with_reducible refine e_bin ?_ | with_reducible refine e_neg ?_ | with_reducible refine e_cmp ?_ | with_reducible refine e_cmp2 ?_ | with_reducible refine e_isN ?_ | with_reducible refine e_isB ?_ | with_reducible refine e_bop ?_ | with_reducible refine e_not ?_ | with_reducible refine e_ite ?_ | with_reducible refine e_call ?_ | with_reducible refine e_make ?_ | with_reducible refine e_meth ?_ | with_reducible refine e_bi ?_ | with_reducible refine e_bm ?_ | with_reducible refine e_attr ?_ | with_reducible refine e_idx ?_ | with_reducible refine e_slc ?_ | with_reducible refine e_tup ?_ | with_reducible refine e_lst ?_ | with_reducible refine e_dic ?_ | with_reducible refine e_rngl ?_ | with_reducible refine e_comp ?_ | with_reducible refine e_told ?_
  | with_reducible refine es_nil ?_ | with_reducible refine es_cons ?_ | with_reducible refine es_star ?_ | with_reducible refine eo_none ?_ | with_reducible refine eo_some ?_ | with_reducible refine bop_two ?_ | with_reducible refine bop_one ?_ | with_reducible refine sr_rng ?_ | with_reducible refine sr_ex' ?_ | with_reducible refine sr_enu ?_
  | with_reducible refine ifs_cons ?_ | with_reducible refine ifs_nil ?_)
local macro_rules | `(tactic| walk_at "wv") => `(tactic| first
  | ((with_reducible apply told_x); (· kernel_rfl)) | ((with_reducible apply a_value); (· kernel_rfl)) | ((with_reducible apply i_isX (b := true)); (· kernel_rfl)) | ((with_reducible apply i_isX (b := false)); (· kernel_rfl)) | ((with_reducible apply i_isXn); (· kernel_rfl); (· exact rfl))
  | with_reducible refine it_lst ?_ | with_reducible refine it_tup ?_ | ((with_reducible apply it_ref); (· walk_at "wg"))
  | with_reducible refine b_addI ?_ | with_reducible refine b_sub ?_ | ((with_reducible refine b_mod ?vm_h ?_); case vm_h => first | assumption | decide | decide +kernel) | ((with_reducible refine b_fdiv ?vm_h ?_); case vm_h => first | decide | exact ⟨by first | assumption | omega, by first | assumption | omega⟩) | ((with_reducible refine b_mul ?vm_h ?_); case vm_h => first | decide | exact Or.inl ⟨by omega, by omega⟩ | exact Or.inr ⟨by omega, by omega⟩) | ((with_reducible refine b_pow ?vm_h ?_); case vm_h => first | decide | exact pow_small (by decide) (by decide) (by omega) | exact ⟨by decide, by decide +kernel⟩) | with_reducible refine c_lt ?_ | with_reducible refine c_le ?_ | with_reducible refine c_gt ?_ | with_reducible refine c_ge ?_ | with_reducible refine i_int ?_ | with_reducible refine i_intB ?_ | with_reducible refine i_abs ?_
  | with_reducible refine c_eqI' ?_ | with_reducible refine c_neI ?_
  | with_reducible refine c_eqS ?_ | with_reducible refine c_neS ?_ | with_reducible refine c_eqB ?_ | with_reducible refine c_neB ?_
  | with_reducible refine x_lst0 ?_ | with_reducible refine x_lst1 ?_ | with_reducible refine x_lst2 ?_ | with_reducible refine x_tup0 ?_ | with_reducible refine x_tup1 ?_ | with_reducible refine x_tup2 ?_
  | ((with_reducible apply x_ref); (· walk_at "wg"); (· exact rfl)) | ((with_reducible apply x_lst); (· exact rfl)) | ((with_reducible apply x_tup); (· exact rfl))
  | with_reducible refine x_clients ?_ | with_reducible refine x_rivals ?_ | with_reducible refine x_kinds ?_
  | with_reducible refine rd_a0 ?_ | with_reducible refine rd_a1 ?_ | with_reducible refine rd_a2 ?_ | with_reducible refine rd_a3 ?_ | with_reducible refine rd_a4 ?_ | with_reducible refine rd_l1 ?_ | with_reducible refine rd_l2 ?_ | with_reducible refine rd_l3 ?_ | with_reducible refine rd_l4 ?_ | ((with_reducible apply rd_meth); (· kernel_rfl); (· kernel_rfl))
  | ((with_reducible apply set_ins); (· walk_at "wg"); (· kernel_rfl); (· kernel_rfl); (· exact Nat.lt_of_lt_of_le (Nat.lt_succ_self _) (Nat.le_of_ble_eq_true rfl)); (· walk_at "wu"))
  | ((with_reducible apply r_dct); (· exact Nat.le_of_ble_eq_true rfl); (· first | exact loc_len4 | exact loc_len3 | exact loc_len2 | exact loc_len1 | exact rfl); (· first | exact app4 | exact app3 | exact app2 | exact app1 | exact rfl))
  | ((with_reducible refine r_dctF ?vm_h ?_); case vm_h => first | exact Nat.le_of_ble_eq_true rfl | decide +kernel)
  | with_reducible refine t_cons ?_ | with_reducible refine t_consL ?_ | with_reducible refine t_end ?_
  | ((with_reducible refine t_nm ?vm_h ?_); case vm_h => exact Nat.le_of_ble_eq_true rfl)
  | ((with_reducible refine r_lst ?vm_h ?_); case vm_h => exact Nat.le_of_ble_eq_true rfl)
  | ((with_reducible apply r_ref'); (· exact Nat.le_of_ble_eq_true rfl); (· first | exact own_len3 | exact own_len2 | exact own_len1 | exact own_len00 | exact own_len0 | exact loc_len3 | exact loc_len2 | exact loc_len1 | exact rfl); (· first | exact app3 | exact app2 | exact app1 | exact rfl))
  | ((with_reducible apply ix_lst'); (· walk_at "wg"); (· exact rfl); (· walk_at "wu"))
  | ((with_reducible apply bm_at); (· walk_at "wg"); (· first | exact .inl rfl | exact .inr (.inl rfl) | exact .inr (.inr rfl)))
  | ((with_reducible refine bm_txt ?vm_m ?_); (case vm_m => first | exact .inl rfl | exact .inr rfl))
  | with_reducible refine i_len_lst ?_ | with_reducible refine i_len_tup ?_ | with_reducible refine i_len_scr ?_ | ((with_reducible apply i_len_ref); (· walk_at "wg")) | with_reducible refine i_min ?_ | with_reducible refine i_max ?_
  | with_reducible refine sl_lst ?_ | with_reducible refine sl_tup ?_
  | ((with_reducible apply i_tuple); (· first | exact rfl | exact seq_ref (by walk_at "wg"))) | ((with_reducible apply i_list); (· first | exact rfl | exact seq_ref (by walk_at "wg")))
  | ((with_reducible apply i_isT); (· decide +kernel); (· exact rfl)) | ((with_reducible apply i_len_str); (· assumption)) | with_reducible refine c_letter ?_ | with_reducible refine it_str ?_
  | with_reducible refine ⟨_, rfl, ?_⟩
  | (with_reducible refine ⟨?vm_h, ?_⟩; case vm_h => exact Nat.le_of_ble_eq_true rfl)
  | dsimp only [bodyKt, List.set_cons_zero, List.set_cons_succ]
  | with_reducible refine vit ?_ | with_reducible refine vand_f ?_ | with_reducible refine vor_t ?_ | with_reducible refine vor_f ?_ | with_reducible refine vTrue ?_ | with_reducible refine vFalse ?_ | simp only [Bool.not_true, Bool.not_false]
  | ((with_reducible refine vift ?vm_h ?_); case vm_h => decide) | ((with_reducible refine viff ?vm_h ?_); case vm_h => decide)
  | ((with_reducible refine vor_f' ?vm_h ?_); case vm_h => decide) | ((with_reducible refine vor_t' ?vm_h ?_); case vm_h => decide)
  | rw [pot_set (by assumption)] | rw [List.set_set])
local macro_rules | `(tactic| walk_at "ws") => `(tactic| first
  | with_reducible refine ss_cons ?_ | with_reducible refine ss_consf ?_ | with_reducible refine ss_one ?_ | with_reducible refine ss_nil ?_
  | with_reducible refine s_set' ?_ | with_reducible refine s_par' ?_ | with_reducible refine s_setA2 ?_ | with_reducible refine s_setI' ?_ | with_reducible refine s_exp' ?_ | with_reducible refine s_ret' ?_ | with_reducible refine s_ifs' ?_ | with_reducible refine s_for' ?_ | with_reducible refine s_raise' ?_)
local macro_rules | `(tactic| walk_at "w") => `(tactic| first | walk_at "ws" | walk_at "we" | walk_at "wv")
local macro_rules | `(tactic| walk_at "w*") => `(tactic| repeat walk_at "w")
local macro_rules | `(tactic| walk_at "wstart") => `(tactic| simp only [Vm.start, List.map_cons, List.map_nil, List.length_cons, List.length_nil, Nat.reduceAdd, Nat.reduceSub, List.replicate, List.cons_append, List.nil_append])
/-! ### repr -/
def Shw (d w : Nat) (x : D) : Prop := ∃ p, x.data = some p ∧ p.canLay0 = true ∧ p.depth ≤ d ∧ p.weight ≤ w ∧ p.intsShort 13 = true ∧ p.showable = true
def ShwL (d w : Nat) (xs : List D) : Prop := ∃ ps, dataL xs = some ps ∧ PyData.canLayAll0 ps = true ∧ PyData.depthAll ps ≤ d ∧ PyData.weightAll ps ≤ w ∧ PyData.intsShortAll 13 ps = true ∧ PyData.showableAll ps = true
def shownOf (x : D) : Str := (x.data.getD .none).shown
theorem shw_str {s : Str} {d w : Nat} (h : PyData.strOk s = true) (hl : s.length ≤ w) : Shw d w (.str s) := ⟨.str s, rfl, by simp only [PyData.canLay0]; exact h, by simp only [PyData.depth]; omega, by simp only [PyData.weight]; exact hl, by simp only [PyData.intsShort], by simp only [PyData.showable]⟩
theorem shw_non {d w : Nat} : Shw d w .non := ⟨.none, rfl, rfl, by simp only [PyData.depth]; omega, by simp only [PyData.weight]; omega, by simp only [PyData.intsShort], by simp only [PyData.showable]⟩
theorem shw_bl {b : Bool} {d w : Nat} : Shw d w (.bl b) := ⟨.bool b, rfl, rfl, by simp only [PyData.depth]; omega, by simp only [PyData.weight]; omega, by simp only [PyData.intsShort], by simp only [PyData.showable]⟩
theorem shw_nat {n : Nat} {d w : Nat} (h : n ≤ 99) (hw : 8 ≤ w) : Shw d w (.int n) := by
  have key : ∀ n : Nat, n ≤ 99 → ((PyData.int n).weight ≤ 8 ∧ (PyData.int n).intsShort 13 = true ∧ (PyData.int n).showable = true) := by
    intro n hn
    have all : ∀ m ∈ List.range 100, (decide ((PyData.int m).weight ≤ 8) && (PyData.int m).intsShort 13 && (PyData.int m).showable) = true := by decide +kernel
    have := all n (List.mem_range.mpr (by omega))
    rw [Bool.and_eq_true, Bool.and_eq_true, decide_eq_true_iff] at this
    exact ⟨this.1.1, this.1.2, this.2⟩
  obtain ⟨k1, k2, k3⟩ := key n h
  exact ⟨.int n, rfl, rfl, by simp only [PyData.depth]; omega, by omega, k2, k3⟩
theorem shwl_nil {d w : Nat} : ShwL d w [] := ⟨[], rfl, rfl, by simp only [PyData.depthAll]; omega, by simp only [PyData.weightAll]; omega, rfl, rfl⟩
theorem shwl_cons {d w v : Nat} {x : D} {xs : List D} (h1 : Shw d w x) (h2 : ShwL d v xs) : ShwL d (w + 1 + v) (x :: xs) := by
  obtain ⟨p, a1, a2, a3, a4, a5, a6⟩ := h1
  obtain ⟨ps, b1, b2, b3, b4, b5, b6⟩ := h2
  refine ⟨p :: ps, ?_, by rw [PyData.canLayAll0, a2, b2]; rfl, by rw [PyData.depthAll]; omega, by rw [PyData.weightAll]; omega, by rw [PyData.intsShortAll, a5, b5]; rfl, by rw [PyData.showableAll, a6, b6]; rfl⟩
  show (x.data).bind (fun d => (dataL xs).map fun ds => d :: ds) = _
  rw [a1, b1]
  rfl
theorem shw_tup {d w : Nat} {xs : List D} (h : ShwL d w xs) : Shw (d + 1) w (.tup xs) := by
  obtain ⟨ps, b1, b2, b3, b4, b5, b6⟩ := h
  refine ⟨.tuple ps, ?_, by simp only [PyData.canLay0]; exact b2, by simp only [PyData.depth]; omega, by simp only [PyData.weight]; exact b4, by simp only [PyData.intsShort]; exact b5, by simp only [PyData.showable]; exact b6⟩
  show (dataL xs).map _ = _
  rw [b1]
  rfl
theorem shw_lst {d w : Nat} {xs : List D} (h : ShwL d w xs) : Shw (d + 1) w (.lst xs) := by
  obtain ⟨ps, b1, b2, b3, b4, b5, b6⟩ := h
  refine ⟨.list ps, ?_, by simp only [PyData.canLay0]; exact b2, by simp only [PyData.depth]; omega, by simp only [PyData.weight]; exact b4, by simp only [PyData.intsShort]; exact b5, by simp only [PyData.showable]; exact b6⟩
  show (dataL xs).map _ = _
  rw [b1]
  rfl
theorem shwl_map {α : Type} {d w : Nat} {f : α → D} : ∀ {xs : List α}, (∀ x ∈ xs, Shw d w (f x)) → ShwL d ((w + 1) * xs.length) (xs.map f)
  | [], _ => shwl_nil
  | x :: xs, h => by
    have := shwl_cons (h x (List.mem_cons_self ..)) (shwl_map fun y hy => h y (List.mem_cons_of_mem _ hy))
    rw [List.length_cons, Nat.mul_succ, Nat.add_comm ((w + 1) * xs.length)]
    exact this
theorem shw_mono {d e w v : Nat} {x : D} (h : Shw d w x) (h1 : d ≤ e) (h2 : w ≤ v) : Shw e v x := by
  obtain ⟨p, a1, a2, a3, a4, a5, a6⟩ := h
  exact ⟨p, a1, a2, by omega, by omega, a5, a6⟩
theorem i_repr {Φ : Fn} {C : Vm.Ctx} {al : Bool} {st : Sto} {x : D} {Q EX : QD} (h : Shw 60 1048576 x) (q : Q (.str (shownOf x)) st) : wBi Φ C .repr al [x] st Q EX := by
  obtain ⟨p, a1, a2, a3, a4, a5, a6⟩ := h
  have hd : dataOf st x = some p := by
    cases x <;> first | exact a1 | cases a1
  have e : shownOf x = p.shown := by unfold shownOf; rw [a1]; rfl
  refine ⟨x, rfl, p, dataOf2_of hd, a6, a3, ?_, by rw [← e]; exact q⟩
  have hl : PyData.layable0 p = true := by
    unfold PyData.layable0
    rw [a2, decide_eq_true (show p.depth ≤ 64 by omega), decide_eq_true a4]
    rfl
  have := shown_le13 hl a5
  rw [sizeLine_eq]
  omega
/-! ### the pairs of rivals -/
def rvPairs (l : Lore) : List (Str × Str) := (pairsR l.clients).filter fun q => rvl l q.1 q.2
def bkR (l : Lore) : List Str → List (Str × Str)
  | [] => []
  | x :: r => ((x :: r).filter fun y => rvl l x y).map (fun y => (x, y)) ++ bkR l r
theorem rvl_self {l : Lore} (h : LoreOk l) (x : Str) : rvl l x x = false := decide_eq_false fun z => by
  rcases z with z | z <;> exact (h.r1 _ z).2.2 rfl
theorem bkR_eq {l : Lore} (h : LoreOk l) : ∀ cs : List Str, bkR l cs = (pairsR cs).filter fun q => rvl l q.1 q.2
  | [] => rfl
  | x :: r => by
    unfold bkR pairsR
    rw [List.filter_append, bkR_eq h r, List.filter_cons_of_neg (by rw [rvl_self h]; decide), List.filter_map]
    rfl
theorem bkR_len {l : Lore} : ∀ cs : List Str, (bkR l cs).length ≤ cs.length * cs.length
  | [] => Nat.le_refl _
  | x :: r => by
    unfold bkR
    rw [List.length_append, List.length_map]
    have := bkR_len (l := l) r
    have := (List.filter_sublist (l := x :: r) (p := fun y => rvl l x y)).length_le
    rw [List.length_cons] at this ⊢
    rw [Nat.add_mul, Nat.mul_add]
    omega
section
variable {Φ : Fn} {n : Nat} {l : Lore} {st : Sto} {Q EX : QD}
def isBook : D → Option Lore := fun _ => none
theorem i_isC {C : Vm.Ctx} {al : Bool} {x : D} {c : Str} {b : Bool} (h1 : (C.cl c).isSome = true) (h : isCl C st c x = some b) (q : Q (.bl b) st) : wBi Φ C .isinst al [x, .glo c] st Q EX := by
  refine ⟨x, .glo c, rfl, b, ?_, q⟩
  show (if (C.cl c).isSome = true then isCl C st c x else if (C.exs.lookup c).isSome = true then isXc C st c x else none) = some b
  rw [if_pos h1]
  exact h
end
end K00

set_option Elab.async false
set_option linter.all false
set_option maxRecDepth 100000
set_option maxHeartbeats 4000000
namespace K00
open Vm PySem PySem.Spec PyProof.Rows L2 TL
local macro_rules | `(tactic| walk_at "wg") => `(tactic| first | assumption | (with_reducible exact own_get0) | (with_reducible exact loc_get0) | exact own_get 1 | exact own_get 2 | exact loc_get 1 | exact loc_get 2 | exact pot_get (by assumption) | exact get_set (by first | assumption | (simp only [List.length_set]; assumption)))
local macro_rules | `(tactic| walk_at "wu") => `(tactic| first | (with_reducible exact own_set0) | (with_reducible exact loc_set0) | exact own_set 1 | exact own_set 2 | exact loc_set 1 | exact loc_set 2 | exact pot_set (by assumption) | exact rfl)
local macro_rules | `(tactic| walk_at "wo") => `(tactic| first | assumption | decide | decide +kernel)
local macro_rules | `(tactic| walk_at "we") => `(tactic| first
  | ((with_reducible apply e_var); (· exact rfl)) | with_reducible refine e_int ?_ | with_reducible refine e_str ?_ | with_reducible refine e_bl ?_ | with_reducible refine e_non ?_ | with_reducible refine e_bty ?_ | ((with_reducible apply e_glo); (· exact rfl))
  | with_reducible refine e_bin ?_ | with_reducible refine e_neg ?_ | with_reducible refine e_cmp ?_ | with_reducible refine e_cmp2 ?_ | with_reducible refine e_isN ?_ | with_reducible refine e_isB ?_ | with_reducible refine e_bop ?_ | with_reducible refine e_not ?_ | with_reducible refine e_ite ?_ | with_reducible refine e_call ?_ | with_reducible refine e_make ?_ | with_reducible refine e_meth ?_ | with_reducible refine e_bi ?_ | with_reducible refine e_bm ?_ | with_reducible refine e_attr ?_ | with_reducible refine e_idx ?_ | with_reducible refine e_slc ?_ | with_reducible refine e_tup ?_ | with_reducible refine e_lst ?_ | with_reducible refine e_dic ?_ | with_reducible refine e_rngl ?_ | with_reducible refine e_comp ?_ | with_reducible refine e_told ?_
  | with_reducible refine es_nil ?_ | with_reducible refine es_cons ?_ | with_reducible refine es_star ?_ | with_reducible refine eo_none ?_ | with_reducible refine eo_some ?_ | with_reducible refine bop_two ?_ | with_reducible refine bop_one ?_ | with_reducible refine sr_rng ?_ | with_reducible refine sr_ex' ?_ | with_reducible refine sr_enu ?_
  | with_reducible refine ifs_cons ?_ | with_reducible refine ifs_nil ?_)
local macro_rules | `(tactic| walk_at "wv") => `(tactic| first
  | ((with_reducible apply told_x); (· kernel_rfl)) | ((with_reducible apply a_value); (· kernel_rfl)) | ((with_reducible apply i_isX (b := true)); (· kernel_rfl)) | ((with_reducible apply i_isX (b := false)); (· kernel_rfl)) | ((with_reducible apply i_isXn); (· kernel_rfl); (· exact rfl))
  | with_reducible refine it_lst ?_ | with_reducible refine it_tup ?_ | ((with_reducible apply it_ref); (· walk_at "wg"))
  | with_reducible refine b_addI ?_ | with_reducible refine b_sub ?_ | ((with_reducible refine b_mod ?vm_h ?_); case vm_h => first | assumption | decide | decide +kernel) | ((with_reducible refine b_fdiv ?vm_h ?_); case vm_h => first | decide | exact ⟨by first | assumption | omega, by first | assumption | omega⟩) | ((with_reducible refine b_mul ?vm_h ?_); case vm_h => first | decide | exact Or.inl ⟨by omega, by omega⟩ | exact Or.inr ⟨by omega, by omega⟩) | ((with_reducible refine b_pow ?vm_h ?_); case vm_h => first | decide | exact pow_small (by decide) (by decide) (by omega) | exact ⟨by decide, by decide +kernel⟩) | with_reducible refine c_lt ?_ | with_reducible refine c_le ?_ | with_reducible refine c_gt ?_ | with_reducible refine c_ge ?_ | with_reducible refine i_int ?_ | with_reducible refine i_intB ?_ | with_reducible refine i_abs ?_
  | with_reducible refine c_eqI' ?_ | with_reducible refine c_neI ?_
  | with_reducible refine c_eqS ?_ | with_reducible refine c_neS ?_ | with_reducible refine c_eqB ?_ | with_reducible refine c_neB ?_
  | with_reducible refine x_lst0 ?_ | with_reducible refine x_lst1 ?_ | with_reducible refine x_lst2 ?_ | with_reducible refine x_tup0 ?_ | with_reducible refine x_tup1 ?_ | with_reducible refine x_tup2 ?_
  | ((with_reducible apply x_ref); (· walk_at "wg"); (· exact rfl)) | ((with_reducible apply x_lst); (· exact rfl)) | ((with_reducible apply x_tup); (· exact rfl))
  | with_reducible refine x_clients ?_ | with_reducible refine x_rivals ?_ | with_reducible refine x_kinds ?_
  | with_reducible refine rd_a0 ?_ | with_reducible refine rd_a1 ?_ | with_reducible refine rd_a2 ?_ | with_reducible refine rd_a3 ?_ | with_reducible refine rd_a4 ?_ | with_reducible refine rd_l1 ?_ | with_reducible refine rd_l2 ?_ | with_reducible refine rd_l3 ?_ | with_reducible refine rd_l4 ?_ | ((with_reducible apply rd_meth); (· kernel_rfl); (· kernel_rfl))
  | ((with_reducible apply set_ins); (· walk_at "wg"); (· kernel_rfl); (· kernel_rfl); (· exact Nat.lt_of_lt_of_le (Nat.lt_succ_self _) (Nat.le_of_ble_eq_true rfl)); (· walk_at "wu"))
  | ((with_reducible apply r_dct); (· exact Nat.le_of_ble_eq_true rfl); (· first | exact loc_len4 | exact loc_len3 | exact loc_len2 | exact loc_len1 | exact rfl); (· first | exact app4 | exact app3 | exact app2 | exact app1 | exact rfl))
  | ((with_reducible refine r_dctF ?vm_h ?_); case vm_h => first | exact Nat.le_of_ble_eq_true rfl | decide +kernel)
  | with_reducible refine t_cons ?_ | with_reducible refine t_consL ?_ | with_reducible refine t_end ?_
  | ((with_reducible refine t_nm ?vm_h ?_); case vm_h => exact Nat.le_of_ble_eq_true rfl)
  | ((with_reducible refine r_lst ?vm_h ?_); case vm_h => exact Nat.le_of_ble_eq_true rfl)
  | ((with_reducible apply r_ref'); (· exact Nat.le_of_ble_eq_true rfl); (· first | exact own_len3 | exact own_len2 | exact own_len1 | exact own_len00 | exact own_len0 | exact loc_len3 | exact loc_len2 | exact loc_len1 | exact rfl); (· first | exact app3 | exact app2 | exact app1 | exact rfl))
  | ((with_reducible apply ix_lst'); (· walk_at "wg"); (· exact rfl); (· walk_at "wu"))
  | ((with_reducible apply bm_at); (· walk_at "wg"); (· first | exact .inl rfl | exact .inr (.inl rfl) | exact .inr (.inr rfl)))
  | ((with_reducible refine bm_txt ?vm_m ?_); (case vm_m => first | exact .inl rfl | exact .inr rfl))
  | with_reducible refine i_len_lst ?_ | with_reducible refine i_len_tup ?_ | with_reducible refine i_len_scr ?_ | ((with_reducible apply i_len_ref); (· walk_at "wg")) | with_reducible refine i_min ?_ | with_reducible refine i_max ?_
  | with_reducible refine sl_lst ?_ | with_reducible refine sl_tup ?_
  | ((with_reducible apply i_tuple); (· first | exact rfl | exact seq_ref (by walk_at "wg"))) | ((with_reducible apply i_list); (· first | exact rfl | exact seq_ref (by walk_at "wg")))
  | ((with_reducible apply i_isT); (· decide +kernel); (· exact rfl)) | ((with_reducible apply i_len_str); (· assumption)) | with_reducible refine c_letter ?_ | with_reducible refine it_str ?_
  | with_reducible refine ⟨_, rfl, ?_⟩
  | (with_reducible refine ⟨?vm_h, ?_⟩; case vm_h => exact Nat.le_of_ble_eq_true rfl)
  | dsimp only [bodyKt, List.set_cons_zero, List.set_cons_succ]
  | with_reducible refine vit ?_ | with_reducible refine vand_f ?_ | with_reducible refine vor_t ?_ | with_reducible refine vor_f ?_ | with_reducible refine vTrue ?_ | with_reducible refine vFalse ?_ | simp only [Bool.not_true, Bool.not_false]
  | ((with_reducible refine vift ?vm_h ?_); case vm_h => decide) | ((with_reducible refine viff ?vm_h ?_); case vm_h => decide)
  | ((with_reducible refine vor_f' ?vm_h ?_); case vm_h => decide) | ((with_reducible refine vor_t' ?vm_h ?_); case vm_h => decide)
  | rw [pot_set (by assumption)] | rw [List.set_set])
local macro_rules | `(tactic| walk_at "ws") => `(tactic| first
  | with_reducible refine ss_cons ?_ | with_reducible refine ss_consf ?_ | with_reducible refine ss_one ?_ | with_reducible refine ss_nil ?_
  | with_reducible refine s_set' ?_ | with_reducible refine s_par' ?_ | with_reducible refine s_setA2 ?_ | with_reducible refine s_setI' ?_ | with_reducible refine s_exp' ?_ | with_reducible refine s_ret' ?_ | with_reducible refine s_ifs' ?_ | with_reducible refine s_for' ?_ | with_reducible refine s_raise' ?_)
local macro_rules | `(tactic| walk_at "w") => `(tactic| first | walk_at "ws" | walk_at "we" | walk_at "wv")
local macro_rules | `(tactic| walk_at "w*") => `(tactic| repeat walk_at "w")
local macro_rules | `(tactic| walk_at "wstart") => `(tactic| simp only [Vm.start, List.map_cons, List.map_nil, List.length_cons, List.length_nil, Nat.reduceAdd, Nat.reduceSub, List.replicate, List.cons_append, List.nil_append])
/-! ### what is refused -/
mutual
/-- made of texts within all right, numbers, bools, None, tuples, lists, dicts -/
def gd : D → Bool
  | .str s => PyData.strOk s
  | .non | .bl _ | .int _ => true
  | .tup xs => gdL xs
  | .lst xs => gdL xs
  | .dct kvs => gdK kvs
  | _ => false
def gdL : List D → Bool
  | [] => true
  | x :: r => gd x && gdL r
def gdK : List (Key × D) → Bool
  | [] => true
  | (_, x) :: r => gd x && gdK r
end
theorem gdL_all : ∀ {xs : List D}, gdL xs = true ↔ ∀ x ∈ xs, gd x = true
  | [] => ⟨fun _ _ h => (by cases h), fun _ => rfl⟩
  | x :: r => by
    show (gd x && gdL r) = true ↔ _
    rw [Bool.and_eq_true, gdL_all (xs := r)]
    exact ⟨fun h y hy => (List.mem_cons.mp hy).elim (fun e => e ▸ h.1) (h.2 y), fun h => ⟨h x (List.mem_cons_self ..), fun y hy => h y (List.mem_cons_of_mem _ hy)⟩⟩
theorem gd_tup {xs : List D} (h : gd (.tup xs) = true) : ∀ x ∈ xs, gd x = true := gdL_all.mp h
theorem gd_imm {x : D} (h : gd x = true) : immed x = true := by
  cases x <;> first | exact h | rfl | cases h
mutual
theorem gd_lim {m : Nat} : ∀ x : D, gd x = true → x.lim m = true
  | .tup xs, h => gdL_lim xs h
  | .lst xs, h => gdL_lim xs h
  | .dct kvs, h => gdK_lim kvs h
  | .dcT kvs, h => by cases h
  | .obj _ fs, h => by cases h
  | .exc _ v, h => by cases h
  | .ref n, h => by cases h
  | .non, _ => rfl
  | .bl _, _ => rfl
  | .int _, _ => rfl
  | .str _, _ => rfl
  | .glo _, _ => rfl
  | .ty _, _ => rfl
  | .scr _, _ => rfl
theorem gdL_lim {m : Nat} : ∀ xs : List D, gdL xs = true → limL m xs = true
  | [], _ => rfl
  | x :: r, h => by
    obtain ⟨h1, h2⟩ := Bool.and_eq_true_iff.mp (show (gd x && gdL r) = true from h)
    show (x.lim m && limL m r) = true
    rw [gd_lim x h1, gdL_lim r h2]
    rfl
theorem gdK_lim {m : Nat} : ∀ xs : List (Key × D), gdK xs = true → limK m xs = true
  | [], _ => rfl
  | (k, x) :: r, h => by
    obtain ⟨h1, h2⟩ := Bool.and_eq_true_iff.mp (show (gd x && gdK r) = true from h)
    show (x.lim m && limK m r) = true
    rw [gd_lim x h1, gdK_lim r h2]
    rfl
end
/-- printable -/
def Rp (x : D) : Prop := ∃ p, x.dat2 = some p ∧ p.showable = true ∧ p.depth ≤ 60 ∧ p.shown.length ≤ sizeLine
def shown2 (x : D) : Str := (x.dat2.getD .none).shown
/-- printable: not deeper, not weightier -/
def Sw (d w : Nat) (x : D) : Prop := ∃ p, x.dat2 = some p ∧ p.showable = true ∧ p.depth ≤ d ∧ p.weight ≤ w ∧ p.leavesShort 13 = true
def SwL (d w : Nat) (xs : List D) : Prop := ∃ ps, dat2L xs = some ps ∧ PyData.showableAll ps = true ∧ PyData.depthAll ps ≤ d ∧ PyData.weightAll ps ≤ w ∧ PyData.leavesShortAll 13 ps = true
def SwB (d w : Nat) (x : D) : Bool := match x.dat2 with
  | some p => p.showable && decide (p.depth ≤ d) && decide (p.weight ≤ w) && p.leavesShort 13
  | none => false
theorem sw_of {d w : Nat} {x : D} (h : SwB d w x = true) : Sw d w x := by
  unfold SwB at h
  split at h
  · rename_i p e
    rw [Bool.and_eq_true, Bool.and_eq_true, Bool.and_eq_true, decide_eq_true_iff, decide_eq_true_iff] at h
    exact ⟨p, e, h.1.1.1, h.1.1.2, h.1.2, h.2⟩
  · cases h
theorem sw_mono {d e w v : Nat} {x : D} (h : Sw d w x) (h1 : d ≤ e) (h2 : w ≤ v) : Sw e v x := by
  obtain ⟨p, a1, a2, a3, a4, a5⟩ := h
  exact ⟨p, a1, a2, by omega, by omega, a5⟩
theorem rp_sw {x : D} (h : Sw 60 1048576 x) : Rp x := by
  obtain ⟨p, a1, a2, a3, a4, a5⟩ := h
  exact ⟨p, a1, a2, a3, PyData.shown_fits (B := 13) (by decide) (by decide) a5 (by omega)⟩
theorem swl_nil {d w : Nat} : SwL d w [] := ⟨[], rfl, rfl, by simp only [PyData.depthAll]; omega, by simp only [PyData.weightAll]; omega, rfl⟩
theorem swl_cons {d w v : Nat} {x : D} {xs : List D} (h1 : Sw d w x) (h2 : SwL d v xs) : SwL d (w + 1 + v) (x :: xs) := by
  obtain ⟨p, a1, a2, a3, a4, a5⟩ := h1
  obtain ⟨ps, b1, b2, b3, b4, b5⟩ := h2
  refine ⟨p :: ps, ?_, by rw [PyData.showableAll, a2, b2]; rfl, by rw [PyData.depthAll]; omega, by rw [PyData.weightAll]; omega, by rw [PyData.leavesShortAll, a5, b5]; rfl⟩
  show (x.dat2).bind (fun d => (dat2L xs).map fun ds => d :: ds) = _
  rw [a1, b1]
  rfl
theorem sw_tup {d w : Nat} {xs : List D} (h : SwL d w xs) : Sw (d + 1) w (.tup xs) := by
  obtain ⟨ps, b1, b2, b3, b4, b5⟩ := h
  refine ⟨.tuple ps, ?_, by simp only [PyData.showable]; exact b2, by simp only [PyData.depth]; omega, by simp only [PyData.weight]; exact b4, by simp only [PyData.leavesShort]; exact b5⟩
  show (dat2L xs).map _ = _
  rw [b1]
  rfl
theorem sw_lst {d w : Nat} {xs : List D} (h : SwL d w xs) : Sw (d + 1) w (.lst xs) := by
  obtain ⟨ps, b1, b2, b3, b4, b5⟩ := h
  refine ⟨.list ps, ?_, by simp only [PyData.showable]; exact b2, by simp only [PyData.depth]; omega, by simp only [PyData.weight]; exact b4, by simp only [PyData.leavesShort]; exact b5⟩
  show (dat2L xs).map _ = _
  rw [b1]
  rfl
theorem swl_map {α : Type} {d w : Nat} {f : α → D} : ∀ {xs : List α}, (∀ x ∈ xs, Sw d w (f x)) → SwL d ((w + 1) * xs.length) (xs.map f)
  | [], _ => swl_nil
  | x :: xs, h => by
    have := swl_cons (h x (List.mem_cons_self ..)) (swl_map fun y hy => h y (List.mem_cons_of_mem _ hy))
    rw [List.length_cons, Nat.mul_succ, Nat.add_comm ((w + 1) * xs.length)]
    exact this
theorem sw_bl {b : Bool} : Sw 0 0 (.bl b) := by cases b <;> exact sw_of (by decide +kernel)
theorem sw_non : Sw 0 0 .non := sw_of (by decide +kernel)
theorem sw_shw {d w : Nat} {x : D} (h : Shw d w x) : Sw d w x := by
  obtain ⟨p, a1, a2, a3, a4, a5, a6⟩ := h
  have hd : dataOf [] x = some p := by
    cases x <;> first | exact a1 | cases a1
  have hd2 : dataOf2 [] x = some p := dataOf2_of hd
  have hd3 : x.dat2 = some p := by
    cases x <;> first | exact hd2 | cases a1
  exact ⟨p, hd3, a6, a3, a4, PyData.leavesShort_of_canLay0 13 p a2 a5⟩
theorem sw_nm {s : Str} (h : Nm s = true) : Sw 0 8 (.str s) := sw_shw (shw_str (nm_ok h) (nm_len h).2)
theorem sw_strs {xs : List Str} (h : ∀ x ∈ xs, Nm x = true) : Sw 1 (9 * xs.length) (.tup (xs.map .str)) := sw_tup (swl_map fun x hx => sw_nm (h x hx))
theorem sw_pair {a b : Str} (ha : Nm a = true) (hb : Nm b = true) : Sw 1 18 (pairOf a b) := sw_tup (swl_cons (w := 8) (v := 9) (sw_nm ha) (swl_cons (w := 8) (v := 0) (sw_nm hb) swl_nil))
theorem sw_pairs {xs : List (Str × Str)} (h : ∀ q ∈ xs, Nm q.1 = true ∧ Nm q.2 = true) : Sw 2 (19 * xs.length) (.tup (xs.map fun q => pairOf q.1 q.2)) := sw_tup (swl_map fun q hq => sw_pair (h q hq).1 (h q hq).2)
/-- a value of any kind -/
structure Odd (v : D) : Prop where
  g : gd v = true
  sw : Sw 8 200 v
theorem Odd.imm {v : D} (h : Odd v) : immed v = true := gd_imm h.g
theorem Odd.lim {v : D} (h : Odd v) (m : Nat) : v.lim m = true := gd_lim v h.g
theorem Odd.rp {v : D} (h : Odd v) : Rp v := rp_sw (sw_mono h.sw (by decide) (by decide))
theorem odd_nm {s : Str} (h : Nm s = true) : Odd (.str s) := ⟨nm_ok h, sw_mono (sw_nm h) (by decide) (by decide)⟩
theorem gd_strs {xs : List Str} (h : ∀ x ∈ xs, Nm x = true) : gd (.tup (xs.map .str)) = true := gdL_all.mpr fun x hx => by
  obtain ⟨y, hy, rfl⟩ := List.mem_map.mp hx
  exact nm_ok (h y hy)
theorem odd_strs {xs : List Str} (h : ∀ x ∈ xs, Nm x = true) (hl : xs.length ≤ 20) : Odd (.tup (xs.map .str)) := ⟨gd_strs h, sw_mono (sw_strs h) (by decide) (by omega)⟩
theorem odd_of' {v : D} (h : (gd v && SwB 8 200 v) = true) : Odd v := by
  rw [Bool.and_eq_true] at h
  exact ⟨h.1, sw_of h.2⟩
theorem i_rp {Φ : Fn} {C : Vm.Ctx} {al : Bool} {st : Sto} {x : D} {Q EX : QD} (h : Rp x) (q : Q (.str (shown2 x)) st) : wBi Φ C .repr al [x] st Q EX := by
  obtain ⟨p, e, h1, h2, h3⟩ := h
  refine ⟨x, rfl, p, ?_, h1, h2, h3, ?_⟩
  · cases x <;> first | exact e | cases e
  · have : shown2 x = p.shown := by unfold shown2; rw [e]; rfl
    rw [← this]
    exact q
section
variable {Φ : Fn} {n : Nat} {l : Lore} {st : Sto} {Q EX : QD}
theorem exc_lim {c : Str} {v : D} {m : Nat} (h : v.lim m = true) : (D.exc c v).lim m = true := h
theorem strIn_str {v : D} {xs : List Str} (h : strIn v xs = true) : ∃ a, v = .str a ∧ a ∈ xs := by
  cases v <;> first | (cases h; done) | skip
  exact ⟨_, rfl, of_decide_eq_true h⟩
end
end K00

set_option Elab.async false
set_option linter.all false
set_option maxRecDepth 100000
set_option maxHeartbeats 4000000
namespace K00
open Vm PySem PySem.Spec PyProof.Rows L2 TL
local macro_rules | `(tactic| walk_at "wg") => `(tactic| first | assumption | (with_reducible exact own_get0) | (with_reducible exact loc_get0) | exact own_get 1 | exact own_get 2 | exact loc_get 1 | exact loc_get 2 | exact pot_get (by assumption) | exact get_set (by first | assumption | (simp only [List.length_set]; assumption)))
local macro_rules | `(tactic| walk_at "wu") => `(tactic| first | (with_reducible exact own_set0) | (with_reducible exact loc_set0) | exact own_set 1 | exact own_set 2 | exact loc_set 1 | exact loc_set 2 | exact pot_set (by assumption) | exact rfl)
local macro_rules | `(tactic| walk_at "wo") => `(tactic| first | assumption | decide | decide +kernel)
local macro_rules | `(tactic| walk_at "we") => `(tactic| first
  | ((with_reducible apply e_var); (· exact rfl)) | with_reducible refine e_int ?_ | with_reducible refine e_str ?_ | with_reducible refine e_bl ?_ | with_reducible refine e_non ?_ | with_reducible refine e_bty ?_ | ((with_reducible apply e_glo); (· exact rfl))
  | with_reducible refine e_bin ?_ | with_reducible refine e_neg ?_ | with_reducible refine e_cmp ?_ | with_reducible refine e_cmp2 ?_ | with_reducible refine e_isN ?_ | with_reducible refine e_isB ?_ | with_reducible refine e_bop ?_ | with_reducible refine e_not ?_ | with_reducible refine e_ite ?_ | with_reducible refine e_call ?_ | with_reducible refine e_make ?_ | with_reducible refine e_meth ?_ | with_reducible refine e_bi ?_ | with_reducible refine e_bm ?_ | with_reducible refine e_attr ?_ | with_reducible refine e_idx ?_ | with_reducible refine e_slc ?_ | with_reducible refine e_tup ?_ | with_reducible refine e_lst ?_ | with_reducible refine e_dic ?_ | with_reducible refine e_rngl ?_ | with_reducible refine e_comp ?_ | with_reducible refine e_told ?_
  | with_reducible refine es_nil ?_ | with_reducible refine es_cons ?_ | with_reducible refine es_star ?_ | with_reducible refine eo_none ?_ | with_reducible refine eo_some ?_ | with_reducible refine bop_two ?_ | with_reducible refine bop_one ?_ | with_reducible refine sr_rng ?_ | with_reducible refine sr_ex' ?_ | with_reducible refine sr_enu ?_
  | with_reducible refine ifs_cons ?_ | with_reducible refine ifs_nil ?_)
local macro_rules | `(tactic| walk_at "wv") => `(tactic| first
  | ((with_reducible apply told_x); (· kernel_rfl)) | ((with_reducible apply a_value); (· kernel_rfl)) | ((with_reducible apply i_isX (b := true)); (· kernel_rfl)) | ((with_reducible apply i_isX (b := false)); (· kernel_rfl)) | ((with_reducible apply i_isXn); (· kernel_rfl); (· exact rfl))
  | with_reducible refine it_lst ?_ | with_reducible refine it_tup ?_ | ((with_reducible apply it_ref); (· walk_at "wg"))
  | with_reducible refine b_addI ?_ | with_reducible refine b_sub ?_ | ((with_reducible refine b_mod ?vm_h ?_); case vm_h => first | assumption | decide | decide +kernel) | ((with_reducible refine b_fdiv ?vm_h ?_); case vm_h => first | decide | exact ⟨by first | assumption | omega, by first | assumption | omega⟩) | ((with_reducible refine b_mul ?vm_h ?_); case vm_h => first | decide | exact Or.inl ⟨by omega, by omega⟩ | exact Or.inr ⟨by omega, by omega⟩) | ((with_reducible refine b_pow ?vm_h ?_); case vm_h => first | decide | exact pow_small (by decide) (by decide) (by omega) | exact ⟨by decide, by decide +kernel⟩) | with_reducible refine c_lt ?_ | with_reducible refine c_le ?_ | with_reducible refine c_gt ?_ | with_reducible refine c_ge ?_ | with_reducible refine i_int ?_ | with_reducible refine i_intB ?_ | with_reducible refine i_abs ?_
  | with_reducible refine c_eqI' ?_ | with_reducible refine c_neI ?_
  | with_reducible refine c_eqS ?_ | with_reducible refine c_neS ?_ | with_reducible refine c_eqB ?_ | with_reducible refine c_neB ?_
  | with_reducible refine x_lst0 ?_ | with_reducible refine x_lst1 ?_ | with_reducible refine x_lst2 ?_ | with_reducible refine x_tup0 ?_ | with_reducible refine x_tup1 ?_ | with_reducible refine x_tup2 ?_
  | ((with_reducible apply x_ref); (· walk_at "wg"); (· exact rfl)) | ((with_reducible apply x_lst); (· exact rfl)) | ((with_reducible apply x_tup); (· exact rfl))
  | with_reducible refine x_clients ?_ | with_reducible refine x_rivals ?_ | with_reducible refine x_kinds ?_
  | with_reducible refine rd_a0 ?_ | with_reducible refine rd_a1 ?_ | with_reducible refine rd_a2 ?_ | with_reducible refine rd_a3 ?_ | with_reducible refine rd_a4 ?_ | with_reducible refine rd_l1 ?_ | with_reducible refine rd_l2 ?_ | with_reducible refine rd_l3 ?_ | with_reducible refine rd_l4 ?_ | ((with_reducible apply rd_meth); (· kernel_rfl); (· kernel_rfl))
  | ((with_reducible apply set_ins); (· walk_at "wg"); (· kernel_rfl); (· kernel_rfl); (· exact Nat.lt_of_lt_of_le (Nat.lt_succ_self _) (Nat.le_of_ble_eq_true rfl)); (· walk_at "wu"))
  | ((with_reducible apply r_dct); (· exact Nat.le_of_ble_eq_true rfl); (· first | exact loc_len4 | exact loc_len3 | exact loc_len2 | exact loc_len1 | exact rfl); (· first | exact app4 | exact app3 | exact app2 | exact app1 | exact rfl))
  | ((with_reducible refine r_dctF ?vm_h ?_); case vm_h => first | exact Nat.le_of_ble_eq_true rfl | decide +kernel)
  | with_reducible refine t_cons ?_ | with_reducible refine t_consL ?_ | with_reducible refine t_end ?_
  | ((with_reducible refine t_nm ?vm_h ?_); case vm_h => exact Nat.le_of_ble_eq_true rfl)
  | ((with_reducible refine r_lst ?vm_h ?_); case vm_h => exact Nat.le_of_ble_eq_true rfl)
  | ((with_reducible apply r_ref'); (· exact Nat.le_of_ble_eq_true rfl); (· first | exact own_len3 | exact own_len2 | exact own_len1 | exact own_len00 | exact own_len0 | exact loc_len3 | exact loc_len2 | exact loc_len1 | exact rfl); (· first | exact app3 | exact app2 | exact app1 | exact rfl))
  | ((with_reducible apply ix_lst'); (· walk_at "wg"); (· exact rfl); (· walk_at "wu"))
  | ((with_reducible apply bm_at); (· walk_at "wg"); (· first | exact .inl rfl | exact .inr (.inl rfl) | exact .inr (.inr rfl)))
  | ((with_reducible refine bm_txt ?vm_m ?_); (case vm_m => first | exact .inl rfl | exact .inr rfl))
  | with_reducible refine i_len_lst ?_ | with_reducible refine i_len_tup ?_ | with_reducible refine i_len_scr ?_ | ((with_reducible apply i_len_ref); (· walk_at "wg")) | with_reducible refine i_min ?_ | with_reducible refine i_max ?_
  | with_reducible refine sl_lst ?_ | with_reducible refine sl_tup ?_
  | ((with_reducible apply i_tuple); (· first | exact rfl | exact seq_ref (by walk_at "wg"))) | ((with_reducible apply i_list); (· first | exact rfl | exact seq_ref (by walk_at "wg")))
  | ((with_reducible apply i_isT); (· decide +kernel); (· exact rfl)) | ((with_reducible apply i_len_str); (· assumption)) | with_reducible refine c_letter ?_ | with_reducible refine it_str ?_
  | with_reducible refine ⟨_, rfl, ?_⟩
  | (with_reducible refine ⟨?vm_h, ?_⟩; case vm_h => exact Nat.le_of_ble_eq_true rfl)
  | dsimp only [bodyKt, List.set_cons_zero, List.set_cons_succ]
  | with_reducible refine vit ?_ | with_reducible refine vand_f ?_ | with_reducible refine vor_t ?_ | with_reducible refine vor_f ?_ | with_reducible refine vTrue ?_ | with_reducible refine vFalse ?_ | simp only [Bool.not_true, Bool.not_false]
  | ((with_reducible refine vift ?vm_h ?_); case vm_h => decide) | ((with_reducible refine viff ?vm_h ?_); case vm_h => decide)
  | ((with_reducible refine vor_f' ?vm_h ?_); case vm_h => decide) | ((with_reducible refine vor_t' ?vm_h ?_); case vm_h => decide)
  | rw [pot_set (by assumption)] | rw [List.set_set])
local macro_rules | `(tactic| walk_at "ws") => `(tactic| first
  | with_reducible refine ss_cons ?_ | with_reducible refine ss_consf ?_ | with_reducible refine ss_one ?_ | with_reducible refine ss_nil ?_
  | with_reducible refine s_set' ?_ | with_reducible refine s_par' ?_ | with_reducible refine s_setA2 ?_ | with_reducible refine s_setI' ?_ | with_reducible refine s_exp' ?_ | with_reducible refine s_ret' ?_ | with_reducible refine s_ifs' ?_ | with_reducible refine s_for' ?_ | with_reducible refine s_raise' ?_)
local macro_rules | `(tactic| walk_at "w") => `(tactic| first | walk_at "ws" | walk_at "we" | walk_at "wv")
local macro_rules | `(tactic| walk_at "w*") => `(tactic| repeat walk_at "w")
local macro_rules | `(tactic| walk_at "wstart") => `(tactic| simp only [Vm.start, List.map_cons, List.map_nil, List.length_cons, List.length_nil, Nat.reduceAdd, Nat.reduceSub, List.replicate, List.cons_append, List.nil_append])
section
variable {n p : Nat} {o : O} {L : Int} {l : Lore} {st : Sto} {Q EX : QD}
/-- the values of any kind -/
def odds : List D := ([D.non, D.bl true, D.bl false, D.int 0, D.int 1, D.int (-1), D.int 2, D.int 40, D.str (Str.ofString ""), D.str (Str.ofString "a"), D.str (Str.ofString "look"), D.tup [], D.lst [], D.dct (mrgK [] []), D.tup [D.int 0], D.tup [D.tup []], D.lst [D.int 0], D.tup [D.str (Str.ofString "a")], D.str (Str.ofString "write")] ++ [D.dct (mrgK [] [(Sum.inr (Str.ofString "a"), D.int 1)]), D.tup [D.str (Str.ofString "a"), D.str (Str.ofString "b")], D.tup [D.str (Str.ofString "a"), D.int 0], D.tup [D.tup [D.int 1, D.int 2]], D.int (10 ^ Int.toNat 8), D.lst [D.str (Str.ofString "a")], D.tup [D.non], D.str (Str.ofString "hand"), D.str (Str.ofString "oil"), D.tup [D.bl true, D.int 1]] ++ [D.tup [D.str (Str.ofString "oil"), D.str (Str.ofString "bank")]])
theorem odds_odd : odds.all (fun v => gd v && SwB 8 200 v) = true := by decide +kernel
theorem odd_of {v : D} (h : v ∈ odds) : Odd v := odd_of' (List.all_eq_true.mp odds_odd v h)
theorem odd_ok (hp : st[p]? = some o) (ho : PotOk o L) (hL : L < 999000) (k : ∀ (v : D) (o' : O), Odd v → PotOk o' (L + 1) → Q v (st.set p o')) : wPr tx.C tx.pg (n + 3) (PySem.Str.ofString "_law_odd") [.ref p] st Q EX := by
  refine wPr_fn k_law_odd rfl (by decide) ?_
  simp only [d_law_odd, b_law_odd]
  walk_at "wstart"
  walk_at "w*"
  refine b_addL (by rw [sizeLine_eq]; exact Nat.le_of_ble_eq_true rfl) ?_
  walk_at "w*"
  refine b_addL (by rw [sizeLine_eq]; exact Nat.le_of_ble_eq_true rfl) ?_
  walk_at "w*"
  refine of_ok hp ho (by omega) (Nat.lt_of_lt_of_le (Nat.lt_succ_self _) (Nat.le_of_ble_eq_true rfl)) (Nat.lt_of_lt_of_le (Nat.lt_succ_self _) (Nat.le_of_ble_eq_true rfl)) (fun x hx => (odd_of hx).lim _) fun v o' hv po => ?_
  exact exit_set ((odd_of hv).lim _) po.lim (k v o' (odd_of hv) po)
end
end K00

set_option Elab.async false
set_option linter.all false
set_option maxRecDepth 100000
set_option maxHeartbeats 4000000
namespace K00
open Vm PySem PySem.Spec PyProof.Rows L2 TL
local macro_rules | `(tactic| walk_at "wg") => `(tactic| first | assumption | (with_reducible exact own_get0) | (with_reducible exact loc_get0) | exact own_get 1 | exact own_get 2 | exact loc_get 1 | exact loc_get 2 | exact pot_get (by assumption) | exact get_set (by first | assumption | (simp only [List.length_set]; assumption)))
local macro_rules | `(tactic| walk_at "wu") => `(tactic| first | (with_reducible exact own_set0) | (with_reducible exact loc_set0) | exact own_set 1 | exact own_set 2 | exact loc_set 1 | exact loc_set 2 | exact pot_set (by assumption) | exact rfl)
local macro_rules | `(tactic| walk_at "wo") => `(tactic| first | assumption | decide | decide +kernel)
local macro_rules | `(tactic| walk_at "we") => `(tactic| first
  | ((with_reducible apply e_var); (· exact rfl)) | with_reducible refine e_int ?_ | with_reducible refine e_str ?_ | with_reducible refine e_bl ?_ | with_reducible refine e_non ?_ | with_reducible refine e_bty ?_ | ((with_reducible apply e_glo); (· exact rfl))
  | with_reducible refine e_bin ?_ | with_reducible refine e_neg ?_ | with_reducible refine e_cmp ?_ | with_reducible refine e_cmp2 ?_ | with_reducible refine e_isN ?_ | with_reducible refine e_isB ?_ | with_reducible refine e_bop ?_ | with_reducible refine e_not ?_ | with_reducible refine e_ite ?_ | with_reducible refine e_call ?_ | with_reducible refine e_make ?_ | with_reducible refine e_meth ?_ | with_reducible refine e_bi ?_ | with_reducible refine e_bm ?_ | with_reducible refine e_attr ?_ | with_reducible refine e_idx ?_ | with_reducible refine e_slc ?_ | with_reducible refine e_tup ?_ | with_reducible refine e_lst ?_ | with_reducible refine e_dic ?_ | with_reducible refine e_rngl ?_ | with_reducible refine e_exv ?_ | with_reducible refine e_lens ?_ | with_reducible refine e_ssrt ?_ | with_reducible refine e_comp ?_ | with_reducible refine e_told ?_ | with_reducible refine e_rev ?_ | with_reducible refine e_dcop ?_
  | with_reducible refine es_nil ?_ | with_reducible refine es_cons ?_ | with_reducible refine es_star ?_ | with_reducible refine eo_none ?_ | with_reducible refine eo_some ?_ | with_reducible refine bop_two ?_ | with_reducible refine bop_one ?_ | with_reducible refine sr_rng ?_ | with_reducible refine sr_ex' ?_ | with_reducible refine sr_enu ?_
  | with_reducible refine ifs_cons ?_ | with_reducible refine ifs_nil ?_)
local macro_rules | `(tactic| walk_at "wv") => `(tactic| first
  | ((with_reducible apply told_x); (· kernel_rfl)) | ((with_reducible apply a_value); (· kernel_rfl)) | ((with_reducible apply i_isX (b := true)); (· kernel_rfl)) | ((with_reducible apply i_isX (b := false)); (· kernel_rfl)) | ((with_reducible apply i_isXn); (· kernel_rfl); (· exact rfl))
  | with_reducible refine it_lst ?_ | with_reducible refine it_tup ?_ | ((with_reducible apply it_ref); (· walk_at "wg"))
  | with_reducible refine b_addI ?_ | with_reducible refine b_sub ?_ | ((with_reducible refine b_mod ?vm_h ?_); case vm_h => first | assumption | decide | decide +kernel) | ((with_reducible refine b_fdiv ?vm_h ?_); case vm_h => first | decide | exact ⟨by first | assumption | omega, by first | assumption | omega⟩) | ((with_reducible refine b_mul ?vm_h ?_); case vm_h => first | decide | exact Or.inl ⟨by omega, by omega⟩ | exact Or.inr ⟨by omega, by omega⟩) | ((with_reducible refine b_pow ?vm_h ?_); case vm_h => first | decide | exact pow_small (by decide) (by decide) (by omega) | exact ⟨by decide, by decide +kernel⟩) | with_reducible refine c_lt ?_ | with_reducible refine c_le ?_ | with_reducible refine c_gt ?_ | with_reducible refine c_ge ?_ | with_reducible refine i_int ?_ | with_reducible refine i_intB ?_ | with_reducible refine i_abs ?_
  | with_reducible refine c_eqI' ?_ | with_reducible refine c_neI ?_
  | with_reducible refine c_eqS ?_ | with_reducible refine c_neS ?_ | with_reducible refine c_eqB ?_ | with_reducible refine c_neB ?_
  | with_reducible refine x_lst0 ?_ | with_reducible refine x_lst1 ?_ | with_reducible refine x_lst2 ?_ | with_reducible refine x_tup0 ?_ | with_reducible refine x_tup1 ?_ | with_reducible refine x_tup2 ?_
  | ((with_reducible apply x_ref); (· walk_at "wg"); (· exact rfl)) | ((with_reducible apply x_lst); (· exact rfl)) | ((with_reducible apply x_tup); (· exact rfl))
  | with_reducible refine x_clients ?_ | with_reducible refine x_rivals ?_ | with_reducible refine x_kinds ?_
  | with_reducible refine rd_a0 ?_ | with_reducible refine rd_a1 ?_ | with_reducible refine rd_a2 ?_ | with_reducible refine rd_a3 ?_ | with_reducible refine rd_a4 ?_ | with_reducible refine rd_l1 ?_ | with_reducible refine rd_l2 ?_ | with_reducible refine rd_l3 ?_ | with_reducible refine rd_l4 ?_ | ((with_reducible apply rd_meth); (· kernel_rfl); (· kernel_rfl))
  | ((with_reducible apply set_ins); (· walk_at "wg"); (· kernel_rfl); (· kernel_rfl); (· exact Nat.lt_of_lt_of_le (Nat.lt_succ_self _) (Nat.le_of_ble_eq_true rfl)); (· walk_at "wu"))
  | ((with_reducible apply r_dct); (· exact Nat.le_of_ble_eq_true rfl); (· first | exact loc_len4 | exact loc_len3 | exact loc_len2 | exact loc_len1 | exact rfl); (· first | exact app4 | exact app3 | exact app2 | exact app1 | exact rfl))
  | ((with_reducible refine r_dctF ?vm_h ?_); case vm_h => first | exact Nat.le_of_ble_eq_true rfl | decide +kernel)
  | with_reducible refine t_cons ?_ | with_reducible refine t_consL ?_ | with_reducible refine t_end ?_
  | ((with_reducible refine t_nm ?vm_h ?_); case vm_h => exact Nat.le_of_ble_eq_true rfl)
  | ((with_reducible refine r_lst ?vm_h ?_); case vm_h => exact Nat.le_of_ble_eq_true rfl)
  | ((with_reducible apply r_ref'); (· exact Nat.le_of_ble_eq_true rfl); (· first | exact own_len3 | exact own_len2 | exact own_len1 | exact own_len00 | exact own_len0 | exact loc_len3 | exact loc_len2 | exact loc_len1 | exact rfl); (· first | exact app3 | exact app2 | exact app1 | exact rfl))
  | ((with_reducible apply ix_lst'); (· walk_at "wg"); (· exact rfl); (· walk_at "wu"))
  | ((with_reducible apply bm_at); (· walk_at "wg"); (· first | exact .inl rfl | exact .inr (.inl rfl) | exact .inr (.inr rfl)))
  | ((with_reducible refine bm_txt ?vm_m ?_); (case vm_m => first | exact .inl rfl | exact .inr rfl))
  | with_reducible refine i_len_lst ?_ | with_reducible refine i_len_tup ?_ | with_reducible refine i_len_scr ?_ | ((with_reducible apply i_len_ref); (· walk_at "wg")) | with_reducible refine i_min ?_ | with_reducible refine i_max ?_
  | with_reducible refine rv_lst ?_ | with_reducible refine rv_tup ?_
  | with_reducible refine sl_lst ?_ | with_reducible refine sl_tup ?_
  | ((with_reducible apply i_tuple); (· first | exact rfl | exact seq_ref (by walk_at "wg"))) | ((with_reducible apply i_list); (· first | exact rfl | exact seq_ref (by walk_at "wg")))
  | ((with_reducible apply i_isT); (· decide +kernel); (· exact rfl)) | ((with_reducible apply i_len_str); (· assumption)) | with_reducible refine c_letter ?_ | with_reducible refine it_str ?_
  | with_reducible refine ⟨_, rfl, ?_⟩
  | (with_reducible refine ⟨?vm_h, ?_⟩; case vm_h => exact Nat.le_of_ble_eq_true rfl)
  | dsimp only [bodyKt, List.set_cons_zero, List.set_cons_succ]
  | with_reducible refine vit ?_ | with_reducible refine vand_f ?_ | with_reducible refine vor_t ?_ | with_reducible refine vor_f ?_ | with_reducible refine vTrue ?_ | with_reducible refine vFalse ?_ | simp only [Bool.not_true, Bool.not_false]
  | ((with_reducible refine vift ?vm_h ?_); case vm_h => decide) | ((with_reducible refine viff ?vm_h ?_); case vm_h => decide)
  | ((with_reducible refine vor_f' ?vm_h ?_); case vm_h => decide) | ((with_reducible refine vor_t' ?vm_h ?_); case vm_h => decide)
  | rw [pot_set (by assumption)] | rw [List.set_set])
local macro_rules | `(tactic| walk_at "ws") => `(tactic| first
  | with_reducible refine ss_cons ?_ | with_reducible refine ss_consf ?_ | with_reducible refine ss_one ?_ | with_reducible refine ss_nil ?_
  | with_reducible refine s_set' ?_ | with_reducible refine s_par' ?_ | with_reducible refine s_setA2 ?_ | with_reducible refine s_setI' ?_ | with_reducible refine s_exp' ?_ | with_reducible refine s_ret' ?_ | with_reducible refine s_ifs' ?_ | with_reducible refine s_for' ?_ | with_reducible refine s_raise' ?_)
local macro_rules | `(tactic| walk_at "w") => `(tactic| first | walk_at "ws" | walk_at "we" | walk_at "wv")
local macro_rules | `(tactic| walk_at "w*") => `(tactic| repeat walk_at "w")
local macro_rules | `(tactic| walk_at "wstart") => `(tactic| simp only [Vm.start, List.map_cons, List.map_nil, List.length_cons, List.length_nil, Nat.reduceAdd, Nat.reduceSub, List.replicate, List.cons_append, List.nil_append])
/-! ### k00: errors made as values -/
theorem gd_dct1 {k : Key} {x : D} (h : gd x = true) : gd (.dct [(k, x)]) = true := by
  show (gd x && true) = true
  rw [h]; rfl
theorem sw_dct1 {d w : Nat} {s : Str} {x : D} (hs : s.cps.size ≤ 8 ∧ (PyData.str s).leavesShort 13 = true) (h : Sw d w x) : Sw (d + 1) (w + 10) (.dct [(Sum.inr s, x)]) := by
  obtain ⟨p, a1, a2, a3, a4, a5⟩ := h
  refine ⟨.dict [(.str s, p)], ?_, by simp only [PyData.showable, PyData.showableKv, a2]; rfl, by simp only [PyData.depth, PyData.depthKv]; omega, by simp only [PyData.weight, PyData.weightKv]; omega, by simp only [PyData.leavesShort, PyData.leavesShortKv, a5]; have := hs.2; simp only [PyData.leavesShort] at this; rw [this]; rfl⟩
  show (dat2K [(Sum.inr s, x)]).map _ = _
  have : dat2K [(Sum.inr s, x)] = some [(.str s, p)] := by
    show (x.dat2).bind (fun d => (dat2K []).map fun ds => (keyP (Sum.inr s), d) :: ds) = _
    rw [a1]; rfl
  rw [this]; rfl
section
variable {n p : Nat} {o : O} {L : Int} {st : Sto} {Q EX : QD}
theorem nested_ok : ∀ {deep : Nat} {n : Nat} {o : O} {L : Int} {st : Sto} {Q EX : QD}, st[p]? = some o → PotOk o L → L + 10 + deep < 900000 → deep ≤ 3 →
    (∀ (v : D) (o' : O), gd v = true → Sw (8 + deep) (200 + 20 * deep) v → PotOk o' (L + 2 + deep) → Q v (st.set p o')) → wPr tx.C tx.pg (deep + n + 4) (PySem.Str.ofString "_law_nested") [.ref p, .int deep] st Q EX := by
  intro deep
  induction deep with
  | zero =>
    intro n o L st Q EX hp ho hL hd k
    refine wPr_fn k_law_nested rfl (by decide) ?_
    simp only [d_law_nested, b_law_nested]
    walk_at "wstart"
    walk_at "w*"
    refine take_ok hp ho (by omega) (by decide) (by decide) fun d o1 d0 d1 po1 => ?_
    have hpl : p < st.length := (List.getElem?_eq_some_iff.mp hp).1
    walk_at "w*"
    refine odd_ok (get_set hpl) po1 (by omega) fun v o2 hv po2 => ?_
    rw [List.set_set]
    exact exit_set (hv.lim _) po2.lim (k v o2 hv.g hv.sw (po2.mono (by omega)))
  | succ deep ih =>
    intro n o L st Q EX hp ho hL hd k
    refine wPr_fn k_law_nested rfl (by decide) ?_
    simp only [d_law_nested, b_law_nested]
    walk_at "wstart"
    walk_at "w*"
    refine take_ok hp ho (by omega) (by decide) (by decide) fun d o1 d0 d1 po1 => ?_
    have hpl : p < st.length := (List.getElem?_eq_some_iff.mp hp).1
    have e0 : decide (((deep + 1 : Nat) : Int) = 0) = false := decide_eq_false (by omega)
    walk_at "w*"
    refine vor_f' e0 ?_
    walk_at "w*"
    refine vif (fun h => ?_) fun h => ?_
    · walk_at "w*"
      refine odd_ok (get_set hpl) po1 (by omega) fun v o2 hv po2 => ?_
      rw [List.set_set]
      exact exit_set (hv.lim _) po2.lim (k v o2 hv.g (sw_mono hv.sw (by omega) (by omega)) (po2.mono (by omega)))
    · have h2 : 2 ≤ d := by simpa using h
      walk_at "w*"
      rw [show ((deep + 1 : Nat) : Int) - 1 = (deep : Int) by omega, show deep + 1 + n + 3 = deep + n + 4 by omega]
      refine ih (n := n) (L := L + 1) (get_set hpl) po1 (by omega) (by omega) fun v o2 gv sv po2 => ?_
      rw [List.set_set]
      have lv : ∀ m, v.lim m = true := fun m => gd_lim v gv
      rcases (show d = 2 ∨ d = 3 ∨ d = 4 by omega) with rfl | rfl | rfl
      · walk_at "w*"
        refine exit_set ?_ po2.lim (k _ o2 ?_ (sw_mono (sw_tup (swl_cons sv (swl_nil (w := 0)))) (by omega) (by omega)) (po2.mono (by omega)))
        · show (v.lim _ && true) = true
          rw [lv]; rfl
        · show (gd v && true) = true
          rw [gv]; rfl
      · walk_at "w*"
        refine exit_set ?_ po2.lim (k _ o2 ?_ (sw_mono (sw_lst (swl_cons sv (swl_cons (w := 1) (v := 0) (sw_mono (sw_of (d := 0) (w := 1) (by decide +kernel)) (by omega) (by omega)) (swl_nil (w := 0))))) (by omega) (by omega)) (po2.mono (by omega)))
        · show (v.lim _ && (true && true)) = true
          rw [lv]; rfl
        · show (gd v && (true && true)) = true
          rw [gv]; rfl
      · walk_at "w*"
        refine exit_set ?_ po2.lim (k _ o2 (gd_dct1 gv) (sw_mono (sw_dct1 (by decide +kernel) sv) (by omega) (by omega)) (po2.mono (by omega)))
        show (v.lim _ && true) = true
        rw [lv]; rfl
/-- the errors, in the law's sequence -/
def nms : List Str := ["BadBook", "NoClient", "NoKind", "BadRivals", "BadWord", "BadRight", "BadPairs", "BadLot", "BadPair", "OtherBook", "BadStaff", "BadRun", "NotApart", "TooMany", "BadOffers", "BadClients", "BadCases", "NoneFits", "BadRivalry", "NoPerson", "Full", "NoRight", "Rival", "Fenced", "Left", "NothingToUndo", "NothingToRedo", "NoTrial", "BadJournal", "BadLine"]
theorem made_of_ok {v : D} (hv : ∀ m, v.lim m = true) (q : Q (.lst (nms.map fun c => .exc c v)) st) : wPr tx.C tx.pg (n + 1) (PySem.Str.ofString "_law_made_of") [v] st Q EX := by
  refine wPr_fn k_law_made_of rfl (by decide) ?_
  simp only [d_law_made_of, b_law_made_of]
  walk_at "wstart"
  repeat (first | walk_at "w" | ((with_reducible apply m_extend'); (· walk_at "wg"); (· exact Nat.le_of_ble_eq_true rfl); (· walk_at "wu")))
  have hl : limL st.length (nms.map fun c => D.exc c v) = true := limL_of fun x hx => by
    obtain ⟨c, _, rfl⟩ := List.mem_map.mp hx
    exact hv _
  exact exit_cut rfl (fun _ _ e => .inl e) (.rlst (Nat.le_refl _) loc_get0 (fz_all hl)) q
theorem i_isXg {Φ : Fn} {C : Vm.Ctx} {al : Bool} {c k : Str} {v : D} {anc : List Str} (h : C.exs.lookup c = some anc) (h2 : (!(C.cl k).isSome && (C.exs.lookup k).isSome) = true) (q : Q (.bl (anc.contains k)) st) : wBi Φ C .isinst al [.exc c v, .glo k] st Q EX := by
  refine i_isX ?_ q
  unfold excIs
  rw [h, h2]
  show (true && (anc.contains k == anc.contains k)) = true
  rw [beq_self_eq_true]; rfl
theorem marks_ok {c : Str} {v : D} {anc : List Str} (h : tx.C.exs.lookup c = some anc) (q : Q (.lst (nms.map fun k => .bl (anc.contains k))) st) : wPr tx.C tx.pg (n + 1) (PySem.Str.ofString "_law_marks") [.exc c v] st Q EX := by
  refine wPr_fn k_law_marks rfl (by decide) ?_
  simp only [d_law_marks, b_law_marks]
  walk_at "wstart"
  repeat (first | ((with_reducible refine i_isXg h ?vm_x ?_); case vm_x => kernel_rfl) | walk_at "w" | ((with_reducible apply m_extend'); (· walk_at "wg"); (· exact Nat.le_of_ble_eq_true rfl); (· walk_at "wu")))
  have hl : limL st.length (nms.map fun k => D.bl (anc.contains k)) = true := limL_of fun x hx => by
    obtain ⟨c, _, rfl⟩ := List.mem_map.mp hx
    rfl
  exact exit_cut rfl (fun _ _ e => .inl e) (.rlst (Nat.le_refl _) loc_get0 (fz_all hl)) q
/-- lists of bools -/
theorem dataL_bl : ∀ bs : List Bool, dataL (bs.map D.bl) = some (bs.map PyData.bool)
  | [] => rfl
  | b :: bs => by
    show ((D.bl b).data).bind (fun d => (dataL (bs.map D.bl)).map fun ds => d :: ds) = _
    rw [dataL_bl bs]; rfl
theorem eqvAll_bl : ∀ bs cs : List Bool, PyData.eqvAll (bs.map PyData.bool) (cs.map PyData.bool) = decide (bs = cs)
  | [], [] => by simp [PyData.eqvAll]
  | [], c :: cs => by simp [PyData.eqvAll]
  | b :: bs, [] => by simp [PyData.eqvAll]
  | b :: bs, c :: cs => by
    rw [List.map_cons, List.map_cons, PyData.eqvAll, eqvAll_bl bs cs]
    have : PyData.eqv (.bool b) (.bool c) = decide (b = c) := by cases b <;> cases c <;> first | rfl | simp [PyData.eqv]
    rw [this, Bool.eq_iff_iff]
    simp
theorem shaped_bl (bs : List Bool) : SeqAt.shaped (.list (bs.map PyData.bool)) = true := by
  have h1 : ∀ bs : List Bool, PyData.canLayAll0 (bs.map PyData.bool) = true := fun bs => by
    induction bs with
    | nil => rfl
    | cons b bs ih => rw [List.map_cons, PyData.canLayAll0, ih]; rfl
  have h2 : ∀ bs : List Bool, PyData.depthAll (bs.map PyData.bool) = 0 := fun bs => by
    induction bs with
    | nil => rfl
    | cons b bs ih => rw [List.map_cons, PyData.depthAll, ih]; rfl
  unfold SeqAt.shaped
  simp only [PyData.canLay0, h1, PyData.depth, h2]
  decide
theorem c_neLB {Φ : Fn} {C : Vm.Ctx} {bs cs : List Bool} {R : Bool → Sto → Prop} (q : R (!decide (bs = cs)) st) : wCmp Φ C .ne (.lst (bs.map D.bl)) (.lst (cs.map D.bl)) st R EX := by
  have sh : ∀ bs : List Bool, shapedD st (.lst (bs.map D.bl)) = some (.list (bs.map PyData.bool)) := fun bs => by
    unfold shapedD
    have : dataOf st (.lst (bs.map D.bl)) = some (.list (bs.map PyData.bool)) := by
      show (dataL (bs.map D.bl)).map _ = _
      rw [dataL_bl]; rfl
    rw [this]
    show (if SeqAt.shaped _ = true then _ else _) = _
    rw [if_pos (shaped_bl bs)]
  refine .inr ⟨_, _, sh bs, sh cs, ?_⟩
  rw [PyData.eqv, eqvAll_bl]
  exact q
theorem c_inB {Φ : Fn} {C : Vm.Ctx} {b : Bool} {bs : List Bool} {R : Bool → Sto → Prop} (q : R (bs.any fun z => z == b) st) : wCmp Φ C .isin (.bl b) (.lst (bs.map D.bl)) st R EX := by
  have main : inSeq st (.bl b) (.lst (bs.map D.bl)) fun r => R r st := by
    refine ⟨.bool b, _, _, by cases b <;> rfl, rfl, dataL_bl bs, shaped_bl bs, ?_⟩
    have : (bs.map PyData.bool).any (fun z => PyData.eqv z (.bool b)) = bs.any fun z => z == b := by
      rw [List.any_map]
      rfl
    rw [this]; exact q
  exact main
def okAt (i : Nat) : Bool := match nms[i]? with
  | none => true
  | some c => (tx.C.exs.lookup c == some [c, "WallError", "ValueError"]) && ((nms.map fun k => [c, "WallError", "ValueError"].contains k) == (List.range 30).map fun (j : Nat) => decide ((i : Int) = (j : Int)))
theorem ok_all : ((List.range 30).all okAt) = true := by decide +kernel
theorem ok_at {i : Nat} {c : Str} (h : nms[i]? = some c) : tx.C.exs.lookup c = some [c, "WallError", "ValueError"] ∧ ((nms.map fun k => [c, "WallError", "ValueError"].contains k) = (List.range 30).map fun (j : Nat) => decide ((i : Int) = (j : Int))) := by
  have hi : i < 30 := (List.getElem?_eq_some_iff.mp h).1
  have := List.all_eq_true.mp ok_all i (List.mem_range.mpr hi)
  unfold okAt at this
  rw [h] at this
  have := Bool.and_eq_true_iff.mp this
  exact ⟨beq_iff_eq.mp this.1, beq_iff_eq.mp this.2⟩
end
end K00

set_option Elab.async false
set_option linter.all false
set_option maxRecDepth 100000
set_option maxHeartbeats 4000000
namespace K00
open Vm PySem PySem.Spec PyProof.Rows L2 TL
local macro_rules | `(tactic| walk_at "wg") => `(tactic| first | assumption | (with_reducible exact own_get0) | (with_reducible exact loc_get0) | exact own_get 1 | exact own_get 2 | exact loc_get 1 | exact loc_get 2 | exact pot_get (by assumption) | exact get_set (by first | assumption | (simp only [List.length_set]; assumption)))
local macro_rules | `(tactic| walk_at "wu") => `(tactic| first | (with_reducible exact own_set0) | (with_reducible exact loc_set0) | exact own_set 1 | exact own_set 2 | exact loc_set 1 | exact loc_set 2 | exact pot_set (by assumption) | exact rfl)
local macro_rules | `(tactic| walk_at "wo") => `(tactic| first | assumption | decide | decide +kernel)
local macro_rules | `(tactic| walk_at "we") => `(tactic| first
  | ((with_reducible apply e_var); (· exact rfl)) | with_reducible refine e_int ?_ | with_reducible refine e_str ?_ | with_reducible refine e_bl ?_ | with_reducible refine e_non ?_ | with_reducible refine e_bty ?_ | ((with_reducible apply e_glo); (· exact rfl))
  | with_reducible refine e_bin ?_ | with_reducible refine e_neg ?_ | with_reducible refine e_cmp ?_ | with_reducible refine e_cmp2 ?_ | with_reducible refine e_isN ?_ | with_reducible refine e_isB ?_ | with_reducible refine e_bop ?_ | with_reducible refine e_not ?_ | with_reducible refine e_ite ?_ | with_reducible refine e_call ?_ | with_reducible refine e_make ?_ | with_reducible refine e_meth ?_ | with_reducible refine e_bi ?_ | with_reducible refine e_bm ?_ | with_reducible refine e_attr ?_ | with_reducible refine e_idx ?_ | with_reducible refine e_slc ?_ | with_reducible refine e_tup ?_ | with_reducible refine e_lst ?_ | with_reducible refine e_dic ?_ | with_reducible refine e_rngl ?_ | with_reducible refine e_exv ?_ | with_reducible refine e_lens ?_ | with_reducible refine e_ssrt ?_ | with_reducible refine e_comp ?_ | with_reducible refine e_told ?_ | with_reducible refine e_rev ?_ | with_reducible refine e_dcop ?_
  | with_reducible refine es_nil ?_ | with_reducible refine es_cons ?_ | with_reducible refine es_star ?_ | with_reducible refine eo_none ?_ | with_reducible refine eo_some ?_ | with_reducible refine bop_two ?_ | with_reducible refine bop_one ?_ | with_reducible refine sr_rng ?_ | with_reducible refine sr_ex' ?_ | with_reducible refine sr_enu ?_
  | with_reducible refine ifs_cons ?_ | with_reducible refine ifs_nil ?_)
local macro_rules | `(tactic| walk_at "wv") => `(tactic| first
  | ((with_reducible apply told_x); (· kernel_rfl)) | ((with_reducible apply a_value); (· kernel_rfl)) | ((with_reducible apply i_isX (b := true)); (· kernel_rfl)) | ((with_reducible apply i_isX (b := false)); (· kernel_rfl)) | ((with_reducible apply i_isXn); (· kernel_rfl); (· exact rfl))
  | with_reducible refine it_lst ?_ | with_reducible refine it_tup ?_ | ((with_reducible apply it_ref); (· walk_at "wg"))
  | with_reducible refine b_addI ?_ | with_reducible refine b_sub ?_ | ((with_reducible refine b_mod ?vm_h ?_); case vm_h => first | assumption | decide | decide +kernel) | ((with_reducible refine b_fdiv ?vm_h ?_); case vm_h => first | decide | exact ⟨by first | assumption | omega, by first | assumption | omega⟩) | ((with_reducible refine b_mul ?vm_h ?_); case vm_h => first | decide | exact Or.inl ⟨by omega, by omega⟩ | exact Or.inr ⟨by omega, by omega⟩) | ((with_reducible refine b_pow ?vm_h ?_); case vm_h => first | decide | exact pow_small (by decide) (by decide) (by omega) | exact ⟨by decide, by decide +kernel⟩) | with_reducible refine c_lt ?_ | with_reducible refine c_le ?_ | with_reducible refine c_gt ?_ | with_reducible refine c_ge ?_ | with_reducible refine i_int ?_ | with_reducible refine i_intB ?_ | with_reducible refine i_abs ?_
  | with_reducible refine c_eqI' ?_ | with_reducible refine c_neI ?_
  | with_reducible refine c_eqS ?_ | with_reducible refine c_neS ?_ | with_reducible refine c_eqB ?_ | with_reducible refine c_neB ?_
  | with_reducible refine x_lst0 ?_ | with_reducible refine x_lst1 ?_ | with_reducible refine x_lst2 ?_ | with_reducible refine x_tup0 ?_ | with_reducible refine x_tup1 ?_ | with_reducible refine x_tup2 ?_
  | ((with_reducible apply x_ref); (· walk_at "wg"); (· exact rfl)) | ((with_reducible apply x_lst); (· exact rfl)) | ((with_reducible apply x_tup); (· exact rfl))
  | with_reducible refine x_clients ?_ | with_reducible refine x_rivals ?_ | with_reducible refine x_kinds ?_
  | with_reducible refine rd_a0 ?_ | with_reducible refine rd_a1 ?_ | with_reducible refine rd_a2 ?_ | with_reducible refine rd_a3 ?_ | with_reducible refine rd_a4 ?_ | with_reducible refine rd_l1 ?_ | with_reducible refine rd_l2 ?_ | with_reducible refine rd_l3 ?_ | with_reducible refine rd_l4 ?_ | ((with_reducible apply rd_meth); (· kernel_rfl); (· kernel_rfl))
  | ((with_reducible apply set_ins); (· walk_at "wg"); (· kernel_rfl); (· kernel_rfl); (· exact Nat.lt_of_lt_of_le (Nat.lt_succ_self _) (Nat.le_of_ble_eq_true rfl)); (· walk_at "wu"))
  | ((with_reducible apply r_dct); (· exact Nat.le_of_ble_eq_true rfl); (· first | exact loc_len4 | exact loc_len3 | exact loc_len2 | exact loc_len1 | exact rfl); (· first | exact app4 | exact app3 | exact app2 | exact app1 | exact rfl))
  | ((with_reducible refine r_dctF ?vm_h ?_); case vm_h => first | exact Nat.le_of_ble_eq_true rfl | decide +kernel)
  | with_reducible refine t_cons ?_ | with_reducible refine t_consL ?_ | with_reducible refine t_end ?_
  | ((with_reducible refine t_nm ?vm_h ?_); case vm_h => exact Nat.le_of_ble_eq_true rfl)
  | ((with_reducible refine r_lst ?vm_h ?_); case vm_h => exact Nat.le_of_ble_eq_true rfl)
  | ((with_reducible apply r_ref'); (· exact Nat.le_of_ble_eq_true rfl); (· first | exact own_len3 | exact own_len2 | exact own_len1 | exact own_len00 | exact own_len0 | exact loc_len3 | exact loc_len2 | exact loc_len1 | exact rfl); (· first | exact app3 | exact app2 | exact app1 | exact rfl))
  | ((with_reducible apply ix_lst'); (· walk_at "wg"); (· exact rfl); (· walk_at "wu"))
  | ((with_reducible apply bm_at); (· walk_at "wg"); (· first | exact .inl rfl | exact .inr (.inl rfl) | exact .inr (.inr rfl)))
  | ((with_reducible refine bm_txt ?vm_m ?_); (case vm_m => first | exact .inl rfl | exact .inr rfl))
  | with_reducible refine i_len_lst ?_ | with_reducible refine i_len_tup ?_ | with_reducible refine i_len_scr ?_ | ((with_reducible apply i_len_ref); (· walk_at "wg")) | with_reducible refine i_min ?_ | with_reducible refine i_max ?_
  | with_reducible refine rv_lst ?_ | with_reducible refine rv_tup ?_
  | with_reducible refine sl_lst ?_ | with_reducible refine sl_tup ?_
  | ((with_reducible apply i_tuple); (· first | exact rfl | exact seq_ref (by walk_at "wg"))) | ((with_reducible apply i_list); (· first | exact rfl | exact seq_ref (by walk_at "wg")))
  | ((with_reducible apply i_isT); (· decide +kernel); (· exact rfl)) | ((with_reducible apply i_len_str); (· assumption)) | with_reducible refine c_letter ?_ | with_reducible refine it_str ?_
  | with_reducible refine ⟨_, rfl, ?_⟩
  | (with_reducible refine ⟨?vm_h, ?_⟩; case vm_h => exact Nat.le_of_ble_eq_true rfl)
  | dsimp only [bodyKt, List.set_cons_zero, List.set_cons_succ]
  | with_reducible refine vit ?_ | with_reducible refine vand_f ?_ | with_reducible refine vor_t ?_ | with_reducible refine vor_f ?_ | with_reducible refine vTrue ?_ | with_reducible refine vFalse ?_ | simp only [Bool.not_true, Bool.not_false]
  | ((with_reducible refine vift ?vm_h ?_); case vm_h => decide) | ((with_reducible refine viff ?vm_h ?_); case vm_h => decide)
  | ((with_reducible refine vor_f' ?vm_h ?_); case vm_h => decide) | ((with_reducible refine vor_t' ?vm_h ?_); case vm_h => decide)
  | rw [pot_set (by assumption)] | rw [List.set_set])
local macro_rules | `(tactic| walk_at "ws") => `(tactic| first
  | with_reducible refine ss_cons ?_ | with_reducible refine ss_consf ?_ | with_reducible refine ss_one ?_ | with_reducible refine ss_nil ?_
  | with_reducible refine s_set' ?_ | with_reducible refine s_par' ?_ | with_reducible refine s_setA2 ?_ | with_reducible refine s_setI' ?_ | with_reducible refine s_exp' ?_ | with_reducible refine s_ret' ?_ | with_reducible refine s_ifs' ?_ | with_reducible refine s_for' ?_ | with_reducible refine s_raise' ?_)
local macro_rules | `(tactic| walk_at "w") => `(tactic| first | walk_at "ws" | walk_at "we" | walk_at "wv")
local macro_rules | `(tactic| walk_at "w*") => `(tactic| repeat walk_at "w")
local macro_rules | `(tactic| walk_at "wstart") => `(tactic| simp only [Vm.start, List.map_cons, List.map_nil, List.length_cons, List.length_nil, Nat.reduceAdd, Nat.reduceSub, List.replicate, List.cons_append, List.nil_append])
section
variable {n p : Nat} {o : O} {L : Int} {st : Sto} {Q EX : QD}
theorem i_wall {Φ : Fn} {al : Bool} {v : D} (q : Q (.bl true) st) : wBi Φ tx.C .isinst al [.exc "WallError" v, .ty "ValueError"] st Q EX := by
  refine ⟨_, _, rfl, true, ?_, q⟩
  have h : ancOf tx.C (.exc "WallError" v) = some (["WallError", "ValueError"] : List Str) := (by kernel_rfl : tx.C.exs.lookup ("WallError" : Str) = some (["WallError", "ValueError"] : List Str))
  simp only [isI, h]
  rfl
theorem right_ok (hp : st[p]? = some o) (ho : PotOk o L) (hL : L < 800000) (k : ∀ o', PotOk o' (L + 6) → Q (.bl true) (st.set p o')) : wPr tx.C tx.pg (n + 9) (PySem.Str.ofString "_law_right") [.ref p] st Q EX := by
  refine wPr_fn k_law_right rfl (by decide) ?_
  simp only [d_law_right, b_law_right]
  walk_at "wstart"
  walk_at "w*"
  rw [show n + 8 = 3 + (n + 1) + 4 by omega]
  refine nested_ok (deep := 3) (n := n + 1) hp ho (by omega) (by omega) fun v o1 gv sv po1 => ?_
  have hv : ∀ m, v.lim m = true := fun m => gd_lim v gv
  have rv : Rp v := rp_sw (sw_mono sv (by decide) (by decide))
  walk_at "w*"
  refine i_rp rv ?_
  walk_at "w*"
  refine i_rp rv ?_
  walk_at "w*"
  refine i_wall ?_
  walk_at "w*"
  refine marks_ok (anc := ["WallError", "ValueError"]) (by kernel_rfl) ?_
  have e1 : (nms.map fun k => D.bl (List.contains (["WallError", "ValueError"] : List Str) k)) = (nms.map fun k => List.contains (["WallError", "ValueError"] : List Str) k).map D.bl := by rw [List.map_map]; rfl
  rw [e1]
  refine c_inB ?_
  rw [show ((nms.map fun k => List.contains (["WallError", "ValueError"] : List Str) k).any fun z => z == true) = false from by decide +kernel]
  walk_at "w*"
  refine made_of_ok hv ?_
  walk_at "w*"
  refine eachS_inv (fun _ env st' => st' = st.set p o1 ∧ ∃ a b c d, env = [some (.ref p), some v, some (.exc "WallError" v), a, b, c, d]) (fun i x env st' hi iv N hN => ⟨trivial, ?_⟩) (fun env st' iv => ⟨trivial, ?_⟩) ⟨rfl, _, _, _, _, rfl⟩
  · obtain ⟨rfl, a, b, c, d, rfl⟩ := iv
    rw [enumFrom_get] at hi
    obtain ⟨y, hy, rfl⟩ := Option.map_eq_some_iff.mp hi
    rw [List.getElem?_map] at hy
    obtain ⟨nm, hnm, rfl⟩ := Option.map_eq_some_iff.mp hy
    obtain ⟨e2, e3⟩ := ok_at hnm
    rw [Nat.zero_add]
    have e2s : (tx.C.exs.lookup nm).isSome = true := by rw [e2]; rfl
    walk_at "w*"
    refine ⟨0, 30, .inl ⟨rfl, rfl⟩, by decide, by decide, by decide, by decide, ?_⟩
    rw [show rngD 0 30 = (List.range 30).map fun (i : Nat) => D.int i from rngD_nat 30]
    refine each_bl (ea := fun (j : Nat) => D.int j) (fun j => decide ((i : Int) = (j : Int))) (List.range 30) trivial (fun y hy a2 k2 ha2 k3 => ?_) (by rw [sizeLine_eq]; decide) ?_
    · dsimp only [wipeE]
      walk_at "w*"
      exact ⟨ha2, k3⟩
    · repeat (first | (with_reducible refine a_value e2s ?_) | ((with_reducible refine i_isXg e2 ?vm_x ?_); case vm_x => kernel_rfl) | walk_at "w")
      refine i_rp rv ?_
      repeat (first | (with_reducible refine a_value e2s ?_) | ((with_reducible refine i_isXg e2 ?vm_x ?_); case vm_x => kernel_rfl) | walk_at "w")
      refine i_rp rv ?_
      repeat (first | (with_reducible refine a_value e2s ?_) | ((with_reducible refine i_isXg e2 ?vm_x ?_); case vm_x => kernel_rfl) | walk_at "w")
      rw [show List.contains ([nm, "WallError", "ValueError"] : List Str) ("WallError" : Str) = true from by simp]
      walk_at "w*"
      refine marks_ok e2 ?_
      have e4 : (nms.map fun k => D.bl (List.contains ([nm, "WallError", "ValueError"] : List Str) k)) = (nms.map fun k => List.contains ([nm, "WallError", "ValueError"] : List Str) k).map D.bl := by rw [List.map_map]; rfl
      rw [e4, e3]
      refine e_var rfl ?_
      refine c_neLB ?_
      rw [decide_eq_true rfl]
      walk_at "w*"
      exact hN _ _ ⟨rfl, _, _, _, _, rfl⟩
  · obtain ⟨rfl, a, b, c, d, rfl⟩ := iv
    walk_at "w*"
    exact exit_set rfl po1.lim (k o1 (po1.mono (by omega)))
theorem law_ok {ns : List Int} (hn : ns.length ≤ 63) : wPr tx.C tx.pg (n + 10) (PySem.Str.ofString "law") [.scr ns] [] (fun x _ => x = .bl true) fun _ _ => False := by
  refine wPr_fn k_law rfl (by decide) ?_
  simp only [d_law, b_law]
  walk_at "wstart"
  walk_at "w*"
  refine places_ok (m := 4) (by decide) (by decide) (by omega) fun j j1 j2 => ?_
  walk_at "w*"
  rw [rngD_nat]
  let Iv : Nat → Slots → Sto → Prop := fun i env s => ∃ a b c : Option D, env = [some (.scr ns), a, b, c] ∧ True
  refine eachS_inv Iv (fun i y env s hi iv N hN => ⟨trivial, ?_⟩) (fun env s iv => ⟨trivial, ?_⟩) ⟨none, none, none, rfl, trivial⟩
  · obtain ⟨a, b, c, rfl, _⟩ := iv
    rw [List.getElem?_map] at hi
    obtain ⟨q, hq, rfl⟩ := Option.map_eq_some_iff.mp hi
    have hq2 : q < j := by
      have := List.mem_of_getElem? hq
      exact List.mem_range.mp this
    walk_at "w*"
    refine pot_ok (j := q) (by omega) (by omega) fun o po => ?_
    walk_at "w*"
    have hpg : (s ++ [o])[s.length]? = some o := loc_get0
    have hpl : s.length < (s ++ [o]).length := by simp
    refine ⟨0, 6, .inl ⟨rfl, rfl⟩, by decide, by decide, by decide, by decide, ?_⟩
    let Iw : Nat → List D → Sto → Prop := fun i acc s2 => ∃ o2 : O, acc = (List.replicate i true).map D.bl ∧ s2 = (s ++ [o]).set s.length o2 ∧ PotOk o2 (3000 * i)
    refine each_inv Iw (fun i y acc s2 hi iv => ⟨trivial, fun N hN => ?_⟩) (fun acc s2 iv => ⟨trivial, ?_⟩) ⟨o, rfl, by rw [loc_set0], po⟩
    · obtain ⟨o2, rfl, rfl, po2⟩ := iv
      have hi3 : i < 6 := by
        have := (List.getElem?_eq_some_iff.mp hi).1
        rw [rngD_len] at this
        exact this
      dsimp only [wipeE]
      walk_at "w*"
      refine right_ok (get_set hpl) po2 (by omega) fun o3 po3 => ?_
      rw [List.set_set]
      refine ⟨by rw [List.length_map, List.length_replicate, sizeLine_eq]; omega, hN _ _ ⟨o3, ?_, rfl, po3.mono (by omega)⟩⟩
      rw [List.replicate_succ', List.map_append]
      rfl
    · obtain ⟨o2, rfl, rfl, po2⟩ := iv
      refine r_lst (by rw [List.length_map, List.length_replicate, rngD_len, sizeLine_eq]; decide) ?_
      walk_at "w*"
      refine i_all ?_
      rw [show ((List.replicate (rngD 0 6).length true).all id) = true from by rw [rngD_len]; rfl]
      walk_at "w*"
      exact hN _ _ ⟨_, _, _, rfl, trivial⟩
  · obtain ⟨a, b, c, rfl, _⟩ := iv
    walk_at "w*"
    exact ⟨0, .bl true, Nat.zero_le _, Nat.zero_le _, fun i o hi => absurd hi (Nat.not_lt_zero i), .keep rfl, rfl⟩
end
end K00

theorem PySem.Challenge.cw_wallbooks_k00_errors_and_what_they_keep_holds : PySem.Challenge.rw_wallbooks_k00_errors_and_what_they_keep.Holds := by
  exact K00.holds_by fun ns hn _ => K00.law_ok (n := 20) hn
