import PyProof.Rows.All
import Wide.All
import OpenK.AllK
import Wide.FinOn
import PySem.Challenge.RW_fanweave_k03_parts_of_terms
import HandS.ForMost
import HandS.Wide
import HandS.Evl
import HandS.Nested
import HandS.NestedK
import HandS.Exc
import HandS.FStr
import HandS.IsInst
import HandS.RaiseMore
import HandS.WordsDict
import HandS.More
import HandS.Conv
import HandS.Comp
import HandS.TryOnly
import HandS.Iter
import HandS.Zip
import HandS.Rev
import HandS.Steps
import HandS.List
import PyProof.CollectIter
import HandS.RevTup
import HandS.Defaults
import HandS.MakeKw
import HandS.EndTab
import HandS.HeadHook4
import KE.KCallOwn
import HandS.SlotsOwn
import HandS.Set
import HandS.SetFor
import HandS.Strs
import HandS.SetTxt0
import HandS.DictEq
import HandS.ExcOwn
import HandS.ExcInit
import HandS.ExcIs
import HandS.ExcField
import HandS.WordsExc
import KE.KExcIs
import HandS.Deep
import HandS.Replace
import HandS.TupAny
import HandS.WrittenGet
import HandS.DictComp
import HandS.Head0
import HandS.Head1
import HandS.Head2
import HandS.HeadEnd
import HandS.HeadWalk
import HandS.Ends
set_option Elab.async false
set_option linter.all false
set_option maxRecDepth 100000
/-! FwA: a small evaluator for the program's own language, over plain data. -/
namespace Fw
open PySem

abbrev Key := L2.Key
inductive D where
  | non | bl (b : Bool) | int (i : Int) | str (x : Str)
  | tup (xs : List D) | lst (xs : List D) | dct (ks : List Key) (vs : List D)
  | ins (c : Str) (fs : List Str) (vs : List D)
  | loc (n : Nat)
  | scr (ns : List Int)
  | fn (g : Str) | clo (g : Str) (ws : List D) | cls (c : Str) | ty (n : String)
  | fkeys (ks : List Key)
  | exn (c : Str) (fs : List Str) (vs : List D)
  deriving Inhabited
inductive Cell where
  | lst (xs : List D) | dct (kvs : List (Key × D)) | obj (c : Str) (fs : List (Str × D))
  deriving Inhabited
abbrev Sto := List Cell
abbrev Env := List (Option D)

/-! ### locs -/
mutual
/-- every loc is below n -/
def D.bel (n : Nat) : D → Bool
  | .tup xs => D.bels n xs
  | .lst xs => D.bels n xs
  | .dct _ vs => D.bels n vs
  | .ins _ _ vs => D.bels n vs
  | .clo _ ws => D.bels n ws
  | .exn _ _ vs => D.bels n vs
  | .loc m => decide (m < n)
  | _ => true
def D.bels (n : Nat) : List D → Bool
  | [] => true
  | x :: xs => D.bel n x && D.bels n xs
end
def Cell.bel (n : Nat) : Cell → Bool
  | .lst xs => D.bels n xs
  | .dct kvs => kvs.all fun p => p.2.bel n
  | .obj _ fs => fs.all fun p => p.2.bel n

/-! ### plain data -/
mutual
def D.data : D → Bool
  | .non => true
  | .bl _ => true
  | .int _ => true
  | .str x => PyData.strOk x
  | .tup xs => D.datas xs
  | .lst xs => D.datas xs
  | _ => false
def D.datas : List D → Bool
  | [] => true
  | x :: xs => D.data x && D.datas xs
end
mutual
def D.py : D → PyData
  | .bl b => .bool b
  | .int i => .int i
  | .str x => .str x
  | .tup xs => .tuple (D.pys xs)
  | .lst xs => .list (D.pys xs)
  | _ => .none
def D.pys : List D → List PyData
  | [] => []
  | x :: xs => D.py x :: D.pys xs
end

/-! ### operators -/
inductive Op where | add | sub | mul | fdiv | mod | pow
  deriving DecidableEq
inductive Cm where | eq | ne | lt | le | gt | ge | isin | notin | isn | notn
  deriving DecidableEq

def lsOf (S : Sto) : D → Option (List D)
  | .lst xs => some xs
  | .loc n => match S[n]? with
    | some (.lst xs) => some xs
    | _ => none
  | _ => none
/-- a list by value -/
def val (S : Sto) : D → D
  | .loc n => match S[n]? with
    | some (.lst xs) => .lst xs
    | some (.dct kvs) => .dct (kvs.map (·.1)) (kvs.map (·.2))
    | _ => .loc n
  | d => d

def addI (S : Sto) (a b : D) : Option D :=
  match a, b with
  | .int i, .int j => some (.int (i + j))
  | .str x, .str y => if x.length + y.length ≤ sizeLine then some (.str (x ++ y)) else none
  | a, b => match lsOf S a, lsOf S b with
    | some xs, some ys => if xs.length + ys.length ≤ sizeLine then some (.lst (xs ++ ys)) else none
    | _, _ => none
def mulI (a b : D) : Option D :=
  match a, b with
  | .int i, .int j => if i.natAbs.log2 + j.natAbs.log2 < 1000000 then some (.int (i * j)) else none
  | _, _ => none
def fdivI (a b : D) : Option D :=
  match a, b with
  | .int i, .int j => if 0 < j ∧ j.natAbs.log2 < 9000 then some (.int (i / j)) else none
  | _, _ => none
def modI (a b : D) : Option D :=
  match a, b with
  | .int i, .int j => if 0 < j then some (.int (i % j)) else none
  | _, _ => none
def powI (a b : D) : Option D :=
  match a, b with
  | .int i, .int j => if 0 ≤ j ∧ (Builtin.Int.intBits i : Int) * j ≤ 2 ^ 27 then some (.int (i ^ j.toNat)) else none
  | _, _ => none
def subI (a b : D) : Option D :=
  match a, b with
  | .int i, .int j => some (.int (i - j))
  | _, _ => none
def binD (op : Op) (S : Sto) (a b : D) : Option D :=
  match op with
  | .add => addI S a b
  | .sub => subI a b
  | .mul => mulI a b
  | .fdiv => fdivI a b
  | .mod => modI a b
  | .pow => powI a b

def D.flat : D → Bool
  | .non => true
  | .bl _ => true
  | .int _ => true
  | .str _ => true
  | _ => false
def scalE : D → D → Option Bool
  | .non, y => match y with
    | .non => some true
    | .int _ => some false
    | .bl _ => some false
    | .str _ => some false
    | _ => none
  | .int i, y => match y with
    | .int j => some (decide (i = j))
    | .non => some false
    | .str _ => some false
    | _ => none
  | .bl i, y => match y with
    | .bl j => some (decide (i = j))
    | .non => some false
    | .str _ => some false
    | _ => none
  | .str i, y => match y with
    | .str j => some (decide (i = j))
    | .non => some false
    | .int _ => some false
    | .bl _ => some false
    | _ => none
  | _, _ => none
def eqD (S : Sto) (a b : D) : Option Bool :=
  match scalE a b with
  | some r => some r
  | none =>
    if (val S a).data && (val S b).data && decide (min (val S a).py.depth (val S b).py.depth ≤ 150) then some (PyData.eqv (val S a).py (val S b).py) else none
def keyOf : D → Option Key
  | .int i => some (.inl i)
  | .str x => some (.inr x)
  | _ => none
def flatIn (x : D) : List D → Option Bool
  | [] => some false
  | y :: ys => match scalE x y, flatIn x ys with
    | some r, some q => some (r || q)
    | _, _ => none
def inD (S : Sto) (a b : D) : Option Bool :=
  match a, b with
  | .str x, .str z => match x.cps.toList with
    | [c] => some (z.cps.toList.contains c)
    | _ => none
  | a, .tup xs => if a.flat then flatIn a xs else none
  | a, .dct ks _ => (keyOf a).map fun k => ks.any fun q => decide (q = k)
  | a, .loc n => match S[n]? with
    | some (.dct kvs) => (keyOf a).map fun k => kvs.any fun q => decide (q.1 = k)
    | some (.lst xs) => if a.flat then flatIn a xs else none
    | _ => none
  | a, .lst xs => if a.flat then flatIn a xs else none
  | _, _ => none
def cmpD (op : Cm) (S : Sto) (a b : D) : Option Bool :=
  match op with
  | .eq => eqD S a b
  | .ne => (eqD S a b).map (!·)
  | .isin => inD S a b
  | .notin => (inD S a b).map (!·)
  | .isn => match a with | .non => some true | .exn .. => some false | .loc _ => some false | .ins .. => some false | .tup .. => some false | .int .. => some false | .lst .. => some false | .bl .. => some false | .str .. => some false | _ => none
  | .notn => match a with | .non => some false | .exn .. => some true | .loc _ => some true | .ins .. => some true | .tup .. => some true | .int .. => some true | .lst .. => some true | .bl .. => some true | .str .. => some true | _ => none
  | .lt => match a, b with | .int i, .int j => some (decide (i < j)) | _, _ => none
  | .le => match a, b with | .int i, .int j => some (decide (i ≤ j)) | _, _ => none
  | .gt => match a, b with | .int i, .int j => some (decide (j < i)) | _, _ => none
  | .ge => match a, b with | .int i, .int j => some (decide (j ≤ i)) | _, _ => none

/-! ### dicts -/
section
variable {α : Type}
def getK (k : Key) (kvs : List (Key × α)) : Option α := (kvs.find? fun kv => decide (kv.1 = k)).map (·.2)
def putK (k : Key) (v : α) (kvs : List (Key × α)) : List (Key × α) :=
  if (kvs.any fun kv => decide (kv.1 = k)) = true then kvs.map fun kv => if kv.1 = k then (kv.1, v) else kv else kvs ++ [(k, v)]
end
/-! ### subscripts -/
def atS (z : Str) (i : Int) : Option Str := (L2.atI z.cps.toList i).map fun c => ⟨#[c]⟩
def subD (S : Sto) (o i : D) : Option D :=
  match o, i with
  | .tup xs, .int i => L2.atI xs i
  | .lst xs, .int i => L2.atI xs i
  | .scr ns, .int i => (L2.atI ns i).map D.int
  | .str z, .int i => if z.length ≤ sizeLine then (atS z i).map D.str else none
  | .loc n, i => match S[n]?, i with
    | some (.lst xs), .int i => L2.atI xs i
    | some (.dct kvs), i => (keyOf i).bind fun k => getK k kvs
    | _, _ => none
  | .dct ks vs, i => (keyOf i).bind fun k => getK k (ks.zip vs)
  | _, _ => none
def cutL {α : Type} (xs : List α) (lo hi : Option Int) : List α := (xs.drop (HT.sIx xs.length 0 lo)).take (HT.sIx xs.length xs.length hi - HT.sIx xs.length 0 lo)
def sliceD (S : Sto) (o : D) (lo hi : Option Int) : Option D :=
  match o with
  | .str z => if z.length ≤ sizeLine then some (.str (L2.cutS z lo hi)) else none
  | .scr ns => some (.lst (cutL (ns.map D.int) lo hi))
  | o => (lsOf S o).map fun xs => .lst (cutL xs lo hi)
end Fw

set_option Elab.async false
set_option linter.all false
set_option maxRecDepth 100000
/-! FwB: syntax and evaluator. -/
namespace Fw
open PySem

inductive T where
  | name (i : Nat) | tup (ts : List T) | star (m : Bool) (ts : List T) (i : Nat)
  deriving Inhabited
inductive Bi where
  | len | all | divmod | max | min | str | int | sorted | list | tuple
  deriving DecidableEq
inductive Bm where
  | append | extend | pop | popAt | reverse | count | join
  deriving DecidableEq
inductive Ty where | list | str | dict
  deriving DecidableEq
inductive SrcK where | lst | tup | str | rng1 | rng2 | enum | zip | keys | items | vals | rev
  deriving DecidableEq
inductive E where
  | slot (i : Nat) | cst (d : D) | glob (x : Str)
  | bin (op : Op) (a b : E) | neg (a : E)
  | cmp (op : Cm) (a b : E) | chain (o1 o2 : Cm) (a b c : E)
  | and (a b : E) | or (a b : E) | not (a : E) | ite (c a b : E)
  | call (g : Str) (as : List E) (ds : List D)
  | callk (g : Str) (as : List E) (ord : List (Nat ⊕ D))
  | callv (f : Nat) (as : List E)
  | callc (g : Str) (e : E) (i : Nat) (lf : Str) (caps : List Nat) (ds : List D)
  | callp (g : Str) (e : E) (i : Nat) (as : List E) (ds : List D)
  | mk (fz : Bool) (c : Str) (as : List E)
  | meth (o : E) (m : Str) (as : List E)
  | bi (b : Bi) (as : List E) | stro (e : E)
  | bm (T : Ty) (b : Bm) (o : E) (as : List E)
  | isi (e : E) (n : String)
  | fld (o : E) (f : Str)
  | sub (o i : E) | slice (o : E) (lo hi : List E)
  | tup (es : List E) | lst (m : Bool) (es : List E) | dict (m : Bool)
  | comp (m : Bool) (own : List Nat) (elt : E) (t : T) (k : SrcK) (as : List E) (cs : List E)
  | fstr (es : List E)
  | frzk (e : E)
  | eqo (neg : Bool) (a b : E) | isc (e : E) (c : Str) | leno (e : E)
  | sset (e : E)
  | ino (neg : Bool) (a b : E) | idxo (l x : E) | sortm (e : E) | emp (e : E)
  | xcal (g : Str) (as : List E) (ds : List D)
  | xcalk (g : Str) (as : List E) (ord : List (Nat ⊕ D))
  | xmeth (o : E) (m : Str) (as : List E)
  | isx (e : E) (c : Str) | fldx (e : E) (f : Str)
  | cntl (l x : E) | idxl (l x : E) | idxs (s t : E)
  | dsp (ks : List Key) (es : List E) | getd (d k x : E) | gsub (x : Str) (ks : List Key) (vs : List D) (i : E)
  | dcm (e : E) (i : Nat) | tcat (a b : E)
  | ind (neg : Bool) (a b : E)
  deriving Inhabited
inductive Sm where
  | asg (t : T) (e : E)
  | setfld (o : E) (f : Str) (e : E) | setsub (o i e : E)
  | aug (i : Nat) (op : Op) (e : E) | augfld (o : E) (f : Str) (op : Op) (e : E)
  | ex (e : E) | ret (e : E) | ite (c : E) (a b : List Sm) | whil (c : E) (b : List Sm)
  | for_ (t : T) (k : SrcK) (as : List E) (b : List Sm)
  | pass | brk | cnt | never
  | ndef (i : Nat) (g : Str)
  | raise (c : Str) (fs : List Str) (as : List E) (ds : List D)
  | tryx (b : List Sm) (c : Str) (i : Nat) (h : List Sm)
  deriving Inhabited

inductive Out where
  | nx (ρ : Env) (S : Sto) | rt (d : D) (S : Sto) | bk (ρ : Env) (S : Sto) | ct (ρ : Env) (S : Sto)

abbrev CallT := Str → List D → Sto → Option (D × Sto)
structure Ctx where
  call : CallT
  init : CallT
  glob : Str → Option D
  meth : Str → Str → Option Str
  xcall : CallT
  xsub : Str → Str → Option Bool

/-! ### builtins -/
def lenD (S : Sto) : D → Option Int
  | .str z => if z.length ≤ sizeLine then some z.length else none
  | .lst xs => some xs.length
  | .tup xs => some xs.length
  | .scr ns => some ns.length
  | .dct ks _ => some ks.length
  | .loc n => match S[n]? with
    | some (.lst xs) => some xs.length
    | some (.dct kvs) => some kvs.length
    | _ => none
  | _ => none
def tyOf : D → Option String
  | .non => some "NoneType"
  | .bl _ => some "bool"
  | .int _ => some "int"
  | .str _ => some "str"
  | .tup _ => some "tuple"
  | .lst _ => some "list"
  | .dct .. => some "dict"
  | _ => none
/-- isinstance of two built-in types -/
def isiTab : List ((String × String) × Bool) := [(("int", "int"), true), (("bool", "int"), true), (("str", "int"), false), (("NoneType", "int"), false), (("list", "int"), false), (("tuple", "int"), false), (("int", "str"), false), (("bool", "str"), false), (("str", "str"), true), (("NoneType", "str"), false), (("list", "str"), false), (("tuple", "str"), false), (("int", "bool"), false), (("bool", "bool"), true), (("str", "bool"), false), (("NoneType", "bool"), false), (("list", "bool"), false), (("tuple", "bool"), false), (("int", "list"), false), (("bool", "list"), false), (("str", "list"), false), (("NoneType", "list"), false), (("list", "list"), true), (("tuple", "list"), false), (("int", "tuple"), false), (("bool", "tuple"), false), (("str", "tuple"), false), (("NoneType", "tuple"), false), (("list", "tuple"), false), (("tuple", "tuple"), true)]
def isiT (t n : String) : Option Bool := (isiTab.find? fun p => decide (p.1 = (t, n))).map (·.2)
def isinD (S : Sto) (n : String) (d : D) : Option Bool :=
  match tyOf (val S d) with
  | some t => if t = "dict" then none else isiT t n
  | none => none
def allBl : List D → Option (List Bool)
  | [] => some []
  | .bl b :: r => (allBl r).map (b :: ·)
  | _ :: _ => none
def allInt : List D → Option (List Int)
  | [] => some []
  | .int b :: r => (allInt r).map (b :: ·)
  | _ :: _ => none
def allStr : List D → Option (List Str)
  | [] => some []
  | .str b :: r => (allStr r).map (b :: ·)
  | _ :: _ => none
def keyStr : List Key → Option (List Str)
  | [] => some []
  | .inr b :: r => (keyStr r).map (b :: ·)
  | _ :: _ => none
def maxI : Int → List Int → Int
  | m, [] => m
  | m, x :: xs => maxI (if x > m then x else m) xs
def leS (a b : Str) : Bool := !Spec.ltCps b.cps.toList a.cps.toList
def insS (x : Str) : List Str → List Str
  | [] => [x]
  | y :: ys => if leS x y then x :: y :: ys else y :: insS x ys
def sortS : List Str → List Str
  | [] => []
  | x :: xs => insS x (sortS xs)
def putFd (f : Str) (d : D) : List (Str × D) → List (Str × D)
  | [] => [(f, d)]
  | p :: r => if p.1 = f then (f, d) :: r else p :: putFd f d r
def getFd (f : Str) : List (Str × D) → Option D
  | [] => none
  | p :: r => if p.1 = f then some p.2 else getFd f r
def maxD (as : List D) (S : Sto) : Option Int := match as with
  | [x] => (lsOf S x).bind fun xs => (allInt xs).bind fun ns => match ns with
    | [] => none
    | n :: r => some (maxI n r)
  | [.int i, .int j] => some (if j > i then j else i)
  | _ => none
def minD (as : List D) (S : Sto) : Option Int := match as with
  | [.int i, .int j] => some (if j < i then j else i)
  | _ => none
def sortedD (S : Sto) (x : D) : Option (List Str) := match val S x with
  | .dct ks _ => keyStr ks
  | .lst xs => allStr xs
  | _ => none
def biD (b : Bi) (as : List D) (S : Sto) : Option D :=
  match b with
  | .len => match as with | [x] => (lenD S x).map D.int | _ => none
  | .all => match as with | [x] => (lsOf S x).bind fun xs => (allBl xs).map fun bs => .bl (bs.all id) | _ => none
  | .divmod => match as with | [.int i, .int j] => if 0 < j ∧ j < 1073741824 then some (.tup [.int (i / j), .int (i % j)]) else none | _ => none
  | .max => (maxD as S).map D.int
  | .min => (minD as S).map D.int
  | .str => match as with | [.str x] => some (.str x) | _ => none
  | .int => match as with | [.bl k] => some (.int (if k then 1 else 0)) | [.int k] => some (.int k) | _ => none
  | .sorted => match as with | [x] => (sortedD S x).bind fun ss => if ss.length < 64 then some (.lst ((sortS ss).map D.str)) else none | _ => none
  | .list => match as with | [.str x] => if x.length ≤ sizeLine then some (.lst (x.cps.toList.map fun c => D.str ⟨#[c]⟩)) else none | [x] => (lsOf S x).map D.lst | _ => none
  | .tuple => match as with | [x] => (lsOf S x).map D.tup | _ => none
def chkTy (T : Ty) (S : Sto) (x : D) : Bool := match T, x with
  | .str, .str _ => true
  | .list, .lst _ => true
  | .list, .loc n => match S[n]? with | some (.lst _) => true | _ => false
  | .dict, .loc n => match S[n]? with | some (.dct _) => true | _ => false
  | _, _ => false
def bmD (b : Bm) (x : D) (as : List D) (S : Sto) : Option (D × Sto) :=
  match b with
  | .append => match x, as with
    | .loc n, [y] => match S[n]? with
      | some (.lst xs) => if xs.length < sizeLine then some (.non, S.set n (.lst (xs ++ [y]))) else none
      | _ => none
    | _, _ => none
  | .extend => match x, as with
    | .loc n, [y] => match S[n]?, lsOf S y with
      | some (.lst xs), some ys => if xs.length + ys.length ≤ sizeLine then some (.non, S.set n (.lst (xs ++ ys))) else none
      | _, _ => none
    | _, _ => none
  | .pop => match x, as with
    | .loc n, [] => match S[n]? with
      | some (.lst xs) => (xs[xs.length - 1]?).map fun y => (y, S.set n (.lst xs.dropLast))
      | _ => none
    | _, _ => none
  | .popAt => none
  | .reverse => match x, as with
    | .loc n, [] => match S[n]? with
      | some (.lst xs) => some (.non, S.set n (.lst xs.reverse))
      | _ => none
    | _, _ => none
  | .count => match x, as with
    | .str x, [.str y] => some (.int (Txt.count x y), S)
    | _, _ => none
  | .join => match x, as with
    | .str x, [y] => (lsOf S y).bind fun ys => (allStr ys).bind fun ss => if (ss.map (·.length)).sum + ss.length * x.length ≤ 16777216 then some (.str (Txt.join x ss), S) else none
    | _, _ => none
def keyD : Key → D
  | .inl i => .int i
  | .inr x => .str x
open Classical in
/-- the keys of a fresh dict that nobody else knows; from now on it stays as it is -/
noncomputable def frzkD (S : Sto) (x : D × Sto) : Option (D × Sto) := match x.1 with
  | .loc n => if n = S.length ∧ x.2.length = n + 1 ∧ x.2.take n = S then (match x.2[n]? with
    | some (.dct kvs) => some (.fkeys (kvs.map (·.1)), S)
    | _ => none) else none
  | _ => none
def itemsD (k : SrcK) (as : List D) (S : Sto) : Option (List D) :=
  match k with
  | .lst => match as with
    | [.scr ns] => some (ns.map D.int)
    | [x] => lsOf S x
    | _ => none
  | .tup => match as with
    | [.tup xs] => some xs
    | _ => none
  | .str => match as with
    | [.str x] => some (x.cps.toList.map fun c => D.str ⟨#[c]⟩)
    | _ => none
  | .rng1 => match as with
    | [.int j] => if -(2 ^ 62) ≤ j ∧ j < 2 ^ 62 then some ((List.range j.toNat).map fun i => D.int (i : Nat)) else none
    | _ => none
  | .rng2 => match as with
    | [.int a, .int b] => if -(2 ^ 62) ≤ a ∧ a < 2 ^ 62 ∧ -(2 ^ 62) ≤ b ∧ b < 2 ^ 62 then some ((List.range (b - a).toNat).map fun i => D.int (a + (i : Nat))) else none
    | _ => none
  | .enum => match as with
    | [x] => (lsOf S x).map fun xs => (List.range xs.length).zipWith (fun (i : Nat) x => D.tup [.int i, x]) xs
    | _ => none
  | .zip => match as with
    | [x, y] => match lsOf S x, lsOf S y with
      | some xs, some ys => some (xs.zipWith (fun x y => D.tup [x, y]) ys)
      | _, _ => none
    | _ => none
  | .rev => match as with
    | [x] => (lsOf S x).map List.reverse
    | _ => none
  | .keys => match as with
    | [.fkeys ks] => some (ks.map keyD)
    | _ => none
  | _ => none
/-- what a loop walks stays as it is -/
def holdD (as : List D) (S S' : Sto) : Prop := ∀ n, D.loc n ∈ as → S'[n]? = S[n]?

/-! ### targets -/
mutual
def setT : T → D → Env → Sto → Option (Env × Sto)
  | .name i, d, ρ, S => if i < ρ.length then some (ρ.set i (some d), S) else none
  | .tup ts, d, ρ, S => match d with
    | .tup xs => setTs ts xs ρ S
    | .lst xs => setTs ts xs ρ S
    | _ => none
  | .star m ts i, d, ρ, S => match d with
    | .tup xs => if ts.length ≤ xs.length ∧ xs.length ≤ sizeLine then
        (setTs ts (xs.take ts.length) ρ (if m then S ++ [.lst (xs.drop ts.length)] else S)).bind fun r =>
          if i < r.1.length then some (r.1.set i (some (if m then .loc S.length else .lst (xs.drop ts.length))), r.2) else none
        else none
    | _ => none
def setTs : List T → List D → Env → Sto → Option (Env × Sto)
  | [], [], ρ, S => some (ρ, S)
  | t :: ts, x :: xs, ρ, S => (setT t x ρ S).bind fun r => setTs ts xs r.1 r.2
  | _, _, _, _ => none
end

/-! ### few more -/
/-- how often a truth value stands in a list of such -/
def cntD (S : Sto) (l x : D) : Option Int := (lsOf S l).bind fun xs => (allBl xs).bind fun bs => match x with
  | .bl b => some ((bs.filter fun y => y == b).length : Nat)
  | _ => none
def idxB (b : Bool) : List Bool → Option Nat
  | [] => none
  | y :: ys => if y == b then some 0 else (idxB b ys).map (· + 1)
def idxlD (S : Sto) (l x : D) : Option Int := (lsOf S l).bind fun xs => (allBl xs).bind fun bs => match x with
  | .bl b => (idxB b bs).map fun (n : Nat) => (n : Int)
  | _ => none
def idxN (c : Nat) : List Nat → Option Nat
  | [] => none
  | y :: ys => if y = c then some 0 else (idxN c ys).map (· + 1)
/-- where one sign stands first in a text -/
def idxsD (x y : D) : Option Int := match x, y with
  | .str z, .str w => match w.cps.toList with
    | [c] => if z.length ≤ 3 then (idxN c z.cps.toList).map fun (n : Nat) => (n : Int) else none
    | _ => none
  | _, _ => none
def isDct (S : Sto) : D → Bool
  | .dct _ _ => true
  | .loc n => match S[n]? with
    | some (.dct _) => true
    | _ => false
  | _ => false
def getdD (S : Sto) (d k x : D) : Option D := match d with
  | .dct ks vs => (keyOf k).map fun k => (getK k (ks.zip vs)).getD x
  | .loc n => match S[n]? with
    | some (.dct kvs) => (keyOf k).map fun k => (getK k kvs).getD x
    | _ => none
  | _ => none
/-- {x: True for x in a list of texts} -/
def dcmD (S : Sto) (d : D) : Option D := (lsOf S d).bind fun xs => (allStr xs).bind fun ss => if ss.length ≤ 1000 then
  some (.dct ((ss.foldl (fun kvs s => putK (Sum.inr s) (D.bl true) kvs) ([] : List (Key × D))).map (·.1)) ((ss.foldl (fun kvs s => putK (Sum.inr s) (D.bl true) kvs) ([] : List (Key × D))).map (·.2))) else none
/-- is a thing in a list of texts -/
def indD (S : Sto) (a b : D) : Option Bool := (lsOf S b).bind fun xs => (allStr xs).bind fun ss => if a.data = true ∧ D.datas xs = true ∧ a.py.depth ≤ 60 then some (ss.any fun y => match a with
  | .str x => decide (y = x)
  | _ => false) else none
def tcatD (a b : D) : Option D := match a, b with
  | .tup xs, .tup ys => if xs.length + ys.length ≤ sizeLine then some (.tup (xs ++ ys)) else none
  | _, _ => none
def nodK : List Key → Bool
  | [] => true
  | k :: ks => !(ks.any fun q => decide (q = k)) && nodK ks

/-! ### expressions -/
def slotD (ρ : Env) (i : Nat) : Option D := match ρ[i]? with
  | some (some d) => some d
  | _ => none
def capD (ρ : Env) : List Nat → Option (List D)
  | [] => some []
  | i :: r => (slotD ρ i).bind fun d => (capD ρ r).map (d :: ·)
def fldD (S : Sto) (o : D) (f : Str) : Option D := match o with
  | .ins _ fs vs => getFd f (fs.zip vs)
  | .loc n => match S[n]? with
    | some (.obj _ fs) => getFd f fs
    | _ => none
  | _ => none
def clsOf (S : Sto) (o : D) : Option Str := match o with
  | .ins c _ _ => some c
  | .loc n => match S[n]? with
    | some (.obj c _) => some c
    | _ => none
  | _ => none
def addL (k : Str) (l : List Str) : List Str := if l.any (fun q => decide (q = k)) then l else k :: l
/-- each once -/
def dedS : List Str → List Str
  | [] => []
  | x :: xs => addL x (dedS xs)
/-- sorted(set(xs)), texts -/
def ssetD (S : Sto) (x : D) : Option D := (lsOf S x).bind fun xs => (allStr xs).bind fun ss => if ss.length ≤ 1000 ∧ (dedS ss).length < 64 then some (.lst ((sortS (dedS ss)).map D.str)) else none
def tysN : List String := ["NoneType", "bool", "int", "str", "tuple", "list", "dict"]
/-- isinstance of an own class -/
def iscD (S : Sto) (c : Str) (d : D) : Option Bool := match clsOf S d with
  | some c' => if c' = c then some true else none
  | none => match tyOf (val S d) with
    | some t => if t = "dict" then none else if t ∈ tysN then some false else none
    | none => none
/-- what an own == is asked of -/
def eqOk (S : Sto) (c : Str) (y : D) : Bool := match clsOf S y with
  | some c' => decide (c' = c)
  | none => match tyOf (val S y) with
    | some t => decide (t ≠ "dict") && decide (t ∈ tysN)
    | none => false
def D.insd : D → Bool
  | .ins _ _ vs => D.datas vs
  | _ => false
def D.isIns : D → Bool
  | .ins _ _ _ => true
  | _ => false
open Classical in
/-- x == y, x an item of a list, an own == of x or of y, that changes nothing -/
noncomputable def eqVD (meth : Str → Str → Option Str) (call : CallT) (S : Sto) (x y : D) : Option Bool := match clsOf S x with
  | some c => if eqOk S c y = true then (meth c "__eq__").bind fun g => (call g [x, y] S).bind fun r => match r.1 with
    | .bl k => if r.2 = S ∧ (k = true ∨ (x.isIns = true ∧ y.isIns = false) ∨ (x.insd = true ∧ y.insd = true ∧ x ≠ y)) then some k else none
    | _ => none else none
  | none => match x with
    | .str _ => (clsOf S y).bind fun c => (meth c "__eq__").bind fun g => (call g [y, x] S).bind fun r => match r.1 with
      | .bl k => if r.2 = S then some k else none
      | _ => none
    | .non => (clsOf S y).bind fun c => (meth c "__eq__").bind fun g => (call g [y, x] S).bind fun r => match r.1 with
      | .bl k => if r.2 = S then some k else none
      | _ => none
    | _ => none
noncomputable def anyVD (meth : Str → Str → Option Str) (call : CallT) (S : Sto) (y : D) : List D → Option Bool
  | [] => some false
  | x :: xs => (eqVD meth call S x y).bind fun b => if b then some true else anyVD meth call S y xs
noncomputable def idxVD (meth : Str → Str → Option Str) (call : CallT) (S : Sto) (y : D) : List D → Nat → Option Nat
  | [], _ => none
  | x :: xs, i => (eqVD meth call S x y).bind fun b => if b then some i else idxVD meth call S y xs (i + 1)
def wipeE (ρ : Env) : List Nat → Env
  | [] => ρ
  | v :: vs => (wipeE ρ vs).set v none
open Classical in
noncomputable def compL (P : Sto → Prop) (elt : Env → Sto → Option (D × Sto)) (cs : Env → Sto → Option (Bool × Sto)) (t : T) : List D → Env → Sto → Option (List D × Sto)
  | [], _, S => if P S then some ([], S) else none
  | x :: xs, ρ, S => if P S then (setT t x ρ S).bind fun r => (cs r.1 r.2).bind fun q => if q.1 then (elt r.1 q.2).bind fun e => (compL P elt cs t xs ρ e.2).map fun z => (e.1 :: z.1, z.2) else compL P elt cs t xs ρ q.2 else none
def ordD (vs : List D) : List (Nat ⊕ D) → Option (List D)
  | [] => some []
  | .inl i :: r => (vs[i]?).bind fun d => (ordD vs r).map (d :: ·)
  | .inr d :: r => (ordD vs r).map (d :: ·)
def mkLst (m : Bool) (xs : List D) (S : Sto) : Option (D × Sto) :=
  if xs.length ≤ sizeLine then (if m then some (.loc S.length, S ++ [.lst xs]) else some (.lst xs, S)) else none
open Classical in
noncomputable def mkObj (C : Ctx) (fz : Bool) (c : Str) (as : List D) (S : Sto) : Option (D × Sto) :=
  (C.init (c ++ (".__init__" : Str)) (.loc S.length :: as) (S ++ [.obj c []])).bind fun r => match r.1 with
    | .non => if fz then match r.2[S.length]? with
      | some (.obj c' fs) => if c' = c ∧ r.2.take S.length = S ∧ (fs.all fun p => p.2.bel S.length) = true then some (.ins c (fs.map (·.1)) (fs.map (·.2)), S) else none
      | _ => none
      else some (.loc S.length, r.2)
    | _ => none
def txtL : List D → Option Str
  | [] => some Str.empty
  | .str x :: r => (txtL r).map fun y => x ++ y
  | _ => none
mutual
noncomputable def evE (C : Ctx) : E → Env → Sto → Option (D × Sto)
  | .slot i, ρ, S => (slotD ρ i).map fun d => (d, S)
  | .cst d, _, S => some (d, S)
  | .glob x, _, S => (C.glob x).map fun d => (d, S)
  | .bin op a b, ρ, S => (evE C a ρ S).bind fun x => (evE C b ρ x.2).bind fun y => (binD op y.2 x.1 y.1).map fun d => (d, y.2)
  | .neg a, ρ, S => (evE C a ρ S).bind fun x => match x.1 with
    | .int i => some (.int (-i), x.2)
    | _ => none
  | .cmp op a b, ρ, S => (evE C a ρ S).bind fun x => (evE C b ρ x.2).bind fun y => (cmpD op y.2 x.1 y.1).map fun d => (.bl d, y.2)
  | .chain o1 o2 a b c, ρ, S => (evE C a ρ S).bind fun x => (evE C b ρ x.2).bind fun y => (cmpD o1 y.2 x.1 y.1).bind fun r =>
      if r then (evE C c ρ y.2).bind fun z => (cmpD o2 z.2 y.1 z.1).map fun d => (.bl d, z.2) else some (.bl false, y.2)
  | .and a b, ρ, S => (evE C a ρ S).bind fun x => match x.1 with
    | .bl true => evE C b ρ x.2
    | .bl false => some (.bl false, x.2)
    | _ => none
  | .or a b, ρ, S => (evE C a ρ S).bind fun x => match x.1 with
    | .bl false => evE C b ρ x.2
    | .bl true => some (.bl true, x.2)
    | _ => none
  | .not a, ρ, S => (evE C a ρ S).bind fun x => match x.1 with
    | .bl b => some (.bl (!b), x.2)
    | _ => none
  | .ite c a b, ρ, S => (evE C c ρ S).bind fun x => match x.1 with
    | .bl true => evE C a ρ x.2
    | .bl false => evE C b ρ x.2
    | _ => none
  | .call g as ds, ρ, S => (evEs C as ρ S).bind fun x => C.call g (x.1 ++ ds) x.2
  | .callk g as ord, ρ, S => (evEs C as ρ S).bind fun x => (ordD x.1 ord).bind fun vs => C.call g vs x.2
  | .callv f as, ρ, S => (slotD ρ f).bind fun d => match d with
    | .clo g ws => (evEs C as ρ S).bind fun x => C.call g (x.1 ++ ws) x.2
    | _ => none
  | .callc g e i lf caps ds, ρ, S => (evE C e ρ S).bind fun x => (slotD ρ i).bind fun _ => (capD ρ caps).bind fun ws => C.call g (x.1 :: .clo lf ws :: ds) x.2
  | .callp g e i as ds, ρ, S => (evE C e ρ S).bind fun x => (slotD ρ i).bind fun d => (evEs C as ρ x.2).bind fun y => C.call g (x.1 :: d :: (y.1 ++ ds)) y.2
  | .mk fz c as, ρ, S => (evEs C as ρ S).bind fun x => mkObj C fz c x.1 x.2
  | .meth o m as, ρ, S => (evE C o ρ S).bind fun x => (clsOf x.2 x.1).bind fun c => (C.meth c m).bind fun g => if (fldD x.2 x.1 m).isNone = true then (evEs C as ρ x.2).bind fun y => C.call g (x.1 :: y.1) y.2 else none
  | .bi b as, ρ, S => (evEs C as ρ S).bind fun x => (biD b x.1 x.2).map fun d => (d, x.2)
  | .stro e, ρ, S => (evE C e ρ S).bind fun x => match x.1 with
    | .str z => some (.str z, x.2)
    | d => (clsOf x.2 d).bind fun c => (C.meth c "__str__").bind fun g => (C.init g [d] x.2).bind fun r => match r.1 with
      | .str z => some (.str z, r.2)
      | _ => none
  | .bm T b o as, ρ, S => (evE C o ρ S).bind fun x => if chkTy T x.2 x.1 then (evEs C as ρ x.2).bind fun y => bmD b x.1 y.1 y.2 else none
  | .isi e n, ρ, S => (evE C e ρ S).bind fun x => (isinD x.2 n x.1).map fun b => (.bl b, x.2)
  | .fld o f, ρ, S => (evE C o ρ S).bind fun x => (clsOf x.2 x.1).bind fun c => if (C.meth c f).isNone = true then (fldD x.2 x.1 f).map fun d => (d, x.2) else none
  | .sub o i, ρ, S => (evE C o ρ S).bind fun x => (evE C i ρ x.2).bind fun y => (subD y.2 x.1 y.1).map fun d => (d, y.2)
  | .slice o lo hi, ρ, S => (evE C o ρ S).bind fun x => (evEs C lo ρ x.2).bind fun y => (evEs C hi ρ y.2).bind fun z => (allInt y.1).bind fun l => (allInt z.1).bind fun h => (sliceD z.2 x.1 l.head? h.head?).map fun d => (d, z.2)
  | .tup es, ρ, S => (evEs C es ρ S).bind fun x => if x.1.length ≤ sizeLine then some (.tup x.1, x.2) else none
  | .lst m es, ρ, S => (evEs C es ρ S).bind fun x => mkLst m x.1 x.2
  | .dict m, _, S => if m then some (.loc S.length, S ++ [.dct []]) else some (.dct [] [], S)
  | .comp m own elt t k as cs, ρ, S => (evEs C as ρ S).bind fun x => (itemsD k x.1 x.2).bind fun xs => (compL (holdD x.1 x.2) (evE C elt) (evCs C cs) t xs (wipeE ρ own) x.2).bind fun z => mkLst m z.1 z.2
  | .fstr es, ρ, S => (evEs C es ρ S).bind fun x => (txtL x.1).bind fun y => if y.length ≤ sizeLine then some (.str y, x.2) else none
  | .frzk e, ρ, S => (evE C e ρ S).bind fun x => frzkD S x
  | .eqo neg a b, ρ, S => (evE C a ρ S).bind fun x => (evE C b ρ x.2).bind fun y => (clsOf y.2 x.1).bind fun c => if eqOk y.2 c y.1 = true then (C.meth c "__eq__").bind fun g => ((if neg then C.init else C.call) g [x.1, y.1] y.2).bind fun r => match r.1 with
    | .bl k => some (.bl (k != neg), r.2)
    | _ => none else none
  | .ino neg a b, ρ, S => (evE C a ρ S).bind fun x => (evE C b ρ x.2).bind fun y => (lsOf y.2 y.1).bind fun xs => (anyVD C.meth C.init y.2 x.1 xs).map fun k => (.bl (k != neg), y.2)
  | .idxo l e, ρ, S => (evE C l ρ S).bind fun x => (lsOf x.2 x.1).bind fun _ => (evE C e ρ x.2).bind fun y => (lsOf y.2 x.1).bind fun xs => (idxVD C.meth C.init y.2 y.1 xs 0).map fun k => (.int (k : Nat), y.2)
  | .sortm e, ρ, S => (evE C e ρ S).bind fun x => (sortedD x.2 x.1).bind fun ss => if ss.length < 64 then some (.loc x.2.length, x.2 ++ [.lst ((sortS ss).map D.str)]) else none
  | .emp e, ρ, S => (evE C e ρ S).bind fun x => match x.1 with
    | .dct ks _ => some (.bl ks.isEmpty, x.2)
    | _ => none
  | .xcal g as ds, ρ, S => (evEs C as ρ S).bind fun x => C.call g (x.1 ++ ds) x.2
  | .xcalk g as ord, ρ, S => (evEs C as ρ S).bind fun x => (ordD x.1 ord).bind fun vs => C.call g vs x.2
  | .xmeth o m as, ρ, S => (evE C o ρ S).bind fun x => (clsOf x.2 x.1).bind fun c => (C.meth c m).bind fun g => if (fldD x.2 x.1 m).isNone = true then (evEs C as ρ x.2).bind fun y => C.call g (x.1 :: y.1) y.2 else none
  | .isx e c, ρ, S => (evE C e ρ S).bind fun x => match x.1 with
    | .exn c' _ _ => (C.xsub c' c).map fun b => (.bl b, x.2)
    | _ => none
  | .fldx e f, ρ, S => (evE C e ρ S).bind fun x => match x.1 with
    | .exn _ fs vs => (getFd f (fs.zip vs)).map fun d => (d, x.2)
    | _ => none
  | .cntl l e, ρ, S => (evE C l ρ S).bind fun x => (lsOf x.2 x.1).bind fun _ => (evE C e ρ x.2).bind fun y => (cntD y.2 x.1 y.1).map fun n => (.int n, y.2)
  | .idxl l e, ρ, S => (evE C l ρ S).bind fun x => (lsOf x.2 x.1).bind fun _ => (evE C e ρ x.2).bind fun y => (idxlD y.2 x.1 y.1).map fun n => (.int n, y.2)
  | .idxs s t, ρ, S => (evE C s ρ S).bind fun x => (evE C t ρ x.2).bind fun y => (idxsD x.1 y.1).map fun n => (.int n, y.2)
  | .dsp ks es, ρ, S => (evEs C es ρ S).bind fun x => if ks.length = x.1.length ∧ ks.length ≤ 15 ∧ nodK ks = true then some (.dct ks x.1, x.2) else none
  | .getd d k e, ρ, S => (evE C d ρ S).bind fun x => if isDct x.2 x.1 = true then (evE C k ρ x.2).bind fun y => (evE C e ρ y.2).bind fun z => (getdD z.2 x.1 y.1 z.1).map fun v => (v, z.2) else none
  | .gsub _ ks vs i, ρ, S => (evE C i ρ S).bind fun y => (keyOf y.1).bind fun k => (getK k (ks.zip vs)).map fun v => (v, y.2)
  | .dcm e _, ρ, S => (evE C e ρ S).bind fun x => (dcmD x.2 x.1).map fun d => (d, x.2)
  | .tcat a b, ρ, S => (evE C a ρ S).bind fun x => (evE C b ρ x.2).bind fun y => (tcatD x.1 y.1).map fun d => (d, y.2)
  | .ind neg a b, ρ, S => (evE C a ρ S).bind fun x => (evE C b ρ x.2).bind fun y => (indD y.2 x.1 y.1).map fun k => (.bl (k != neg), y.2)
  | .sset e, ρ, S => (evE C e ρ S).bind fun x => (ssetD x.2 x.1).map fun d => (d, x.2)
  | .isc e c, ρ, S => (evE C e ρ S).bind fun x => (iscD x.2 c x.1).map fun b => (.bl b, x.2)
  | .leno e, ρ, S => (evE C e ρ S).bind fun x => (clsOf x.2 x.1).bind fun c => (C.meth c "__len__").bind fun g => (C.init g [x.1] x.2).bind fun r => match r.1 with
    | .int k => if 0 ≤ k ∧ k < 2 ^ 62 then some (.int k, r.2) else none
    | _ => none
noncomputable def evEs (C : Ctx) : List E → Env → Sto → Option (List D × Sto)
  | [], _, S => some ([], S)
  | e :: es, ρ, S => (evE C e ρ S).bind fun x => (evEs C es ρ x.2).map fun y => (x.1 :: y.1, y.2)
noncomputable def evCs (C : Ctx) : List E → Env → Sto → Option (Bool × Sto)
  | [], _, S => some (true, S)
  | e :: es, ρ, S => (evE C e ρ S).bind fun x => match x.1 with
    | .bl true => evCs C es ρ x.2
    | .bl false => some (false, x.2)
    | _ => none
end

/-! ### what an expression raises -/
mutual
noncomputable def exE (C : Ctx) : E → Env → Sto → Option (D × Sto)
  | .xcal g as ds, ρ, S => match evEs C as ρ S with
    | some x => C.xcall g (x.1 ++ ds) x.2
    | none => exEs C as ρ S
  | .xcalk g as ord, ρ, S => (evEs C as ρ S).bind fun x => (ordD x.1 ord).bind fun vs => C.xcall g vs x.2
  | .xmeth o m as, ρ, S => (evE C o ρ S).bind fun x => (clsOf x.2 x.1).bind fun c => (C.meth c m).bind fun g => if (fldD x.2 x.1 m).isNone = true then (match evEs C as ρ x.2 with
    | some y => C.xcall g (x.1 :: y.1) y.2
    | none => exEs C as ρ x.2) else none
  | .call _ as _, ρ, S => exEs C as ρ S
  | .mk _ _ as, ρ, S => exEs C as ρ S
  | .tup es, ρ, S => exEs C es ρ S
  | .fld o _, ρ, S => exE C o ρ S
  | .not a, ρ, S => exE C a ρ S
  | .stro a, ρ, S => exE C a ρ S
  | .sub o i, ρ, S => match evE C o ρ S with
    | some x => exE C i ρ x.2
    | none => exE C o ρ S
  | .cmp _ o i, ρ, S => match evE C o ρ S with
    | some x => exE C i ρ x.2
    | none => exE C o ρ S
  | .and a b, ρ, S => match evE C a ρ S with
    | some (.bl true, S1) => exE C b ρ S1
    | some _ => none
    | none => exE C a ρ S
  | .or a b, ρ, S => match evE C a ρ S with
    | some (.bl false, S1) => exE C b ρ S1
    | some _ => none
    | none => exE C a ρ S
  | .ite c a b, ρ, S => match evE C c ρ S with
    | some (.bl true, S1) => exE C a ρ S1
    | some (.bl false, S1) => exE C b ρ S1
    | some _ => none
    | none => exE C c ρ S
  | _, _, _ => none
noncomputable def exEs (C : Ctx) : List E → Env → Sto → Option (D × Sto)
  | [], _, _ => none
  | e :: es, ρ, S => match evE C e ρ S with
    | some x => exEs C es ρ x.2
    | none => exE C e ρ S
end

/-! ### statements -/
def whileN (c : Env → Sto → Option (D × Sto)) (b : Env → Sto → Option Out) : Nat → Env → Sto → Option Out
  | 0, _, _ => none
  | n + 1, ρ, S => match c ρ S with
    | some (.bl true, S1) => match b ρ S1 with
      | some (.nx ρ' S') => whileN c b n ρ' S'
      | some (.ct ρ' S') => whileN c b n ρ' S'
      | some (.bk ρ' S') => some (.nx ρ' S')
      | some (.rt d S') => some (.rt d S')
      | none => none
    | some (.bl false, S1) => some (.nx ρ S1)
    | _ => none
theorem whileN_mono {c : Env → Sto → Option (D × Sto)} {b : Env → Sto → Option Out} {r : Out} : ∀ {n m : Nat} {ρ : Env} {S : Sto}, n ≤ m → whileN c b n ρ S = some r → whileN c b m ρ S = some r
  | 0, _, _, _, _, h => by cases h
  | n + 1, 0, _, _, hle, _ => by omega
  | n + 1, m + 1, ρ, S, hle, h => by
    unfold whileN at h ⊢
    cases hc : c ρ S with
    | none => rw [hc] at h; cases h
    | some x =>
      rw [hc] at h
      obtain ⟨v, S1⟩ := x
      cases v <;> try (cases h; done)
      rename_i k
      cases k with
      | false => exact h
      | true =>
        simp only at h ⊢
        cases hb : b ρ S1 with
        | none => rw [hb] at h; cases h
        | some o =>
          rw [hb] at h
          cases o with
          | nx ρ' S' => exact whileN_mono (by omega) h
          | ct ρ' S' => exact whileN_mono (by omega) h
          | bk ρ' S' => exact h
          | rt d S' => exact h
open Classical in
noncomputable def whileL (c : Env → Sto → Option (D × Sto)) (b : Env → Sto → Option Out) (ρ : Env) (S : Sto) : Option Out :=
  if h : ∃ n r, whileN c b n ρ S = some r then whileN c b (choose h) ρ S else none
section
variable {c : Env → Sto → Option (D × Sto)} {b : Env → Sto → Option Out} {ρ : Env} {S : Sto} {r : Out}
theorem whileL_some : whileL c b ρ S = some r ↔ ∃ n, whileN c b n ρ S = some r := by
  constructor
  · intro h
    unfold whileL at h
    split at h
    · exact ⟨_, h⟩
    · cases h
  · rintro ⟨n, h⟩
    have hx : ∃ n r, whileN c b n ρ S = some r := ⟨n, r, h⟩
    unfold whileL
    rw [dif_pos hx]
    obtain ⟨r', h'⟩ := Classical.choose_spec hx
    rw [h']
    have a := whileN_mono (Nat.le_max_left n (Classical.choose hx)) h
    have a' := whileN_mono (Nat.le_max_right n (Classical.choose hx)) h'
    rw [a] at a'
    exact a'.symm
theorem whileL_eq : whileL c b ρ S = match c ρ S with
    | some (.bl true, S1) => match b ρ S1 with
      | some (.nx ρ' S') => whileL c b ρ' S'
      | some (.ct ρ' S') => whileL c b ρ' S'
      | some (.bk ρ' S') => some (.nx ρ' S')
      | some (.rt d S') => some (.rt d S')
      | none => none
    | some (.bl false, S1) => some (.nx ρ S1)
    | _ => none := by
  apply Option.ext
  intro r
  have e : ∀ n, whileN c b (n + 1) ρ S = match c ρ S with
    | some (.bl true, S1) => match b ρ S1 with
      | some (.nx ρ' S') => whileN c b n ρ' S'
      | some (.ct ρ' S') => whileN c b n ρ' S'
      | some (.bk ρ' S') => some (.nx ρ' S')
      | some (.rt d S') => some (.rt d S')
      | none => none
    | some (.bl false, S1) => some (.nx ρ S1)
    | _ => none := fun n => rfl
  rw [whileL_some]
  constructor
  · rintro ⟨n, h⟩
    cases n with
    | zero => cases h
    | succ n =>
      rw [e] at h
      split at h
      · split at h
        · exact whileL_some.mpr ⟨n, h⟩
        · exact whileL_some.mpr ⟨n, h⟩
        · exact h
        · exact h
        · cases h
      · exact h
      · cases h
  · intro h
    split at h
    · rename_i S1 e1
      split at h
      · rename_i ρ' S' e2
        obtain ⟨n, h⟩ := whileL_some.mp h
        exact ⟨n + 1, by rw [e, e1]; simp only [e2]; exact h⟩
      · rename_i ρ' S' e2
        obtain ⟨n, h⟩ := whileL_some.mp h
        exact ⟨n + 1, by rw [e, e1]; simp only [e2]; exact h⟩
      · rename_i ρ' S' e2
        exact ⟨1, by rw [e, e1]; simp only [e2]; exact h⟩
      · rename_i d S' e2
        exact ⟨1, by rw [e, e1]; simp only [e2]; exact h⟩
      · cases h
    · rename_i S1 e1
      exact ⟨1, by rw [e, e1]; exact h⟩
    · cases h
end
/-- what a while's body raises -/
def whileXN (c : Env → Sto → Option (D × Sto)) (b : Env → Sto → Option Out) (bx : Env → Sto → Option (D × Env × Sto)) : Nat → Env → Sto → Option (D × Env × Sto)
  | 0, _, _ => none
  | n + 1, ρ, S => match c ρ S with
    | some (.bl true, S1) => match b ρ S1 with
      | some (.nx ρ' S') => whileXN c b bx n ρ' S'
      | some (.ct ρ' S') => whileXN c b bx n ρ' S'
      | some _ => none
      | none => bx ρ S1
    | _ => none
theorem whileXN_mono {c : Env → Sto → Option (D × Sto)} {b : Env → Sto → Option Out} {bx : Env → Sto → Option (D × Env × Sto)} {r : D × Env × Sto} : ∀ {n m : Nat} {ρ : Env} {S : Sto}, n ≤ m → whileXN c b bx n ρ S = some r → whileXN c b bx m ρ S = some r
  | 0, _, _, _, _, h => by cases h
  | n + 1, 0, _, _, hle, _ => by omega
  | n + 1, m + 1, ρ, S, hle, h => by
    unfold whileXN at h ⊢
    cases hc : c ρ S with
    | none => rw [hc] at h; cases h
    | some x =>
      rw [hc] at h
      obtain ⟨v, S1⟩ := x
      cases v <;> try (cases h; done)
      rename_i k
      cases k with
      | false => cases h
      | true =>
        simp only at h ⊢
        cases hb : b ρ S1 with
        | none => rw [hb] at h; exact h
        | some o =>
          rw [hb] at h
          cases o with
          | nx ρ' S' => exact whileXN_mono (by omega) h
          | ct ρ' S' => exact whileXN_mono (by omega) h
          | bk ρ' S' => exact h
          | rt d S' => exact h
open Classical in
noncomputable def whileX (c : Env → Sto → Option (D × Sto)) (b : Env → Sto → Option Out) (bx : Env → Sto → Option (D × Env × Sto)) (ρ : Env) (S : Sto) : Option (D × Env × Sto) :=
  if h : ∃ n r, whileXN c b bx n ρ S = some r then whileXN c b bx (choose h) ρ S else none
theorem whileX_some {c : Env → Sto → Option (D × Sto)} {b : Env → Sto → Option Out} {bx : Env → Sto → Option (D × Env × Sto)} {ρ : Env} {S : Sto} {r : D × Env × Sto} : whileX c b bx ρ S = some r ↔ ∃ n, whileXN c b bx n ρ S = some r := by
  constructor
  · intro h
    unfold whileX at h
    split at h
    · exact ⟨_, h⟩
    · cases h
  · rintro ⟨n, h⟩
    have hx : ∃ n r, whileXN c b bx n ρ S = some r := ⟨n, r, h⟩
    unfold whileX
    rw [dif_pos hx]
    obtain ⟨r', h'⟩ := Classical.choose_spec hx
    rw [h']
    have a := whileXN_mono (Nat.le_max_left n (Classical.choose hx)) h
    have a' := whileXN_mono (Nat.le_max_right n (Classical.choose hx)) h'
    rw [a] at a'
    exact a'.symm
open Classical in
noncomputable def forX (P : Sto → Prop) (t : T) (b : Env → Sto → Option Out) (bx : Env → Sto → Option (D × Env × Sto)) : List D → Env → Sto → Option (D × Env × Sto)
  | [], _, _ => none
  | x :: xs, ρ, S => if P S then (setT t x ρ S).bind fun r => match b r.1 r.2 with
    | some (.nx ρ' S') => forX P t b bx xs ρ' S'
    | some (.ct ρ' S') => forX P t b bx xs ρ' S'
    | some _ => none
    | none => bx r.1 r.2 else none
/-- behind an except suite its name is gone -/
def goneO (i : Nat) : Out → Out
  | .nx ρ S => .nx (ρ.set i none) S
  | .rt d S => .rt d S
  | .bk ρ S => .bk (ρ.set i none) S
  | .ct ρ S => .ct (ρ.set i none) S
open Classical in
noncomputable def forL (P : Sto → Prop) (t : T) (b : Env → Sto → Option Out) : List D → Env → Sto → Option Out
  | [], ρ, S => if P S then some (.nx ρ S) else none
  | x :: xs, ρ, S => if P S then (setT t x ρ S).bind fun r => match b r.1 r.2 with
    | some (.nx ρ' S') => forL P t b xs ρ' S'
    | some (.ct ρ' S') => forL P t b xs ρ' S'
    | some (.bk ρ' S') => some (.nx ρ' S')
    | some (.rt d S') => some (.rt d S')
    | none => none else none
def setfldD (C : Ctx) (S : Sto) (o : D) (f : Str) (d : D) : Option Sto := match o with
  | .loc n => match S[n]? with
    | some (.obj c fs) => if fs.length < 1000 ∧ (C.meth c f).isNone = true then some (S.set n (.obj c (putFd f d fs))) else none
    | _ => none
  | _ => none
def setsubD (S : Sto) (o i d : D) : Option Sto := match o with
  | .loc n => match S[n]? with
    | some (.lst xs) => match i with
      | .int k => (L2.ixN xs.length k).map fun j => S.set n (.lst (xs.set j d))
      | _ => none
    | some (.dct kvs) => (keyOf i).bind fun k => if kvs.length < sizeLine then some (S.set n (.dct (putK k d kvs))) else none
    | _ => none
  | _ => none
def augD (op : Op) (S : Sto) (a b : D) : Option D := match a, b with
  | .int _, .int _ => binD op S a b
  | .str _, .str _ => binD op S a b
  | _, _ => none
mutual
noncomputable def evS (C : Ctx) : Sm → Env → Sto → Option Out
  | .asg t e, ρ, S => (evE C e ρ S).bind fun x => (setT t x.1 ρ x.2).map fun r => .nx r.1 r.2
  | .setfld o f e, ρ, S => (evE C e ρ S).bind fun x => (evE C o ρ x.2).bind fun y => (setfldD C y.2 y.1 f x.1).map fun S' => .nx ρ S'
  | .setsub o i e, ρ, S => (evE C e ρ S).bind fun x => (evE C o ρ x.2).bind fun y => (evE C i ρ y.2).bind fun z => (setsubD z.2 y.1 z.1 x.1).map fun S' => .nx ρ S'
  | .aug i op e, ρ, S => (slotD ρ i).bind fun a => (evE C e ρ S).bind fun x => (augD op x.2 a x.1).bind fun d => if i < ρ.length then some (.nx (ρ.set i (some d)) x.2) else none
  | .augfld o f op e, ρ, S => (evE C o ρ S).bind fun x => (clsOf x.2 x.1).bind fun c => (if (C.meth c f).isNone = true then fldD x.2 x.1 f else none).bind fun a => (evE C e ρ x.2).bind fun y => (augD op y.2 a y.1).bind fun d => if clsOf y.2 x.1 = some c then (setfldD C y.2 x.1 f d).map fun S' => .nx ρ S' else none
  | .ex e, ρ, S => (evE C e ρ S).map fun x => .nx ρ x.2
  | .ret e, ρ, S => (evE C e ρ S).map fun x => .rt x.1 x.2
  | .ite c a b, ρ, S => (evE C c ρ S).bind fun x => match x.1 with
    | .bl true => evSs C a ρ x.2
    | .bl false => evSs C b ρ x.2
    | _ => none
  | .whil c b, ρ, S => whileL (evE C c) (evSs C b) ρ S
  | .for_ t k as b, ρ, S => (evEs C as ρ S).bind fun x => (itemsD k x.1 x.2).bind fun xs => forL (holdD x.1 x.2) t (evSs C b) xs ρ x.2
  | .pass, ρ, S => some (.nx ρ S)
  | .brk, ρ, S => some (.bk ρ S)
  | .cnt, ρ, S => some (.ct ρ S)
  | .never, _, _ => none
  | .ndef i g, ρ, S => if i < ρ.length then some (.nx (ρ.set i (some (.clo g []))) S) else none
  | .raise _ _ _ _, _, _ => none
  | .tryx b c i h, ρ, S => match evSs C b ρ S with
    | some o => some o
    | none => match exSs C b ρ S with
      | some (.exn c' fs vs, ρ', S') => if C.xsub c' c = some true ∧ i < ρ'.length then (evSs C h (ρ'.set i (some (.exn c' fs vs))) S').map (goneO i) else none
      | _ => none
noncomputable def evSs (C : Ctx) : List Sm → Env → Sto → Option Out
  | [], ρ, S => some (.nx ρ S)
  | s :: ss, ρ, S => match evS C s ρ S with
    | some (.nx ρ' S') => evSs C ss ρ' S'
    | o => o
noncomputable def exS (C : Ctx) : Sm → Env → Sto → Option (D × Env × Sto)
  | .asg _ e, ρ, S => (exE C e ρ S).map fun x => (x.1, ρ, x.2)
  | .ex e, ρ, S => (exE C e ρ S).map fun x => (x.1, ρ, x.2)
  | .ret e, ρ, S => (exE C e ρ S).map fun x => (x.1, ρ, x.2)
  | .ite c a b, ρ, S => match evE C c ρ S with
    | some (.bl true, S1) => exSs C a ρ S1
    | some (.bl false, S1) => exSs C b ρ S1
    | some _ => none
    | none => (exE C c ρ S).map fun x => (x.1, ρ, x.2)
  | .whil c b, ρ, S => whileX (evE C c) (evSs C b) (exSs C b) ρ S
  | .for_ t k as b, ρ, S => (evEs C as ρ S).bind fun x => (itemsD k x.1 x.2).bind fun xs => forX (holdD x.1 x.2) t (evSs C b) (exSs C b) xs ρ x.2
  | .raise c fs as ds, ρ, S => (evEs C as ρ S).bind fun x => if fs.length = (x.1 ++ ds).length then some (.exn c fs (x.1 ++ ds).reverse, ρ, x.2) else none
  | .tryx b c _ _, ρ, S => match exSs C b ρ S with
    | some (.exn c' fs vs, ρ', S') => if C.xsub c' c = some false then some (.exn c' fs vs, ρ', S') else none
    | _ => none
  | _, _, _ => none
noncomputable def exSs (C : Ctx) : List Sm → Env → Sto → Option (D × Env × Sto)
  | [], _, _ => none
  | s :: ss, ρ, S => match evS C s ρ S with
    | some (.nx ρ' S') => exSs C ss ρ' S'
    | some _ => none
    | none => exS C s ρ S
end

/-! ### defs -/
inductive Mode where | raw | keep (k : Nat) (fz : Bool)
structure Fn where
  np : Nat
  ns : Nat
  body : List Sm
  mode : Mode
structure Pr where
  fn : Str → Option Fn
  glob : Str → Option D
  meth : Str → Str → Option Str
  xsub : Str → Str → Option Bool
/-- the result of a def, by value -/
def frzD (lo : Nat) (S : Sto) : D → D
  | .loc n => if lo ≤ n then (match S[n]? with
    | some (.lst xs) => .lst xs
    | some (.dct kvs) => .dct (kvs.map (·.1)) (kvs.map (·.2))
    | some (.obj c fs) => .ins c (fs.map (·.1)) (fs.map (·.2))
    | none => .loc n) else .loc n
  | d => d
open Classical in
noncomputable def fin (m : Mode) (S : Sto) (d : D) (S' : Sto) : Option (D × Sto) := match m with
  | .raw => some (d, S')
  | .keep k fz => if S'.take S.length = S ∧ (if fz then frzD (S.length + k) S' d else d).bel (S.length + k) = true ∧ ((S'.drop S.length).take k).all (fun c => c.bel (S.length + k)) = true
    then some (if fz then frzD (S.length + k) S' d else d, S'.take (S.length + k)) else none
open Classical in
noncomputable def finX (m : Mode) (S : Sto) (x : D) (S' : Sto) : Option (D × Sto) := match m with
  | .raw => some (x, S')
  | .keep _ _ => if S'.take S.length = S ∧ x.bel S.length = true then some (x, S'.take S.length) else none
noncomputable def runF (P : Pr) (c i xc : CallT) : CallT := fun g as S => (P.fn g).bind fun f =>
  if as.length = f.np then (match evSs ⟨c, i, P.glob, P.meth, xc, P.xsub⟩ f.body (as.map some ++ List.replicate (f.ns - f.np) none) S with
    | some (.rt d S') => fin f.mode S d S'
    | some (.nx _ S') => fin f.mode S .non S'
    | _ => none) else none
noncomputable def runX (P : Pr) (c i xc : CallT) : CallT := fun g as S => (P.fn g).bind fun f =>
  if as.length = f.np then (match exSs ⟨c, i, P.glob, P.meth, xc, P.xsub⟩ f.body (as.map some ++ List.replicate (f.ns - f.np) none) S with
    | some (x, _, S') => finX f.mode S x S'
    | none => none) else none
noncomputable def both (P : Pr) : Nat → CallT × CallT × CallT
  | 0 => (fun _ _ _ => none, fun _ _ _ => none, fun _ _ _ => none)
  | d + 1 => (runF P (both P d).1 (both P d).2.1 (both P d).2.2, (both P d).1, runX P (both P d).1 (both P d).2.1 (both P d).2.2)
noncomputable def callF (P : Pr) (d : Nat) : CallT := (both P d).1
noncomputable def callX (P : Pr) (d : Nat) : CallT := (both P d).2.2
noncomputable def ctxP (P : Pr) (d : Nat) : Ctx := ⟨callF P d, callF P (d - 1), P.glob, P.meth, callX P d, P.xsub⟩
theorem callF_zero (P : Pr) : callF P 0 = fun _ _ _ => none := rfl
theorem callX_zero (P : Pr) : callX P 0 = fun _ _ _ => none := rfl
theorem callF_succ (P : Pr) (d : Nat) (g : Str) (as : List D) (S : Sto) : callF P (d + 1) g as S = (P.fn g).bind fun f =>
  if as.length = f.np then (match evSs (ctxP P d) f.body (as.map some ++ List.replicate (f.ns - f.np) none) S with
    | some (.rt d S') => fin f.mode S d S'
    | some (.nx _ S') => fin f.mode S .non S'
    | _ => none) else none := by
  cases d <;> rfl
theorem callX_succ (P : Pr) (d : Nat) (g : Str) (as : List D) (S : Sto) : callX P (d + 1) g as S = (P.fn g).bind fun f =>
  if as.length = f.np then (match exSs (ctxP P d) f.body (as.map some ++ List.replicate (f.ns - f.np) none) S with
    | some (x, _, S') => finX f.mode S x S'
    | none => none) else none := by
  cases d <;> rfl
end Fw

set_option Elab.async false
set_option linter.all false
set_option maxRecDepth 100000
/-! FwC: what stands in the heap for plain data; the store. -/
namespace Fw
open PySem L2
open Evl (Ex)

/-- a def within a def: its words, the names that it captures -/
structure NS where
  name : Str
  qual : Str
  params : Arguments
  body : List Stmt
  scope : Scope
  fr : List Str
def NS.nf (st : NS) (cl : List (Str × Addr)) (c : Addr) : NdefX.NF := ⟨st.name, st.qual, st.params, st.body, st.scope, cl, c⟩
structure Wd where
  K : PySem.W.Frag
  fa : Str → Option Addr
  ca : Str → Option Addr
  sa : Option Addr
  T : List NdefX.NTab
  nf : Str → Option NS
  xa : Str → Option Addr := fun _ => none
/-- an exception object that was caught: its class, its dict -/
def XcO (C : Addr) (dd : Option Addr) (a : Addr) : HO := .ext fun h => ∃ (oe : Obj) (vs : Array Value), h.get? a = some oe ∧ L2.Zc (.ref C) dd oe ∧ oe.data = .fields vs
/-- the script: known through the whole law -/
def ScrAt (W : Wd) (F : Hp) (a : Addr) (xs : List V) : Prop :=
  (W.sa = some a ∧ Rd F a (.lst xs)) ∨ ∃ (o : Obj) (its : Array Value) (n : Nat), W.K.lookup a = some o ∧ o.cls = .type "list" ∧ o.dict = none ∧ o.data = .seq its n ∧ its.size ≤ sizeLine ∧ Vals xs its.toList
theorem ScrAt.sql {W : Wd} {F : Hp} {a : Addr} {xs : List V} (h : ScrAt W F a xs) : SqL W.K F a xs := h.elim (fun z => .inl z.2) .inr
theorem ScrAt.mono {W : Wd} {F F' : Hp} {a : Addr} {xs : List V} (e : Ex F F') (h : ScrAt W F a xs) : ScrAt W F' a xs := h.elim (fun z => .inl ⟨z.1, Evl.ex_rd e z.2⟩) .inr
mutual
inductive Rep (W : Wd) (F : Hp) (μ : List Addr) : V → D → Prop
  | non : Rep W F μ .non .non
  | bl (b : Bool) : Rep W F μ (.bl b) (.bl b)
  | int (i : Int) : Rep W F μ (.int i) (.int i)
  | str (x : Str) : Rep W F μ (.str x) (.str x)
  | tup {a : Addr} {vs : List V} {xs : List D} : SqT W.K F a vs → Reps W F μ vs xs → Rep W F μ (.ref a) (.tup xs)
  | lst {a : Addr} {vs : List V} {xs : List D} : F a = some (.lst vs) → Reps W F μ vs xs → Rep W F μ (.ref a) (.lst xs)
  | dct {a : Addr} {ks : List Key} {vs : List V} {xs : List D} : Rd F a (.dK (ks.zip vs)) → ks.length = vs.length → Reps W F μ vs xs → Rep W F μ (.ref a) (.dct ks xs)
  | ins {a C dx : Addr} {c : Str} {fs : List Str} {vs : List V} {xs : List D} : F a = some (.ins C dx (fs.zip vs)) → F dx = some (.own a) → W.ca c = some C → fs.length = vs.length → Reps W F μ vs xs → Rep W F μ (.ref a) (.ins c fs xs)
  | loc {a : Addr} {n : Nat} : μ[n]? = some a → Rep W F μ (.ref a) (.loc n)
  | scr {a : Addr} {ns : List Int} : ScrAt W F a (ns.map V.int) → Rep W F μ (.ref a) (.scr ns)
  | fn {a : Addr} {g : Str} : W.fa g = some a → Rep W F μ (.ref a) (.fn g)
  | cls {a : Addr} {c : Str} : W.ca c = some a → Rep W F μ (.ref a) (.cls c)
  | ty {n : String} : Rep W F μ (.ty n) (.ty n)
  | fky {a : Addr} {o : Obj} {ks : List Key} {vs : List V} : F a = some (.frz o (.dK (ks.zip vs))) → ks.length = vs.length → Rep W F μ (.ref a) (.fkeys ks)
  | exn0 {a C : Addr} {c : Str} : F a = some (XcO C none a) → W.xa c = some C → Rep W F μ (.ref a) (.exn c [] [])
  | exn1 {a C dx : Addr} {c : Str} {fs : List Str} {vs : List V} {xs : List D} : F a = some (XcO C (some dx) a) → F dx = some (.xd (fs.zip vs)) → W.xa c = some C → fs.length = vs.length → Reps W F μ vs xs → Rep W F μ (.ref a) (.exn c fs xs)
inductive Reps (W : Wd) (F : Hp) (μ : List Addr) : List V → List D → Prop
  | nil : Reps W F μ [] []
  | cons {v : V} {d : D} {vs : List V} {ds : List D} : Rep W F μ v d → Reps W F μ vs ds → Reps W F μ (v :: vs) (d :: ds)
end
section
variable {W : Wd} {F F' : Hp} {μ μ' : List Addr}
theorem pre_get {α : Type} {l l' : List α} (p : l <+: l') {n : Nat} {a : α} (h : l[n]? = some a) : l'[n]? = some a := by
  obtain ⟨t, rfl⟩ := p
  rw [List.getElem?_append_left (List.getElem?_eq_some_iff.mp h).1]
  exact h
mutual
theorem Rep.mono (e : Ex F F') (p : μ <+: μ') : ∀ {v : V} {d : D}, Rep W F μ v d → Rep W F' μ' v d
  | _, _, .non => .non
  | _, _, .bl b => .bl b
  | _, _, .int i => .int i
  | _, _, .str x => .str x
  | _, _, .tup h r => .tup (Evl.ex_t e h) (Reps.mono e p r)
  | _, _, .lst h r => .lst (e _ _ h) (Reps.mono e p r)
  | _, _, .dct h l r => .dct (Evl.ex_rd e h) l (Reps.mono e p r)
  | _, _, .ins h h2 c l r => .ins (e _ _ h) (e _ _ h2) c l (Reps.mono e p r)
  | _, _, .loc h => .loc (pre_get p h)
  | _, _, .scr h => .scr (h.mono e)
  | _, _, .fn h => .fn h
  | _, _, .cls h => .cls h
  | _, _, .ty => .ty
  | _, _, .fky h l => .fky (e _ _ h) l
  | _, _, .exn0 h k => .exn0 (e _ _ h) k
  | _, _, .exn1 h h2 k l r => .exn1 (e _ _ h) (e _ _ h2) k l (Reps.mono e p r)
theorem Reps.mono (e : Ex F F') (p : μ <+: μ') : ∀ {vs : List V} {ds : List D}, Reps W F μ vs ds → Reps W F' μ' vs ds
  | _, _, .nil => .nil
  | _, _, .cons h r => .cons (Rep.mono e p h) (Reps.mono e p r)
end
theorem Reps.length : ∀ {vs : List V} {ds : List D}, Reps W F μ vs ds → vs.length = ds.length
  | _, _, .nil => rfl
  | _, _, .cons _ r => by rw [List.length_cons, List.length_cons, Reps.length r]
theorem Reps.get : ∀ {vs : List V} {ds : List D} {i : Nat} {d : D}, Reps W F μ vs ds → ds[i]? = some d → ∃ v, vs[i]? = some v ∧ Rep W F μ v d
  | _, _, _, _, .nil, e => by simp at e
  | _, _, 0, _, .cons h _, e => by simp at e; subst e; exact ⟨_, rfl, h⟩
  | _, _, i + 1, d, .cons _ r, e => by
    obtain ⟨v, h1, h2⟩ := Reps.get (i := i) (d := d) r (by simpa using e)
    exact ⟨v, by simpa using h1, h2⟩
theorem Reps.append : ∀ {vs ws : List V} {ds es : List D}, Reps W F μ vs ds → Reps W F μ ws es → Reps W F μ (vs ++ ws) (ds ++ es)
  | _, _, _, _, .nil, s => s
  | _, _, _, _, .cons h r, s => .cons h (Reps.append r s)
theorem Reps.one {v : V} {d : D} (h : Rep W F μ v d) : Reps W F μ [v] [d] := .cons h .nil
theorem Reps.take : ∀ {vs : List V} {ds : List D} (n : Nat), Reps W F μ vs ds → Reps W F μ (vs.take n) (ds.take n)
  | _, _, 0, _ => .nil
  | _, _, _ + 1, .nil => .nil
  | _, _, n + 1, .cons h r => .cons h (Reps.take n r)
theorem Reps.drop : ∀ {vs : List V} {ds : List D} (n : Nat), Reps W F μ vs ds → Reps W F μ (vs.drop n) (ds.drop n)
  | _, _, 0, r => r
  | _, _, _ + 1, .nil => .nil
  | _, _, n + 1, .cons _ r => Reps.drop n r
theorem Reps.set {v : V} {d : D} (h : Rep W F μ v d) : ∀ {vs : List V} {ds : List D} (i : Nat), Reps W F μ vs ds → Reps W F μ (vs.set i v) (ds.set i d)
  | _, _, _, .nil => .nil
  | _, _, 0, .cons _ r => .cons h r
  | _, _, i + 1, .cons q r => .cons q (Reps.set h i r)
theorem Reps.dropLast {vs : List V} {ds : List D} (h : Reps W F μ vs ds) : Reps W F μ vs.dropLast ds.dropLast := by
  rw [List.dropLast_eq_take, List.dropLast_eq_take, h.length]
  exact h.take _
theorem Reps.reverse {vs : List V} {ds : List D} (h : Reps W F μ vs ds) : Reps W F μ vs.reverse ds.reverse := by
  induction vs generalizing ds with
  | nil => cases h; exact .nil
  | cons v vs ih =>
    cases h with
    | cons h r =>
      rw [List.reverse_cons, List.reverse_cons]
      exact (ih r).append (.one h)
theorem Reps.ints : ∀ {vs : List V} {ns : List Int}, Reps W F μ vs (ns.map D.int) → vs = ns.map V.int
  | _, [], h => by cases h; rfl
  | _, n :: ns, h => by
    cases h with
    | cons h r =>
      cases h
      rw [Reps.ints r]; rfl
theorem reps_ints : ∀ {ns : List Int}, Reps W F μ (ns.map V.int) (ns.map D.int)
  | [] => .nil
  | n :: ns => .cons (.int n) reps_ints
theorem Reps.none_of {vs : List V} {ds : List D} {i : Nat} (h : Reps W F μ vs ds) (e : ds[i]? = none) : vs[i]? = none := by
  have h1 := h.length
  have h2 := List.getElem?_eq_none_iff.mp e
  exact List.getElem?_eq_none_iff.mpr (by omega)
end

/-! ### the store -/
def CellOk (W : Wd) (F : Hp) (μ : List Addr) (H : Hp) (a : Addr) : Cell → Prop
  | .lst xs => ∃ vs, H a = some (.lst vs) ∧ Reps W F μ vs xs
  | .dct kvs => ∃ vs, H a = some (.dK ((kvs.map (·.1)).zip vs)) ∧ Reps W F μ vs (kvs.map (·.2))
  | .obj c fs => ∃ C dx vs, W.ca c = some C ∧ H a = some (.ins C dx ((fs.map (·.1)).zip vs)) ∧ H dx = some (.own a) ∧ Reps W F μ vs (fs.map (·.2))
structure Ag (W : Wd) (F : Hp) (μ : List Addr) (S : Sto) (H : Hp) : Prop where
  ex : Ex F H
  len : μ.length = S.length
  nd : μ.Nodup
  cell : ∀ (n : Nat) (a : Addr) (c : Cell), μ[n]? = some a → S[n]? = some c → F a = none ∧ CellOk W F μ H a c
  sc : ∀ a, W.sa = some a → ∃ xs, Rd F a (.lst xs)
  tb : NdefX.TabsN W.T H
  nt : ∀ b ps, F b ≠ some (.tbl ps)
/-- no table, no code object -/
def NoTab (u : HO) : Prop := (∀ ps, u ≠ .tbl ps) ∧ ∀ φ, u ≠ .ext φ
theorem tabs_upd {T : List NdefX.NTab} {H H' : Hp} {a : Addr} {u : HO} (t : NdefX.TabsN T H) (h : H a = some u) (hu : NoTab u) (k : ∀ b, b ≠ a → H' b = H b) : NdefX.TabsN T H' := fun p hp => by
  obtain ⟨ps, h1, h2, h3⟩ := t p hp
  refine ⟨ps, by rw [k _ (fun z => by rw [z, h] at h1; exact hu.1 _ (Option.some.inj h1))]; exact h1, h2, fun pos cv hc => ?_⟩
  obtain ⟨c, e1, e2⟩ := h3 pos cv hc
  exact ⟨c, e1, by rw [k _ (fun z => by rw [z, h] at e2; exact hu.2 _ (Option.some.inj e2))]; exact e2⟩
section
variable {W : Wd} {F F' H : Hp} {μ μ' : List Addr} {S : Sto} {p a : Addr} {n : Nat} {c : Cell}
theorem CellOk.there (h : CellOk W F μ H a c) : ∃ o, H a = some o ∧ Mut (some o) := by
  cases c with
  | lst xs => obtain ⟨vs, e, _⟩ := h; exact ⟨_, e, trivial⟩
  | dct kvs => obtain ⟨vs, e, _⟩ := h; exact ⟨_, e, trivial⟩
  | obj c fs => obtain ⟨C, dx, vs, _, e, _⟩ := h; exact ⟨_, e, trivial⟩
theorem CellOk.notab (h : CellOk W F μ H a c) : ∃ o, H a = some o ∧ NoTab o := by
  cases c with
  | lst xs => obtain ⟨vs, e, _⟩ := h; exact ⟨_, e, fun _ z => (by cases z), fun _ z => (by cases z)⟩
  | dct kvs => obtain ⟨vs, e, _⟩ := h; exact ⟨_, e, fun _ z => (by cases z), fun _ z => (by cases z)⟩
  | obj c fs => obtain ⟨C, dx, vs, _, e, _⟩ := h; exact ⟨_, e, fun _ z => (by cases z), fun _ z => (by cases z)⟩
theorem Ag.at (g : Ag W F μ S H) (h : S[n]? = some c) : ∃ a, μ[n]? = some a ∧ F a = none ∧ CellOk W F μ H a c := by
  have hn : n < μ.length := by rw [g.len]; exact (List.getElem?_eq_some_iff.mp h).1
  exact ⟨μ[n], List.getElem?_eq_getElem hn, g.cell n _ c (List.getElem?_eq_getElem hn) h⟩
theorem Ag.loc {v : V} (g : Ag W F μ S H) (r : Rep W F μ v (.loc n)) (h : S[n]? = some c) : ∃ a, v = .ref a ∧ μ[n]? = some a ∧ F a = none ∧ CellOk W F μ H a c := by
  cases r with
  | loc e => exact ⟨_, rfl, e, g.cell n _ c e h⟩
/-- all cells are tracked -/
theorem Ag.mem (g : Ag W F μ S H) (h : a ∈ μ) : ∃ o, H a = some o ∧ Mut (some o) := by
  obtain ⟨n, hn⟩ := List.mem_iff_getElem?.mp h
  have hl : n < S.length := by rw [← g.len]; exact (List.getElem?_eq_some_iff.mp hn).1
  exact CellOk.there (g.cell n a S[n] hn (List.getElem?_eq_getElem hl)).2
theorem CellOk.mono {H' : Hp} (e : Ex F F') (pm : μ <+: μ') (hH : ∀ b o, H b = some o → H' b = some o) (h : CellOk W F μ H a c) : CellOk W F' μ' H' a c := by
  cases c with
  | lst xs => obtain ⟨vs, q, r⟩ := h; exact ⟨vs, hH _ _ q, r.mono e pm⟩
  | dct kvs => obtain ⟨vs, q, r⟩ := h; exact ⟨vs, hH _ _ q, r.mono e pm⟩
  | obj c fs => obtain ⟨C, dx, vs, k, q, q2, r⟩ := h; exact ⟨C, dx, vs, k, hH _ _ q, hH _ _ q2, r.mono e pm⟩
theorem pre_refl {α : Type} (l : List α) : l <+: l := ⟨[], by simp⟩
/-- a new object, by value from now on -/
theorem Ag.frz (g : Ag W F μ S H) (h : H p = none) (o : HO) (ho : ∀ ps, o ≠ .tbl ps := by intro _ z; cases z) : Ag W (upd F p o) μ S (upd H p o) ∧ Ex F (upd F p o) ∧ upd F p o p = some o := by
  have hF : F p = none := Evl.fresh_back g.ex h
  have eF : Ex F (upd F p o) := Ex.new hF
  have eH : Ex H (upd H p o) := Ex.new h
  refine ⟨⟨fun b u e => ?_, g.len, g.nd, fun n a c h1 h2 => ?_, fun a ha => (g.sc a ha).imp fun u hu => Evl.ex_rd eF hu, g.tb.ext eH, fun b ps z => ?_⟩, eF, upd_same⟩
  · by_cases hb : b = p
    · subst hb; rw [upd_same] at e ⊢; exact e
    · rw [upd_ne hb] at e ⊢; exact g.ex b u e
  · obtain ⟨q1, q2⟩ := g.cell n a c h1 h2
    obtain ⟨u, hu, _⟩ := CellOk.there q2
    refine ⟨by rw [upd_ne (ne_of_none hu h)]; exact q1, CellOk.mono eF (pre_refl _) eH q2⟩
  · by_cases hb : b = p
    · subst hb; rw [upd_same] at z; exact ho _ (Option.some.inj z)
    · rw [upd_ne hb] at z; exact g.nt _ _ z
/-- a new object that may change -/
theorem Ag.new (g : Ag W F μ S H) (h : H p = none) {o : HO} (hc : CellOk W F (μ ++ [p]) (upd H p o) p c) : Ag W F (μ ++ [p]) (S ++ [c]) (upd H p o) ∧ μ <+: μ ++ [p] := by
  have hF : F p = none := Evl.fresh_back g.ex h
  have eH : Ex H (upd H p o) := Ex.new h
  refine ⟨⟨g.ex.trans eH, by rw [List.length_append, List.length_append, g.len]; rfl, ?_, fun n a d h1 h2 => ?_, g.sc, g.tb.ext eH, g.nt⟩, ⟨[p], rfl⟩⟩
  · rw [List.nodup_append]
    refine ⟨g.nd, by simp, fun a ha b hb => ?_⟩
    have e : b = p := by simpa using hb
    subst e
    rintro rfl
    obtain ⟨u, hu, _⟩ := g.mem ha
    rw [h] at hu; cases hu
  · by_cases hn : n < μ.length
    · rw [List.getElem?_append_left hn] at h1
      rw [List.getElem?_append_left (by rw [← g.len]; exact hn)] at h2
      obtain ⟨q1, q2⟩ := g.cell n a d h1 h2
      exact ⟨q1, CellOk.mono (Ex.refl F) ⟨[p], rfl⟩ eH q2⟩
    · have hn' : n < (μ ++ [p]).length := (List.getElem?_eq_some_iff.mp h1).1
      rw [List.length_append, List.length_singleton] at hn'
      have en : n = μ.length := by omega
      subst en
      rw [List.getElem?_append_right (Nat.le_refl _), Nat.sub_self] at h1
      rw [List.getElem?_append_right (by rw [g.len]; exact Nat.le_refl _), g.len, Nat.sub_self] at h2
      simp at h1 h2
      subst h1 h2
      exact ⟨hF, hc⟩
/-- a cell is written -/
theorem Ag.set {o' : HO} {c' : Cell} (g : Ag W F μ S H) (hm : μ[n]? = some a) (hs : S[n]? = some c) (hc : CellOk W F μ (upd H a o') a c') : Ag W F μ (S.set n c') (upd H a o') := by
  obtain ⟨qF, q⟩ := g.cell n a c hm hs
  obtain ⟨u, hu, mu⟩ := CellOk.there q
  obtain ⟨u1, hu1, nu1⟩ := CellOk.notab q
  refine ⟨fun b o e => ?_, by rw [List.length_set]; exact g.len, g.nd, fun m b d h1 h2 => ?_, g.sc, tabs_upd g.tb hu1 nu1 fun b hb => upd_ne hb, g.nt⟩
  · by_cases hb : b = a
    · subst hb; rw [qF] at e; cases e
    · rw [upd_ne hb]; exact g.ex b o e
  · by_cases hmn : m = n
    · subst hmn
      rw [hm] at h1; cases h1
      rw [List.getElem?_set_self (List.getElem?_eq_some_iff.mp hs).1] at h2
      cases h2
      exact ⟨qF, hc⟩
    · rw [List.getElem?_set_ne (Ne.symm hmn)] at h2
      obtain ⟨r1, r2⟩ := g.cell m b d h1 h2
      have hba : b ≠ a := fun e => hmn (by
        subst e
        obtain ⟨x1, y1⟩ := List.getElem?_eq_some_iff.mp h1
        obtain ⟨x2, y2⟩ := List.getElem?_eq_some_iff.mp hm
        exact (List.getElem_inj g.nd).mp (y1.trans y2.symm))
      refine ⟨r1, ?_⟩
      cases d with
      | lst xs => obtain ⟨vs, e, r⟩ := r2; exact ⟨vs, by rw [upd_ne hba]; exact e, r⟩
      | dct kvs => obtain ⟨vs, e, r⟩ := r2; exact ⟨vs, by rw [upd_ne hba]; exact e, r⟩
      | obj c fs =>
        obtain ⟨C, dx, vs, k, e, e2, r⟩ := r2
        refine ⟨C, dx, vs, k, by rw [upd_ne hba]; exact e, ?_, r⟩
        rw [upd_ne (fun z => by rw [z] at e2; rw [hu] at e2; cases e2; exact mu)]
        exact e2
end

/-! ### a thing beside the store -/
def del (F : Hp) (a : Addr) : Hp := fun b => if b = a then none else F b
theorem del_ne {F : Hp} {a b : Addr} (h : b ≠ a) : del F a b = F b := if_neg h
section
variable {W : Wd} {F F' : Hp} {μ μ' : List Addr} {S : Sto} {H H' : Hp} {a : Addr} {acc : List V} {od : Obj} {u : HO}
mutual
theorem Rep.del (hs : W.sa ≠ some a) (h : F a = some (.frz od (.lst acc))) : ∀ {v : V} {d : D}, Rep W F μ v d → Rep W (del F a) μ v d
  | _, _, .non => .non
  | _, _, .bl b => .bl b
  | _, _, .int i => .int i
  | _, _, .str x => .str x
  | _, _, .tup (a := b) hh r => .tup (by
      rcases hh with (q | ⟨o, q⟩) | q
      · exact .inl (.inl (by rw [del_ne (fun z => by rw [z, h] at q; cases q)]; exact q))
      · exact .inl (.inr ⟨o, by rw [del_ne (fun z => by rw [z, h] at q; cases q)]; exact q⟩)
      · exact .inr q) (Reps.del hs h r)
  | _, _, .lst (a := b) q r => .lst (by rw [del_ne (fun z => by rw [z, h] at q; cases q)]; exact q) (Reps.del hs h r)
  | _, _, .dct (a := b) hh l r => .dct (by
      rcases hh with q | ⟨o, q⟩
      · exact .inl (by rw [del_ne (fun z => by rw [z, h] at q; cases q)]; exact q)
      · exact .inr ⟨o, by rw [del_ne (fun z => by rw [z, h] at q; cases q)]; exact q⟩) l (Reps.del hs h r)
  | _, _, .ins (a := b) (dx := dx) q q2 c l r => .ins (by rw [del_ne (fun z => by rw [z, h] at q; cases q)]; exact q) (by rw [del_ne (fun z => by rw [z, h] at q2; cases q2)]; exact q2) c l (Reps.del hs h r)
  | _, _, .loc q => .loc q
  | _, _, .scr (a := b) hh => .scr (by
      rcases hh with ⟨h0, q | ⟨o, q⟩⟩ | q
      · exact .inl ⟨h0, .inl (by rw [del_ne (fun z => by rw [z] at h0; exact hs h0)]; exact q)⟩
      · exact .inl ⟨h0, .inr ⟨o, by rw [del_ne (fun z => by rw [z] at h0; exact hs h0)]; exact q⟩⟩
      · exact .inr q)
  | _, _, .fn q => .fn q
  | _, _, .cls q => .cls q
  | _, _, .ty => .ty
  | _, _, .fky q l => .fky (by rw [del_ne (fun z => by rw [z, h] at q; cases q)]; exact q) l
  | _, _, .exn0 q k => .exn0 (by rw [del_ne (fun z => by rw [z, h] at q; unfold XcO at q; cases q)]; exact q) k
  | _, _, .exn1 q q2 k l r => .exn1 (by rw [del_ne (fun z => by rw [z, h] at q; unfold XcO at q; cases q)]; exact q) (by rw [del_ne (fun z => by rw [z, h] at q2; cases q2)]; exact q2) k l (Reps.del hs h r)
theorem Reps.del (hs : W.sa ≠ some a) (h : F a = some (.frz od (.lst acc))) : ∀ {vs : List V} {ds : List D}, Reps W F μ vs ds → Reps W (del F a) μ vs ds
  | _, _, .nil => .nil
  | _, _, .cons r rs => .cons (Rep.del hs h r) (Reps.del hs h rs)
end
end

/-! ### functions that captured names -/
/-- the captured cells, locked -/
structure CellsF (F : Hp) (cl : List (Str × Addr)) (fr : List Str) (vs : List V) : Prop where
  len : vs.length = fr.length
  all : ∀ y c, cl.lookup y = some c → ∃ o v, F c = some (.frz o (.own c)) ∧ o.data = .cell v
  inj : ∀ x y c, cl.lookup x = some c → cl.lookup y = some c → x = y
  has : ∀ (i : Nat) (y : Str), fr[i]? = some y → ∃ c o v u, cl.lookup y = some c ∧ vs[i]? = some v ∧ RelV v u ∧ F c = some (.frz o (.own c)) ∧ o.data = .cell (some u)
theorem CellsF.mono {F F' : Hp} {cl : List (Str × Addr)} {fr : List Str} {vs : List V} (e : ∀ b o, F b = some (.frz o (.own b)) → F' b = some (.frz o (.own b))) (h : CellsF F cl fr vs) : CellsF F' cl fr vs :=
  ⟨h.len, fun y c k => by obtain ⟨o, v, q, r⟩ := h.all y c k; exact ⟨o, v, e _ _ q, r⟩, h.inj, fun i y k => by
    obtain ⟨c, o, v, u, h1, h2, h3, h4, h5⟩ := h.has i y k
    exact ⟨c, o, v, u, h1, h2, h3, e _ _ h4, h5⟩⟩
/-- a function handed in -/
def CloP (W : Wd) (F : Hp) (μ : List Addr) (v : V) (d : D) : Prop :=
  ∃ (f : Addr) (lf : Str) (ws : List D) (vs : List V) (st : NS) (cl : List (Str × Addr)) (c : Addr), v = .ref f ∧ d = .clo lf ws ∧ W.nf lf = some st ∧ F f = some (NdefX.FnO f (st.nf cl c)) ∧ F c = some (LamX.CodeO c st.qual) ∧ CellsF F cl st.fr vs ∧ Reps W F μ vs ws
/-- what a slot of a function is: made here, or handed in -/
inductive CK where
  | made (mk : Addr → NdefX.NF)
  | par
def CloR (W : Wd) (F : Hp) (μ : List Addr) : CK → Option (Option D) → Option (Option V) → Prop
  | .made mk, some (some _), sv => ∃ f c, sv = some (some (.ref f)) ∧ F f = some (NdefX.FnO f (mk c)) ∧ F c = some (LamX.CodeO c (mk c).qual)
  | .par, some (some d), sv => ∃ v, sv = some (some v) ∧ CloP W F μ v d
  | _, _, _ => True
section
variable {W : Wd} {F F' : Hp} {μ μ' : List Addr} {a : Addr} {acc : List V} {od : Obj} {v : V} {d : D} {k : CK} {od' : Option (Option D)} {sv : Option (Option V)}
theorem CloP.mono (e : Ex F F') (p : μ <+: μ') (h : CloP W F μ v d) : CloP W F' μ' v d := by
  obtain ⟨f, lf, ws, vs, st, cl, c, h1, h2, h3, h4, h5, h6, h7⟩ := h
  exact ⟨f, lf, ws, vs, st, cl, c, h1, h2, h3, e _ _ h4, e _ _ h5, h6.mono fun b o q => e _ _ q, h7.mono e p⟩
theorem CloP.del (hs : W.sa ≠ some a) (h0 : F a = some (.frz od (.lst acc))) (h : CloP W F μ v d) : CloP W (del F a) μ v d := by
  obtain ⟨f, lf, ws, vs, st, cl, c, h1, h2, h3, h4, h5, h6, h7⟩ := h
  refine ⟨f, lf, ws, vs, st, cl, c, h1, h2, h3, ?_, ?_, h6.mono fun b o q => ?_, h7.del hs h0⟩
  · rw [del_ne (fun z => by rw [z, h0] at h4; unfold NdefX.FnO at h4; cases h4)]; exact h4
  · rw [del_ne (fun z => by rw [z, h0] at h5; unfold LamX.CodeO at h5; cases h5)]; exact h5
  · rw [del_ne (fun z => by rw [z, h0] at q; cases q)]; exact q
theorem CloR.mono (e : Ex F F') (p : μ <+: μ') (h : CloR W F μ k od' sv) : CloR W F' μ' k od' sv := by
  cases k with
  | made mk =>
    rcases od' with _ | (_ | d)
    · trivial
    · trivial
    · obtain ⟨f, c, h1, h2, h3⟩ := h
      exact ⟨f, c, h1, e _ _ h2, e _ _ h3⟩
  | par =>
    rcases od' with _ | (_ | d)
    · trivial
    · trivial
    · obtain ⟨v, h1, h2⟩ := h
      exact ⟨v, h1, h2.mono e p⟩
theorem CloR.del (hs : W.sa ≠ some a) (h0 : F a = some (.frz od (.lst acc))) (h : CloR W F μ k od' sv) : CloR W (del F a) μ k od' sv := by
  cases k with
  | made mk =>
    rcases od' with _ | (_ | d)
    · trivial
    · trivial
    · obtain ⟨f, c, h1, h2, h3⟩ := h
      refine ⟨f, c, h1, ?_, ?_⟩
      · rw [del_ne (fun z => by rw [z, h0] at h2; unfold NdefX.FnO at h2; cases h2)]; exact h2
      · rw [del_ne (fun z => by rw [z, h0] at h3; unfold LamX.CodeO at h3; cases h3)]; exact h3
  | par =>
    rcases od' with _ | (_ | d)
    · trivial
    · trivial
    · obtain ⟨v, h1, h2⟩ := h
      exact ⟨v, h1, h2.del hs h0⟩
end
structure Sd where
  W : Wd
  C : Ctx
  cs : List Nat
  ck : Nat → CK

/-! ### the names -/
structure Rho (Z : Sd) (F : Hp) (μ : List Addr) (ρ : Env) (σ : L2.St) : Prop where
  len : σ.length = ρ.length
  at_ : ∀ (i : Nat) (d : D), ρ[i]? = some (some d) → i ∉ Z.cs → ∃ v, σ[i]? = some (some v) ∧ Rep Z.W F μ v d
  clo : ∀ i ∈ Z.cs, CloR Z.W F μ (Z.ck i) ρ[i]? σ[i]?
section
variable {Z : Sd} {F F' : Hp} {μ μ' : List Addr} {ρ : Env} {σ : L2.St}
theorem Rho.mono (e : Ex F F') (p : μ <+: μ') (r : Rho Z F μ ρ σ) : Rho Z F' μ' ρ σ := ⟨r.len, fun i d h hc => by
  obtain ⟨v, h1, h2⟩ := r.at_ i d h hc
  exact ⟨v, h1, h2.mono e p⟩, fun i hi => (r.clo i hi).mono e p⟩
theorem Rho.set {i : Nat} {v : V} {d : D} (r : Rho Z F μ ρ σ) (h : Rep Z.W F μ v d) (hi : i ∉ Z.cs) : Rho Z F μ (ρ.set i (some d)) (σ.set i (some v)) := by
  refine ⟨by rw [List.length_set, List.length_set]; exact r.len, fun j e hj hc => ?_, fun j hj => ?_⟩
  · by_cases hij : i = j
    · subst hij
      have hl : i < ρ.length := by
        have := (List.getElem?_eq_some_iff.mp hj).1
        rwa [List.length_set] at this
      rw [List.getElem?_set_self hl] at hj
      cases hj
      exact ⟨v, List.getElem?_set_self (by rw [r.len]; exact hl), h⟩
    · rw [List.getElem?_set_ne hij] at hj
      rw [List.getElem?_set_ne hij]
      exact r.at_ j e hj hc
  · have hij : i ≠ j := fun e => hi (e ▸ hj)
    rw [List.getElem?_set_ne hij, List.getElem?_set_ne hij]
    exact r.clo j hj
theorem Rho.wipe (r : Rho Z F μ ρ σ) : ∀ vs : List Nat, (∀ i ∈ vs, i ∉ Z.cs) → Rho Z F μ (wipeE ρ vs) (L2.wipe σ vs)
  | [], _ => r
  | v :: vs, hv => by
    have q := Rho.wipe r vs fun i hi => hv i (List.mem_cons_of_mem _ hi)
    unfold wipeE L2.wipe
    refine ⟨by rw [List.length_set, List.length_set]; exact q.len, fun j e hj hc => ?_, fun j hj => ?_⟩
    · by_cases hij : v = j
      · subst hij
        have hl : v < (wipeE ρ vs).length := by
          have := (List.getElem?_eq_some_iff.mp hj).1
          rwa [List.length_set] at this
        rw [List.getElem?_set_self hl] at hj
        cases hj
      · rw [List.getElem?_set_ne hij] at hj
        rw [List.getElem?_set_ne hij]
        exact q.at_ j e hj hc
    · have hij : v ≠ j := fun e => hv v List.mem_cons_self (e ▸ hj)
      rw [List.getElem?_set_ne hij, List.getElem?_set_ne hij]
      exact q.clo j hj
theorem Rho.slot {i : Nat} {d : D} (r : Rho Z F μ ρ σ) (h : slotD ρ i = some d) (hc : i ∉ Z.cs) : ∃ v, σ[i]? = some (some v) ∧ Rep Z.W F μ v d := by
  unfold slotD at h
  split at h
  · rename_i d' e
    cases h
    exact r.at_ i _ e hc
  · cases h
end
end Fw

set_option Elab.async false
set_option linter.all false
set_option maxRecDepth 100000
/-! FwD: what the small syntax means for the model: expressions. -/
namespace Fw
open PySem L2
open Evl (Ex)

def rdE (Z : Sd) (m : E) : TE := fun σ H Q => ∃ F μ S ρ d S', Ag Z.W F μ S H ∧ Rho Z F μ ρ σ ∧ evE Z.C m ρ S = some (d, S') ∧
  ∀ v F' μ' H', Ex F F' → μ <+: μ' → Ag Z.W F' μ' S' H' → Rep Z.W F' μ' v d → Q v H'
def rdT (Z : Sd) (m : E) : TT := fun σ H Q => ∃ F μ S ρ b S', Ag Z.W F μ S H ∧ Rho Z F μ ρ σ ∧ evE Z.C m ρ S = some (.bl b, S') ∧
  ∀ F' μ' H', Ex F F' → μ <+: μ' → Ag Z.W F' μ' S' H' → Q b H'
def rdEs (Z : Sd) (ms : List E) : TA := fun σ H Q => ∃ F μ S ρ ds S', Ag Z.W F μ S H ∧ Rho Z F μ ρ σ ∧ evEs Z.C ms ρ S = some (ds, S') ∧
  ∀ vs F' μ' H', Ex F F' → μ <+: μ' → Ag Z.W F' μ' S' H' → Reps Z.W F' μ' vs ds → Q vs H'
abbrev ME (Z : Sd) (X : Cx) (e : Expr) (m : E) : Prop := PE X e (rdE Z m)
abbrev MT (Z : Sd) (X : Cx) (e : Expr) (m : E) : Prop := PT X e (rdT Z m)
abbrev MA (Z : Sd) (X : Cx) (es : List Expr) (ms : List E) : Prop := PA X es (rdEs Z ms)

/-! ### weaker readings -/
theorem PE.imp {X : Cx} {e : Expr} {t t' : TE} (h : PE X e t) (i : ∀ σ H Q, t' σ H Q → t σ H Q) : PE X e t' := ⟨fun pins s σ H Q I q => h.run pins s σ H Q I (i σ H Q q)⟩
theorem PT.imp {X : Cx} {e : Expr} {t t' : TT} (h : PT X e t) (i : ∀ σ H Q, t' σ H Q → t σ H Q) : PT X e t' := ⟨fun pins s σ H Q I q => h.run pins s σ H Q I (i σ H Q q)⟩
theorem PW.imp {X : Cx} {e : Expr} {t t' : TT} (h : PW X e t) (i : ∀ σ H Q, t' σ H Q → t σ H Q) : PW X e t' := ⟨fun wh pins s σ H Q I q => h.run wh pins s σ H Q I (i σ H Q q)⟩
theorem PA.imp {X : Cx} {e : List Expr} {t t' : TA} (h : PA X e t) (i : ∀ σ H Q, t' σ H Q → t σ H Q) : PA X e t' := ⟨fun pos pins s σ H Q I q => h.run pos pins s σ H Q I (i σ H Q q)⟩
theorem PS.imp {X : Cx} {e : Stmt} {t t' : TS} (h : PS X e t) (i : ∀ D σ H, t' D σ H → t D σ H) : PS X e t' := ⟨fun pins s σ H D I q => h.run pins s σ H D I (i D σ H q)⟩
theorem PSs.imp {X : Cx} {e : List Stmt} {t t' : TS} (h : PSs X e t) (i : ∀ D σ H, t' D σ H → t D σ H) : PSs X e t' := ⟨fun pins s σ H D I q => h.run pins s σ H D I (i D σ H q)⟩
theorem PI.imp {X : Cx} {tg e : Expr} {t t' : TI} (h : PI X tg e t) (i : ∀ σ H R, t' σ H R → t σ H R) : PI X tg e t' := ⟨fun pins s σ H R I q => h.run pins s σ H R I (i σ H R q)⟩
theorem PG.imp {X : Cx} {e : Expr} {t t' : TG} (h : PG X e t) (i : ∀ v σ H Q, t' v σ H Q → t v σ H Q) : PG X e t' := ⟨fun pins s σ H v u Q I r q => h.run pins s σ H v u Q I r (i v σ H Q q)⟩
theorem PTs.imp {X : Cx} {e : List Expr} {t t' : TT} (h : PTs X e t) (i : ∀ σ H Q, t' σ H Q → t σ H Q) : PTs X e t' := ⟨fun pins s σ H Q I q => h.run pins s σ H Q I (i σ H Q q)⟩

/-! ### bind -/
theorem bind_some' {α β : Type} {x : Option α} {f : α → Option β} {b : β} (h : x.bind f = some b) : ∃ a, x = some a ∧ f a = some b := by
  cases x with
  | none => cases h
  | some a => exact ⟨a, rfl, h⟩
theorem map_some' {α β : Type} {x : Option α} {f : α → β} {b : β} (h : x.map f = some b) : ∃ a, x = some a ∧ f a = b := by
  cases x with
  | none => cases h
  | some a => exact ⟨a, rfl, Option.some.inj h⟩

section
variable {Z : Sd} {X : Cx} {e a b c : Expr} {m ma mb mc : E} {pos : Pos}

/-! ### names, constants -/
theorem me_slot {i : Nat} {x : Str} {pos : Pos} (hN : X.N[i]? = some x := by rfl) (hv : Vis X.env.scope x := by first | exact Or.inl rfl | exact Or.inr (Or.inl rfl) | exact Or.inr (Or.inr rfl)) (hc : i ∉ Z.cs := by first | exact List.not_mem_nil | decide)
    (hd : (x == ("__debug__" : Str)) = false := by decide) (hcd : (x == ("__classdict__" : Str)) = false := by decide) : ME Z X (.Name x pos) (.slot i) := by
  refine PE.imp (pe_var hN hv hd hcd) fun σ H Q h => ?_
  obtain ⟨F, μ, S, ρ, d, S', g, r, ev, q⟩ := h
  unfold evE at ev
  obtain ⟨d', e1, e2⟩ := map_some' ev
  cases e2
  obtain ⟨v, hs, hr⟩ := r.slot e1 hc
  exact ⟨v, hs, q v F μ H (Ex.refl F) (pre_refl μ) g hr⟩
theorem me_c {d : D} {v : V} (h : PE X e (tC v)) (r : ∀ F μ, Rep Z.W F μ v d) : ME Z X e (.cst d) := by
  refine PE.imp h fun σ H Q h => ?_
  obtain ⟨F, μ, S, ρ, d', S', g, _, ev, q⟩ := h
  unfold evE at ev
  cases ev
  exact q v F μ H (Ex.refl F) (pre_refl μ) g (r F μ)
theorem me_int {i : Int} {j : Nat} {pos : Pos} : ME Z X (.Constant (.int i) j pos) (.cst (.int i)) := me_c pe_int fun _ _ => .int i
theorem me_str {x : Str} {j : Nat} {pos : Pos} : ME Z X (.Constant (.str x) j pos) (.cst (.str x)) := me_c pe_str fun _ _ => .str x
theorem me_bl {x : Bool} {j : Nat} {pos : Pos} : ME Z X (.Constant (.bool x) j pos) (.cst (.bl x)) := me_c pe_bl fun _ _ => .bl x
theorem me_non {j : Nat} {pos : Pos} : ME Z X (.Constant .none j pos) (.cst .non) := me_c pe_non fun _ _ => .non
/-- a module's name, by value -/
theorem me_glob {x : Str} {d : D} {v : V} {u : Value} {pos : Pos} (hg : Gl X x) (hm : X.mg x = some u) (r : RelV v u) (hd : Z.C.glob x = some d) (rd : ∀ F μ, Rep Z.W F μ v d) (hdb : (x == ("__debug__" : Str)) = false := by decide) : ME Z X (.Name x pos) (.glob x) := by
  refine PE.imp (pe_glob hg hm r hdb) fun σ H Q h => ?_
  obtain ⟨F, μ, S, ρ, d', S', g, _, ev, q⟩ := h
  unfold evE at ev
  rw [hd] at ev
  cases ev
  exact q v F μ H (Ex.refl F) (pre_refl μ) g (rd F μ)

/-! ### operators -/
def OpS (Z : Sd) (f : Sto → D → D → Option D) (r : R2) : Prop := ∀ F μ S H v w x y d (Q : VK), Ag Z.W F μ S H → Rep Z.W F μ v x → Rep Z.W F μ w y → f S x y = some d →
  (∀ v' F' H', Ex F F' → Ag Z.W F' μ S H' → Rep Z.W F' μ v' d → Q v' H') → r v w H Q
theorem rd2 {f : Sto → D → D → Option D} {r : R2} (hs : OpS Z f r) {σ : L2.St} {H : Hp} {Q : VK} {F : Hp} {μ : List Addr} {S : Sto} {ρ : Env} {d : D} {S' : Sto} (g : Ag Z.W F μ S H) (rr : Rho Z F μ ρ σ)
    (ev : ((evE Z.C ma ρ S).bind fun x => (evE Z.C mb ρ x.2).bind fun y => (f y.2 x.1 y.1).map fun d => (d, y.2)) = some (d, S'))
    (q : ∀ v F' μ' H', Ex F F' → μ <+: μ' → Ag Z.W F' μ' S' H' → Rep Z.W F' μ' v d → Q v H') : tOp r (rdE Z ma) (rdE Z mb) σ H Q := by
  obtain ⟨x, e1, ev⟩ := bind_some' ev
  obtain ⟨y, e2, ev⟩ := bind_some' ev
  obtain ⟨d', e3, ev⟩ := map_some' ev
  cases ev
  refine ⟨F, μ, S, ρ, x.1, x.2, g, rr, e1, fun v F1 μ1 H1 x1 p1 g1 r1 => ?_⟩
  refine ⟨F1, μ1, x.2, ρ, y.1, y.2, g1, rr.mono x1 p1, e2, fun w F2 μ2 H2 x2 p2 g2 r2 => ?_⟩
  exact hs F2 μ2 y.2 H2 v w x.1 y.1 d Q g2 (r1.mono x2 p2) r2 e3 fun v' F' H' x3 g3 r3 => q v' F' μ2 H' ((x1.trans x2).trans x3) (p1.trans p2) g3 r3
theorem me_bin {op : Operator} {o : Op} {r : R2} (ho : OpR X (binaryOp op) r) (hs : OpS Z (binD o) r) (ha : ME Z X a ma) (hb : ME Z X b mb) : ME Z X (.BinOp a op b pos) (.bin o ma mb) := by
  refine PE.imp (pe_op ho ha hb) fun σ H Q h => ?_
  obtain ⟨F, μ, S, ρ, d, S', g, rr, ev, q⟩ := h
  unfold evE at ev
  exact rd2 hs g rr ev q
theorem lsOf_rep {F : Hp} {μ : List Addr} {S : Sto} {H : Hp} {v : V} {d : D} {xs : List D} (g : Ag Z.W F μ S H) (r : Rep Z.W F μ v d) (h : lsOf S d = some xs) : ∃ a vs, v = .ref a ∧ H a = some (.lst vs) ∧ Reps Z.W F μ vs xs := by
  cases d <;> try (cases h; done)
  · cases r with
    | lst e rs =>
      have h : some _ = some xs := h
      cases h
      exact ⟨_, _, rfl, g.ex _ _ e, rs⟩
  · rename_i n
    have h : (match S[n]? with | some (.lst xs) => some xs | _ => none) = some xs := h
    split at h
    · rename_i ys e
      cases h
      obtain ⟨a, rfl, _, _, vs, e2, rs⟩ := g.loc r e
      exact ⟨a, vs, rfl, e2, rs⟩
    · cases h
theorem os_add : OpS Z (binD .add) (fun x y H Q => rI0 (fun i j => .int (i + j)) x y H Q ∨ (∃ i j, x = .str i ∧ y = .str j ∧ i.length + j.length ≤ sizeLine ∧ Q (.str (i ++ j)) H) ∨ rCat x y H Q) := by
  intro F μ S H v w x y d Q g rv rw_ e q
  have e : addI S x y = some d := e
  have lists : ∀ xs ys, lsOf S x = some xs → lsOf S y = some ys → xs.length + ys.length ≤ sizeLine → d = .lst (xs ++ ys) → rCat v w H Q := fun xs ys e1 e2 hz ed => by
    obtain ⟨a, vs, rfl, ha, ra⟩ := lsOf_rep g rv e1
    obtain ⟨b, ws, rfl, hb, rb⟩ := lsOf_rep g rw_ e2
    refine ⟨a, b, vs, ws, rfl, rfl, ha, hb, by rw [ra.length, rb.length]; exact hz, fun p hp => ?_⟩
    obtain ⟨g', ex, eq⟩ := g.frz hp (.lst (vs ++ ws))
    subst ed
    exact q _ _ _ ex g' (.lst eq ((ra.append rb).mono ex (pre_refl μ)))
  unfold addI at e
  split at e
  · cases rv; cases rw_
    cases e
    exact .inl ⟨_, _, rfl, rfl, q _ F H (Ex.refl F) g (.int _)⟩
  · cases rv; cases rw_
    split at e
    · rename_i hz
      cases e
      exact .inr (.inl ⟨_, _, rfl, rfl, hz, q _ F H (Ex.refl F) g (.str _)⟩)
    · cases e
  · split at e
    · rename_i xs ys e1 e2
      split at e
      · rename_i hz
        cases e
        exact .inr (.inr (lists xs ys e1 e2 hz rfl))
      · cases e
    · cases e
theorem orR_add : OpR X (binaryOp .Add) (fun x y H Q => rI0 (fun i j => .int (i + j)) x y H Q ∨ (∃ i j, x = .str i ∧ y = .str j ∧ i.length + j.length ≤ sizeLine ∧ Q (.str (i ++ j)) H) ∨ rCat x y H Q) := op_add.or (op_add_str.or op_cat)
theorem me_add (ha : ME Z X a ma) (hb : ME Z X b mb) : ME Z X (.BinOp a .Add b pos) (.bin .add ma mb) := me_bin orR_add os_add ha hb
theorem os_int {f : Sto → D → D → Option D} {Cc : Int → Int → Prop} {gg : Int → Int → Int} (h : ∀ S x y d, f S x y = some d → ∃ i j, x = .int i ∧ y = .int j ∧ Cc i j ∧ d = .int (gg i j)) : OpS Z f (rI Cc fun i j => .int (gg i j)) := by
  intro F μ S H v w x y d Q g rv rw_ e q
  obtain ⟨i, j, rfl, rfl, c, rfl⟩ := h S x y d e
  cases rv; cases rw_
  exact ⟨i, j, rfl, rfl, c, q _ F H (Ex.refl F) g (.int _)⟩
theorem os_int0 {f : Sto → D → D → Option D} {gg : Int → Int → Int} (h : ∀ S x y d, f S x y = some d → ∃ i j, x = .int i ∧ y = .int j ∧ d = .int (gg i j)) : OpS Z f (rI0 fun i j => .int (gg i j)) := by
  intro F μ S H v w x y d Q g rv rw_ e q
  obtain ⟨i, j, rfl, rfl, rfl⟩ := h S x y d e
  cases rv; cases rw_
  exact ⟨i, j, rfl, rfl, q _ F H (Ex.refl F) g (.int _)⟩
theorem me_sub (ha : ME Z X a ma) (hb : ME Z X b mb) : ME Z X (.BinOp a .Sub b pos) (.bin .sub ma mb) := me_bin op_sub (os_int0 fun S x y d e => by
  have e : subI x y = some d := e
  unfold subI at e
  split at e
  · cases e; exact ⟨_, _, rfl, rfl, rfl⟩
  · cases e) ha hb
theorem me_mul (ha : ME Z X a ma) (hb : ME Z X b mb) : ME Z X (.BinOp a .Mult b pos) (.bin .mul ma mb) := me_bin op_mulW (os_int fun S x y d e => by
  have e : mulI x y = some d := e
  unfold mulI at e
  split at e
  · split at e
    · rename_i h
      cases e; exact ⟨_, _, rfl, rfl, h, rfl⟩
    · cases e
  · cases e) ha hb
theorem me_fdiv (ha : ME Z X a ma) (hb : ME Z X b mb) : ME Z X (.BinOp a .FloorDiv b pos) (.bin .fdiv ma mb) := me_bin op_fdivW (os_int fun S x y d e => by
  have e : fdivI x y = some d := e
  unfold fdivI at e
  split at e
  · split at e
    · rename_i h
      cases e; exact ⟨_, _, rfl, rfl, h, rfl⟩
    · cases e
  · cases e) ha hb
theorem me_mod (ha : ME Z X a ma) (hb : ME Z X b mb) : ME Z X (.BinOp a .Mod b pos) (.bin .mod ma mb) := me_bin op_mod (os_int fun S x y d e => by
  have e : modI x y = some d := e
  unfold modI at e
  split at e
  · split at e
    · rename_i h
      cases e; exact ⟨_, _, rfl, rfl, h, rfl⟩
    · cases e
  · cases e) ha hb
theorem op_powW : OpR X (binaryOp .Pow) (rI (fun i j => 0 ≤ j ∧ (Builtin.Int.intBits i : Int) * j ≤ 2 ^ 27) fun i j => .int (i ^ j.toNat)) := opI fun _ _ _ _ _ _ _ hc q => PyProof.Rows.pow_int hc.1 hc.2 q
theorem me_pow (ha : ME Z X a ma) (hb : ME Z X b mb) : ME Z X (.BinOp a .Pow b pos) (.bin .pow ma mb) := me_bin op_powW (os_int fun S x y d e => by
  have e : powI x y = some d := e
  unfold powI at e
  split at e
  · split at e
    · rename_i h
      cases e; exact ⟨_, _, rfl, rfl, h, rfl⟩
    · cases e
  · cases e) ha hb
theorem me_neg (ha : ME Z X a ma) : ME Z X (.UnaryOp .USub a pos) (.neg ma) := by
  refine PE.imp (pe_un un_neg ha) fun σ H Q h => ?_
  obtain ⟨F, μ, S, ρ, d, S', g, rr, ev, q⟩ := h
  unfold evE at ev
  obtain ⟨x, e1, ev⟩ := bind_some' ev
  refine ⟨F, μ, S, ρ, x.1, x.2, g, rr, e1, fun v F1 μ1 H1 x1 p1 g1 r1 => ?_⟩
  split at ev
  · rename_i i ei
    cases ev
    rw [ei] at r1
    cases r1
    exact ⟨i, rfl, q _ F1 μ1 H1 x1 p1 g1 (.int _)⟩
  · cases ev
end
end Fw

set_option Elab.async false
set_option linter.all false
set_option maxRecDepth 100000
/-! FwE: comparisons, tests. -/
namespace Fw
open PySem L2
open Evl (Ex)

mutual
theorem Rep.dp {W : Wd} {F H : Hp} {μ : List Addr} (e : Ex F H) : ∀ (d : D) (v : V), d.data = true → Rep W F μ v d → Dp W.K H v d.py ∧ d.py.canLay0 = true
  | .non, _, _, r => by cases r; exact ⟨by unfold D.py; exact .non, by unfold D.py; rfl⟩
  | .bl b, _, _, r => by cases r; exact ⟨by unfold D.py; exact .bl b, by unfold D.py; rfl⟩
  | .int b, _, _, r => by cases r; exact ⟨by unfold D.py; exact .int b, by unfold D.py; rfl⟩
  | .str b, _, h, r => by cases r; exact ⟨by unfold D.py; exact .str b, by unfold D.py; unfold D.data at h; unfold PyData.canLay0; exact h⟩
  | .tup xs, _, h, r => by
    cases r with
    | tup hs rs =>
      unfold D.data at h
      obtain ⟨q1, q2⟩ := Reps.dp e xs _ h rs
      exact ⟨by unfold D.py; exact .tup (Evl.ex_t e hs) q1, by unfold D.py PyData.canLay0; exact q2⟩
  | .lst xs, _, h, r => by
    cases r with
    | lst hs rs =>
      unfold D.data at h
      obtain ⟨q1, q2⟩ := Reps.dp e xs _ h rs
      exact ⟨by unfold D.py; exact .lst (SqL.of (e _ _ hs)) q1, by unfold D.py PyData.canLay0; exact q2⟩
  | .dct _ _, _, h, _ => by unfold D.data at h; cases h
  | .ins _ _ _, _, h, _ => by unfold D.data at h; cases h
  | .loc _, _, h, _ => by unfold D.data at h; cases h
  | .scr _, _, h, _ => by unfold D.data at h; cases h
  | .fn _, _, h, _ => by unfold D.data at h; cases h
  | .clo _ _, _, h, _ => by unfold D.data at h; cases h
  | .cls _, _, h, _ => by unfold D.data at h; cases h
  | .ty _, _, h, _ => by unfold D.data at h; cases h
theorem Reps.dp {W : Wd} {F H : Hp} {μ : List Addr} (e : Ex F H) : ∀ (ds : List D) (vs : List V), D.datas ds = true → Reps W F μ vs ds → DpAll W.K H vs (D.pys ds) ∧ PyData.canLayAll0 (D.pys ds) = true
  | [], _, _, r => by cases r; exact ⟨by unfold D.pys; exact .nil, by unfold D.pys; rfl⟩
  | d :: ds, _, h, r => by
    cases r with
    | cons r1 r2 =>
      unfold D.datas at h
      obtain ⟨h1, h2⟩ := Bool.and_eq_true_iff.mp h
      obtain ⟨p1, p2⟩ := Rep.dp e d _ h1 r1
      obtain ⟨q1, q2⟩ := Reps.dp e ds _ h2 r2
      exact ⟨by unfold D.pys; exact .cons p1 q1, by unfold D.pys PyData.canLayAll0; rw [p2, q2]; rfl⟩
end
/-- .. of a list by its cell too -/
theorem val_dp {W : Wd} {F H : Hp} {μ : List Addr} {S : Sto} {d : D} {v : V} (g : Ag W F μ S H) (r : Rep W F μ v d) (h : (val S d).data = true) : Dp W.K H v (val S d).py ∧ (val S d).py.canLay0 = true := by
  cases d <;> try exact Rep.dp g.ex _ v h r
  rename_i n
  have hv : val S (.loc n) = (match S[n]? with
    | some (.lst xs) => .lst xs
    | some (.dct kvs) => .dct (kvs.map (·.1)) (kvs.map (·.2))
    | _ => .loc n) := rfl
  rw [hv] at h ⊢
  cases e : S[n]? with
  | none => rw [e] at h; simp [D.data] at h
  | some c =>
    cases c with
    | lst xs =>
      rw [e] at h
      obtain ⟨a, rfl, _, _, vs, e2, rs⟩ := g.loc r e
      simp only [D.data] at h
      obtain ⟨q1, q2⟩ := Reps.dp g.ex xs _ h rs
      exact ⟨by simp only [D.py]; exact .lst (SqL.of e2) q1, by simp only [D.py, PyData.canLay0]; exact q2⟩
    | dct kvs => rw [e] at h; simp [D.data] at h
    | obj c fs => rw [e] at h; simp [D.data] at h

def rEqM (K : PySem.W.Frag) : R2 := fun x y H Q => (rEq x y H Q) ∨ ∃ d e, Dp K H x d ∧ Dp K H y e ∧ d.canLay0 = true ∧ e.canLay0 = true ∧ min d.depth e.depth ≤ 150 ∧ Q (.bl (PyData.eqv d e)) H
def rNeM (K : PySem.W.Frag) : R2 := fun x y H Q => (rNe x y H Q) ∨ ∃ d e, Dp K H x d ∧ Dp K H y e ∧ d.canLay0 = true ∧ e.canLay0 = true ∧ min d.depth e.depth ≤ 150 ∧ Q (.bl (!PyData.eqv d e)) H
section
variable {X : Cx}
theorem op_eqM (hu : X.A.units + 200 < cLine) : OpR X (compareOp .Eq) (rEqM X.K) := by
  refine op_eq.or ?_
  intro pins s σ H x y v u Q I rx ry h
  obtain ⟨d, e, hd, he, sd, se, hm, q⟩ := h
  obtain ⟨as, r1⟩ := Dp.reads I d x v hd rx
  obtain ⟨bs, r2⟩ := Dp.reads I e y u he ry
  exact SeqAt.compareEq_reads r1 r2 sd se (by omega) ⟨.bl _, H, I, rfl, q⟩
theorem op_neM (hu : X.A.units + 200 < cLine) : OpR X (compareOp .NotEq) (rNeM X.K) := by
  refine op_ne.or ?_
  intro pins s σ H x y v u Q I rx ry h
  obtain ⟨d, e, hd, he, sd, se, hm, q⟩ := h
  obtain ⟨as, r1⟩ := Dp.reads I d x v hd rx
  obtain ⟨bs, r2⟩ := Dp.reads I e y u he ry
  exact SeqAt.compareNe_reads r1 r2 sd se (by omega) ⟨.bl _, H, I, rfl, q⟩
end
theorem beq_dec {α : Type} [DecidableEq α] (a b : α) : (b == a) = decide (a = b) := by
  by_cases h : a = b
  · subst h; simp
  · rw [decide_eq_false h]
    exact beq_eq_false_iff_ne.mpr (fun e => h e.symm)
set_option maxHeartbeats 2000000 in
theorem scalE_rep {W : Wd} {F : Hp} {μ : List Addr} {v w : V} {x y : D} {r : Bool} (rv : Rep W F μ v x) (rw_ : Rep W F μ w y) (h : scalE x y = some r) : scal v w = true ∧ decide (v = w) = r ∧ flatV v = true ∧ flatV w = true ∧ eqV w v = r := by
  cases x <;> try (cases h; done)
  all_goals cases rv
  all_goals (cases y <;> try (cases h; done))
  all_goals cases rw_
  all_goals cases h
  all_goals refine ⟨rfl, ?_, rfl, rfl, ?_⟩
  all_goals first | rfl | exact beq_dec _ _ | (simp; done)
section
variable {Z : Sd} {X : Cx} {e a b c : Expr} {m ma mb mc : E} {pos : Pos} {F : Hp} {μ : List Addr} {S : Sto} {H : Hp}
theorem eqD_rd {v w : V} {x y : D} {r : Bool} (g : Ag Z.W F μ S H) (rv : Rep Z.W F μ v x) (rw_ : Rep Z.W F μ w y) (h : eqD S x y = some r) :
    (scal v w = true ∧ decide (v = w) = r) ∨ ∃ d e, Dp Z.W.K H v d ∧ Dp Z.W.K H w e ∧ d.canLay0 = true ∧ e.canLay0 = true ∧ min d.depth e.depth ≤ 150 ∧ PyData.eqv d e = r := by
  unfold eqD at h
  split at h
  · rename_i r' e
    cases h
    obtain ⟨h1, h2, _⟩ := scalE_rep rv rw_ e
    exact .inl ⟨h1, h2⟩
  · split at h
    · rename_i hc
      cases h
      simp only [Bool.and_eq_true, decide_eq_true_eq] at hc
      obtain ⟨⟨h1, h2⟩, h3⟩ := hc
      obtain ⟨p1, p2⟩ := val_dp g rv h1
      obtain ⟨q1, q2⟩ := val_dp g rw_ h2
      exact .inr ⟨_, _, p1, q1, p2, q2, h3, rfl⟩
    · cases h
theorem os_eq : OpS Z (fun S x y => (cmpD .eq S x y).map D.bl) (rEqM Z.W.K) := by
  intro F μ S H v w x y d Q g rv rw_ e q
  obtain ⟨r, e1, rfl⟩ := map_some' e
  rcases eqD_rd g rv rw_ e1 with ⟨h1, h2⟩ | ⟨d, e', h1, h2, h3, h4, h5, h6⟩
  · exact .inl ⟨h1, by rw [h2]; exact q _ F H (Ex.refl F) g (.bl r)⟩
  · exact .inr ⟨d, e', h1, h2, h3, h4, h5, by rw [h6]; exact q _ F H (Ex.refl F) g (.bl r)⟩
theorem os_ne : OpS Z (fun S x y => (cmpD .ne S x y).map D.bl) (rNeM Z.W.K) := by
  intro F μ S H v w x y d Q g rv rw_ e q
  obtain ⟨r, e1, rfl⟩ := map_some' e
  obtain ⟨r, e2, rfl⟩ := map_some' (show (eqD S x y).map (!·) = some r from e1)
  rcases eqD_rd g rv rw_ e2 with ⟨h1, h2⟩ | ⟨d, e', h1, h2, h3, h4, h5, h6⟩
  · exact .inl ⟨h1, by rw [h2]; exact q _ F H (Ex.refl F) g (.bl _)⟩
  · exact .inr ⟨d, e', h1, h2, h3, h4, h5, by rw [h6]; exact q _ F H (Ex.refl F) g (.bl _)⟩
theorem os_cmpI {o : Cm} {p : Int → Int → Bool} (h : ∀ S x y, cmpD o S x y = (match x, y with | .int i, .int j => some (p i j) | _, _ => none)) : OpS Z (fun S x y => (cmpD o S x y).map D.bl) (rI0 fun i j => .bl (p i j)) := by
  intro F μ S H v w x y d Q g rv rw_ e q
  obtain ⟨r, e1, rfl⟩ := map_some' e
  rw [h] at e1
  split at e1
  · cases e1
    cases rv; cases rw_
    exact ⟨_, _, rfl, rfl, q _ F H (Ex.refl F) g (.bl _)⟩
  · cases e1
/-- the end of a comparison -/
theorem map_bl {x : Option Bool} {d : D} {S S' : Sto} (h : x.map (fun k => (D.bl k, S)) = some (d, S')) : (x.map D.bl).map (fun d => (d, S)) = some (d, S') := by
  cases x with
  | none => cases h
  | some k => exact h
theorem me_cmp {op : CmpOp} {o : Cm} {r : R2} (ho : OpR X (compareOp op) r) (hs : OpS Z (fun S x y => (cmpD o S x y).map D.bl) r) (ha : ME Z X a ma) (hb : ME Z X b mb) (hm : behindInMarks op b = false) : ME Z X (.Compare a [op] [b] pos) (.cmp o ma mb) := by
  refine PE.imp (pe_cmpR ho ha hb hm) fun σ H Q h => ?_
  obtain ⟨F, μ, S, ρ, d, S', g, rr, ev, q⟩ := h
  unfold evE at ev
  refine rd2 hs g rr ?_ q
  obtain ⟨x, e1, ev⟩ := bind_some' ev
  obtain ⟨y, e2, ev⟩ := bind_some' ev
  rw [e1, Option.bind_some, e2, Option.bind_some]
  exact map_bl ev
theorem mt_cmp {op : CmpOp} {o : Cm} {r : R2} (ho : OpR X (compareOp op) r) (hs : OpS Z (fun S x y => (cmpD o S x y).map D.bl) r) (ha : ME Z X a ma) (hb : ME Z X b mb) (hm : behindInMarks op b = false) : MT Z X (.Compare a [op] [b] pos) (.cmp o ma mb) := by
  refine PT.imp (pt_cmpR ho ha hb hm) fun σ H Q h => ?_
  obtain ⟨F, μ, S, ρ, k, S', g, rr, ev, q⟩ := h
  unfold evE at ev
  refine rd2 hs g rr (d := .bl k) (S' := S') ?_ fun v F' μ' H' x p g' r' => ?_
  · obtain ⟨x, e1, ev⟩ := bind_some' ev
    obtain ⟨y, e2, ev⟩ := bind_some' ev
    rw [e1, Option.bind_some, e2, Option.bind_some]
    exact map_bl ev
  · cases r'
    exact ⟨k, rfl, q F' μ' H' x p g'⟩

/-! ### in -/
theorem flatIn_rep {x : D} {v : V} (rv : Rep Z.W F μ v x) (hx : flatV v = true) : ∀ {vs : List V} {ds : List D} {r : Bool}, Reps Z.W F μ vs ds → flatIn x ds = some r → vs.all flatV = true ∧ inV v vs = r
  | _, _, _, .nil, h => by cases h; exact ⟨rfl, rfl⟩
  | _, _, r, .cons (v := w) (d := y) (vs := ws) (ds := es) q1 q2, h => by
    unfold flatIn at h
    split at h
    · rename_i r1 r2 e1 e2
      cases h
      obtain ⟨_, _, _, h4, h5⟩ := scalE_rep rv q1 e1
      obtain ⟨p1, p2⟩ := flatIn_rep rv hx q2 e2
      refine ⟨by rw [List.all_cons, h4, p1]; rfl, ?_⟩
      unfold inV at p2 ⊢
      rw [List.any_cons, h5, p2]
    · cases h
theorem flat_rep {x : D} {v : V} (rv : Rep Z.W F μ v x) (h : x.flat = true) : flatV v = true := by
  cases x <;> first | (cases h; done) | (cases rv; rfl)
def rInM (K : PySem.W.Frag) (neg : Bool) : R2 := fun x y H Q => rIn K neg x y H Q ∨ (∃ (c : Nat) (z : Str), x = .str ⟨#[c]⟩ ∧ y = .str z ∧ Q (.bl (if neg then !decide (c ∈ z.cps.toList) else decide (c ∈ z.cps.toList))) H) ∨
  ∃ a o, y = .ref a ∧ DGet H a x o ∧ Q (.bl (if neg then !o.isSome else o.isSome)) H
theorem op_inM (hu : X.A.units + 200 < cLine) : OpR X (compareOp .In) (rInM X.K false) := by
  refine op_in_seq.or (op_in_sign.or ?_)
  intro pins s σ H x y v u Q I rx ry h
  obtain ⟨a, o, rfl, hg, q⟩ := h
  cases ry
  exact d_in (by omega) I hg rx fun s' I' => ⟨.bl _, H, I', rfl, q⟩
theorem op_notInM (hu : X.A.units + 200 < cLine) : OpR X (compareOp .NotIn) (rInM X.K true) := by
  refine op_notIn_seq.or (op_notIn_sign.or ?_)
  intro pins s σ H x y v u Q I rx ry h
  obtain ⟨a, o, rfl, hg, q⟩ := h
  cases ry
  exact d_notIn (by omega) I hg rx fun s' I' => ⟨.bl _, H, I', rfl, q⟩
theorem keyOf_rep {x : D} {v : V} {k : Key} (r : Rep Z.W F μ v x) (h : keyOf x = some k) : v = kV k := by
  cases x <;> try (cases h; done)
  · cases r; cases h; rfl
  · cases r; cases h; rfl
theorem any_zip {ks : List Key} {vs : List V} (hl : ks.length = vs.length) (k : Key) : (ks.any fun q => decide (q = k)) = (valV (ks.zip vs) k).isSome := by
  rw [← valV_any]
  induction ks generalizing vs with
  | nil => rfl
  | cons a ks ih =>
    cases vs with
    | nil => cases hl
    | cons v vs =>
      simp only [List.zip_cons_cons, List.any_cons]
      rw [ih (by simpa using hl)]
theorem inD_rd {v w : V} {x y : D} {r : Bool} (g : Ag Z.W F μ S H) (rv : Rep Z.W F μ v x) (rw_ : Rep Z.W F μ w y) (h : inD S x y = some r) :
    (∃ p xs, w = .ref p ∧ (SqL Z.W.K H p xs ∨ SqT Z.W.K H p xs) ∧ flatV v = true ∧ xs.all flatV = true ∧ inV v xs = r) ∨ (∃ (c : Nat) (z : Str), v = .str ⟨#[c]⟩ ∧ w = .str z ∧ decide (c ∈ z.cps.toList) = r) ∨ ∃ a o, w = .ref a ∧ DGet H a v o ∧ o.isSome = r := by
  have seq : ∀ {p : Addr} {vs : List V} {ds : List D}, w = .ref p → (SqL Z.W.K H p vs ∨ SqT Z.W.K H p vs) → Reps Z.W F μ vs ds → (if x.flat = true then flatIn x ds else none) = some r →
      ∃ p xs, w = .ref p ∧ (SqL Z.W.K H p xs ∨ SqT Z.W.K H p xs) ∧ flatV v = true ∧ xs.all flatV = true ∧ inV v xs = r := fun {p vs ds} ew hs rs hf => by
    split at hf
    · rename_i hfl
      have fv := flat_rep rv hfl
      obtain ⟨h1, h2⟩ := flatIn_rep rv fv rs hf
      exact ⟨p, vs, ew, hs, fv, h1, h2⟩
    · cases hf
  have tab : ∀ {a : Addr} {ks : List Key} {vs : List V}, w = .ref a → Rd H a (.dK (ks.zip vs)) → ks.length = vs.length → ((keyOf x).map fun k => ks.any fun q => decide (q = k)) = some r → ∃ a o, w = .ref a ∧ DGet H a v o ∧ o.isSome = r := fun {a ks vs} ew hd hl hk => by
    obtain ⟨k, e1, e2⟩ := map_some' hk
    have ev := keyOf_rep rv e1
    subst ev
    exact ⟨a, _, ew, .inl ⟨_, k, hd, rfl, rfl⟩, by rw [← any_zip hl]; exact e2⟩
  unfold inD at h
  split at h
  · split at h
    · rename_i x z _ c e
      cases h
      cases rv; cases rw_
      refine .inr (.inl ⟨c, z, ?_, rfl, by simp⟩)
      obtain ⟨xc⟩ := x
      have e : xc.toList = [c] := e
      have e2 : xc = #[c] := by
        apply Array.ext'
        rw [e]
      rw [e2]
    · cases h
  · cases rw_ with
    | tup hs rs => exact .inl (seq rfl (.inr (Evl.ex_t g.ex hs)) rs h)
  · cases rw_ with
    | dct hd hl rs => exact .inr (.inr (tab rfl (Evl.ex_rd g.ex hd) hl h))
  · split at h
    · rename_i kvs e
      obtain ⟨a, rfl, _, _, vs, e2, rs⟩ := g.loc rw_ e
      refine .inr (.inr (tab rfl (.inl e2) (by rw [rs.length, List.length_map, List.length_map]) ?_))
      rw [← h]
      congr 1
      funext k
      rw [List.any_map]
      rfl
    · rename_i xs e
      obtain ⟨a, rfl, _, _, vs, e2, rs⟩ := g.loc rw_ e
      exact .inl (seq rfl (.inl (SqL.of e2)) rs h)
    · cases h
  · cases rw_ with
    | lst hs rs => exact .inl (seq rfl (.inl (SqL.of (g.ex _ _ hs))) rs h)
  · cases h
theorem os_in {neg : Bool} {o : Cm} (ho : o = if neg then .notin else .isin) : OpS Z (fun S x y => (cmpD o S x y).map D.bl) (rInM Z.W.K neg) := by
  intro F μ S H v w x y d Q g rv rw_ e q
  obtain ⟨r, e1, rfl⟩ := map_some' e
  have hr : ∃ r0, inD S x y = some r0 ∧ r = (if neg = true then !r0 else r0) := by
    cases neg with
    | false => rw [ho] at e1; exact ⟨r, e1, rfl⟩
    | true =>
      rw [ho] at e1
      obtain ⟨r0, e2, e3⟩ := map_some' (show (inD S x y).map (!·) = some r from e1)
      exact ⟨r0, e2, e3.symm⟩
  obtain ⟨r0, e2, rfl⟩ := hr
  rcases inD_rd g rv rw_ e2 with ⟨p, xs, h1, h2, h3, h4, h5⟩ | ⟨c, z, h1, h2, h3⟩ | ⟨a, o, h1, h2, h3⟩
  · exact .inl ⟨p, xs, h1, h2, h3, h4, by rw [h5]; exact q _ F H (Ex.refl F) g (.bl _)⟩
  · exact .inr (.inl ⟨c, z, h1, h2, by rw [h3]; exact q _ F H (Ex.refl F) g (.bl _)⟩)
  · exact .inr (.inr ⟨a, o, h1, h2, by rw [h3]; exact q _ F H (Ex.refl F) g (.bl _)⟩)
end
end Fw

set_option Elab.async false
set_option linter.all false
set_option maxRecDepth 100000
/-! FwF: tests, chains, displays, subscripts. -/
namespace Fw
open PySem L2
open Evl (Ex)
/-- what stands throughout a def's body -/
structure Std (Z : Sd) (X : Cx) (k : Nat) : Prop where
  K : X.K = Z.W.K
  hr : Room k X.A
  calm : X.calm = true
theorem Std.hu {Z : Sd} {X : Cx} {k : Nat} (T : Std Z X k) : X.A.units + 200 < cLine := by
  have := T.hr.un
  omega
abbrev MW (Z : Sd) (X : Cx) (e : Expr) (m : E) : Prop := PW X e (rdT Z m)
section
variable {Z : Sd} {X : Cx} {e a b c : Expr} {rest es : List Expr} {m ma mb mc : E} {ms : List E} {pos : Pos} {F : Hp} {μ : List Addr} {S : Sto} {H : Hp} {kk : Nat}

/-! ### comparisons of the text -/
theorem me_eq (T : Std Z X kk) (ha : ME Z X a ma) (hb : ME Z X b mb) : ME Z X (.Compare a [.Eq] [b] pos) (.cmp .eq ma mb) := me_cmp (op_eqM T.hu) (by rw [T.K]; exact os_eq) ha hb (nomark _)
theorem mt_eq (T : Std Z X kk) (ha : ME Z X a ma) (hb : ME Z X b mb) : MT Z X (.Compare a [.Eq] [b] pos) (.cmp .eq ma mb) := mt_cmp (op_eqM T.hu) (by rw [T.K]; exact os_eq) ha hb (nomark _)
theorem me_ne (T : Std Z X kk) (ha : ME Z X a ma) (hb : ME Z X b mb) : ME Z X (.Compare a [.NotEq] [b] pos) (.cmp .ne ma mb) := me_cmp (op_neM T.hu) (by rw [T.K]; exact os_ne) ha hb (nomark _)
theorem mt_ne (T : Std Z X kk) (ha : ME Z X a ma) (hb : ME Z X b mb) : MT Z X (.Compare a [.NotEq] [b] pos) (.cmp .ne ma mb) := mt_cmp (op_neM T.hu) (by rw [T.K]; exact os_ne) ha hb (nomark _)
theorem me_in (T : Std Z X kk) (ha : ME Z X a ma) (hb : ME Z X b mb) (hm : behindInMarks .In b = false := by rfl) : ME Z X (.Compare a [.In] [b] pos) (.cmp .isin ma mb) := me_cmp (op_inM T.hu) (by rw [T.K]; exact os_in rfl) ha hb hm
theorem mt_in (T : Std Z X kk) (ha : ME Z X a ma) (hb : ME Z X b mb) (hm : behindInMarks .In b = false := by rfl) : MT Z X (.Compare a [.In] [b] pos) (.cmp .isin ma mb) := mt_cmp (op_inM T.hu) (by rw [T.K]; exact os_in rfl) ha hb hm
theorem me_nin (T : Std Z X kk) (ha : ME Z X a ma) (hb : ME Z X b mb) (hm : behindInMarks .NotIn b = false := by rfl) : ME Z X (.Compare a [.NotIn] [b] pos) (.cmp .notin ma mb) := me_cmp (op_notInM T.hu) (by rw [T.K]; exact os_in rfl) ha hb hm
theorem mt_nin (T : Std Z X kk) (ha : ME Z X a ma) (hb : ME Z X b mb) (hm : behindInMarks .NotIn b = false := by rfl) : MT Z X (.Compare a [.NotIn] [b] pos) (.cmp .notin ma mb) := mt_cmp (op_notInM T.hu) (by rw [T.K]; exact os_in rfl) ha hb hm
theorem me_lt (ha : ME Z X a ma) (hb : ME Z X b mb) : ME Z X (.Compare a [.Lt] [b] pos) (.cmp .lt ma mb) := me_cmp op_lt (os_cmpI fun _ _ _ => rfl) ha hb (nomark _)
theorem mt_lt (ha : ME Z X a ma) (hb : ME Z X b mb) : MT Z X (.Compare a [.Lt] [b] pos) (.cmp .lt ma mb) := mt_cmp op_lt (os_cmpI fun _ _ _ => rfl) ha hb (nomark _)
theorem me_le (ha : ME Z X a ma) (hb : ME Z X b mb) : ME Z X (.Compare a [.LtE] [b] pos) (.cmp .le ma mb) := me_cmp op_le (os_cmpI fun _ _ _ => rfl) ha hb (nomark _)
theorem mt_le (ha : ME Z X a ma) (hb : ME Z X b mb) : MT Z X (.Compare a [.LtE] [b] pos) (.cmp .le ma mb) := mt_cmp op_le (os_cmpI fun _ _ _ => rfl) ha hb (nomark _)
theorem me_gt (ha : ME Z X a ma) (hb : ME Z X b mb) : ME Z X (.Compare a [.Gt] [b] pos) (.cmp .gt ma mb) := me_cmp op_gt (os_cmpI fun _ _ _ => rfl) ha hb (nomark _)
theorem mt_gt (ha : ME Z X a ma) (hb : ME Z X b mb) : MT Z X (.Compare a [.Gt] [b] pos) (.cmp .gt ma mb) := mt_cmp op_gt (os_cmpI fun _ _ _ => rfl) ha hb (nomark _)
theorem me_ge (ha : ME Z X a ma) (hb : ME Z X b mb) : ME Z X (.Compare a [.GtE] [b] pos) (.cmp .ge ma mb) := me_cmp op_ge (os_cmpI fun _ _ _ => rfl) ha hb (nomark _)
theorem mt_ge (ha : ME Z X a ma) (hb : ME Z X b mb) : MT Z X (.Compare a [.GtE] [b] pos) (.cmp .ge ma mb) := mt_cmp op_ge (os_cmpI fun _ _ _ => rfl) ha hb (nomark _)
/-- is None -/
theorem isn_rep {x : D} {v : V} {r : Bool} (rv : Rep Z.W F μ v x) (h : cmpD .isn S x y = some r) : decide (v = .non) = r := by
  cases x <;> first | (cases h; done) | (cases h; cases rv <;> rfl)
theorem notn_rep {x : D} {v : V} {r : Bool} (rv : Rep Z.W F μ v x) (h : cmpD .notn S x y = some r) : (!decide (v = .non)) = r := by
  cases x <;> first | (cases h; done) | (cases h; cases rv <;> rfl)
theorem rd_isn {o : Cm} {f : V → Bool} {σ : L2.St} {Q : VK} (hf : ∀ {F μ S} {x : D} {v : V} {y : D} {r : Bool}, Rep Z.W F μ v x → cmpD o S x y = some r → f v = r)
    (h : rdE Z (.cmp o ma (.cst .non)) σ H Q) : rdE Z ma σ H fun x H1 => Q (.bl (f x)) H1 := by
  obtain ⟨F, μ, S, ρ, d, S', g, rr, ev, q⟩ := h
  unfold evE at ev
  obtain ⟨x, e1, ev⟩ := bind_some' ev
  obtain ⟨y, e2, ev⟩ := bind_some' ev
  obtain ⟨r, e3, ev⟩ := map_some' ev
  unfold evE at e2
  cases e2
  cases ev
  exact ⟨F, μ, S, ρ, x.1, x.2, g, rr, e1, fun v F' μ' H' x' p' g' r' => by
    show Q (.bl (f v)) H'
    rw [hf r' e3]
    exact q _ F' μ' H' x' p' g' (.bl r)⟩
theorem me_isN {j : Nat} {pos' : Pos} (ha : ME Z X a ma) : ME Z X (.Compare a [.Is] [.Constant .none j pos'] pos) (.cmp .isn ma (.cst .non)) :=
  PE.imp (pe_cmp (pc_isN ha) rfl) fun σ H Q h => rd_isn isn_rep h
theorem me_notN {j : Nat} {pos' : Pos} (ha : ME Z X a ma) : ME Z X (.Compare a [.IsNot] [.Constant .none j pos'] pos) (.cmp .notn ma (.cst .non)) :=
  PE.imp (pe_cmp (pc_notN ha) rfl) fun σ H Q h => rd_isn notn_rep h
theorem rdT_E {σ : L2.St} {Q : Bool → Hp → Prop} (h : rdT Z m σ H Q) : rdE Z m σ H fun x H1 => ∃ c, x = .bl c ∧ Q c H1 := by
  obtain ⟨F, μ, S, ρ, k, S', g, rr, ev, q⟩ := h
  exact ⟨F, μ, S, ρ, _, S', g, rr, ev, fun v F' μ' H' x' p' g' r' => by cases r'; exact ⟨k, rfl, q F' μ' H' x' p' g'⟩⟩
theorem mt_isN {j : Nat} {pos' : Pos} (ha : ME Z X a ma) : MT Z X (.Compare a [.Is] [.Constant .none j pos'] pos) (.cmp .isn ma (.cst .non)) :=
  PT.imp (pt_cmp (pc_isN ha) rfl) fun σ H Q h => rd_isn (Q := fun x H1 => ∃ c, x = .bl c ∧ Q c H1) isn_rep (rdT_E h)
theorem mt_notN {j : Nat} {pos' : Pos} (ha : ME Z X a ma) : MT Z X (.Compare a [.IsNot] [.Constant .none j pos'] pos) (.cmp .notn ma (.cst .non)) :=
  PT.imp (pt_cmp (pc_notN ha) rfl) fun σ H Q h => rd_isn (Q := fun x H1 => ∃ c, x = .bl c ∧ Q c H1) notn_rep (rdT_E h)

/-! ### and, or, not, if -/
theorem mt_val (ha : ME Z X e m) (he : ∀ whole, isTrue e X.env whole = (do let v ← whole; standAt e.pos; holding [v] (truthy v)) := by intro _; rfl) : MT Z X e m :=
  PT.imp (pt_val ha he) fun σ H Q h => rdT_E h
theorem mw_pt (h : MW Z X e m) : MT Z X e m := h.pt
theorem mw_and1 (ha : MT Z X a ma) : MW Z X (.BoolOp .And [a] pos) ma := pw_and1 ha
theorem mw_or1 (ha : MT Z X a ma) : MW Z X (.BoolOp .Or [a] pos) ma := pw_or1 ha
theorem mw_and (ha : MT Z X a ma) (hb : MW Z X (.BoolOp .And (b :: rest) pos) mb) : MW Z X (.BoolOp .And (a :: b :: rest) pos) (.and ma mb) := by
  refine PW.imp (pw_and ha hb) fun σ H Q h => ?_
  obtain ⟨F, μ, S, ρ, k, S', g, rr, ev, q⟩ := h
  unfold evE at ev
  obtain ⟨x, e1, ev⟩ := bind_some' ev
  obtain ⟨x1, x2⟩ := x
  split at ev
  · rename_i e2
    cases e2
    refine ⟨F, μ, S, ρ, true, x2, g, rr, e1, fun F' μ' H' x' p' g' => ?_⟩
    exact iteT ⟨F', μ', x2, ρ, k, S', g', rr.mono x' p', ev, fun F2 μ2 H2 x3 p3 g3 => q F2 μ2 H2 (x'.trans x3) (p'.trans p3) g3⟩
  · rename_i e2
    cases e2
    cases ev
    exact ⟨F, μ, S, ρ, false, x2, g, rr, e1, fun F' μ' H' x' p' g' => iteF (q F' μ' H' x' p' g')⟩
  · cases ev
theorem mw_or (ha : MT Z X a ma) (hb : MW Z X (.BoolOp .Or (b :: rest) pos) mb) : MW Z X (.BoolOp .Or (a :: b :: rest) pos) (.or ma mb) := by
  refine PW.imp (pw_or ha hb) fun σ H Q h => ?_
  obtain ⟨F, μ, S, ρ, k, S', g, rr, ev, q⟩ := h
  unfold evE at ev
  obtain ⟨x, e1, ev⟩ := bind_some' ev
  obtain ⟨x1, x2⟩ := x
  split at ev
  · rename_i e2
    cases e2
    refine ⟨F, μ, S, ρ, false, x2, g, rr, e1, fun F' μ' H' x' p' g' => ?_⟩
    exact iteF ⟨F', μ', x2, ρ, k, S', g', rr.mono x' p', ev, fun F2 μ2 H2 x3 p3 g3 => q F2 μ2 H2 (x'.trans x3) (p'.trans p3) g3⟩
  · rename_i e2
    cases e2
    cases ev
    exact ⟨F, μ, S, ρ, true, x2, g, rr, e1, fun F' μ' H' x' p' g' => iteT (q F' μ' H' x' p' g')⟩
  · cases ev
theorem mt_not (ha : MT Z X a ma) : MT Z X (.UnaryOp .Not a pos) (.not ma) := by
  refine PT.imp (pt_not ha) fun σ H Q h => ?_
  obtain ⟨F, μ, S, ρ, k, S', g, rr, ev, q⟩ := h
  unfold evE at ev
  obtain ⟨x, e1, ev⟩ := bind_some' ev
  obtain ⟨x1, x2⟩ := x
  split at ev
  · rename_i k' e2
    cases e2
    cases ev
    exact ⟨F, μ, S, ρ, k', x2, g, rr, e1, fun F' μ' H' x' p' g' => q F' μ' H' x' p' g'⟩
  · cases ev
theorem me_one {op : BoolOp} (ha : ME Z X a ma) : ME Z X (.BoolOp op [a] pos) ma := pe_one ha
theorem me_and (ha : ME Z X a ma) (hb : ME Z X (.BoolOp .And (b :: rest) pos) mb) : ME Z X (.BoolOp .And (a :: b :: rest) pos) (.and ma mb) := by
  refine PE.imp (pe_and ha hb) fun σ H Q h => ?_
  obtain ⟨F, μ, S, ρ, d, S', g, rr, ev, q⟩ := h
  unfold evE at ev
  obtain ⟨x, e1, ev⟩ := bind_some' ev
  obtain ⟨x1, x2⟩ := x
  split at ev
  · rename_i e2
    cases e2
    refine ⟨F, μ, S, ρ, _, x2, g, rr, e1, fun v F' μ' H' x' p' g' r' => ?_⟩
    cases r'
    exact ⟨true, rfl, iteT ⟨F', μ', x2, ρ, d, S', g', rr.mono x' p', ev, fun v F2 μ2 H2 x3 p3 g3 => q v F2 μ2 H2 (x'.trans x3) (p'.trans p3) g3⟩⟩
  · rename_i e2
    cases e2
    cases ev
    refine ⟨F, μ, S, ρ, _, x2, g, rr, e1, fun v F' μ' H' x' p' g' r' => ?_⟩
    cases r'
    exact ⟨false, rfl, iteF (q _ F' μ' H' x' p' g' (.bl _))⟩
  · cases ev
theorem me_or (ha : ME Z X a ma) (hb : ME Z X (.BoolOp .Or (b :: rest) pos) mb) : ME Z X (.BoolOp .Or (a :: b :: rest) pos) (.or ma mb) := by
  refine PE.imp (pe_or ha hb) fun σ H Q h => ?_
  obtain ⟨F, μ, S, ρ, d, S', g, rr, ev, q⟩ := h
  unfold evE at ev
  obtain ⟨x, e1, ev⟩ := bind_some' ev
  obtain ⟨x1, x2⟩ := x
  split at ev
  · rename_i e2
    cases e2
    refine ⟨F, μ, S, ρ, _, x2, g, rr, e1, fun v F' μ' H' x' p' g' r' => ?_⟩
    cases r'
    exact ⟨false, rfl, iteF ⟨F', μ', x2, ρ, d, S', g', rr.mono x' p', ev, fun v F2 μ2 H2 x3 p3 g3 => q v F2 μ2 H2 (x'.trans x3) (p'.trans p3) g3⟩⟩
  · rename_i e2
    cases e2
    cases ev
    refine ⟨F, μ, S, ρ, _, x2, g, rr, e1, fun v F' μ' H' x' p' g' r' => ?_⟩
    cases r'
    exact ⟨true, rfl, iteT (q _ F' μ' H' x' p' g' (.bl _))⟩
  · cases ev
theorem me_not (ha : ME Z X a ma) : ME Z X (.UnaryOp .Not a pos) (.not ma) := by
  refine PE.imp (pe_not ha) fun σ H Q h => ?_
  obtain ⟨F, μ, S, ρ, d, S', g, rr, ev, q⟩ := h
  unfold evE at ev
  obtain ⟨x, e1, ev⟩ := bind_some' ev
  obtain ⟨x1, x2⟩ := x
  split at ev
  · rename_i k' e2
    cases e2
    cases ev
    refine ⟨F, μ, S, ρ, _, x2, g, rr, e1, fun v F' μ' H' x' p' g' r' => ?_⟩
    cases r'
    exact ⟨k', rfl, q _ F' μ' H' x' p' g' (.bl _)⟩
  · cases ev
theorem me_ite (hc : MT Z X c mc) (ha : ME Z X a ma) (hb : ME Z X b mb) : ME Z X (.IfExp c a b pos) (.ite mc ma mb) := by
  refine PE.imp (pe_ifExp hc ha hb) fun σ H Q h => ?_
  obtain ⟨F, μ, S, ρ, d, S', g, rr, ev, q⟩ := h
  unfold evE at ev
  obtain ⟨x, e1, ev⟩ := bind_some' ev
  obtain ⟨x1, x2⟩ := x
  split at ev
  · rename_i e2
    cases e2
    exact ⟨F, μ, S, ρ, true, x2, g, rr, e1, fun F' μ' H' x' p' g' => iteT ⟨F', μ', x2, ρ, d, S', g', rr.mono x' p', ev, fun v F2 μ2 H2 x3 p3 g3 => q v F2 μ2 H2 (x'.trans x3) (p'.trans p3) g3⟩⟩
  · rename_i e2
    cases e2
    exact ⟨F, μ, S, ρ, false, x2, g, rr, e1, fun F' μ' H' x' p' g' => iteF ⟨F', μ', x2, ρ, d, S', g', rr.mono x' p', ev, fun v F2 μ2 H2 x3 p3 g3 => q v F2 μ2 H2 (x'.trans x3) (p'.trans p3) g3⟩⟩
  · cases ev
/-- a op b op2 c -/
theorem me_chain {op op' : CmpOp} {o o' : Cm} {r r' : R2} (ho : OpR X (compareOp op) r) (hs : OpS Z (fun S x y => (cmpD o S x y).map D.bl) r) (ho' : OpR X (compareOp op') r') (hs' : OpS Z (fun S x y => (cmpD o' S x y).map D.bl) r')
    (ha : ME Z X a ma) (hb : ME Z X b mb) (hc : ME Z X c mc) (hm : lastMarks [op, op'] [b, c] = false := by with_unfolding_all rfl) : ME Z X (.Compare a [op, op'] [b, c] pos) (.chain o o' ma mb mc) := by
  refine PE.imp (pe_chain ho ho' ha hb hc hm) fun σ H Q h => ?_
  obtain ⟨F, μ, S, ρ, d, S', g, rr, ev, q⟩ := h
  unfold evE at ev
  obtain ⟨x, e1, ev⟩ := bind_some' ev
  obtain ⟨y, e2, ev⟩ := bind_some' ev
  obtain ⟨k, e3, ev⟩ := bind_some' ev
  refine ⟨F, μ, S, ρ, x.1, x.2, g, rr, e1, fun v F1 μ1 H1 x1 p1 g1 r1 => ?_⟩
  refine ⟨F1, μ1, x.2, ρ, y.1, y.2, g1, rr.mono x1 p1, e2, fun w F2 μ2 H2 x2 p2 g2 r2 => ?_⟩
  refine hs F2 μ2 y.2 H2 v w x.1 y.1 (.bl k) _ g2 (r1.mono x2 p2) r2 (show (cmpD o y.2 x.1 y.1).map D.bl = _ by rw [e3]; rfl) fun v' F3 H3 x3 g3 r3 => ?_
  cases r3
  refine ⟨k, rfl, ?_⟩
  have t3 := (x1.trans x2).trans x3
  cases k with
  | false =>
    cases ev
    exact iteF (q _ F3 μ2 H3 t3 (p1.trans p2) g3 (.bl _))
  | true =>
    rw [if_pos rfl] at ev
    obtain ⟨z, e4, ev⟩ := bind_some' ev
    obtain ⟨r4, e5, ev⟩ := map_some' ev
    cases ev
    refine iteT ⟨F3, μ2, y.2, ρ, z.1, z.2, g3, rr.mono t3 (p1.trans p2), e4, fun u F4 μ4 H4 x4 p4 g4 r4' => ?_⟩
    exact hs' F4 μ4 z.2 H4 w u y.1 z.1 (.bl r4) _ g4 ((r2.mono x3 (pre_refl _)).mono x4 p4) r4' (show (cmpD o' z.2 y.1 z.1).map D.bl = _ by rw [e5]; rfl) fun v' F5 H5 x5 g5 r5 => q _ F5 μ4 H5 ((t3.trans x4).trans x5) ((p1.trans p2).trans p4) g5 r5
theorem mt_chain {op op' : CmpOp} {o o' : Cm} {r r' : R2} (ho : OpR X (compareOp op) r) (hs : OpS Z (fun S x y => (cmpD o S x y).map D.bl) r) (ho' : OpR X (compareOp op') r') (hs' : OpS Z (fun S x y => (cmpD o' S x y).map D.bl) r')
    (ha : ME Z X a ma) (hb : ME Z X b mb) (hc : ME Z X c mc) (hm : lastMarks [op, op'] [b, c] = false := by with_unfolding_all rfl) : MT Z X (.Compare a [op, op'] [b, c] pos) (.chain o o' ma mb mc) := by
  refine PT.imp (pt_chain ho ho' ha hb hc hm) fun σ H Q h => ?_
  obtain ⟨F, μ, S, ρ, d, S', g, rr, ev, q⟩ := h
  unfold evE at ev
  obtain ⟨x, e1, ev⟩ := bind_some' ev
  obtain ⟨y, e2, ev⟩ := bind_some' ev
  obtain ⟨k, e3, ev⟩ := bind_some' ev
  refine ⟨F, μ, S, ρ, x.1, x.2, g, rr, e1, fun v F1 μ1 H1 x1 p1 g1 r1 => ?_⟩
  refine ⟨F1, μ1, x.2, ρ, y.1, y.2, g1, rr.mono x1 p1, e2, fun w F2 μ2 H2 x2 p2 g2 r2 => ?_⟩
  refine hs F2 μ2 y.2 H2 v w x.1 y.1 (.bl k) _ g2 (r1.mono x2 p2) r2 (show (cmpD o y.2 x.1 y.1).map D.bl = _ by rw [e3]; rfl) fun v' F3 H3 x3 g3 r3 => ?_
  cases r3
  refine ⟨k, rfl, ?_⟩
  have t3 := (x1.trans x2).trans x3
  cases k with
  | false =>
    cases ev
    exact iteF ⟨_, rfl, q F3 μ2 H3 t3 (p1.trans p2) g3⟩
  | true =>
    rw [if_pos rfl] at ev
    obtain ⟨z, e4, ev⟩ := bind_some' ev
    obtain ⟨r4, e5, ev⟩ := map_some' ev
    cases ev
    refine iteT ⟨F3, μ2, y.2, ρ, z.1, z.2, g3, rr.mono t3 (p1.trans p2), e4, fun u F4 μ4 H4 x4 p4 g4 r4' => ?_⟩
    exact hs' F4 μ4 z.2 H4 w u y.1 z.1 (.bl _) _ g4 ((r2.mono x3 (pre_refl _)).mono x4 p4) r4' (show (cmpD o' z.2 y.1 z.1).map D.bl = _ by rw [e5]; rfl) fun v' F5 H5 x5 g5 r5 => by
      cases r5
      exact ⟨_, rfl, q F5 μ4 H5 ((t3.trans x4).trans x5) ((p1.trans p2).trans p4) g5⟩
theorem me_lele (ha : ME Z X a ma) (hb : ME Z X b mb) (hc : ME Z X c mc) (hm : lastMarks [.LtE, .LtE] [b, c] = false := by with_unfolding_all rfl) : ME Z X (.Compare a [.LtE, .LtE] [b, c] pos) (.chain .le .le ma mb mc) := me_chain op_le (os_cmpI fun _ _ _ => rfl) op_le (os_cmpI fun _ _ _ => rfl) ha hb hc hm
theorem mt_lele (ha : ME Z X a ma) (hb : ME Z X b mb) (hc : ME Z X c mc) (hm : lastMarks [.LtE, .LtE] [b, c] = false := by with_unfolding_all rfl) : MT Z X (.Compare a [.LtE, .LtE] [b, c] pos) (.chain .le .le ma mb mc) := mt_chain op_le (os_cmpI fun _ _ _ => rfl) op_le (os_cmpI fun _ _ _ => rfl) ha hb hc hm
theorem mt_lelt (ha : ME Z X a ma) (hb : ME Z X b mb) (hc : ME Z X c mc) (hm : lastMarks [.LtE, .Lt] [b, c] = false := by with_unfolding_all rfl) : MT Z X (.Compare a [.LtE, .Lt] [b, c] pos) (.chain .le .lt ma mb mc) := mt_chain op_le (os_cmpI fun _ _ _ => rfl) op_lt (os_cmpI fun _ _ _ => rfl) ha hb hc hm

/-! ### arguments, displays -/
theorem ma_nil : MA Z X [] [] := PA.imp pa_nil fun σ H Q h => by
  obtain ⟨F, μ, S, ρ, ds, S', g, rr, ev, q⟩ := h
  unfold evEs at ev
  cases ev
  exact q [] F μ H (Ex.refl F) (pre_refl μ) g .nil
theorem ma_cons (ha : ME Z X e m) (hr : MA Z X es ms) (hs : starEach (e :: es) X.env = (false, eval e X.env) :: starEach es X.env := by rfl) : MA Z X (e :: es) (m :: ms) := by
  refine PA.imp (pa_cons ha hr hs) fun σ H Q h => ?_
  obtain ⟨F, μ, S, ρ, ds, S', g, rr, ev, q⟩ := h
  unfold evEs at ev
  obtain ⟨x, e1, ev⟩ := bind_some' ev
  obtain ⟨y, e2, ev⟩ := map_some' ev
  cases ev
  refine ⟨F, μ, S, ρ, x.1, x.2, g, rr, e1, fun v F1 μ1 H1 x1 p1 g1 r1 => ?_⟩
  exact ⟨F1, μ1, x.2, ρ, y.1, y.2, g1, rr.mono x1 p1, e2, fun vs F2 μ2 H2 x2 p2 g2 r2 => q (v :: vs) F2 μ2 H2 (x1.trans x2) (p1.trans p2) g2 (.cons (r1.mono x2 p2) r2)⟩
theorem me_tup {k : Nat} (h : MA Z X es ms) : ME Z X (.Tuple es k pos) (.tup ms) := by
  refine PE.imp (pe_tup h) fun σ H Q h => ?_
  obtain ⟨F, μ, S, ρ, d, S', g, rr, ev, q⟩ := h
  unfold evE at ev
  obtain ⟨x, e1, ev⟩ := bind_some' ev
  split at ev
  · rename_i hz
    cases ev
    refine ⟨F, μ, S, ρ, x.1, x.2, g, rr, e1, fun vs F1 μ1 H1 x1 p1 g1 r1 => ⟨by rw [r1.length]; exact hz, fun p hp => ?_⟩⟩
    obtain ⟨g', ex, eq⟩ := g1.frz hp (.tup vs)
    exact q _ _ μ1 _ (x1.trans ex) p1 g' (.tup (SqT.of eq) (r1.mono ex (pre_refl _)))
  · cases ev
/-- a new list: the end of what makes one -/
theorem mk_new {mu : Bool} {ds : List D} {vs : List V} {d : D} {S' : Sto} (g : Ag Z.W F μ S H) (r : Reps Z.W F μ vs ds) (h : mkLst mu ds S = some (d, S')) :
    vs.length ≤ sizeLine ∧ ∀ p, H p = none → ∃ F' μ', Ex F F' ∧ μ <+: μ' ∧ Ag Z.W F' μ' S' (upd H p (.lst vs)) ∧ Rep Z.W F' μ' (.ref p) d := by
  unfold mkLst at h
  split at h
  · rename_i hz
    refine ⟨by rw [r.length]; exact hz, fun p hp => ?_⟩
    cases mu with
    | true =>
      cases h
      obtain ⟨g', p'⟩ := g.new hp (o := .lst vs) (c := .lst ds) ⟨vs, upd_same, r.mono (Ex.refl F) ⟨[p], rfl⟩⟩
      exact ⟨F, _, Ex.refl F, p', g', .loc (by rw [← g.len, List.getElem?_append_right (Nat.le_refl _), Nat.sub_self]; rfl)⟩
    | false =>
      cases h
      obtain ⟨g', ex, eq⟩ := g.frz hp (.lst vs)
      exact ⟨_, μ, ex, pre_refl μ, g', .lst eq (r.mono ex (pre_refl _))⟩
  · cases h
theorem me_lst {mu : Bool} (h : MA Z X es ms) : ME Z X (.List es pos) (.lst mu ms) := by
  refine PE.imp (pe_lst h) fun σ H Q h => ?_
  obtain ⟨F, μ, S, ρ, d, S', g, rr, ev, q⟩ := h
  unfold evE at ev
  obtain ⟨x, e1, ev⟩ := bind_some' ev
  refine ⟨F, μ, S, ρ, x.1, x.2, g, rr, e1, fun vs F1 μ1 H1 x1 p1 g1 r1 => ?_⟩
  obtain ⟨hz, k⟩ := mk_new g1 r1 ev
  refine ⟨hz, fun p hp => ?_⟩
  obtain ⟨F2, μ2, x2, p2, g2, r2⟩ := k p hp
  exact q _ F2 μ2 _ (x1.trans x2) (p1.trans p2) g2 r2
theorem me_dict {mu : Bool} : ME Z X (.Dict [] [] pos) (.dict mu) := by
  refine PE.imp pe_dnewK fun σ H Q h => ?_
  obtain ⟨F, μ, S, ρ, d, S', g, rr, ev, q⟩ := h
  unfold evE at ev
  intro p hp
  cases mu with
  | true =>
    cases ev
    obtain ⟨g', p'⟩ := g.new hp (o := .dK []) (c := .dct []) ⟨[], upd_same, .nil⟩
    exact q _ F _ _ (Ex.refl F) p' g' (.loc (by rw [← g.len, List.getElem?_append_right (Nat.le_refl _), Nat.sub_self]; rfl))
  | false =>
    cases ev
    obtain ⟨g', ex, eq⟩ := g.frz hp (.dK [])
    exact q _ _ μ _ ex (pre_refl μ) g' (.dct (ks := []) (vs := []) (.inl eq) rfl .nil)
end
end Fw

set_option Elab.async false
set_option linter.all false
set_option maxRecDepth 100000
/-! FwG: subscripts, slices, fields, texts, builtins. -/
namespace Fw
open PySem L2
open Evl (Ex)
section
variable {Z : Sd} {X : Cx} {e a b c o i : Expr} {rest es : List Expr} {m ma mb mc mo mi : E} {ms : List E} {pos apos : Pos} {F : Hp} {μ : List Addr} {S : Sto} {H : Hp} {kk : Nat}

/-! ### subscripts -/
theorem Reps.ix {vs : List V} {xs : List D} (r : Reps Z.W F μ vs xs) {k : Int} {d : D} (h : atI xs k = some d) : ∃ v, atI vs k = some v ∧ Rep Z.W F μ v d := by
  unfold atI at h ⊢
  obtain ⟨j, e1, e2⟩ := bind_some' h
  obtain ⟨v, h1, h2⟩ := r.get e2
  rw [r.length, e1]
  exact ⟨v, h1, h2⟩
theorem valV_zip {ks : List Key} {vs : List V} {xs : List D} (r : Reps Z.W F μ vs xs) (hl : ks.length = vs.length) {k : Key} {d : D} (h : getK k (ks.zip xs) = some d) : ∃ v, valV (ks.zip vs) k = some v ∧ Rep Z.W F μ v d := by
  induction ks generalizing vs xs with
  | nil => cases h
  | cons q ks ih =>
    cases r with
    | nil => cases hl
    | cons r1 r2 =>
      simp only [List.zip_cons_cons] at h ⊢
      by_cases e : q = k
      · have h1 : getK k ((q, _) :: ks.zip _) = some _ := h
        unfold getK at h1
        rw [List.find?_cons_of_pos (by simpa using e)] at h1
        cases h1
        exact ⟨_, valV_pos e, r1⟩
      · unfold getK at h
        rw [List.find?_cons_of_neg (by simpa using e)] at h
        obtain ⟨v, h1, h2⟩ := ih r2 (by simpa using hl) h
        exact ⟨v, by rw [valV_neg e]; exact h1, h2⟩
def rIxD : R2 := fun x y H Q => ∃ a v, x = .ref a ∧ DGet H a y (some v) ∧ Q v H
theorem ix_dict (hu : X.A.units + 200 < cLine) : IxR X rIxD := by
  intro value slice pins s σ H x y v u Q I rx ry h hs
  obtain ⟨a, w, rfl, g, q⟩ := h
  cases rx
  have hT := dict_typeIs I g
  unfold PyProof.Rows.subscriptTail
  refine wpAny_bind ?_
  rw [getitemInPython_of_ne hT.not_modules]
  refine wpAny_bind (wpAny_specialOf hT PySem.F.slot_dict_getitem.lookup ?_)
  have fin : wpAny (model X.prog X.w) X.A (subscripted slice false (.ref a) u) (fun r s₃ => wpAny (model X.prog X.w) X.A (letTemporaryGo value (.ref a) r >>= fun _ => pure r) (EP X pins σ Q) X.xe s₃) X.xe s := by
    rw [hs]
    exact wpAny_operating (d_getItem (by omega) I g ry fun w' s3 I3 rw' => wpAny_bind (wpAny_letTemporaryGo (wpAny_pure ⟨w, H, I3, rw', q⟩)))
  first
    | exact wpAny_pure (wpAny_bind fin)
    | exact wpAny_bind (wpAny_pure (wpAny_bind fin))
    | exact wpAny_bind fin
def rIxM (K : PySem.W.Frag) : R2 := fun x y H Q => rIx K x y H Q ∨ rIxD x y H Q
theorem ix_all (hu : X.A.units + 200 < cLine) : IxR X (rIxM X.K) := ix_seq.or (ix_dict hu)
theorem os_ix : OpS Z subD (rIxM Z.W.K) := by
  intro F μ S H v w x y d Q g rv rw_ e q
  have fin : ∀ {v' : V}, Rep Z.W F μ v' d → Q v' H := fun {v'} r => q v' F H (Ex.refl F) g r
  have lists : ∀ {p : Addr} {vs : List V} {xs : List D} {k : Int}, v = .ref p → SqL Z.W.K H p vs → Reps Z.W F μ vs xs → w = .int k → atI xs k = some d → rIxM Z.W.K v w H Q := fun {p vs xs k} ev hs rs ew ha => by
    obtain ⟨z, h1, h2⟩ := rs.ix ha
    exact .inl (.inl ⟨p, vs, k, z, ev, ew, hs, h1, fin h2⟩)
  unfold subD at e
  split at e
  · rename_i xs k
    cases rv with
    | tup hs rs =>
      cases rw_
      obtain ⟨z, h1, h2⟩ := rs.ix e
      exact .inl (.inr (.inl ⟨_, _, _, z, rfl, rfl, Evl.ex_t g.ex hs, h1, fin h2⟩))
  · rename_i xs k
    cases rv with
    | lst hs rs =>
      cases rw_
      exact lists rfl (SqL.of (g.ex _ _ hs)) rs rfl e
  · rename_i ns k
    cases rv with
    | scr h0 =>
      have hs := h0.sql
      cases rw_
      obtain ⟨n, e1, e2⟩ := map_some' e
      subst e2
      have h1 : atI (ns.map V.int) k = some (.int n) := by
        unfold atI at e1 ⊢
        obtain ⟨j, e3, e4⟩ := bind_some' e1
        rw [List.length_map, e3, Option.bind_some, List.getElem?_map, e4]
        rfl
      exact .inl (.inl ⟨_, _, k, _, rfl, rfl, Evl.ex_l g.ex hs, h1, fin (.int n)⟩)
  · rename_i z k
    cases rv; cases rw_
    split at e
    · rename_i hz
      obtain ⟨y, e1, e2⟩ := map_some' e
      subst e2
      unfold atS at e1
      obtain ⟨cc, e3, e4⟩ := map_some' e1
      subst e4
      exact .inl (.inr (.inr ⟨z, k, cc, rfl, rfl, hz, e3, fin (.str _)⟩))
    · cases e
  · split at e
    · rename_i xs k e1
      obtain ⟨p, rfl, _, _, vs, e2, rs⟩ := g.loc rv e1
      cases rw_
      exact lists rfl (SqL.of e2) rs rfl e
    · rename_i kvs e1
      obtain ⟨p, rfl, _, _, vs, e2, rs⟩ := g.loc rv e1
      obtain ⟨k, e3, e4⟩ := bind_some' e
      have ek := keyOf_rep rw_ e3
      subst ek
      have ez : kvs = (kvs.map (·.1)).zip (kvs.map (·.2)) := by rw [List.zip_map']; simp
      rw [ez] at e4
      obtain ⟨z, h1, h2⟩ := valV_zip rs (by rw [rs.length, List.length_map, List.length_map]) e4
      exact .inr ⟨p, z, rfl, by rw [← h1]; exact DGet.k e2, fin h2⟩
    · cases e
  · cases rv with
    | dct hd hl rs =>
      obtain ⟨k, e3, e4⟩ := bind_some' e
      have ek := keyOf_rep rw_ e3
      subst ek
      obtain ⟨z, h1, h2⟩ := valV_zip rs hl e4
      exact .inr ⟨_, z, rfl, by rw [← h1]; exact .inl ⟨_, k, Evl.ex_rd g.ex hd, rfl, rfl⟩, fin h2⟩
  · cases e
theorem me_sub' (T : Std Z X kk) (ho : ME Z X o mo) (hi : ME Z X i mi) (hs : PlainIx i := by intro _ _; rfl) : ME Z X (.Subscript o i pos) (.sub mo mi) := by
  refine PE.imp (pe_ix (ix_all T.hu) ho hi hs) fun σ H Q h => ?_
  obtain ⟨F, μ, S, ρ, d, S', g, rr, ev, q⟩ := h
  unfold evE at ev
  rw [T.K]
  exact rd2 os_ix g rr ev q

/-! ### slices -/
def rdO (Z : Sd) (ms : List E) : TO := fun σ H Q => ∃ F μ S ρ ds ns S', Ag Z.W F μ S H ∧ Rho Z F μ ρ σ ∧ evEs Z.C ms ρ S = some (ds, S') ∧ allInt ds = some ns ∧ ms.length ≤ 1 ∧
  ∀ F' μ' H', Ex F F' → μ <+: μ' → Ag Z.W F' μ' S' H' → Q ns.head? H'
theorem mo_none : PO X none (rdO Z []) := ⟨fun pins s σ H Q I h => by
  obtain ⟨F, μ, S, ρ, ds, ns, S', g, rr, ev, hi, hl, q⟩ := h
  unfold evEs at ev
  cases ev
  cases hi
  exact po_none.run pins s σ H Q I (q F μ H (Ex.refl F) (pre_refl μ) g)⟩
theorem mo_some (h : ME Z X e m) : PO X (some e) (rdO Z [m]) := ⟨fun pins s σ H Q I hh => by
  obtain ⟨F, μ, S, ρ, ds, ns, S', g, rr, ev, hi, hl, q⟩ := hh
  unfold evEs evEs at ev
  obtain ⟨x, e1, ev⟩ := bind_some' ev
  obtain ⟨y, e2, ev⟩ := map_some' ev
  cases e2
  cases ev
  refine (po_some h).run pins s σ H Q I ⟨F, μ, S, ρ, x.1, x.2, g, rr, e1, fun v F1 μ1 H1 x1 p1 g1 r1 => ?_⟩
  cases hx : x.1 <;> rw [hx] at hi r1 <;> try (cases hi; done)
  cases hi
  cases r1
  exact ⟨_, rfl, q F1 μ1 H1 x1 p1 g1⟩⟩
def rSlM (K : PySem.W.Frag) : V → Option Int → Option Int → Hp → VK → Prop := fun x lo hi H Q => rSlS x lo hi H Q ∨ rSlL K x lo hi H Q
theorem cutL_eq {α : Type} (xs : List α) (lo hi : Option Int) : cutL xs lo hi = (xs.drop (HT.sIx xs.length 0 lo)).take (HT.sIx xs.length xs.length hi - HT.sIx xs.length 0 lo) := rfl
theorem os_slice {v : V} {x d : D} {lo hi : Option Int} {Q : VK} (g : Ag Z.W F μ S H) (rv : Rep Z.W F μ v x) (e : sliceD S x lo hi = some d) (q : ∀ v' F' H', Ex F F' → Ag Z.W F' μ S H' → Rep Z.W F' μ v' d → Q v' H') : rSlM Z.W.K v lo hi H Q := by
  have lists : ∀ {p : Addr} {vs : List V} {xs : List D}, v = .ref p → SqL Z.W.K H p vs → Reps Z.W F μ vs xs → d = .lst (cutL xs lo hi) → rSlM Z.W.K v lo hi H Q := fun {p vs xs} ev hs rs ed => by
    refine .inr ⟨p, vs, ev, hs, fun r hr => ?_⟩
    obtain ⟨g', ex, eq⟩ := g.frz hr (.lst (cutV vs lo hi))
    subst ed
    refine q _ _ _ ex g' (.lst eq ?_)
    unfold cutV
    rw [cutL_eq, ← rs.length]
    exact ((rs.drop _).take _).mono ex (pre_refl μ)
  unfold sliceD at e
  split at e
  · cases rv
    split at e
    · rename_i hz
      cases e
      exact .inl ⟨_, rfl, hz, q _ F H (Ex.refl F) g (.str _)⟩
    · cases e
  · cases rv with
    | scr h0 =>
      have hs := h0.sql
      cases e
      exact lists rfl (Evl.ex_l g.ex hs) reps_ints rfl
  · obtain ⟨xs, e1, e2⟩ := map_some' e
    obtain ⟨p, vs, ev, hp, rs⟩ := lsOf_rep g rv e1
    exact lists ev (SqL.of hp) rs e2.symm
theorem me_slice {lo hi : Option Expr} {ml mh : List E} {p2 : Pos} (T : Std Z X kk) (ho : ME Z X o mo) (hl : PO X lo (rdO Z ml)) (hh : PO X hi (rdO Z mh)) (h1 : ml.length ≤ 1 := by decide) (h2 : mh.length ≤ 1 := by decide) : ME Z X (.Subscript o (.Slice lo hi none p2) pos) (.slice mo ml mh) := by
  refine PE.imp (pe_slice (sl_str.or sl_list) ho hl hh) fun σ H Q h => ?_
  obtain ⟨F, μ, S, ρ, d, S', g, rr, ev, q⟩ := h
  unfold evE at ev
  obtain ⟨x, e1, ev⟩ := bind_some' ev
  obtain ⟨y, e2, ev⟩ := bind_some' ev
  obtain ⟨z, e3, ev⟩ := bind_some' ev
  obtain ⟨l, e4, ev⟩ := bind_some' ev
  obtain ⟨h, e5, ev⟩ := bind_some' ev
  obtain ⟨d', e6, ev⟩ := map_some' ev
  cases ev
  refine ⟨F, μ, S, ρ, x.1, x.2, g, rr, e1, fun v F1 μ1 H1 x1 p1 g1 r1 => ?_⟩
  refine ⟨F1, μ1, x.2, ρ, y.1, l, y.2, g1, rr.mono x1 p1, e2, e4, h1, fun F2 μ2 H2 x2 p2 g2 => ?_⟩
  refine ⟨F2, μ2, y.2, ρ, z.1, h, z.2, g2, rr.mono (x1.trans x2) (p1.trans p2), e3, e5, h2, fun F3 μ3 H3 x3 p3 g3 => ?_⟩
  have k := os_slice (Q := Q) g3 ((r1.mono x2 p2).mono x3 p3) e6 fun v' F' H' x4 g4 r4 => q v' F' μ3 H' (((x1.trans x2).trans x3).trans x4) ((p1.trans p2).trans p3) g4 r4
  rw [T.K]
  exact k

/-! ### f-strings -/
inductive MJ (Z : Sd) (X : Cx) : List Expr → List E → Prop where
  | nil : MJ Z X [] []
  | con {x : Str} {j : Nat} {p : Pos} {es : List Expr} {ms : List E} (r : MJ Z X es ms) : MJ Z X (.Constant (.str x) j p :: es) (.cst (.str x) :: ms)
  | fmt {e : Expr} {m : E} {p : Pos} {es : List Expr} {ms : List E} (h : ME Z X e m) (r : MJ Z X es ms) : MJ Z X (.FormattedValue e (-1) none p :: es) (m :: ms)
theorem txtL_len : ∀ {ds : List D} {y : Str}, txtL ds = some y → ∀ acc : Str, acc.length ≤ (acc ++ y).length := fun {ds y} _ acc => by
  show acc.cps.size ≤ (acc.cps ++ y.cps).size
  rw [Array.size_append]
  omega
theorem str_assoc (x y z : Str) : x ++ y ++ z = x ++ (y ++ z) := by
  show (⟨x.cps ++ y.cps ++ z.cps⟩ : Str) = ⟨x.cps ++ (y.cps ++ z.cps)⟩
  rw [Array.append_assoc]
theorem str_len (x y : Str) : (x ++ y).length = x.length + y.length := by
  show (x.cps ++ y.cps).size = _
  rw [Array.size_append]
  rfl
theorem str_nil_app (x : Str) : Str.empty ++ x = x := by
  show (⟨#[] ++ x.cps⟩ : Str) = x
  simp
theorem str_app_nil (x : Str) : x ++ Str.empty = x := by
  show (⟨x.cps ++ #[]⟩ : Str) = x
  simp
theorem mj_pj (h : MJ Z X es ms) : ∃ ts, PJ X es ts ∧ ∀ (acc : Str) (σ : L2.St) (H : Hp) (Q : Str → Hp → Prop) (F : Hp) (μ : List Addr) (S : Sto) (ρ : Env) (ds : List D) (S' : Sto) (y : Str), Ag Z.W F μ S H → Rho Z F μ ρ σ → evEs Z.C ms ρ S = some (ds, S') → txtL ds = some y → (acc ++ y).length ≤ sizeLine →
    (∀ F' μ' H', Ex F F' → μ <+: μ' → Ag Z.W F' μ' S' H' → Q (acc ++ y) H') → tJs ts acc σ H Q := by
  induction h with
  | nil =>
    refine ⟨[], .nil, fun acc σ H Q F μ S ρ ds S' y g rr ev ht hz q => ?_⟩
    unfold evEs at ev
    cases ev
    cases ht
    have k := q F μ H (Ex.refl F) (pre_refl μ) g
    rw [str_app_nil] at k
    exact k
  | @con x j p es ms r ih =>
    obtain ⟨ts, hp, hq⟩ := ih
    refine ⟨_ :: ts, .cons pe_str hp, fun acc σ H Q F μ S ρ ds S' y g rr ev ht hz q => ?_⟩
    unfold evEs evE at ev
    obtain ⟨y1, e1, ev⟩ := bind_some' ev
    cases e1
    obtain ⟨y2, e2, ev⟩ := map_some' ev
    cases ev
    obtain ⟨t, e3, e4⟩ := map_some' (show (txtL y2.1).map (fun y => x ++ y) = some y from ht)
    subst e4
    rw [← str_assoc] at hz
    refine ⟨x, rfl, ?_, hq (acc ++ x) σ H Q F μ S ρ y2.1 _ t g rr e2 e3 hz fun F' μ' H' x' p' g' => by rw [str_assoc]; exact q F' μ' H' x' p' g'⟩
    rw [str_len] at hz
    omega
  | @fmt e m p es ms h r ih =>
    obtain ⟨ts, hp, hq⟩ := ih
    refine ⟨_ :: ts, .cons (pe_fmt h) hp, fun acc σ H Q F μ S ρ ds S' y g rr ev ht hz q => ?_⟩
    unfold evEs at ev
    obtain ⟨y1, e1, ev⟩ := bind_some' ev
    obtain ⟨y2, e2, ev⟩ := map_some' ev
    cases ev
    obtain ⟨d1, s1⟩ := y1
    cases d1 with
    | str x =>
      obtain ⟨t, e3, e4⟩ := map_some' (show (txtL y2.1).map (fun y => x ++ y) = some y from ht)
      subst e4
      rw [← str_assoc] at hz
      have hz2 : (acc ++ x).length ≤ sizeLine := by
        rw [str_len] at hz
        omega
      refine ⟨F, μ, S, ρ, _, s1, g, rr, e1, fun v F1 μ1 H1 x1 p1 g1 r1 => ?_⟩
      cases r1
      refine .inl ⟨x, rfl, by rw [str_len] at hz2; omega, x, rfl, hz2, ?_⟩
      exact hq (acc ++ x) σ H1 Q F1 μ1 s1 ρ y2.1 _ t g1 (rr.mono x1 p1) e2 e3 hz fun F' μ' H' x' p' g' => by rw [str_assoc]; exact q F' μ' H' (x1.trans x') (p1.trans p') g'
    | _ => cases ht
theorem me_fstr {v1 v2 : Expr} (h : MJ Z X (v1 :: v2 :: rest) ms) : ME Z X (.JoinedStr (v1 :: v2 :: rest) pos) (.fstr ms) := by
  obtain ⟨ts, hp, hq⟩ := mj_pj h
  refine PE.imp (pe_joined hp) fun σ H Q h => ?_
  obtain ⟨F, μ, S, ρ, d, S', g, rr, ev, q⟩ := h
  unfold evE at ev
  obtain ⟨x, e1, ev⟩ := bind_some' ev
  obtain ⟨y, e2, ev⟩ := bind_some' ev
  split at ev
  · rename_i hz
    cases ev
    refine hq Str.empty σ H _ F μ S ρ x.1 _ y g rr e1 e2 (by rw [str_nil_app]; exact hz) fun F' μ' H' x' p' g' => ?_
    rw [str_nil_app]
    exact q _ F' μ' H' x' p' g' (.str y)
  · cases ev
end
end Fw

set_option Elab.async false
set_option linter.all false
set_option maxRecDepth 100000
/-! FwH: fields, builtins. -/
namespace Fw
open PySem L2
open Evl (Ex)
section
variable {Z : Sd} {X : Cx} {e a b c o i : Expr} {rest es : List Expr} {m ma mb mc mo mi : E} {ms : List E} {pos apos p : Pos} {F : Hp} {μ : List Addr} {S : Sto} {H : Hp} {kk : Nat}

/-! ### fields -/
structure ClsF (Z : Sd) (X : Cx) : Prop where
  cls : ∀ c C, Z.W.ca c = some C → Cls X.K C
def NoF (Z : Sd) (X : Cx) (f : Str) : Prop := ∀ c C, Z.W.ca c = some C → (Z.C.meth c f).isNone = true → NoAttr X.K C f
theorem look_zip {fs : List Str} {vs : List V} {xs : List D} (r : Reps Z.W F μ vs xs) (hl : fs.length = vs.length) {f : Str} {d : D} (h : getFd f (fs.zip xs) = some d) : ∃ v, (fs.zip vs).lookup f = some v ∧ Rep Z.W F μ v d := by
  induction fs generalizing vs xs with
  | nil => cases h
  | cons q fs ih =>
    cases r with
    | nil => cases hl
    | @cons v d' vs' ds' r1 r2 =>
      simp only [List.zip_cons_cons] at h ⊢
      by_cases e : q = f
      · unfold getFd at h
        rw [if_pos e] at h
        cases h
        refine ⟨v, ?_, r1⟩
        rw [e]
        simp [List.lookup]
      · unfold getFd at h
        rw [if_neg e] at h
        obtain ⟨z, h1, h2⟩ := ih r2 (by simpa using hl) h
        refine ⟨z, ?_, h2⟩
        have e2 : (f == q) = false := by simpa using fun z => e z.symm
        rw [← h1]
        simp [List.lookup, e2]
theorem look_zip_none {fs : List Str} {vs : List V} {xs : List D} (r : Reps Z.W F μ vs xs) (hl : fs.length = vs.length) {f : Str} (h : (getFd f (fs.zip xs)).isNone = true) : (fs.zip vs).lookup f = none := by
  induction fs generalizing vs xs with
  | nil => rfl
  | cons q fs ih =>
    cases r with
    | nil => cases hl
    | @cons v d' vs' ds' r1 r2 =>
      simp only [List.zip_cons_cons] at h ⊢
      by_cases e : q = f
      · unfold getFd at h
        rw [if_pos e] at h
        cases h
      · unfold getFd at h
        rw [if_neg e] at h
        have e2 : (f == q) = false := by simpa using fun z => e z.symm
        have h1 := ih r2 (by simpa using hl) h
        rw [← h1]
        simp [List.lookup, e2]
theorem zip_self {α β : Type} (l : List (α × β)) : (l.map (·.1)).zip (l.map (·.2)) = l := by
  rw [List.zip_map']; simp
/-- an instance by its class -/
theorem ins_rep {v : V} {d : D} {c : Str} (g : Ag Z.W F μ S H) (r : Rep Z.W F μ v d) (hc : clsOf S d = some c) :
    ∃ (a C dx : Addr) (fs : List Str) (vs : List V) (xs : List D), v = .ref a ∧ H a = some (.ins C dx (fs.zip vs)) ∧ Z.W.ca c = some C ∧ fs.length = vs.length ∧ Reps Z.W F μ vs xs ∧ ∀ f, fldD S d f = getFd f (fs.zip xs) := by
  cases d <;> try (cases hc; done)
  · cases r with
    | ins h1 h2 h3 h4 h5 =>
      cases hc
      exact ⟨_, _, _, _, _, _, rfl, g.ex _ _ h1, h3, h4, h5, fun f => rfl⟩
  · rename_i n
    have hc : (match S[n]? with | some (.obj c _) => some c | _ => none) = some c := hc
    split at hc
    · rename_i c' fs e
      cases hc
      obtain ⟨a, rfl, _, _, C, dx, vs, e1, e2, e3, rs⟩ := g.loc r e
      refine ⟨a, C, dx, fs.map (·.1), vs, fs.map (·.2), rfl, e2, e1, by rw [rs.length, List.length_map, List.length_map], rs, fun f => ?_⟩
      show (match S[n]? with | some (.obj _ fs) => getFd f fs | _ => none) = _
      rw [e, zip_self]
    · cases hc
theorem me_fld {f : Str} (T : Std Z X kk) (hc : ClsF Z X) (hn : NoF Z X f) (he : ME Z X e m) (hb : attributeBase e f X.env (eval e X.env) = eval e X.env := by rfl) : ME Z X (.Attribute e f pos) (.fld m f) := by
  refine PE.imp (pe_fld he hb) fun σ H Q h => ?_
  obtain ⟨F, μ, S, ρ, d, S', g, rr, ev, q⟩ := h
  unfold evE at ev
  obtain ⟨x, e1, ev⟩ := bind_some' ev
  obtain ⟨c, e2, ev⟩ := bind_some' ev
  split at ev
  · rename_i hm
    obtain ⟨d', e3, ev⟩ := map_some' ev
    cases ev
    refine ⟨F, μ, S, ρ, x.1, x.2, g, rr, e1, fun v F1 μ1 H1 x1 p1 g1 r1 => ?_⟩
    obtain ⟨a, C, dx, fs, vs, xs, rfl, h1, h2, h3, h4, h5⟩ := ins_rep g1 r1 e2
    rw [h5] at e3
    obtain ⟨w, h6, h7⟩ := look_zip h4 h3 e3
    exact ⟨a, C, dx, _, w, rfl, h1, hc.cls c C h2, hn c C h2 hm, h6, q w F1 μ1 H1 x1 p1 g1 h7⟩
  · cases ev

/-! ### builtins by name -/
def BiS (Z : Sd) (f : List D → Sto → Option D) (r : List V → Hp → VK → Prop) : Prop := ∀ F μ S H vs ds d (Q : VK), Ag Z.W F μ S H → Reps Z.W F μ vs ds → f ds S = some d → (∀ v' F' H', Ex F F' → Ag Z.W F' μ S H' → Rep Z.W F' μ v' d → Q v' H') → r vs H Q
theorem rdB {bb : Bi} {r : List V → Hp → VK → Prop} (hs : BiS Z (biD bb) r) {σ : L2.St} {Q : VK} (h : rdE Z (.bi bb ms) σ H Q) : tCB r (rdEs Z ms) σ H Q := by
  obtain ⟨F, μ, S, ρ, d, S', g, rr, ev, q⟩ := h
  unfold evE at ev
  obtain ⟨x, e1, ev⟩ := bind_some' ev
  obtain ⟨d', e2, ev⟩ := map_some' ev
  cases ev
  exact ⟨F, μ, S, ρ, x.1, x.2, g, rr, e1, fun vs F1 μ1 H1 x1 p1 g1 r1 => hs F1 μ1 x.2 H1 vs x.1 d Q g1 r1 e2 fun v' F' H' x2 g2 r2 => q v' F' μ1 H' (x1.trans x2) p1 g2 r2⟩
theorem me_bi {bb : Bi} {r : List V → Hp → VK → Prop} {id : String} {x : Str} (hs : BiS Z (biD bb) r) (hc : CallR X (.builtin id) r) (hm : X.mg x = none) (hg : Gl X x) (hv : bootBuiltins x = some (.builtin id)) (ha : MA Z X (e :: es) ms) (hn : x ≠ "__name__" := by decide) (hdb : (x == ("__debug__" : Str)) = false := by decide)
    (he : starEach (e :: es) X.env = (false, eval e X.env) :: starEach es X.env := by rfl) (hpl : (backTo pos (starEach es X.env)).any (·.1) = false := by rfl) : ME Z X (.Call (.Name x p) (e :: es) [] pos) (.bi bb ms) :=
  PE.imp (pe_callB hc hg hm hv ha hn hdb he hpl) fun σ H Q h => rdB hs h
theorem me_bt {bb : Bi} {r : List V → Hp → VK → Prop} {T : String} {x : Str} (hs : BiS Z (biD bb) r) (hc : CallR X (.type T) r) (hm : X.mg x = none) (hg : Gl X x) (hv : bootBuiltins x = some (.type T)) (ha : MA Z X (e :: es) ms) (hn : x ≠ "__name__" := by decide) (hdb : (x == ("__debug__" : Str)) = false := by decide)
    (he : starEach (e :: es) X.env = (false, eval e X.env) :: starEach es X.env := by rfl) (hpl : (backTo pos (starEach es X.env)).any (·.1) = false := by rfl) : ME Z X (.Call (.Name x p) (e :: es) [] pos) (.bi bb ms) :=
  PE.imp (pe_callTy hc hg hm hv ha hn hdb he hpl) fun σ H Q h => rdB hs h

/-! len -/
def rLenM (K : PySem.W.Frag) : List V → Hp → VK → Prop := fun xs H Q => (∃ x n, xs = [x] ∧ LenV K x H n ∧ Q (.int n) H) ∨ ∃ a kvs, xs = [.ref a] ∧ Rd H a (.dK kvs) ∧ Q (.int kvs.length) H
theorem call_lenM : CallR X (.builtin "len") (rLenM X.K) := by
  refine call_len.or ?_
  intro pins s σ H xs us Q I r h
  obtain ⟨a, kvs, rfl, hd, q⟩ := h
  obtain ⟨u, rfl, ru⟩ := vals1 r
  cases ru
  exact d_len I hd fun t s' I' => ⟨.int _, H, I', ⟨t, rfl⟩, q⟩
theorem bs_len : BiS Z (biD .len) (rLenM Z.W.K) := by
  intro F μ S H vs ds d Q g rs e q
  cases rs with
  | nil => cases e
  | cons r1 r2 =>
    cases r2 with
    | cons _ _ => cases e
    | nil =>
      rename_i v x
      obtain ⟨n, e1, e2⟩ := map_some' (show (lenD S x).map D.int = some d from e)
      subst e2
      have fin : ∀ {k : Int}, k = n → Q (.int k) H := fun {k} hk => by rw [hk]; exact q _ F H (Ex.refl F) g (.int n)
      cases x <;> try (cases e1; done)
      · cases r1
        have e1 : (if _ then _ else _) = some n := e1
        split at e1
        · rename_i hz
          cases e1
          exact .inl ⟨_, _, rfl, ⟨hz, rfl⟩, fin rfl⟩
        · cases e1
      · cases r1 with
        | tup hs rs => cases e1; exact .inl ⟨_, _, rfl, .inr ⟨_, Evl.ex_t g.ex hs, rfl⟩, fin (by rw [rs.length])⟩
      · cases r1 with
        | lst hs rs => cases e1; exact .inl ⟨_, _, rfl, .inl ⟨_, SqL.of (g.ex _ _ hs), rfl⟩, fin (by rw [rs.length])⟩
      · cases r1 with
        | dct hd hl rs => cases e1; exact .inr ⟨_, _, rfl, Evl.ex_rd g.ex hd, fin (by rw [List.length_zip, ← hl, Nat.min_self])⟩
      · rename_i n'
        have e1 : (match S[n']? with | some (.lst xs) => some (xs.length : Int) | some (.dct kvs) => some (kvs.length : Int) | _ => none) = some n := e1
        split at e1
        · rename_i xs e2
          cases e1
          obtain ⟨a, rfl, _, _, vs, e3, rs⟩ := g.loc r1 e2
          exact .inl ⟨_, _, rfl, .inl ⟨_, SqL.of e3, rfl⟩, fin (by rw [rs.length])⟩
        · rename_i kvs e2
          cases e1
          obtain ⟨a, rfl, _, _, vs, e3, rs⟩ := g.loc r1 e2
          exact .inr ⟨_, _, rfl, .inl e3, fin (by rw [List.length_zip, rs.length, List.length_map, List.length_map, Nat.min_self])⟩
        · cases e1
      · cases r1 with
        | scr h0 => have hs := h0.sql; cases e1; exact .inl ⟨_, _, rfl, .inl ⟨_, Evl.ex_l g.ex hs, rfl⟩, fin (by rw [List.length_map])⟩
theorem me_len (T : Std Z X kk) (hm : X.mg "len" = none) (ha : MA Z X [e] ms) (hg : Gl X "len" := by rfl) (he : starEach [e] X.env = (false, eval e X.env) :: starEach [] X.env := by rfl) : ME Z X (.Call (.Name "len" p) [e] [] pos) (.bi .len ms) :=
  me_bi (by rw [T.K]; exact bs_len) call_lenM hm hg boot_len ha (he := he)

/-! all, divmod, max, min, int, str -/
theorem allBl_rep : ∀ {vs : List V} {xs : List D} {bs : List Bool}, Reps Z.W F μ vs xs → allBl xs = some bs → vs = bs.map V.bl
  | _, _, _, .nil, h => by cases h; rfl
  | _, _, _, .cons (d := d) r1 r2, h => by
    cases d <;> try (cases h; done)
    obtain ⟨bs, e1, e2⟩ := map_some' (show (allBl _).map _ = some _ from h)
    subst e2
    cases r1
    rw [allBl_rep r2 e1]
    rfl
theorem allInt_rep : ∀ {vs : List V} {xs : List D} {bs : List Int}, Reps Z.W F μ vs xs → allInt xs = some bs → vs = bs.map V.int
  | _, _, _, .nil, h => by cases h; rfl
  | _, _, _, .cons (d := d) r1 r2, h => by
    cases d <;> try (cases h; done)
    obtain ⟨bs, e1, e2⟩ := map_some' (show (allInt _).map _ = some _ from h)
    subst e2
    cases r1
    rw [allInt_rep r2 e1]
    rfl
theorem allStr_rep : ∀ {vs : List V} {xs : List D} {bs : List Str}, Reps Z.W F μ vs xs → allStr xs = some bs → vs = bs.map V.str
  | _, _, _, .nil, h => by cases h; rfl
  | _, _, _, .cons (d := d) r1 r2, h => by
    cases d <;> try (cases h; done)
    obtain ⟨bs, e1, e2⟩ := map_some' (show (allStr _).map _ = some _ from h)
    subst e2
    cases r1
    rw [allStr_rep r2 e1]
    rfl
theorem bs_all : BiS Z (biD .all) (rAll Z.W.K) := by
  intro F μ S H vs ds d Q g rs e q
  cases rs with
  | nil => cases e
  | cons r1 r2 =>
    cases r2 with
    | cons _ _ => cases e
    | nil =>
      obtain ⟨xs, e1, e⟩ := bind_some' (show (lsOf S _).bind _ = some d from e)
      obtain ⟨bs, e2, e⟩ := map_some' e
      subst e
      obtain ⟨a, vs, rfl, ha, rs⟩ := lsOf_rep g r1 e1
      have ev := allBl_rep rs e2
      subst ev
      exact ⟨a, bs, rfl, SqL.of ha, q _ F H (Ex.refl F) g (.bl _)⟩
theorem me_all (T : Std Z X kk) (hm : X.mg "all" = none) (ha : MA Z X [e] ms) (hg : Gl X "all" := by rfl) (he : starEach [e] X.env = (false, eval e X.env) :: starEach [] X.env := by rfl) : ME Z X (.Call (.Name "all" p) [e] [] pos) (.bi .all ms) :=
  me_bi (by rw [T.K]; exact bs_all) (cr_all T.calm) hm hg (by decide +kernel) ha (he := he)
theorem two_of {vs : List V} {ds : List D} (r : Reps Z.W F μ vs ds) {i j : Int} (h : ds = [.int i, .int j]) : vs = [.int i, .int j] := by
  subst h
  cases r with
  | cons r1 r2 => cases r2 with
    | cons r3 r4 => cases r4; cases r1; cases r3; rfl
theorem bs_divmod : BiS Z (biD .divmod) (fun xs H Q => ∃ i j, xs = [.int i, .int j] ∧ CDiv i j ∧ ∀ p, H p = none → Q (.ref p) (upd H p (.tup [.int (i / j), .int (i % j)]))) := by
  intro F μ S H vs ds d Q g rs e q
  simp only [biD] at e
  split at e
  · rename_i i j
    split at e
    · rename_i hc
      cases e
      refine ⟨i, j, two_of rs rfl, hc, fun p hp => ?_⟩
      obtain ⟨g', ex, eq⟩ := g.frz hp (.tup [.int (i / j), .int (i % j)])
      exact q _ _ _ ex g' (.tup (SqT.of eq) (.cons (.int _) (.cons (.int _) .nil)))
    · cases e
  · cases e
theorem me_divmod (hm : X.mg "divmod" = none) (ha : MA Z X [a, b] ms) (hg : Gl X "divmod" := by rfl) (he : starEach [a, b] X.env = (false, eval a X.env) :: starEach [b] X.env := by rfl) (hpl : (backTo pos (starEach [b] X.env)).any (·.1) = false := by rfl) : ME Z X (.Call (.Name "divmod" p) [a, b] [] pos) (.bi .divmod ms) :=
  me_bi bs_divmod call_divmod hm hg (by decide +kernel) ha (he := he) (hpl := hpl)
theorem maxI_mem : ∀ (xs : List Int) (m : Int), (maxI m xs = m ∨ maxI m xs ∈ xs) ∧ m ≤ maxI m xs ∧ ∀ y ∈ xs, y ≤ maxI m xs
  | [], m => ⟨.inl rfl, Int.le_refl _, fun _ h => by cases h⟩
  | x :: xs, m => by
    unfold maxI
    by_cases h : x > m
    · rw [if_pos h]
      obtain ⟨h1, h2, h3⟩ := maxI_mem xs x
      refine ⟨.inr ?_, by omega, fun y hy => ?_⟩
      · rcases h1 with h1 | h1
        · rw [h1]; exact List.mem_cons_self ..
        · exact List.mem_cons_of_mem _ h1
      · rcases List.mem_cons.mp hy with rfl | hy
        · exact h2
        · exact h3 y hy
    · rw [if_neg h]
      obtain ⟨h1, h2, h3⟩ := maxI_mem xs m
      refine ⟨?_, h2, fun y hy => ?_⟩
      · rcases h1 with h1 | h1
        · exact .inl h1
        · exact .inr (List.mem_cons_of_mem _ h1)
      · rcases List.mem_cons.mp hy with rfl | hy
        · omega
        · exact h3 y hy
def rMaxM (K : PySem.W.Frag) : List V → Hp → VK → Prop := fun xs H Q => rMax K xs H Q ∨ ∃ i j, xs = [.int i, .int j] ∧ Q (.int (if j > i then j else i)) H
theorem bs_max : BiS Z (biD .max) (rMaxM Z.W.K) := by
  intro F μ S H vs ds d Q g rs e q
  obtain ⟨m, e1, e2⟩ := map_some' (show (maxD ds S).map D.int = some d from e)
  subst e2
  have fin := q _ F H (Ex.refl F) g (.int m)
  unfold maxD at e1
  split at e1
  · cases rs with
    | cons r1 r2 =>
      cases r2
      obtain ⟨xs, e2, e1⟩ := bind_some' e1
      obtain ⟨ns, e3, e1⟩ := bind_some' e1
      obtain ⟨a, vs, rfl, ha, rs⟩ := lsOf_rep g r1 e2
      have ev := allInt_rep rs e3
      subst ev
      split at e1
      · cases e1
      · rename_i n r
        cases e1
        refine .inl ⟨a, _, rfl, SqL.of ha, by simp, fun m hm hle => ?_⟩
        obtain ⟨h1, h2, h3⟩ := maxI_mem r n
        have hmem : maxI n r ∈ n :: r := by
          rcases h1 with h1 | h1
          · rw [h1]; exact List.mem_cons_self ..
          · exact List.mem_cons_of_mem _ h1
        have hle2 := hle _ hmem
        have hge : m ≤ maxI n r := by
          rcases List.mem_cons.mp hm with rfl | hm
          · exact h2
          · exact h3 m hm
        rw [show m = maxI n r by omega]
        exact fin
  · rename_i i j
    cases e1
    exact .inr ⟨i, j, two_of rs rfl, fin⟩
  · cases e1
theorem me_max (T : Std Z X kk) {es : List Expr} (hm : X.mg "max" = none) (ha : MA Z X (e :: es) ms) (hg : Gl X "max" := by rfl) (he : starEach (e :: es) X.env = (false, eval e X.env) :: starEach es X.env := by rfl) (hpl : (backTo pos (starEach es X.env)).any (·.1) = false := by rfl) : ME Z X (.Call (.Name "max" p) (e :: es) [] pos) (.bi .max ms) :=
  me_bi (by rw [T.K]; exact bs_max) ((cr_max T.calm).or (call_max2 T.calm)) hm hg (by decide +kernel) ha (he := he) (hpl := hpl)
theorem bs_min : BiS Z (biD .min) (fun xs H Q => ∃ i j, xs = [.int i, .int j] ∧ Q (.int (if j < i then j else i)) H) := by
  intro F μ S H vs ds d Q g rs e q
  obtain ⟨m, e1, e2⟩ := map_some' (show (minD ds S).map D.int = some d from e)
  subst e2
  unfold minD at e1
  split at e1
  · rename_i i j
    cases e1
    exact ⟨i, j, two_of rs rfl, q _ F H (Ex.refl F) g (.int _)⟩
  · cases e1
theorem me_min (T : Std Z X kk) (hm : X.mg "min" = none) (ha : MA Z X [a, b] ms) (hg : Gl X "min" := by rfl) (he : starEach [a, b] X.env = (false, eval a X.env) :: starEach [b] X.env := by rfl) (hpl : (backTo pos (starEach [b] X.env)).any (·.1) = false := by rfl) : ME Z X (.Call (.Name "min" p) [a, b] [] pos) (.bi .min ms) :=
  me_bi bs_min (call_min2 T.calm) hm hg (by decide +kernel) ha (he := he) (hpl := hpl)
theorem bs_int : BiS Z (biD .int) (fun xs H Q => (∃ i, xs = [.int i] ∧ Q (.int i) H) ∨ ∃ k, xs = [.bl k] ∧ Q (.int (if k then 1 else 0)) H) := by
  intro F μ S H vs ds d Q g rs e q
  simp only [biD] at e
  split at e
  · cases e
    cases rs with
    | cons r1 r2 => cases r2; cases r1; exact .inr ⟨_, rfl, q _ F H (Ex.refl F) g (.int _)⟩
  · cases e
    cases rs with
    | cons r1 r2 => cases r2; cases r1; exact .inl ⟨_, rfl, q _ F H (Ex.refl F) g (.int _)⟩
  · cases e
theorem me_int' (hm : X.mg "int" = none) (ha : MA Z X [e] ms) (hg : Gl X "int" := by rfl) (he : starEach [e] X.env = (false, eval e X.env) :: starEach [] X.env := by rfl) : ME Z X (.Call (.Name "int" p) [e] [] pos) (.bi .int ms) :=
  me_bt bs_int call_int1 hm hg (by decide +kernel) ha (he := he)
theorem bs_str : BiS Z (biD .str) (fun xs H Q => ∃ a, xs = [.str a] ∧ Q (.str a) H) := by
  intro F μ S H vs ds d Q g rs e q
  simp only [biD] at e
  split at e
  · cases e
    cases rs with
    | cons r1 r2 => cases r2; cases r1; exact ⟨_, rfl, q _ F H (Ex.refl F) g (.str _)⟩
  · cases e
theorem me_str' (hm : X.mg "str" = none) (ha : MA Z X [e] ms) (hg : Gl X "str" := by rfl) (he : starEach [e] X.env = (false, eval e X.env) :: starEach [] X.env := by rfl) : ME Z X (.Call (.Name "str" p) [e] [] pos) (.bi .str ms) :=
  me_bt bs_str SkE.call_str_str hm hg (by decide +kernel) ha (he := he)

/-! list, tuple, sorted -/
theorem call_list_s (hc : X.calm = true) : CallR X (.type "list") (fun xs H Q => ∃ x : Str, xs = [.str x] ∧ x.length ≤ sizeLine ∧ ∀ p, H p = none → Q (.ref p) (upd H p (.lst (x.cps.toList.map fun c => V.str ⟨#[c]⟩)))) := by
  intro pins s σ H xs us Q I r h
  obtain ⟨x, rfl, hz, q⟩ := h
  obtain ⟨u, rfl, t, rfl⟩ := vals1 r
  refine call_list_str (hn := hz) (I.ok.hd hc) x t fun h' tk acc' c' kp e it => ?_
  have hl : (x.cps.toList.map fun c => V.str ⟨#[c]⟩).length ≤ sizeLine := by rw [List.length_map, Array.length_toList]; exact hz
  refine ⟨.ref s.heap.objs.size, upd H s.heap.objs.size (.lst (x.cps.toList.map fun c => V.str ⟨#[c]⟩)), I.laid (o := .lst (x.cps.toList.map fun c => V.str ⟨#[c]⟩)) (fun b o e => kp b o e) (Nat.le_refl _) ⟨hl, acc'.toList, c', ?_, by simpa using e⟩, rfl, q _ (I.hok.fresh (Nat.le_refl _))⟩
  refine vals_of_at (by rw [List.length_map, Array.length_toList, Array.length_toList]; exact it.1.symm) fun j y u h1 h2 => ?_
  obtain ⟨cc, t', hc1, hc2⟩ := it.2 j u (by rw [← Array.getElem?_toList]; exact h2)
  rw [List.getElem?_map, Array.getElem?_toList, hc1] at h1
  cases h1
  rw [hc2]
  exact ⟨_, rfl⟩
def rListM (K : PySem.W.Frag) : List V → Hp → VK → Prop := fun xs H Q => (∃ p ys, xs = [.ref p] ∧ (SqL K H p ys ∨ SqT K H p ys) ∧ ∀ l, H l = none → Q (.ref l) (upd H l (.lst ys))) ∨ ∃ x : Str, xs = [.str x] ∧ x.length ≤ sizeLine ∧ ∀ p, H p = none → Q (.ref p) (upd H p (.lst (x.cps.toList.map fun c => V.str ⟨#[c]⟩)))
theorem reps_signs : ∀ l : List Nat, Reps Z.W F μ (l.map fun c => V.str ⟨#[c]⟩) (l.map fun c => D.str ⟨#[c]⟩)
  | [] => .nil
  | _ :: l => .cons (.str _) (reps_signs l)
theorem bs_list : BiS Z (biD .list) (rListM Z.W.K) := by
  intro F μ S H vs ds d Q g rs e q
  simp only [biD] at e
  split at e
  · split at e
    · rename_i hz
      cases e
      cases rs with
      | cons r1 r2 =>
        cases r2
        cases r1
        refine .inr ⟨_, rfl, hz, fun p hp => ?_⟩
        obtain ⟨g', ex, eq⟩ := g.frz hp (.lst _)
        exact q _ _ _ ex g' (.lst eq (reps_signs _))
    · cases e
  · cases rs with
    | cons r1 r2 =>
      cases r2
      obtain ⟨xs, e1, e2⟩ := map_some' e
      subst e2
      obtain ⟨a, vs, rfl, ha, rs⟩ := lsOf_rep g r1 e1
      refine .inl ⟨a, vs, rfl, .inl (SqL.of ha), fun p hp => ?_⟩
      obtain ⟨g', ex, eq⟩ := g.frz hp (.lst vs)
      exact q _ _ _ ex g' (.lst eq (rs.mono ex (pre_refl _)))
  · cases e
theorem me_list' (T : Std Z X kk) (hm : X.mg "list" = none) (ha : MA Z X [e] ms) (hg : Gl X "list" := by rfl) (he : starEach [e] X.env = (false, eval e X.env) :: starEach [] X.env := by rfl) : ME Z X (.Call (.Name "list" p) [e] [] pos) (.bi .list ms) :=
  me_bt (by rw [T.K]; exact bs_list) (call_list_of.or (call_list_s T.calm)) hm hg (by decide +kernel) ha (he := he)
theorem bs_tuple : BiS Z (biD .tuple) (fun xs H Q => ∃ p ys, xs = [.ref p] ∧ ((SqL Z.W.K H p ys ∧ ∀ l, H l = none → Q (.ref l) (upd H l (.tup ys))) ∨ (SqT Z.W.K H p ys ∧ Q (.ref p) H))) := by
  intro F μ S H vs ds d Q g rs e q
  simp only [biD] at e
  split at e
  · cases rs with
    | cons r1 r2 =>
      cases r2
      obtain ⟨xs, e1, e2⟩ := map_some' e
      subst e2
      obtain ⟨a, vs, rfl, ha, rs⟩ := lsOf_rep g r1 e1
      refine ⟨a, vs, rfl, .inl ⟨SqL.of ha, fun p hp => ?_⟩⟩
      obtain ⟨g', ex, eq⟩ := g.frz hp (.tup vs)
      exact q _ _ _ ex g' (.tup (SqT.of eq) (rs.mono ex (pre_refl _)))
  · cases e
theorem me_tuple' (T : Std Z X kk) (hm : X.mg "tuple" = none) (ha : MA Z X [e] ms) (hg : Gl X "tuple" := by rfl) (he : starEach [e] X.env = (false, eval e X.env) :: starEach [] X.env := by rfl) : ME Z X (.Call (.Name "tuple" p) [e] [] pos) (.bi .tuple ms) :=
  me_bt (by rw [T.K]; exact bs_tuple) call_tuple_of hm hg (by decide +kernel) ha (he := he)

/-! sorted -/
theorem ltCps_eq (a b : List Nat) : Spec.ltCps a b = decide (a < b) := PyProof.Rows.ltCps_eq a b
theorem leS_iff (a b : Str) : leS a b = true ↔ a.cps.toList ≤ b.cps.toList := by
  unfold leS
  rw [ltCps_eq]
  simp [List.not_lt]
theorem str_ext {a b : Str} (h : a.cps.toList = b.cps.toList) : a = b := by
  obtain ⟨x⟩ := a
  obtain ⟨y⟩ := b
  have : x = y := Array.ext' h
  rw [this]
theorem leS_antisymm {a b : Str} (h1 : leS a b = true) (h2 : leS b a = true) : a = b := str_ext (List.le_antisymm ((leS_iff a b).mp h1) ((leS_iff b a).mp h2))
theorem leS_trans {a b c : Str} (h1 : leS a b = true) (h2 : leS b c = true) : leS a c = true := (leS_iff a c).mpr (List.le_trans ((leS_iff a b).mp h1) ((leS_iff b c).mp h2))
theorem leS_total (a b : Str) : leS a b = true ∨ leS b a = true := by
  rw [leS_iff, leS_iff]
  exact List.le_total _ _
theorem sortedS_pw : ∀ (l : List Str), PyProof.Rows.sortedS l = true → l.Pairwise (fun a b => leS a b = true)
  | [], _ => .nil
  | [x], _ => .cons (fun _ h => by cases h) .nil
  | x :: y :: r, h => by
    have h' : (!Spec.ltCps y.cps.toList x.cps.toList && PyProof.Rows.risingS y r) = true := h
    obtain ⟨h1, h2⟩ := Bool.and_eq_true_iff.mp h'
    have ih := sortedS_pw (y :: r) h2
    refine .cons (fun z hz => ?_) ih
    rcases List.mem_cons.mp hz with rfl | hz
    · exact h1
    · exact leS_trans h1 ((List.pairwise_cons.mp ih).1 z hz)
theorem insS_perm (x : Str) : ∀ l : List Str, (insS x l).Perm (x :: l)
  | [] => .refl _
  | y :: ys => by
    unfold insS
    split
    · exact .refl _
    · exact ((insS_perm x ys).cons y).trans (.swap x y ys)
theorem sortS_perm : ∀ l : List Str, (sortS l).Perm l
  | [] => .refl _
  | x :: xs => (insS_perm x _).trans ((sortS_perm xs).cons x)
theorem insS_pw (x : Str) : ∀ l : List Str, l.Pairwise (fun a b => leS a b = true) → (insS x l).Pairwise (fun a b => leS a b = true)
  | [], _ => .cons (fun _ h => by cases h) .nil
  | y :: ys, h => by
    obtain ⟨h1, h2⟩ := List.pairwise_cons.mp h
    unfold insS
    split
    · rename_i hxy
      refine .cons (fun z hz => ?_) h
      rcases List.mem_cons.mp hz with rfl | hz
      · exact hxy
      · exact leS_trans hxy (h1 z hz)
    · rename_i hxy
      refine .cons (fun z hz => ?_) (insS_pw x ys h2)
      rcases List.mem_cons.mp ((insS_perm x ys).mem_iff.mp hz) with rfl | hz
      · exact (leS_total _ _).resolve_right hxy
      · exact h1 z hz
theorem sortS_pw : ∀ l : List Str, (sortS l).Pairwise (fun a b => leS a b = true)
  | [] => .nil
  | x :: xs => insS_pw x _ (sortS_pw xs)
theorem sorted_one : ∀ {l l' : List Str}, l.Perm l' → l.Pairwise (fun a b => leS a b = true) → l'.Pairwise (fun a b => leS a b = true) → l = l'
  | [], l', p, _, _ => by rw [List.nil_perm.mp p]
  | x :: xs, [], p, _, _ => by cases List.perm_nil.mp p
  | x :: xs, y :: ys, p, h, h' => by
    obtain ⟨h1, h2⟩ := List.pairwise_cons.mp h
    obtain ⟨h3, h4⟩ := List.pairwise_cons.mp h'
    have e : x = y := by
      have hx : x ∈ y :: ys := p.mem_iff.mp (List.mem_cons_self ..)
      have hy : y ∈ x :: xs := p.mem_iff.mpr (List.mem_cons_self ..)
      rcases List.mem_cons.mp hx with e | hx
      · exact e
      · rcases List.mem_cons.mp hy with e | hy
        · exact e.symm
        · exact leS_antisymm (h1 y hy) (h3 x hx)
    subst e
    rw [sorted_one ((List.perm_cons x).mp p) h2 h4]
def rSortM (K : PySem.W.Frag) : List V → Hp → VK → Prop := fun xs H Q => rSortedS K xs H Q ∨ ∃ (a : Addr) (kvs : List (Key × V)) (ks : List Str), xs = [.ref a] ∧ Rd H a (.dK kvs) ∧ kvs.map (·.1) = ks.map Sum.inr ∧ ks.length < 64 ∧
    ∀ ys p, ys.Perm ks → PyProof.Rows.sortedS ys = true → H p = none → Q (.ref p) (upd H p (.lst (ys.map V.str)))
theorem reps_strs : ∀ l : List Str, Reps Z.W F μ (l.map V.str) (l.map D.str)
  | [] => .nil
  | _ :: l => .cons (.str _) (reps_strs l)
theorem keyStr_eq : ∀ {ks : List Key} {ss : List Str}, keyStr ks = some ss → ks = ss.map Sum.inr
  | [], _, h => by cases h; rfl
  | .inl _ :: _, _, h => by cases h
  | .inr b :: r, _, h => by
    obtain ⟨s, e1, e2⟩ := map_some' (show (keyStr r).map _ = some _ from h)
    subst e2
    rw [keyStr_eq e1]; rfl
theorem bs_sorted : BiS Z (biD .sorted) (rSortM Z.W.K) := by
  intro F μ S H vs ds d Q g rs e q
  simp only [biD] at e
  split at e
  · cases rs with
    | cons r1 r2 =>
      cases r2
      rename_i x v
      obtain ⟨ss, e1, e⟩ := bind_some' e
      split at e
      · rename_i h64
        cases e
        have fin : ∀ (ys : List Str) (p : Addr), ys.Perm ss → PyProof.Rows.sortedS ys = true → H p = none → Q (.ref p) (upd H p (.lst (ys.map V.str))) := fun ys p hp hs hn => by
          have ey := sorted_one (hp.trans (sortS_perm ss).symm) (sortedS_pw _ hs) (sortS_pw ss)
          subst ey
          obtain ⟨g', ex, eq⟩ := g.frz hn (.lst ((sortS ss).map V.str))
          exact q _ _ _ ex g' (.lst eq (reps_strs _))
        have tab : ∀ {a : Addr} {ks : List Key} {vs : List V}, v = .ref a → Rd H a (.dK (ks.zip vs)) → ks.length = vs.length → keyStr ks = some ss → rSortM Z.W.K [v] H Q := fun {a ks vs} ev hd hl hk => by
          refine .inr ⟨a, _, ss, by rw [ev], hd, ?_, h64, fin⟩
          rw [List.map_fst_zip (by omega)]
          exact keyStr_eq hk
        have lst : ∀ {a : Addr} {xs : List D} {vs : List V}, v = .ref a → H a = some (.lst vs) → Reps Z.W F μ vs xs → allStr xs = some ss → rSortM Z.W.K [v] H Q := fun {a xs vs} ev hd hl hk => by
          have ek := allStr_rep hl hk
          subst ek
          exact .inl ⟨a, ss, by rw [ev], SqL.of hd, h64, fin⟩
        unfold sortedD at e1
        cases x <;> try (cases e1; done)
        · cases r1 with
          | lst hs rs => exact lst rfl (g.ex _ _ hs) rs e1
        · cases r1 with
          | dct hd hl rs => exact tab rfl (Evl.ex_rd g.ex hd) hl e1
        · rename_i n
          have hv : val S (.loc n) = (match S[n]? with
            | some (.lst xs) => .lst xs
            | some (.dct kvs) => .dct (kvs.map (·.1)) (kvs.map (·.2))
            | _ => .loc n) := rfl
          rw [hv] at e1
          cases e2 : S[n]? with
          | none => rw [e2] at e1; cases e1
          | some c =>
            rw [e2] at e1
            obtain ⟨a, rfl, _, _, hc⟩ := g.loc r1 e2
            cases c with
            | lst xs => obtain ⟨vs, h1, rs⟩ := hc; exact lst rfl h1 rs e1
            | dct kvs => obtain ⟨vs, h1, rs⟩ := hc; exact tab rfl (.inl h1) (by rw [rs.length, List.length_map, List.length_map]) e1
            | obj c fs => cases e1
      · cases e
  · cases e
theorem me_sorted (T : Std Z X kk) (hm : X.mg "sorted" = none) (ha : MA Z X [e] ms) (hg : Gl X "sorted" := by rfl) (he : starEach [e] X.env = (false, eval e X.env) :: starEach [] X.env := by rfl) : ME Z X (.Call (.Name "sorted" p) [e] [] pos) (.bi .sorted ms) :=
  me_bi (by rw [T.K]; exact bs_sorted) (cr_sortedS.or (call_sortedD T.calm)) hm hg (by decide +kernel) ha (he := he)
end
end Fw

set_option Elab.async false
set_option linter.all false
set_option maxRecDepth 100000
/-! FwI: isinstance, methods of built-in types, calls of the text's own defs. -/
namespace Fw
open PySem L2
open Evl (Ex)
section
variable {Z : Sd} {X : Cx} {e a b c o i : Expr} {rest es : List Expr} {m ma mb mc mo mi : E} {ms : List E} {pos apos cpos p : Pos} {F : Hp} {μ : List Addr} {S : Sto} {H : Hp} {kk : Nat}

/-! ### isinstance(x, T), T a built-in type -/
theorem isiTab_ok : ∀ p ∈ isiTab, kitB p.1.1 p.1.2 = some p.2 := by decide +kernel
theorem isiT_kit {t n : String} {b : Bool} (h : isiT t n = some b) : kitB t n = some b := by
  unfold isiT at h
  obtain ⟨p, e1, e2⟩ := map_some' h
  have h1 := List.mem_of_find?_eq_some e1
  have h2 := List.find?_some e1
  have h3 : p.1 = (t, n) := of_decide_eq_true h2
  have h4 := isiTab_ok p h1
  rw [h3] at h4
  rw [← e2]
  exact h4
theorem isin_rd {v : V} {x : D} {n : String} {bb : Bool} (g : Ag Z.W F μ S H) (r : Rep Z.W F μ v x) (h : isinD S n x = some bb) : ∃ t, TyX Z.W.K H v (.type t) ∧ isiT t n = some bb := by
  unfold isinD at h
  split at h
  · rename_i t et
    split at h
    · cases h
    · rename_i hd
      refine ⟨t, ?_, h⟩
      cases x <;> try (cases et; done)
      · cases r; cases et; exact .base .non
      · cases r; cases et; exact .base (.bl _)
      · cases r; cases et; exact .base (.int _)
      · cases r; cases et; exact .base (.str _)
      · cases et
        cases r with
        | tup hs rs =>
          rcases hs with (hs | ⟨ob, hs⟩) | ⟨ob, its, nn, hk, hc, _⟩
          · exact .base (.tup (g.ex _ _ hs))
          · exact .fTuple (g.ex _ _ hs)
          · exact .kTuple hk hc
      · cases et
        cases r with
        | lst hs rs => exact .base (.lst (g.ex _ _ hs))
      · cases et
        exact absurd rfl hd
      · rename_i k
        have hv : val S (.loc k) = (match S[k]? with
          | some (.lst xs) => .lst xs
          | some (.dct kvs) => .dct (kvs.map (·.1)) (kvs.map (·.2))
          | _ => .loc k) := rfl
        rw [hv] at et
        cases e2 : S[k]? with
        | none => rw [e2] at et; cases et
        | some c =>
          rw [e2] at et
          obtain ⟨a, rfl, _, _, hc⟩ := g.loc r e2
          cases c with
          | lst xs => obtain ⟨vs, h1, rs⟩ := hc; cases et; exact .base (.lst h1)
          | dct kvs => cases et; exact absurd rfl hd
          | obj c fs => cases et
  · cases h
theorem me_isi {n : Str} {T : String} {p2 : Pos} (St : Std Z X kk) (hm : X.mg "isinstance" = none) (hmT : X.mg n = none) (hgT : Gl X n) (hvT : bootBuiltins n = some (.type T)) (he : ME Z X e m) (hg : Gl X "isinstance" := by rfl) (hn : n ≠ "__name__" := by decide) (hdb : (n == ("__debug__" : Str)) = false := by decide)
    (hse : starEach [e, .Name n p2] X.env = (false, eval e X.env) :: starEach [.Name n p2] X.env := by rfl) (hse2 : starEach [.Name n p2] X.env = (false, eval (.Name n p2) X.env) :: starEach [] X.env := by rfl) (hpl : (backTo pos (starEach [.Name n p2] X.env)).any (·.1) = false := by rfl) :
    ME Z X (.Call (.Name "isinstance" p) [e, .Name n p2] [] pos) (.isi m T) := by
  refine PE.imp (pe_callB call_isi hg hm (by decide +kernel) (pa_cons he (pa_cons (pe_bltn (v := .ty T) hgT hmT hvT rfl hn hdb) pa_nil hse2) hse) (he := hse) (hpl := hpl)) fun σ H Q h => ?_
  obtain ⟨F, μ, S, ρ, d, S', g, rr, ev, q⟩ := h
  unfold evE at ev
  obtain ⟨x, e1, ev⟩ := bind_some' ev
  obtain ⟨bb, e2, ev⟩ := map_some' ev
  cases ev
  refine ⟨F, μ, S, ρ, x.1, x.2, g, rr, e1, fun v F1 μ1 H1 x1 p1 g1 r1 => ?_⟩
  obtain ⟨t, h1, h2⟩ := isin_rd g1 r1 e2
  rw [← St.K] at h1
  exact ⟨v, .ty T, .type t, .type T, bb, rfl, .ty T, h1, kit_ty (isiT_kit h2), q _ F1 μ1 H1 x1 p1 g1 (.bl bb)⟩

/-! ### methods of built-in types -/
def tyN : Ty → String
  | .list => "list"
  | .str => "str"
  | .dict => "dict"
def BmS (Z : Sd) (f : D → List D → Sto → Option (D × Sto)) (r : V → List V → Hp → VK → Prop) : Prop := ∀ F μ S H v vs x ds d S' (Q : VK), Ag Z.W F μ S H → Rep Z.W F μ v x → Reps Z.W F μ vs ds → f x ds S = some (d, S') →
  (∀ v' F' H', Ex F F' → Ag Z.W F' μ S' H' → Rep Z.W F' μ v' d → Q v' H') → r v vs H Q
theorem chk_ty {T : Ty} {x : D} {v : V} (g : Ag Z.W F μ S H) (r : Rep Z.W F μ v x) (h : chkTy T S x = true) : tyV Z.W.K (tyN T) v H := by
  unfold chkTy at h
  split at h
  · cases r; rfl
  · cases r with
    | lst hs rs => exact .inl ⟨rfl, _, SqL.of (g.ex _ _ hs)⟩
  · split at h
    · rename_i e
      obtain ⟨a, rfl, _, _, vs, h1, rs⟩ := g.loc r e
      exact .inl ⟨rfl, _, SqL.of h1⟩
    · cases h
  · split at h
    · rename_i e
      obtain ⟨a, rfl, _, _, vs, h1, rs⟩ := g.loc r e
      exact .inr (.inr (.inl ⟨rfl, .inl ⟨_, h1⟩⟩))
    · cases h
  · cases h
section
variable {T : Ty} {bm : Bm} {r : V → List V → Hp → VK → Prop} {id : String} {name : Str}
theorem rdBm {σ : L2.St} {Q : VK} (hs : BmS Z (bmD bm) r) (h : rdE Z (.bm T bm mo ms) σ H Q) : tBM Z.W.K (tyN T) r (rdE Z mo) (rdEs Z ms) σ H Q := by
  obtain ⟨F, μ, S, ρ, d, S', g, rr, ev, q⟩ := h
  unfold evE at ev
  obtain ⟨x, e1, ev⟩ := bind_some' ev
  split at ev
  · rename_i hc
    obtain ⟨y, e2, ev⟩ := bind_some' ev
    refine ⟨F, μ, S, ρ, x.1, x.2, g, rr, e1, fun v F1 μ1 H1 x1 p1 g1 r1 => ⟨chk_ty g1 r1 hc, ?_⟩⟩
    exact ⟨F1, μ1, x.2, ρ, y.1, y.2, g1, rr.mono x1 p1, e2, fun vs F2 μ2 H2 x2 p2 g2 r2 => hs F2 μ2 y.2 H2 v vs x.1 y.1 d S' Q g2 (r1.mono x2 p2) r2 ev fun v' F' H' x3 g3 r3 => q v' F' μ2 H' ((x1.trans x2).trans x3) (p1.trans p2) g3 r3⟩
  · cases ev
theorem me_bm (St : Std Z X kk) (hs : BmS Z (bmD bm) r) (pa : PlainAttrs (tyN T)) (slot : Slot (tyN T) name id) (hty : typeOf (.builtin id) = pure (.type "method_descriptor")) (hm : MtR X id r) (ho : ME Z X o mo) (ha : MA Z X (e :: es) ms)
    (hbase : attributeBase o name X.env (eval o X.env) = eval o X.env)
    (hfew : ((backTo cpos (starEach (e :: es) X.env)).all (fun x => !x.1) && (backToKw cpos (keywordEach [] X.env)).all (fun x => x.1.isSome)
      && decide ((e :: es).length + ([] : List Keyword).length + (if ([] : List Keyword).isEmpty then 0 else 1) < 30)) = true)
    (hline : (apos.endLine == cpos.line) = true) (hse : starEach (e :: es) X.env = (false, eval e X.env) :: starEach es X.env) (hplain : (backTo cpos (starEach es X.env)).any (·.1) = false) :
    ME Z X (.Call (.Attribute o name apos) (e :: es) [] cpos) (.bm T bm mo ms) := by
  refine PE.imp (pe_bm pa slot hty hm ho ha hbase hfew hline hse hplain) fun σ H Q h => ?_
  rw [St.K]
  exact rdBm hs h
theorem me_bm0 (St : Std Z X kk) (hs : BmS Z (bmD bm) r) (pa : PlainAttrs (tyN T)) (slot : Slot (tyN T) name id) (hty : typeOf (.builtin id) = pure (.type "method_descriptor")) (hm : MtR X id r) (ho : ME Z X o mo)
    (hbase : attributeBase o name X.env (eval o X.env) = eval o X.env) (hline : (apos.endLine == cpos.line) = true) :
    ME Z X (.Call (.Attribute o name apos) [] [] cpos) (.bm T bm mo []) := by
  refine PE.imp (pe_bm0 pa slot hty hm ho hbase hline) fun σ H Q h => ?_
  rw [St.K]
  obtain ⟨F, μ, S, ρ, x, S1, g, rr, e1, k⟩ := rdBm hs h
  refine ⟨F, μ, S, ρ, x, S1, g, rr, e1, fun v F1 μ1 H1 x1 p1 g1 r1 => ?_⟩
  obtain ⟨h1, F2, μ2, S2, ρ2, ds, S3, g2, rr2, e2, k2⟩ := k v F1 μ1 H1 x1 p1 g1 r1
  unfold evEs at e2
  cases e2
  exact ⟨h1, k2 [] F2 μ2 H1 (Ex.refl F2) (pre_refl μ2) g2 .nil⟩
end
theorem ms_append : BmS Z (bmD .append) rAppend := by
  intro F μ S H v vs x ds d S' Q g rv rs e q
  simp only [bmD] at e
  split at e
  · split at e
    · rename_i n y _ xs e1
      split at e
      · rename_i hz
        cases e
        cases rs with
        | cons r1 r2 =>
          cases r2
          obtain ⟨a, rfl, hm, _, ws, h1, rs⟩ := g.loc rv e1
          refine ⟨a, ws, _, rfl, rfl, h1, by rw [rs.length]; exact hz, ?_⟩
          exact q _ F _ (Ex.refl F) (g.set hm e1 ⟨_, upd_same, rs.append (.one r1)⟩) .non
      · cases e
    · cases e
  · cases e
theorem ms_extend : BmS Z (bmD .extend) rExtend := by
  intro F μ S H v vs x ds d S' Q g rv rs e q
  simp only [bmD] at e
  split at e
  · split at e
    · rename_i n y _ _ xs ys e1 e2
      split at e
      · rename_i hz
        cases e
        cases rs with
        | cons r1 r2 =>
          cases r2
          obtain ⟨a, rfl, hm, _, ws, h1, rs⟩ := g.loc rv e1
          obtain ⟨b, zs, rfl, h2, rs2⟩ := lsOf_rep g r1 e2
          refine ⟨a, b, ws, zs, rfl, rfl, h1, h2, by rw [rs.length, rs2.length]; exact hz, ?_⟩
          exact q _ F _ (Ex.refl F) (g.set hm e1 ⟨_, upd_same, rs.append rs2⟩) .non
      · cases e
    · cases e
  · cases e
theorem ms_pop : BmS Z (bmD .pop) rPop := by
  intro F μ S H v vs x ds d S' Q g rv rs e q
  simp only [bmD] at e
  split at e
  · split at e
    · rename_i n _ xs e1
      obtain ⟨y, e2, e3⟩ := map_some' e
      cases e3
      cases rs
      obtain ⟨a, rfl, hm, _, ws, h1, rs⟩ := g.loc rv e1
      obtain ⟨w, h2, h3⟩ := rs.get e2
      refine ⟨a, ws, w, rfl, rfl, h1, by rw [rs.length]; exact h2, ?_⟩
      exact q _ F _ (Ex.refl F) (g.set hm e1 ⟨_, upd_same, rs.dropLast⟩) h3
    · cases e
  · cases e
theorem ms_reverse : BmS Z (bmD .reverse) rReverse := by
  intro F μ S H v vs x ds d S' Q g rv rs e q
  simp only [bmD] at e
  split at e
  · split at e
    · rename_i n _ xs e1
      cases e
      cases rs
      obtain ⟨a, rfl, hm, _, ws, h1, rs⟩ := g.loc rv e1
      refine ⟨a, ws, rfl, rfl, h1, ?_⟩
      exact q _ F _ (Ex.refl F) (g.set hm e1 ⟨_, upd_same, rs.reverse⟩) .non
    · cases e
  · cases e
theorem ms_count : BmS Z (bmD .count) (fun x xs H Q => ∃ a b, x = .str a ∧ xs = [.str b] ∧ Q (.int (Txt.count a b)) H) := by
  intro F μ S H v vs x ds d S' Q g rv rs e q
  simp only [bmD] at e
  split at e
  · cases e
    cases rs with
    | cons r1 r2 =>
      cases r2
      cases rv
      cases r1
      exact ⟨_, _, rfl, rfl, q _ F H (Ex.refl F) g (.int _)⟩
  · cases e
theorem ms_join : BmS Z (bmD .join) (fun x xs H Q => ∃ a p, ∃ ys : List Str, x = .str a ∧ xs = [.ref p] ∧ (SqL Z.W.K H p (ys.map V.str) ∨ SqT Z.W.K H p (ys.map V.str)) ∧
    (ys.map (·.length)).sum + ys.length * a.length ≤ 16777216 ∧ Q (.str (Txt.join a ys)) H) := by
  intro F μ S H v vs x ds d S' Q g rv rs e q
  simp only [bmD] at e
  split at e
  · cases rs with
    | cons r1 r2 =>
      cases r2
      cases rv
      obtain ⟨xs, e1, e⟩ := bind_some' e
      obtain ⟨ss, e2, e⟩ := bind_some' e
      split at e
      · rename_i hz
        cases e
        obtain ⟨a, ws, rfl, h1, rs⟩ := lsOf_rep g r1 e1
        have ek := allStr_rep rs e2
        subst ek
        exact ⟨_, a, ss, rfl, rfl, .inl (SqL.of h1), hz, q _ F H (Ex.refl F) g (.str _)⟩
      · cases e
  · cases e
theorem me_append (St : Std Z X kk) (ho : ME Z X o mo) (ha : MA Z X [e] ms) (hbase : attributeBase o "append" X.env (eval o X.env) = eval o X.env := by rfl)
    (hfew : ((backTo cpos (starEach [e] X.env)).all (fun x => !x.1) && (backToKw cpos (keywordEach [] X.env)).all (fun x => x.1.isSome) && decide ([e].length + ([] : List Keyword).length + (if ([] : List Keyword).isEmpty then 0 else 1) < 30)) = true := by rfl)
    (hline : (apos.endLine == cpos.line) = true := by rfl) (hse : starEach [e] X.env = (false, eval e X.env) :: starEach [] X.env := by rfl) : ME Z X (.Call (.Attribute o "append" apos) [e] [] cpos) (.bm .list .append mo ms) :=
  me_bm St ms_append PySem.F.plainAttrs_list PySem.F.slot_list_append PySem.F.type_list_append mt_append ho ha hbase hfew hline hse rfl
theorem me_extend (St : Std Z X kk) (ho : ME Z X o mo) (ha : MA Z X [e] ms) (hbase : attributeBase o "extend" X.env (eval o X.env) = eval o X.env := by rfl)
    (hfew : ((backTo cpos (starEach [e] X.env)).all (fun x => !x.1) && (backToKw cpos (keywordEach [] X.env)).all (fun x => x.1.isSome) && decide ([e].length + ([] : List Keyword).length + (if ([] : List Keyword).isEmpty then 0 else 1) < 30)) = true := by rfl)
    (hline : (apos.endLine == cpos.line) = true := by rfl) (hse : starEach [e] X.env = (false, eval e X.env) :: starEach [] X.env := by rfl) : ME Z X (.Call (.Attribute o "extend" apos) [e] [] cpos) (.bm .list .extend mo ms) :=
  me_bm St ms_extend PySem.F.plainAttrs_list PySem.F.slot_list_extend PySem.F.type_list_extend mt_extend ho ha hbase hfew hline hse rfl
theorem me_pop (St : Std Z X kk) (ho : ME Z X o mo) (hbase : attributeBase o "pop" X.env (eval o X.env) = eval o X.env := by rfl) (hline : (apos.endLine == cpos.line) = true := by rfl) : ME Z X (.Call (.Attribute o "pop" apos) [] [] cpos) (.bm .list .pop mo []) :=
  me_bm0 St ms_pop PySem.F.plainAttrs_list PySem.F.slot_list_pop PySem.F.type_list_pop mt_pop ho hbase hline
theorem me_reverse (St : Std Z X kk) (ho : ME Z X o mo) (hbase : attributeBase o "reverse" X.env (eval o X.env) = eval o X.env := by rfl) (hline : (apos.endLine == cpos.line) = true := by rfl) : ME Z X (.Call (.Attribute o "reverse" apos) [] [] cpos) (.bm .list .reverse mo []) :=
  me_bm0 St ms_reverse PySem.F.plainAttrs_list PySem.F.slot_list_reverse PySem.F.type_list_reverse mt_reverse ho hbase hline
theorem me_count (St : Std Z X kk) (ho : ME Z X o mo) (ha : MA Z X [e] ms) (hbase : attributeBase o "count" X.env (eval o X.env) = eval o X.env := by rfl)
    (hfew : ((backTo cpos (starEach [e] X.env)).all (fun x => !x.1) && (backToKw cpos (keywordEach [] X.env)).all (fun x => x.1.isSome) && decide ([e].length + ([] : List Keyword).length + (if ([] : List Keyword).isEmpty then 0 else 1) < 30)) = true := by rfl)
    (hline : (apos.endLine == cpos.line) = true := by rfl) (hse : starEach [e] X.env = (false, eval e X.env) :: starEach [] X.env := by rfl) : ME Z X (.Call (.Attribute o "count" apos) [e] [] cpos) (.bm .str .count mo ms) :=
  me_bm St ms_count PySem.F.plainAttrs_str PySem.F.slot_str_count PySem.F.type_str_count mt_count ho ha hbase hfew hline hse rfl
theorem me_join (St : Std Z X kk) (ho : ME Z X o mo) (ha : MA Z X [e] ms) (hbase : attributeBase o "join" X.env (eval o X.env) = eval o X.env := by rfl)
    (hfew : ((backTo cpos (starEach [e] X.env)).all (fun x => !x.1) && (backToKw cpos (keywordEach [] X.env)).all (fun x => x.1.isSome) && decide ([e].length + ([] : List Keyword).length + (if ([] : List Keyword).isEmpty then 0 else 1) < 30)) = true := by rfl)
    (hline : (apos.endLine == cpos.line) = true := by rfl) (hse : starEach [e] X.env = (false, eval e X.env) :: starEach [] X.env := by rfl) : ME Z X (.Call (.Attribute o "join" apos) [e] [] cpos) (.bm .str .join mo ms) :=
  me_bm St (by intro F μ S H v vs x ds d S' Q g rv rs e q; rw [St.K]; exact ms_join F μ S H v vs x ds d S' Q g rv rs e q) PySem.F.plainAttrs_str PySem.F.slot_str_join PySem.F.type_str_join mt_join ho ha hbase hfew hline hse rfl

/-! ### calls of defs -/
/-- what a def promises: what the evaluator says -/
def spC (W : Wd) (c : CallT) (g : Str) : Sp := fun vs H Q _ => ∃ F μ S args d S', Ag W F μ S H ∧ Reps W F μ vs args ∧ c g args S = some (d, S') ∧
  ∀ v F' μ' H', Ex F F' → μ <+: μ' → Ag W F' μ' S' H' → Rep W F' μ' v d → Q v H'
/-- a def of the text, called by the name x with the defaults ds -/
structure Cal (P : Program) (w : World) (K : PySem.W.Frag) (mg : Str → Option Value) (base : Heap) (W : Wd) (c : CallT) (k : Nat) (x g : Str) (ds : List D) : Prop where
  ex : ∃ (f : Addr) (fd : FuncData) (ps : List Str) (dvs : List V) (dus : List Value), FnOk P w K mg base CX0 k f fd ps (spC W c g) ∧ PySem.W.keepIn K (.ref f) = true ∧ mg x = some (.ref f) ∧ Binds K fd ps dus ∧ Vals dvs dus ∧ ∀ F μ, Reps W F μ dvs ds
theorem rdC {σ : L2.St} {Q : VK} {g : Str} {ds : List D} {dvs : List V} (hr : ∀ F μ, Reps Z.W F μ dvs ds) (h : rdE Z (.call g ms ds) σ H Q) : tCall (spC Z.W Z.C.call g) dvs E0 (rdEs Z ms) σ H Q := by
  obtain ⟨F, μ, S, ρ, d, S', g, rr, ev, q⟩ := h
  unfold evE at ev
  obtain ⟨x, e1, ev⟩ := bind_some' ev
  refine ⟨F, μ, S, ρ, x.1, x.2, g, rr, e1, fun vs F1 μ1 H1 x1 p1 g1 r1 => ?_⟩
  exact ⟨F1, μ1, x.2, x.1 ++ ds, d, S', g1, r1.append (hr F1 μ1), ev, fun v F' μ' H' x2 p2 g2 r2 => q v F' μ' H' (x1.trans x2) (p1.trans p2) g2 r2⟩
theorem me_call {x g : Str} {ds : List D} (St : Std Z X kk) (C : Cal X.prog X.w X.K X.mg X.base Z.W Z.C.call kk x g ds) (hg : Gl X x) (ha : MA Z X (e :: es) ms) (hdb : (x == ("__debug__" : Str)) = false := by decide)
    (he : starEach (e :: es) X.env = (false, eval e X.env) :: starEach es X.env := by rfl) (hpl : (backTo pos (starEach es X.env)).any (·.1) = false := by rfl) :
    ME Z X (.Call (.Name x p) (e :: es) [] pos) (.call g ms ds) := by
  obtain ⟨f, fd, ps, dvs, dus, F0, hk, hm, hb, hd, hr⟩ := C.ex
  exact PE.imp (pe_call (E := E0) F0 St.hr hg hm hk hb hd pass0 ha hdb he hpl) fun σ H Q h => rdC hr h
theorem me_call0 {x g : Str} {ds : List D} (St : Std Z X kk) (C : Cal X.prog X.w X.K X.mg X.base Z.W Z.C.call kk x g ds) (hg : Gl X x) (hdb : (x == ("__debug__" : Str)) = false := by decide) :
    ME Z X (.Call (.Name x p) [] [] pos) (.call g [] ds) := by
  obtain ⟨f, fd, ps, dvs, dus, F0, hk, hm, hb, hd, hr⟩ := C.ex
  refine PE.imp (pe_call0 (E := E0) F0 St.hr hg hm hk hb hd pass0 hdb) fun σ H Q h => ?_
  obtain ⟨F, μ, S, ρ, ds', S', g, rr, e1, k⟩ := rdC hr h
  unfold evEs at e1
  cases e1
  exact k [] F μ H (Ex.refl F) (pre_refl μ) g .nil
/-! keyword calls -/
def putOrd {α : Type} (dv : D → α) (vs : List α) : List (Nat ⊕ D) → List α
  | [] => []
  | .inl i :: r => match vs[i]? with
    | some v => v :: putOrd dv vs r
    | none => putOrd dv vs r
  | .inr d :: r => dv d :: putOrd dv vs r
/-- a call with keywords: n positional values, then the keywords ks; g, gV put them in the parameters' order, by ord -/
structure CalK (P : Program) (w : World) (K : PySem.W.Frag) (mg : Str → Option Value) (base : Heap) (W : Wd) (c : CallT) (k : Nat) (x g : Str) (n : Nat) (ks : List Str) (ord : List (Nat ⊕ D)) : Prop where
  ex : ∃ (f : Addr) (fd : FuncData) (ps : List Str) (gf : List Value → List Value → List Value) (gV : List V → List V → List V), FnOk P w K mg base CX0 k f fd ps (spC W c g) ∧ PySem.W.keepIn K (.ref f) = true ∧ mg x = some (.ref f) ∧ KBinds K fd ps ks gf gV ∧
    ∀ F μ vs zs as bs ds, as.length = n → Reps W F μ vs as → Reps W F μ zs bs → ordD (as ++ bs) ord = some ds → Reps W F μ (gV vs zs) ds
abbrev MK (Z : Sd) (X : Cx) (kws : List Keyword) (ms : List E) : Prop := PK X kws (rdEs Z ms)
theorem PK.imp {X : Cx} {e : List Keyword} {t t' : TA} (h : PK X e t) (i : ∀ σ H Q, t' σ H Q → t σ H Q) : PK X e t' := ⟨fun pos pins s σ H Q I q => h.run pos pins s σ H Q I (i σ H Q q)⟩
theorem mk_nil : MK Z X [] [] := PK.imp pk_nil fun σ H Q h => by
  obtain ⟨F, μ, S, ρ, ds, S', g, rr, ev, q⟩ := h
  unfold evEs at ev
  cases ev
  exact q [] F μ H (Ex.refl F) (pre_refl μ) g .nil
theorem rd_cons {σ : L2.St} {Q : List V → Hp → Prop} (h : rdEs Z (m :: ms) σ H Q) : tCons (rdE Z m) (rdEs Z ms) σ H Q := by
  obtain ⟨F, μ, S, ρ, ds, S', g, rr, ev, q⟩ := h
  unfold evEs at ev
  obtain ⟨x, e1, ev⟩ := bind_some' ev
  obtain ⟨y, e2, ev⟩ := map_some' ev
  cases ev
  refine ⟨F, μ, S, ρ, x.1, x.2, g, rr, e1, fun v F1 μ1 H1 x1 p1 g1 r1 => ?_⟩
  exact ⟨F1, μ1, x.2, ρ, y.1, y.2, g1, rr.mono x1 p1, e2, fun vs F2 μ2 H2 x2 p2 g2 r2 => q (v :: vs) F2 μ2 H2 (x1.trans x2) (p1.trans p2) g2 (.cons (r1.mono x2 p2) r2)⟩
theorem mk_cons {nm : Option Str} {kpos : Pos} {kws : List Keyword} (ha : ME Z X e m) (hr : MK Z X kws ms) : MK Z X (⟨nm, e, kpos⟩ :: kws) (m :: ms) := PK.imp (pk_cons ha hr) fun σ H Q h => rd_cons h
theorem evEs_append {C : Ctx} : ∀ {as bs : List E} {ρ : Env} {S : Sto} {ds : List D} {S' : Sto}, evEs C (as ++ bs) ρ S = some (ds, S') → ∃ xs S1 ys, evEs C as ρ S = some (xs, S1) ∧ evEs C bs ρ S1 = some (ys, S') ∧ ds = xs ++ ys ∧ xs.length = as.length
  | [], bs, ρ, S, ds, S', h => ⟨[], S, ds, by unfold evEs; rfl, h, rfl, rfl⟩
  | a :: as, bs, ρ, S, ds, S', h => by
    rw [List.cons_append] at h
    unfold evEs at h
    obtain ⟨x, e1, h⟩ := bind_some' h
    obtain ⟨y, e2, h⟩ := map_some' h
    cases h
    obtain ⟨xs, S1, ys, h1, h2, h3, h4⟩ := evEs_append e2
    refine ⟨x.1 :: xs, S1, ys, ?_, h2, by rw [h3]; rfl, by rw [List.length_cons, List.length_cons, h4]⟩
    unfold evEs
    rw [e1, Option.bind_some, h1]
    rfl
theorem rdK {σ : L2.St} {Q : VK} {g : Str} {ord : List (Nat ⊕ D)} {mp mk : List E} {gV : List V → List V → List V} (hr : ∀ F μ vs zs as bs ds, as.length = mp.length → Reps Z.W F μ vs as → Reps Z.W F μ zs bs → ordD (as ++ bs) ord = some ds → Reps Z.W F μ (gV vs zs) ds) (h : rdE Z (.callk g (mp ++ mk) ord) σ H Q) : tCallK (spC Z.W Z.C.call g) gV E0 (rdEs Z mp) (rdEs Z mk) σ H Q := by
  obtain ⟨F, μ, S, ρ, d, S', g, rr, ev, q⟩ := h
  unfold evE at ev
  obtain ⟨x, e1, ev⟩ := bind_some' ev
  obtain ⟨vs, e2, ev⟩ := bind_some' ev
  obtain ⟨xs, S1, ys, h1, h2, h3, h4⟩ := evEs_append e1
  refine ⟨F, μ, S, ρ, xs, S1, g, rr, h1, fun vs F1 μ1 H1 x1 p1 g1 r1 => ?_⟩
  refine ⟨F1, μ1, S1, ρ, ys, x.2, g1, rr.mono x1 p1, h2, fun zs F2 μ2 H2 x2 p2 g2 r2 => ?_⟩
  rw [h3] at e2
  exact ⟨F2, μ2, x.2, _, d, S', g2, hr F2 μ2 vs zs xs ys _ h4 (r1.mono x2 p2) r2 e2, ev, fun v F' μ' H' x3 p3 g3 r3 => q v F' μ' H' ((x1.trans x2).trans x3) ((p1.trans p2).trans p3) g3 r3⟩

/-! ### C(..) -/
structure Mkr (P : Program) (w : World) (K : PySem.W.Frag) (mg : Str → Option Value) (base : Heap) (W : Wd) (c : CallT) (k : Nat) (x : Str) : Prop where
  ex : ∃ (C f : Addr) (fd : FuncData) (ps : List Str), W.ca x = some C ∧ mg x = some (.ref C) ∧ Mk K C f ∧ FnOk P w K mg base CX0 k f fd ps (spC W c (x ++ (".__init__" : Str))) ∧ Binds K fd ps []
theorem Reps.bel : ∀ {vs : List V} {ds : List D}, Reps Z.W F μ vs ds → D.bels μ.length ds = true := by
  intro vs ds r
  exact (Reps.rec (motive_1 := fun v d _ => d.bel μ.length = true) (motive_2 := fun vs ds _ => D.bels μ.length ds = true)
    (by unfold D.bel; rfl) (fun _ => by unfold D.bel; rfl) (fun _ => by unfold D.bel; rfl) (fun _ => by unfold D.bel; rfl) (fun _ _ ih => by unfold D.bel; exact ih) (fun _ _ ih => by unfold D.bel; exact ih) (fun _ _ _ ih => by unfold D.bel; exact ih) (fun _ _ _ _ _ ih => by unfold D.bel; exact ih)
    (fun h => by unfold D.bel; exact decide_eq_true (List.getElem?_eq_some_iff.mp h).1) (fun _ => by unfold D.bel; rfl) (fun _ => by unfold D.bel; rfl) (fun _ => by unfold D.bel; rfl) (by unfold D.bel; intro _; rfl) (fun _ _ => by unfold D.bel; rfl) (fun _ _ => by unfold D.bel; unfold D.bels; rfl) (fun _ _ _ _ _ ih => by unfold D.bel; exact ih) (by unfold D.bels; rfl) (fun _ _ h1 h2 => by unfold D.bels; rw [h1, h2]; rfl) r)

theorem Reps.of_bel {μ' : List Addr} (p : μ' <+: μ) : ∀ {vs : List V} {ds : List D}, Reps Z.W F μ vs ds → D.bels μ'.length ds = true → Reps Z.W F μ' vs ds := by
  intro vs ds r
  have key : ∀ {n : Nat} {a : Addr}, μ[n]? = some a → n < μ'.length → μ'[n]? = some a := fun {n a} h hn => by
    obtain ⟨t, rfl⟩ := p
    rwa [List.getElem?_append_left hn] at h
  exact (Reps.rec (motive_1 := fun v d _ => d.bel μ'.length = true → Rep Z.W F μ' v d) (motive_2 := fun vs ds _ => D.bels μ'.length ds = true → Reps Z.W F μ' vs ds)
    (fun _ => .non) (fun b _ => .bl b) (fun i _ => .int i) (fun x _ => .str x) (fun h _ ih hb => by unfold D.bel at hb; exact .tup h (ih hb)) (fun h _ ih hb => by unfold D.bel at hb; exact .lst h (ih hb)) (fun h l _ ih hb => by unfold D.bel at hb; exact .dct h l (ih hb)) (fun h1 h2 h3 h4 _ ih hb => by unfold D.bel at hb; exact .ins h1 h2 h3 h4 (ih hb))
    (fun h hb => by unfold D.bel at hb; exact .loc (key h (of_decide_eq_true hb))) (fun h _ => .scr h) (fun h _ => .fn h) (fun h _ => .cls h) (fun _ => .ty) (fun h l _ => .fky h l) (fun h k _ => .exn0 h k) (fun h1 h2 h3 h4 _ ih hb => by unfold D.bel at hb; exact .exn1 h1 h2 h3 h4 (ih hb)) (fun _ => .nil) (fun _ _ h1 h2 hb => by
      unfold D.bels at hb
      obtain ⟨b1, b2⟩ := Bool.and_eq_true_iff.mp hb
      exact .cons (h1 b1) (h2 b2)) r)
theorem Rep.of_bel {μ' : List Addr} (p : μ' <+: μ) {v : V} {d : D} (r : Rep Z.W F μ v d) (h : d.bel μ'.length = true) : Rep Z.W F μ' v d := by
  have q := Reps.of_bel p (.one r) (by unfold D.bels; rw [h]; unfold D.bels; rfl)
  cases q with
  | cons q _ => exact q
theorem bels_all (n : Nat) : ∀ l : List D, D.bels n l = l.all fun d => d.bel n
  | [] => by unfold D.bels; rfl
  | x :: xs => by unfold D.bels; rw [bels_all n xs]; rfl
theorem CellOk.bel {a : Addr} {c : Cell} (h : CellOk Z.W F μ H a c) : c.bel μ.length = true := by
  cases c with
  | lst xs => obtain ⟨vs, _, r⟩ := h; exact r.bel
  | dct kvs =>
    obtain ⟨vs, _, r⟩ := h
    have q := r.bel
    rw [bels_all, List.all_map] at q
    exact q
  | obj c fs =>
    obtain ⟨C, dx, vs, _, _, _, r⟩ := h
    have q := r.bel
    rw [bels_all, List.all_map] at q
    exact q
theorem CellOk.of_bel {μ' : List Addr} {a : Addr} {c : Cell} (p : μ' <+: μ) (h : CellOk Z.W F μ H a c) (hb : c.bel μ'.length = true) : CellOk Z.W F μ' H a c := by
  cases c with
  | lst xs => obtain ⟨vs, e, r⟩ := h; exact ⟨vs, e, r.of_bel p hb⟩
  | dct kvs =>
    obtain ⟨vs, e, r⟩ := h
    refine ⟨vs, e, r.of_bel p ?_⟩
    rw [bels_all, List.all_map]
    exact hb
  | obj c fs =>
    obtain ⟨C, dx, vs, k, e, e2, r⟩ := h
    refine ⟨C, dx, vs, k, e, e2, r.of_bel p ?_⟩
    rw [bels_all, List.all_map]
    exact hb
/-- the store cut: the cells that stay speak of no cell that goes -/
theorem Ag.cut (g : Ag Z.W F μ S H) {n : Nat} (hn : n ≤ S.length) (hb : ∀ c ∈ S.take n, c.bel n = true) : Ag Z.W F (μ.take n) (S.take n) H := by
  have hl : (μ.take n).length = n := by rw [List.length_take, g.len]; omega
  refine ⟨g.ex, by rw [List.length_take, List.length_take, g.len], g.nd.sublist (List.take_sublist n μ), fun k a c h1 h2 => ?_, g.sc, g.tb, g.nt⟩
  have hk : k < n := by
    have := (List.getElem?_eq_some_iff.mp h1).1
    omega
  rw [List.getElem?_take_of_lt hk] at h1
  have h2' := h2
  rw [List.getElem?_take_of_lt hk] at h2'
  obtain ⟨q1, q2⟩ := g.cell k a c h1 h2'
  exact ⟨q1, q2.of_bel (List.take_prefix n μ) (by rw [hl]; exact hb c (List.mem_of_getElem? h2))⟩
theorem pre_take {α : Type} {l l' : List α} (p : l <+: l') : l'.take l.length = l := by
  obtain ⟨t, rfl⟩ := p
  exact List.take_left' rfl
/-- .. back to the store as it was -/
theorem Ag.back {F' H' : Hp} {μ' : List Addr} {S' : Sto} (g : Ag Z.W F μ S H) (g' : Ag Z.W F' μ' S' H') (p : μ <+: μ') (h : S'.take S.length = S) : Ag Z.W F' μ S H' := by
  have hn : S.length ≤ S'.length := by
    have := congrArg List.length h
    rw [List.length_take] at this
    omega
  have q := g'.cut hn (fun c hc => by
    rw [h] at hc
    obtain ⟨k, hk⟩ := List.mem_iff_getElem?.mp hc
    obtain ⟨a, _, _, q⟩ := g.at hk
    rw [← g.len]
    exact q.bel)
  rw [h, ← g.len, pre_take p] at q
  exact q
/-- an object that is no cell is known by value from now on -/
theorem Ag.know {a : Addr} {u : HO} (g : Ag Z.W F μ S H) (h : H a = some u) (ha : a ∉ μ) (hu : ∀ ps, u ≠ .tbl ps := by intro _ z; cases z) : Ag Z.W (upd F a u) μ S H ∧ Ex F (upd F a u) := by
  have ex : Ex F (upd F a u) := fun b o e => by
    by_cases hb : b = a
    · subst hb
      have := g.ex b o e
      rw [h] at this; cases this
      exact upd_same
    · rw [upd_ne hb]; exact e
  refine ⟨⟨fun b o e => ?_, g.len, g.nd, fun n b c h1 h2 => ?_, fun a ha => (g.sc a ha).imp fun u hu => Evl.ex_rd ex hu, g.tb, fun b ps z => by
    by_cases hb : b = a
    · subst hb; rw [upd_same] at z; exact hu _ (Option.some.inj z)
    · rw [upd_ne hb] at z; exact g.nt _ _ z⟩, ex⟩
  · by_cases hb : b = a
    · subst hb; rw [upd_same] at e; cases e; exact h
    · rw [upd_ne hb] at e; exact g.ex b o e
  · obtain ⟨q1, q2⟩ := g.cell n b c h1 h2
    have hb : b ≠ a := fun e => ha (e ▸ List.mem_of_getElem? h1)
    exact ⟨by rw [upd_ne hb]; exact q1, q2.mono ex (pre_refl μ) fun _ _ e => e⟩
/-- a fresh dict, locked -/
theorem Ag.lockd {a : Addr} {u : HO} {od : Obj} (g : Ag Z.W F μ S H) (h : H a = some u) (mu : Mut (some u)) (nt : NoTab u) (hF : F a = none) (ha : a ∉ μ) : Ag Z.W (upd F a (.frz od u)) μ S (upd H a (.frz od u)) ∧ Ex F (upd F a (.frz od u)) := by
  have ex : Ex F (upd F a (.frz od u)) := Ex.new hF
  refine ⟨⟨fun b o e => ?_, g.len, g.nd, fun n b c h1 h2 => ?_, fun a ha => (g.sc a ha).imp fun u hu => Evl.ex_rd ex hu, tabs_upd g.tb h nt fun b hb => upd_ne hb, fun b ps z => by
    by_cases hb : b = a
    · subst hb; rw [upd_same] at z; cases z
    · rw [upd_ne hb] at z; exact g.nt _ _ z⟩, ex⟩
  · by_cases hb : b = a
    · subst hb; rw [upd_same] at e ⊢; exact e
    · rw [upd_ne hb] at e ⊢; exact g.ex b o e
  · obtain ⟨q1, q2⟩ := g.cell n b c h1 h2
    have hb : b ≠ a := fun e => ha (e ▸ List.mem_of_getElem? h1)
    refine ⟨by rw [upd_ne hb]; exact q1, ?_⟩
    cases c with
    | lst xs => obtain ⟨vs, e, r⟩ := q2; exact ⟨vs, by rw [upd_ne hb]; exact e, r.mono ex (pre_refl μ)⟩
    | dct kvs => obtain ⟨vs, e, r⟩ := q2; exact ⟨vs, by rw [upd_ne hb]; exact e, r.mono ex (pre_refl μ)⟩
    | obj c fs =>
      obtain ⟨C, dx, vs, k, e, e2, r⟩ := q2
      refine ⟨C, dx, vs, k, by rw [upd_ne hb]; exact e, ?_, r.mono ex (pre_refl μ)⟩
      rw [upd_ne (fun z => by rw [z] at e2; rw [h] at e2; cases e2; exact mu)]
      exact e2
def tFrz (t : TE) : TE := fun σ H Q => t σ H fun v H1 => ∃ d u, H1 d = some u ∧ Mut (some u) ∧ ∀ od, Q v (upd H1 d (.frz od u))
theorem pe_frz {t : TE} (h : PE X e t) : PE X e (tFrz t) := by
  refine ⟨fun pins s σ H Q I hw => ?_⟩
  refine thn (h.run pins s σ _ _ I hw) fun v s1 ⟨x, H1, I1, r, d, u, hd, mu, q⟩ => ?_
  obtain ⟨od, I2⟩ := I1.lock hd mu
  exact ⟨x, _, I2, r, q od⟩
theorem nd_not_pre {μ' : List Addr} {n : Nat} {a : Addr} (p : μ <+: μ') (nd : μ'.Nodup) (h : μ'[n]? = some a) (hn : μ.length ≤ n) : a ∉ μ := fun hm => by
  obtain ⟨j, hj⟩ := List.mem_iff_getElem?.mp hm
  have hl := (List.getElem?_eq_some_iff.mp hj).1
  have hj' := pre_get p hj
  obtain ⟨x1, y1⟩ := List.getElem?_eq_some_iff.mp hj'
  obtain ⟨x2, y2⟩ := List.getElem?_eq_some_iff.mp h
  have := (List.getElem_inj nd).mp (y1.trans y2.symm)
  omega
theorem me_frzk (he : ME Z X e m) : ME Z X e (.frzk m) := by
  refine PE.imp (pe_frz he) fun σ H Q h => ?_
  obtain ⟨F, μ, S, ρ, d, S', g, rr, ev, q⟩ := h
  unfold evE at ev
  obtain ⟨⟨x, S1⟩, e1, ev⟩ := bind_some' ev
  refine ⟨F, μ, S, ρ, x, S1, g, rr, e1, fun v F1 μ1 H1 x1 p1 g1 r1 => ?_⟩
  unfold frzkD at ev
  simp only at ev
  split at ev
  · rename_i n
    split at ev
    · rename_i hc
      split at ev
      · rename_i kvs ek
        cases ev
        obtain ⟨a, rfl, hm, hF, vs, h1, rs⟩ := g1.loc r1 ek
        have gb : Ag Z.W F1 μ S H1 := g.back g1 p1 (by rw [← hc.1]; exact hc.2.2)
        have ha : a ∉ μ := nd_not_pre p1 g1.nd hm (by rw [g.len, hc.1]; exact Nat.le_refl _)
        refine ⟨a, _, h1, trivial, fun od => ?_⟩
        obtain ⟨g2, ex⟩ := gb.lockd (od := od) h1 trivial ⟨fun _ z => (by cases z), fun _ z => (by cases z)⟩ hF ha
        refine q _ _ μ _ (x1.trans ex) (pre_refl μ) g2 (.fky upd_same ?_)
        rw [rs.length, List.length_map, List.length_map]
      · cases ev
    · cases ev
  · cases ev
theorem nd_not_take {l : List Addr} (nd : l.Nodup) {n k : Nat} {a : Addr} (h : l[n]? = some a) (hk : k ≤ n) : a ∉ l.take k := fun hm => by
  obtain ⟨j, hj⟩ := List.mem_iff_getElem?.mp hm
  have hjk : j < k := by
    have := (List.getElem?_eq_some_iff.mp hj).1
    rw [List.length_take] at this
    omega
  rw [List.getElem?_take_of_lt hjk] at hj
  obtain ⟨x1, y1⟩ := List.getElem?_eq_some_iff.mp hj
  obtain ⟨x2, y2⟩ := List.getElem?_eq_some_iff.mp h
  have := (List.getElem_inj nd).mp (y1.trans y2.symm)
  omega
/-- a cell that is cut off, by value -/
theorem Ag.frzObj {F' H' : Hp} {μ' : List Addr} {S' : Sto} {c : Str} {fs : List (Str × D)} {n : Nat} {v : V} (g0 : Ag Z.W F' μ S H') (g' : Ag Z.W F' μ' S' H') (p : μ <+: μ') (hn : μ.length ≤ n) (h : S'[n]? = some (.obj c fs)) (r : Rep Z.W F' μ' v (.loc n))
    (hb : (fs.all fun p => p.2.bel μ.length) = true) : ∃ F'', Ex F' F'' ∧ Ag Z.W F'' μ S H' ∧ Rep Z.W F'' μ v (.ins c (fs.map (·.1)) (fs.map (·.2))) := by
  obtain ⟨a, rfl, hm, _, C, dx, vs, k, e, e2, rs⟩ := g'.loc r h
  have ha : a ∉ μ := by
    have := nd_not_take g'.nd hm hn
    rwa [pre_take p] at this
  have hdx : dx ∉ μ := fun hd => by
    obtain ⟨o, h1, h2⟩ := g0.mem hd
    rw [e2] at h1; cases h1
    exact h2
  obtain ⟨g1, x1⟩ := g0.know e ha
  obtain ⟨g2, x2⟩ := g1.know e2 hdx
  have hne : a ≠ dx := fun z => by rw [z, e2] at e; cases e
  refine ⟨_, x1.trans x2, g2, .ins (by rw [upd_ne hne]; exact upd_same) upd_same k (by rw [rs.length, List.length_map, List.length_map]) ?_⟩
  refine (rs.of_bel p ?_).mono (x1.trans x2) (pre_refl μ)
  rw [bels_all, List.all_map]
  exact hb
theorem Ag.newObj {x dx C : Addr} {c : Str} (g : Ag Z.W F μ S H) (hx : H x = none) (hd : H dx = none) (hne : dx ≠ x) (hC : Z.W.ca c = some C) :
    Ag Z.W F (μ ++ [x]) (S ++ [.obj c []]) (upd (upd H dx (.own x)) x (.ins C dx [])) ∧ μ <+: μ ++ [x] := by
  have g1 : Ag Z.W F μ S (upd H dx (.own x)) := by
    have eH : Ex H (upd H dx (.own x)) := Ex.new hd
    exact ⟨g.ex.trans eH, g.len, g.nd, fun n a c h1 h2 => by
      obtain ⟨q1, q2⟩ := g.cell n a c h1 h2
      exact ⟨q1, q2.mono (Ex.refl F) (pre_refl μ) eH⟩, g.sc, g.tb.ext eH, g.nt⟩
  have hx1 : (upd H dx (.own x)) x = none := by rw [upd_ne (Ne.symm hne)]; exact hx
  exact g1.new hx1 ⟨C, dx, [], hC, upd_same, by rw [upd_ne hne, upd_same], .nil⟩
theorem me_never {t : TE} (h : ∀ σ H Q, ¬ t σ H Q) : PE X e t := ⟨fun pins s σ H Q I q => absurd q (h σ H Q)⟩
theorem rdM {σ : L2.St} {Q : VK} {fz : Bool} {c : Str} {C : Addr} (hC : Z.W.ca c = some C) (h : rdE Z (.mk fz c ms) σ H Q) : tMake C (spC Z.W Z.C.init (c ++ (".__init__" : Str))) [] E0 (rdEs Z ms) σ H Q := by
  obtain ⟨F, μ, S, ρ, d, S', g, rr, ev, q⟩ := h
  unfold evE at ev
  obtain ⟨x, e1, ev⟩ := bind_some' ev
  refine ⟨F, μ, S, ρ, x.1, x.2, g, rr, e1, fun vs F1 μ1 H1 x1 p1 g1 r1 ax dx hx hd hne => ?_⟩
  unfold mkObj at ev
  obtain ⟨y, e2, ev⟩ := bind_some' ev
  obtain ⟨g2, p2⟩ := g1.newObj hx hd hne hC
  have r0 : Rep Z.W F1 (μ1 ++ [ax]) (.ref ax) (.loc x.2.length) := .loc (by rw [← g1.len, List.getElem?_append_right (Nat.le_refl _), Nat.sub_self]; rfl)
  rw [List.append_nil]
  refine ⟨F1, μ1 ++ [ax], _, _, y.1, y.2, g2, .cons r0 (r1.mono (Ex.refl F1) p2), e2, fun v F3 μ3 H3 x3 p3 g3 r3 => ?_⟩
  obtain ⟨y1, y2⟩ := y
  cases y1 <;> try (cases ev; done)
  cases r3
  simp only at ev
  split at ev
  · rename_i hf
    split at ev
    · rename_i c' fs e4
      split at ev
      · rename_i hc
        obtain ⟨hc1, hc3, hc4⟩ := hc
        subst hc1
        cases ev
        have p13 := p2.trans p3
        have gb := g1.back g3 p13 hc3
        obtain ⟨F4, x4, g4, r4⟩ := gb.frzObj g3 p13 (by rw [g1.len]; exact Nat.le_refl _) e4 (r0.mono x3 p3) (by rw [g1.len]; exact hc4)
        exact ⟨rfl, q _ F4 μ1 H3 ((x1.trans x3).trans x4) p1 g4 r4⟩
      · cases ev
    · cases ev
  · cases ev
    exact ⟨rfl, q _ F3 μ3 H3 (x1.trans x3) ((p1.trans p2).trans p3) g3 (r0.mono x3 p3)⟩
theorem me_mk {x : Str} {fz : Bool} (St : Std Z X kk) (h0 : kk = 0 → ∀ g as S, Z.C.init g as S = none) (M : Mkr X.prog X.w X.K X.mg X.base Z.W Z.C.init (kk - 1) x) (hg : Gl X x) (ha : MA Z X (e :: es) ms) (hdb : (x == ("__debug__" : Str)) = false := by decide)
    (he : starEach (e :: es) X.env = (false, eval e X.env) :: starEach es X.env := by rfl) (hpl : (backTo pos (starEach es X.env)).any (·.1) = false := by rfl) :
    ME Z X (.Call (.Name x p) (e :: es) [] pos) (.mk fz x ms) := by
  obtain ⟨C, f, fd, ps, hC, hm, M, F0, hb⟩ := M.ex
  by_cases hk : kk = 0
  · refine me_never fun σ H Q h => ?_
    obtain ⟨F, μ, S, ρ, d, S', g, rr, ev, q⟩ := h
    unfold evE at ev
    obtain ⟨y, e1, ev⟩ := bind_some' ev
    unfold mkObj at ev
    rw [h0 hk] at ev
    cases ev
  · have hr : Room (kk - 1 + 1) X.A := St.hr.mono (by omega)
    exact PE.imp (pe_make (E := E0) M F0 hr hg hm hb .nil pass0 ha hdb he hpl) fun σ H Q h => rdM hC h
theorem me_mk0 {x : Str} {fz : Bool} (St : Std Z X kk) (h0 : kk = 0 → ∀ g as S, Z.C.init g as S = none) (M : Mkr X.prog X.w X.K X.mg X.base Z.W Z.C.init (kk - 1) x) (hg : Gl X x) (hdb : (x == ("__debug__" : Str)) = false := by decide) :
    ME Z X (.Call (.Name x p) [] [] pos) (.mk fz x []) := by
  obtain ⟨C, f, fd, ps, hC, hm, M, F0, hb⟩ := M.ex
  by_cases hk : kk = 0
  · refine me_never fun σ H Q h => ?_
    obtain ⟨F, μ, S, ρ, d, S', g, rr, ev, q⟩ := h
    unfold evE at ev
    obtain ⟨y, e1, ev⟩ := bind_some' ev
    unfold mkObj at ev
    rw [h0 hk] at ev
    cases ev
  · have hr : Room (kk - 1 + 1) X.A := St.hr.mono (by omega)
    refine PE.imp (pe_make0 (E := E0) M F0 hr hg hm hb .nil pass0 hdb) fun σ H Q h => ?_
    obtain ⟨F, μ, S, ρ, ds', S', g, rr, e1, k⟩ := rdM hC h
    unfold evEs at e1
    cases e1
    exact k [] F μ H (Ex.refl F) (pre_refl μ) g .nil

/-! ### o.m(..) -/
/-- the methods: of each class that has it, the def, its promise -/
structure Mth (P : Program) (w : World) (K : PySem.W.Frag) (mg : Str → Option Value) (base : Heap) (W : Wd) (me : Str → Str → Option Str) (c : CallT) (k : Nat) (m : Str) : Prop where
  ex : ∀ cl C g, W.ca cl = some C → me cl m = some g → ∃ (f : Addr) (fd : FuncData) (ps : List Str), FnOk P w K mg base CX0 k f fd ps (spC W c g) ∧ Meth K C m f ∧ Binds K fd ps []
theorem me_meth {mt : Str} {pl : Sem Bool} (St : Std Z X kk) (hc : ClsF Z X) (M : Mth X.prog X.w X.K X.mg X.base Z.W Z.C.meth Z.C.call kk mt) (ho : ME Z X o mo) (ha : MA Z X (e :: es) ms)
    (hst : starEach (e :: es) X.env = (false, eval e X.env) :: starEach es X.env := by rfl) (hpl : (backTo pos (starEach es X.env)).any (·.1) = false := by rfl)
    (ht : eval (.Call (.Attribute o mt apos) (e :: es) [] pos) X.env = (do
      let ov ← eval o X.env
      standAt apos.atName
      let (f, first) ← holding [ov] (getMethod ov mt pl)
      callWith pos f first (backTo pos (starEach (e :: es) X.env)) (backToKw pos (keywordEach [] X.env))) := by rfl) :
    ME Z X (.Call (.Attribute o mt apos) (e :: es) [] pos) (.meth mo mt ms) := by
  refine ⟨fun pins s σ H Q I h => ?_⟩
  obtain ⟨F, μ, S, ρ, d, S', g, rr, ev, q⟩ := h
  unfold evE at ev
  obtain ⟨x, e1, ev⟩ := bind_some' ev
  obtain ⟨c, e2, ev⟩ := bind_some' ev
  obtain ⟨gg, e3, ev⟩ := bind_some' ev
  split at ev
  · rename_i hno
    obtain ⟨y, e4, ev⟩ := bind_some' ev
    refine PySem.W.methodCall_KW (pl := pl) (thn (ho.run pins s σ H (fun v H1 => ∃ F1 μ1, Ex F F1 ∧ μ <+: μ1 ∧ Ag Z.W F1 μ1 x.2 H1 ∧ Rep Z.W F1 μ1 v x.1) I ⟨F, μ, S, ρ, x.1, x.2, g, rr, e1, fun v F1 μ1 H1 x1 p1 g1 r1 => ⟨F1, μ1, x1, p1, g1, r1⟩⟩) fun u s1 hh => ?_) ht
    obtain ⟨v, H1, I1, rx, F1, μ1, x1, p1, g1, r1⟩ := hh
    obtain ⟨a, C, dx, fs, vs, xs, rfl, h1, h2, h3, h4, h5⟩ := ins_rep g1 r1 e2
    obtain rfl : u = Value.ref a := rx
    obtain ⟨f, fd, ps, F0, hM, hb⟩ := M.ex c C gg h2 e3
    refine getmeth_ok I1 h1 (hc.cls c C h2) hM (look_zip_none h4 h3 (by rw [← h5]; exact hno)) ?_
    have hrun := ha.run pos pins s1 σ H1 (fun ws H2 => ∃ F2 μ2, Ex F1 F2 ∧ μ1 <+: μ2 ∧ Ag Z.W F2 μ2 y.2 H2 ∧ Reps Z.W F2 μ2 ws y.1) I1 ⟨F1, μ1, x.2, ρ, y.1, y.2, g1, rr.mono x1 p1, e4, fun ws F2 μ2 H2 x2 p2 g2 r2 => ⟨F2, μ2, x2, p2, g2, r2⟩⟩
    refine PySem.W.callWith_K (first := [.ref a]) (h₀ := X.base) I.ok.mod.kin hM.kp (thn hrun fun us s2 hh => ?_) hst hpl
    obtain ⟨ws, H2, I2, r, F2, μ2, x2, p2, g2, r2⟩ := hh
    refine ⟨I2.kIn, ?_⟩
    refine run_fn (us := .ref a :: us) (vs := .ref a :: ws) (dvs := []) (E := E0) F0 St.hr hb .nil pass0 I2 (.cons rfl r) ?_
    rw [List.append_nil]
    exact ⟨F2, μ2, y.2, _, d, S', g2, .cons (r1.mono x2 p2) r2, ev, fun v F' μ' H' x3 p3 g3 r3 => q v F' μ' H' ((x1.trans x2).trans x3) ((p1.trans p2).trans p3) g3 r3⟩
  · cases ev
theorem me_meth0 {mt : Str} {pl : Sem Bool} (St : Std Z X kk) (hc : ClsF Z X) (M : Mth X.prog X.w X.K X.mg X.base Z.W Z.C.meth Z.C.call kk mt) (ho : ME Z X o mo)
    (ht : eval (.Call (.Attribute o mt apos) [] [] pos) X.env = (do
      let ov ← eval o X.env
      standAt apos.atName
      let (f, first) ← holding [ov] (getMethod ov mt pl)
      callWith pos f first (backTo pos (starEach [] X.env)) (backToKw pos (keywordEach [] X.env))) := by rfl) :
    ME Z X (.Call (.Attribute o mt apos) [] [] pos) (.meth mo mt []) := by
  refine ⟨fun pins s σ H Q I h => ?_⟩
  obtain ⟨F, μ, S, ρ, d, S', g, rr, ev, q⟩ := h
  unfold evE at ev
  obtain ⟨x, e1, ev⟩ := bind_some' ev
  obtain ⟨c, e2, ev⟩ := bind_some' ev
  obtain ⟨gg, e3, ev⟩ := bind_some' ev
  split at ev
  · rename_i hno
    obtain ⟨y, e4, ev⟩ := bind_some' ev
    unfold evEs at e4
    cases e4
    refine PySem.W.methodCall_KW (pl := pl) (thn (ho.run pins s σ H (fun v H1 => ∃ F1 μ1, Ex F F1 ∧ μ <+: μ1 ∧ Ag Z.W F1 μ1 x.2 H1 ∧ Rep Z.W F1 μ1 v x.1) I ⟨F, μ, S, ρ, x.1, x.2, g, rr, e1, fun v F1 μ1 H1 x1 p1 g1 r1 => ⟨F1, μ1, x1, p1, g1, r1⟩⟩) fun u s1 hh => ?_) ht
    obtain ⟨v, H1, I1, rx, F1, μ1, x1, p1, g1, r1⟩ := hh
    obtain ⟨a, C, dx, fs, vs, xs, rfl, h1, h2, h3, h4, h5⟩ := ins_rep g1 r1 e2
    obtain rfl : u = Value.ref a := rx
    obtain ⟨f, fd, ps, F0, hM, hb⟩ := M.ex c C gg h2 e3
    refine getmeth_ok I1 h1 (hc.cls c C h2) hM (look_zip_none h4 h3 (by rw [← h5]; exact hno)) ?_
    refine PySem.W.callWith_K0 (first := [.ref a]) I1.kIn hM.kp ?_
    refine run_fn (us := [.ref a]) (vs := [.ref a]) (dvs := []) (E := E0) F0 St.hr hb .nil pass0 I1 (.cons rfl .nil) ?_
    exact ⟨F1, μ1, x.2, _, d, S', g1, .cons r1 .nil, ev, fun v F' μ' H' x3 p3 g3 r3 => q v F' μ' H' (x1.trans x3) (p1.trans p3) g3 r3⟩
  · cases ev
end
end Fw

set_option Elab.async false
set_option linter.all false
set_option maxRecDepth 100000
/-! FwJ: targets, statements. -/
namespace Fw
open PySem L2
open Evl (Ex)

/-! ### targets -/
mutual
def T.own : T → List Nat
  | .name i => [i]
  | .tup ts => T.owns ts
  | .star _ ts i => i :: T.owns ts
def T.owns : List T → List Nat
  | [] => []
  | t :: ts => T.own t ++ T.owns ts
end
theorem wipe_at {σ : L2.St} {i : Nat} : ∀ {vs : List Nat}, i ∈ vs → i < σ.length → (wipe σ vs)[i]? = some none
  | [], h, _ => by cases h
  | v :: vs, h, hl => by
    unfold wipe
    by_cases hv : v = i
    · subst hv
      rw [List.getElem?_set_self (by rw [wipe_length]; exact hl)]
    · rw [List.getElem?_set_ne hv]
      exact wipe_at ((List.mem_cons.mp h).resolve_left fun e => hv e.symm) hl
theorem wipe_set {σ : L2.St} {i : Nat} {x : Option V} {vs : List Nat} (h : i ∈ vs) : wipe (σ.set i x) vs = wipe σ vs := by
  apply List.ext_getElem?
  intro j
  by_cases hj : j ∈ vs
  · by_cases hl : j < σ.length
    · rw [wipe_at hj hl, wipe_at hj (by rw [List.length_set]; exact hl)]
    · rw [List.getElem?_eq_none (by rw [wipe_length, List.length_set]; omega), List.getElem?_eq_none (by rw [wipe_length]; omega)]
  · rw [wipe_out hj, wipe_out hj, List.getElem?_set_ne (fun e => by subst e; exact hj h)]
def Keeps (vs : List Nat) (σ σ' : L2.St) : Prop := ∀ ws : List Nat, (∀ i ∈ vs, i ∈ ws) → wipe σ' ws = wipe σ ws
def rdG (Z : Sd) (t : T) : TG := fun v σ H Q => ∃ F μ S ρ d r, Ag Z.W F μ S H ∧ Rho Z F μ ρ σ ∧ Rep Z.W F μ v d ∧ setT t d ρ S = some r ∧
  ∀ F' μ' σ' H', Ex F F' → μ <+: μ' → Ag Z.W F' μ' r.2 H' → Rho Z F' μ' r.1 σ' → Keeps t.own σ σ' → Q σ' H'
def rdGs (Z : Sd) (ts : List T) : TGs := fun vs σ H Q => ∃ F μ S ρ ds r, Ag Z.W F μ S H ∧ Rho Z F μ ρ σ ∧ Reps Z.W F μ vs ds ∧ setTs ts ds ρ S = some r ∧
  ∀ F' μ' σ' H', Ex F F' → μ <+: μ' → Ag Z.W F' μ' r.2 H' → Rho Z F' μ' r.1 σ' → Keeps (T.owns ts) σ σ' → Q σ' H'
abbrev MG (Z : Sd) (X : Cx) (e : Expr) (t : T) : Prop := PG X e (rdG Z t)
abbrev MGs (Z : Sd) (X : Cx) (es : List Expr) (ts : List T) : Prop := PGs X es (rdGs Z ts)
theorem PGs.imp {X : Cx} {e : List Expr} {t t' : TGs} (h : PGs X e t) (i : ∀ v σ H Q, t' v σ H Q → t v σ H Q) : PGs X e t' := ⟨fun pins s σ H v u Q I r q => h.run pins s σ H v u Q I r (i v σ H Q q)⟩
theorem _root_.L2.PG.or {X : Cx} {e : Expr} {t t' : TG} (h : PG X e t) (h' : PG X e t') : PG X e (fun v σ H Q => t v σ H Q ∨ t' v σ H Q) := ⟨fun pins s σ H v u Q I r q => q.elim (h.run pins s σ H v u Q I r) (h'.run pins s σ H v u Q I r)⟩
theorem _root_.L2.PS.or {X : Cx} {e : Stmt} {t t' : TS} (h : PS X e t) (h' : PS X e t') : PS X e (fun D σ H => t D σ H ∨ t' D σ H) := ⟨fun pins s σ H D I q => q.elim (h.run pins s σ H D I) (h'.run pins s σ H D I)⟩
theorem _root_.L2.PI.or {X : Cx} {tg e : Expr} {t t' : TI} (h : PI X tg e t) (h' : PI X tg e t') : PI X tg e (fun σ H R => t σ H R ∨ t' σ H R) := ⟨fun pins s σ H R I q => q.elim (h.run pins s σ H R I) (h'.run pins s σ H R I)⟩
section
variable {Z : Sd} {X : Cx} {e a b c o i : Expr} {rest es : List Expr} {m ma mb mc mo mi : E} {ms : List E} {pos apos p : Pos} {F : Hp} {μ : List Addr} {S : Sto} {H : Hp} {kk : Nat} {t : T} {ts : List T}
theorem mg_name {k : Nat} {x : Str} (hN : X.N.Nodup) (hi : X.N[k]? = some x := by rfl) (hx : Loc X.env.scope x := by first | exact Or.inl rfl | exact Or.inr rfl) (hf : X.fn x = true ∨ X.env.scope.names.lookup x = some .local := by first | exact .inl rfl | exact .inr rfl) (hc : k ∉ Z.cs := by first | exact List.not_mem_nil | decide) : MG Z X (.Name x pos) (.name k) := by
  refine PG.imp (pg_name hN hi hx hf) fun v σ H Q h => ?_
  obtain ⟨F, μ, S, ρ, d, r, g, rr, rv, e, q⟩ := h
  unfold setT at e
  split at e
  · cases e
    exact q F μ _ H (Ex.refl F) (pre_refl μ) g (rr.set rv hc) fun ws h => wipe_set (h k (by unfold T.own; simp))
  · cases e
theorem mgs_nil : MGs Z X [] [] := by
  refine PGs.imp pgs_nil fun v σ H Q h => ?_
  obtain ⟨F, μ, S, ρ, d, r, g, rr, rv, e, q⟩ := h
  cases d with
  | nil =>
    unfold setTs at e
    cases e
    cases rv
    exact ⟨rfl, q F μ σ H (Ex.refl F) (pre_refl μ) g rr fun ws h => rfl⟩
  | cons x xs => unfold setTs at e; cases e
theorem Keeps.trans {vs ws : List Nat} {σ σ1 σ2 : L2.St} (h1 : Keeps vs σ σ1) (h2 : Keeps ws σ1 σ2) : Keeps (vs ++ ws) σ σ2 := fun us h => by
  rw [h2 us fun i hi => h i (List.mem_append_right _ hi), h1 us fun i hi => h i (List.mem_append_left _ hi)]
theorem mgs_cons (h1 : MG Z X e t) (h2 : MGs Z X es ts) (hs : (assignEach (e :: es) X.env).map (·.2) = assign e X.env :: (assignEach es X.env).map (·.2) := by rfl) : MGs Z X (e :: es) (t :: ts) := by
  refine PGs.imp (pgs_cons h1 h2 hs) fun v σ H Q h => ?_
  obtain ⟨F, μ, S, ρ, d, r, g, rr, rv, ev, q⟩ := h
  cases d with
  | nil => unfold setTs at ev; cases ev
  | cons x xs =>
    unfold setTs at ev
    obtain ⟨r1, e1, e2⟩ := bind_some' ev
    cases rv with
    | cons rv rvs =>
      refine ⟨_, _, rfl, F, μ, S, ρ, x, r1, g, rr, rv, e1, fun F1 μ1 σ1 H1 x1 p1 g1 rr1 k1 => ?_⟩
      exact ⟨F1, μ1, r1.2, r1.1, xs, r, g1, rr1, rvs.mono x1 p1, e2, fun F2 μ2 σ2 H2 x2 p2 g2 rr2 k2 => q F2 μ2 σ2 H2 (x1.trans x2) (p1.trans p2) g2 rr2 (by unfold T.owns; exact k1.trans k2)⟩
theorem setTs_len : ∀ {ts : List T} {xs : List D} {ρ : Env} {S : Sto} {r : Env × Sto}, setTs ts xs ρ S = some r → xs.length = ts.length
  | [], [], _, _, _, _ => rfl
  | [], x :: xs, _, _, _, h => by unfold setTs at h; cases h
  | t :: ts, [], _, _, _, h => by unfold setTs at h; cases h
  | t :: ts, x :: xs, _, _, _, h => by
    unfold setTs at h
    obtain ⟨r1, _, e2⟩ := bind_some' h
    rw [List.length_cons, List.length_cons, setTs_len e2]
theorem mg_tup {k : Nat} (St : Std Z X kk) (h : MGs Z X es ts) (hn : (assignEach es X.env).length = ts.length := by rfl) (hst : (assignEach es X.env).findIdx? (·.1) = none := by rfl) : MG Z X (.Tuple es k pos) (.tup ts) := by
  refine PG.imp ((pg_tup St.calm h hn hst).or (pg_lst St.calm h hn hst)) fun v σ H Q h => ?_
  obtain ⟨F, μ, S, ρ, d, r, g, rr, rv, ev, q⟩ := h
  unfold setT at ev
  rw [St.K]
  split at ev
  · cases rv with
    | tup hs rs =>
      exact .inl ⟨_, _, rfl, Evl.ex_t g.ex hs, by rw [rs.length]; exact setTs_len ev, F, μ, S, ρ, _, r, g, rr, rs, ev, fun F' μ' σ' H' x' p' g' r' k' => q F' μ' σ' H' x' p' g' r' (by unfold T.own; exact k')⟩
  · cases rv with
    | lst hs rs =>
      exact .inr ⟨_, _, rfl, SqL.of (g.ex _ _ hs), by rw [rs.length]; exact setTs_len ev, F, μ, S, ρ, _, r, g, rr, rs, ev, fun F' μ' σ' H' x' p' g' r' k' => q F' μ' σ' H' x' p' g' r' (by unfold T.own; exact k')⟩
  · cases ev

/-! ### statements -/
def Post (Z : Sd) (D : Ends) (F : Hp) (μ : List Addr) : Out → Prop
  | .nx ρ S => ∀ F' μ' σ' H', Ex F F' → μ <+: μ' → Ag Z.W F' μ' S H' → Rho Z F' μ' ρ σ' → D.nx σ' H'
  | .rt d S => ∀ v F' μ' H', Ex F F' → μ <+: μ' → Ag Z.W F' μ' S H' → Rep Z.W F' μ' v d → D.rt v H'
  | .bk ρ S => ∀ F' μ' σ' H', Ex F F' → μ <+: μ' → Ag Z.W F' μ' S H' → Rho Z F' μ' ρ σ' → D.bk σ' H'
  | .ct ρ S => ∀ F' μ' σ' H', Ex F F' → μ <+: μ' → Ag Z.W F' μ' S H' → Rho Z F' μ' ρ σ' → D.ct σ' H'
def rdS (Z : Sd) (m : Sm) : TS := fun D σ H => ∃ F μ S ρ o, Ag Z.W F μ S H ∧ Rho Z F μ ρ σ ∧ evS Z.C m ρ S = some o ∧ Post Z D F μ o
def rdSs (Z : Sd) (ms : List Sm) : TS := fun D σ H => ∃ F μ S ρ o, Ag Z.W F μ S H ∧ Rho Z F μ ρ σ ∧ evSs Z.C ms ρ S = some o ∧ Post Z D F μ o
abbrev MS (Z : Sd) (X : Cx) (s : Stmt) (m : Sm) : Prop := PS X s (rdS Z m)
abbrev MSs (Z : Sd) (X : Cx) (s : List Stmt) (m : List Sm) : Prop := PSs X s (rdSs Z m)
theorem Post.mono {D : Ends} {F F' : Hp} {μ μ' : List Addr} {o : Out} (x : Ex F F') (p : μ <+: μ') (h : Post Z D F μ o) : Post Z D F' μ' o := by
  cases o with
  | nx ρ S => exact fun F2 μ2 σ2 H2 x2 p2 g2 r2 => h F2 μ2 σ2 H2 (x.trans x2) (p.trans p2) g2 r2
  | rt d S => exact fun v F2 μ2 H2 x2 p2 g2 r2 => h v F2 μ2 H2 (x.trans x2) (p.trans p2) g2 r2
  | bk ρ S => exact fun F2 μ2 σ2 H2 x2 p2 g2 r2 => h F2 μ2 σ2 H2 (x.trans x2) (p.trans p2) g2 r2
  | ct ρ S => exact fun F2 μ2 σ2 H2 x2 p2 g2 r2 => h F2 μ2 σ2 H2 (x.trans x2) (p.trans p2) g2 r2
variable {st : Stmt} {sts : List Stmt} {s : Sm} {ss sa sb : List Sm} {as bs : List Stmt}
theorem mss_nil : MSs Z X [] [] := by
  refine PSs.imp pss_nil fun D σ H h => ?_
  obtain ⟨F, μ, S, ρ, o, g, rr, ev, q⟩ := h
  unfold evSs at ev
  cases ev
  exact q F μ σ H (Ex.refl F) (pre_refl μ) g rr
theorem mss_cons (h1 : MS Z X st s) (h2 : MSs Z X sts ss) : MSs Z X (st :: sts) (s :: ss) := by
  refine PSs.imp (pss_cons h1 h2) fun D σ H h => ?_
  obtain ⟨F, μ, S, ρ, o, g, rr, ev, q⟩ := h
  unfold evSs at ev
  split at ev
  · rename_i ρ1 S1 e1
    exact ⟨F, μ, S, ρ, _, g, rr, e1, fun F1 μ1 σ1 H1 x1 p1 g1 r1 => ⟨F1, μ1, S1, ρ1, o, g1, r1, ev, q.mono x1 p1⟩⟩
  · rename_i e1
    refine ⟨F, μ, S, ρ, o, g, rr, ev, ?_⟩
    cases o with
    | nx ρ1 S1 => exact absurd ev (e1 ρ1 S1)
    | rt d S => exact q
    | bk ρ S => exact q
    | ct ρ S => exact q
/-- a docstring, pass: nothing -/
theorem mss_skip (h1 : PS X st tNext) (h2 : MSs Z X sts ss) : MSs Z X (st :: sts) ss := PSs.imp (pss_cons h1 h2) fun D σ H h => h
theorem ms_pass : MS Z X (.Pass pos) .pass := by
  refine PS.imp ps_pass fun D σ H h => ?_
  obtain ⟨F, μ, S, ρ, o, g, rr, ev, q⟩ := h
  unfold evS at ev
  cases ev
  exact q F μ σ H (Ex.refl F) (pre_refl μ) g rr
theorem ms_brk : MS Z X (.Break pos) .brk := by
  refine PS.imp ps_break fun D σ H h => ?_
  obtain ⟨F, μ, S, ρ, o, g, rr, ev, q⟩ := h
  unfold evS at ev
  cases ev
  exact q F μ σ H (Ex.refl F) (pre_refl μ) g rr
theorem ms_cnt : MS Z X (.Continue pos) .cnt := by
  refine PS.imp ps_continue fun D σ H h => ?_
  obtain ⟨F, μ, S, ρ, o, g, rr, ev, q⟩ := h
  unfold evS at ev
  cases ev
  exact q F μ σ H (Ex.refl F) (pre_refl μ) g rr
theorem ms_never : MS Z X st .never := by
  refine PS.imp ps_never fun D σ H h => ?_
  obtain ⟨F, μ, S, ρ, o, g, rr, ev, q⟩ := h
  unfold evS at ev
  cases ev
theorem ms_ex (he : ME Z X e m) (hs : swapsWith e none pos.line X.env = pure false := by rfl) : MS Z X (.Expr e pos) (.ex m) := by
  refine PS.imp (ps_expr he hs) fun D σ H h => ?_
  obtain ⟨F, μ, S, ρ, o, g, rr, ev, q⟩ := h
  unfold evS at ev
  obtain ⟨x, e1, e2⟩ := map_some' ev
  cases e2
  exact ⟨F, μ, S, ρ, x.1, x.2, g, rr, e1, fun v F1 μ1 H1 x1 p1 g1 r1 => q F1 μ1 σ H1 x1 p1 g1 (rr.mono x1 p1)⟩
theorem ms_ret (he : ME Z X e m) : MS Z X (.Return (some e) pos) (.ret m) := by
  refine PS.imp (ps_ret he) fun D σ H h => ?_
  obtain ⟨F, μ, S, ρ, o, g, rr, ev, q⟩ := h
  unfold evS at ev
  obtain ⟨x, e1, e2⟩ := map_some' ev
  cases e2
  exact ⟨F, μ, S, ρ, x.1, x.2, g, rr, e1, fun v F1 μ1 H1 x1 p1 g1 r1 => q v F1 μ1 H1 x1 p1 g1 r1⟩
theorem ms_retN : MS Z X (.Return none pos) (.ret (.cst .non)) := by
  refine PS.imp ps_retN fun D σ H h => ?_
  obtain ⟨F, μ, S, ρ, o, g, rr, ev, q⟩ := h
  unfold evS at ev
  obtain ⟨x, e1, e2⟩ := map_some' ev
  unfold evE at e1
  cases e1
  cases e2
  exact q .non F μ H (Ex.refl F) (pre_refl μ) g .non
theorem ms_if (hc : MT Z X c mc) (ha : MSs Z X as sa) (hb : MSs Z X bs sb) : MS Z X (.If c as bs pos) (.ite mc sa sb) := by
  refine PS.imp (ps_if hc ha hb) fun D σ H h => ?_
  obtain ⟨F, μ, S, ρ, o, g, rr, ev, q⟩ := h
  unfold evS at ev
  obtain ⟨x, e1, ev⟩ := bind_some' ev
  obtain ⟨x1, x2⟩ := x
  split at ev
  · rename_i e2
    cases e2
    exact ⟨F, μ, S, ρ, true, x2, g, rr, e1, fun F' μ' H' x' p' g' => iteT ⟨F', μ', x2, ρ, o, g', rr.mono x' p', ev, q.mono x' p'⟩⟩
  · rename_i e2
    cases e2
    exact ⟨F, μ, S, ρ, false, x2, g, rr, e1, fun F' μ' H' x' p' g' => iteF ⟨F', μ', x2, ρ, o, g', rr.mono x' p', ev, q.mono x' p'⟩⟩
  · cases ev
theorem ms_asg {tg : Expr} (he : ME Z X e m) (hg : MG Z X tg t) (hs : swapsWithSole [tg] e pos.line X.env = pure false := by rfl) (hw : swappedStores [tg] e X.env = pure none := by rfl)
    (h1 : (assignEach [tg] X.env).map (·.2) = [assign tg X.env] := by rfl) : MS Z X (.Assign [tg] e pos) (.asg t m) := by
  refine PS.imp (ps_asg he hg hs hw h1) fun D σ H h => ?_
  obtain ⟨F, μ, S, ρ, o, g, rr, ev, q⟩ := h
  unfold evS at ev
  obtain ⟨x, e1, ev⟩ := bind_some' ev
  obtain ⟨r, e2, e3⟩ := map_some' ev
  cases e3
  refine ⟨F, μ, S, ρ, x.1, x.2, g, rr, e1, fun v F1 μ1 H1 x1 p1 g1 r1 => ?_⟩
  exact ⟨F1, μ1, x.2, ρ, x.1, r, g1, rr.mono x1 p1, r1, e2, fun F2 μ2 σ2 H2 x2 p2 g2 r2 _ => q F2 μ2 σ2 H2 (x1.trans x2) (p1.trans p2) g2 r2⟩
theorem ms_par {i j : Nat} {x y : Str} {px py pt : Pos} {kt k2 pt2} (St : Std Z X kk) (hN : X.N.Nodup) (hij : i ≠ j) (hci : i ∉ Z.cs) (hcj : j ∉ Z.cs) (ha : MA Z X [a, b] [ma, mb])
    (hi : X.N[i]? = some x := by rfl) (hj : X.N[j]? = some y := by rfl) (hx : X.env.scope.names.lookup x = some .local := by rfl) (hy : X.env.scope.names.lookup y = some .local := by rfl)
    (hw : swappedStores [.Tuple [.Name x px, .Name y py] kt pt] (.Tuple [a, b] k2 pt2) X.env = pure (some [x, y]) := by rfl)
    (hs : swapsWithSole [.Tuple [.Name x px, .Name y py] kt pt] (.Tuple [a, b] k2 pt2) pos.line X.env = pure false := by rfl) :
    MS Z X (.Assign [.Tuple [.Name x px, .Name y py] kt pt] (.Tuple [a, b] k2 pt2) pos) (.asg (.tup [.name i, .name j]) (.tup [ma, mb])) := by
  refine PS.imp (ps_par St.calm hN hi hj hij hx hy ha hw hs) fun D σ H h => ?_
  obtain ⟨F, μ, S, ρ, o, g, rr, ev, q⟩ := h
  unfold evS evE at ev
  obtain ⟨z, e1, ev⟩ := bind_some' ev
  obtain ⟨r, e2, e3⟩ := map_some' ev
  cases e3
  obtain ⟨w, e4, e1⟩ := bind_some' e1
  split at e1
  · cases e1
    refine ⟨F, μ, S, ρ, w.1, w.2, g, rr, e4, fun vs F1 μ1 H1 x1 p1 g1 r1 => ?_⟩
    unfold setT at e2
    have hl := setTs_len e2
    obtain ⟨ws, wS⟩ := w
    cases r1 with
    | nil => cases hl
    | cons rv r1 =>
      cases r1 with
      | nil => cases hl
      | cons rw' r1 =>
        cases r1 with
        | cons => cases hl
        | nil =>
          simp only [setTs, setT] at e2
          split at e2
          · simp only [Option.bind_some] at e2
            split at e2
            · simp only [Option.bind_some] at e2
              cases e2
              exact ⟨_, _, rfl, q F1 μ1 _ H1 x1 p1 g1 (((rr.mono x1 p1).set rv hci).set rw' hcj)⟩
            · cases e2
          · cases e2
  · cases e1

/-! ### o.f = .., o[i] = .., n += .. -/
theorem putFd_rep {fs : List (Str × D)} {vs : List V} {f : Str} {v : V} {d : D} (r : Reps Z.W F μ vs (fs.map (·.2))) (rv : Rep Z.W F μ v d) :
    ∃ vs', putF f v ((fs.map (·.1)).zip vs) = ((putFd f d fs).map (·.1)).zip vs' ∧ Reps Z.W F μ vs' ((putFd f d fs).map (·.2)) := by
  induction fs generalizing vs with
  | nil =>
    cases r
    exact ⟨[v], rfl, .one rv⟩
  | cons p fs ih =>
    cases r with
    | @cons w _ ws _ r1 r2 =>
      unfold putFd
      by_cases e : p.1 = f
      · rw [if_pos e]
        refine ⟨v :: ws, ?_, .cons rv r2⟩
        simp only [List.map_cons, List.zip_cons_cons]
        unfold putF
        rw [if_pos e, e]
      · rw [if_neg e]
        obtain ⟨vs', h1, h2⟩ := ih r2
        refine ⟨w :: vs', ?_, .cons r1 h2⟩
        simp only [List.map_cons, List.zip_cons_cons]
        unfold putF
        rw [if_neg e, h1]
theorem setfld_rep {x : V} {y : V} {dx dy : D} {f : Str} {S' : Sto} (g : Ag Z.W F μ S H) (rx : Rep Z.W F μ x dx) (ry : Rep Z.W F μ y dy) (h : setfldD Z.C S dx f dy = some S') :
    ∃ (a C dxx : Addr) (fs : List (Str × V)) (c : Str), x = .ref a ∧ H a = some (.ins C dxx fs) ∧ Z.W.ca c = some C ∧ (Z.C.meth c f).isNone = true ∧ fs.length < 1000 ∧ clsOf S dx = some c ∧ Ag Z.W F μ S' (upd H a (.ins C dxx (putF f y fs))) := by
  cases dx <;> try (cases h; done)
  rename_i n
  have h : (match S[n]? with
    | some (.obj c fs) => if fs.length < 1000 ∧ (Z.C.meth c f).isNone = true then some (S.set n (.obj c (putFd f dy fs))) else none
    | _ => none) = some S' := h
  split at h
  · rename_i c fs e
    split at h
    · rename_i hc
      cases h
      obtain ⟨a, rfl, hm, _, C, dxx, vs, k, e1, e2, rs⟩ := g.loc rx e
      obtain ⟨vs', q1, q2⟩ := putFd_rep (f := f) rs ry
      have hne : dxx ≠ a := fun z => by rw [z, e1] at e2; cases e2
      refine ⟨a, C, dxx, _, c, rfl, e1, k, hc.2, ?_, by simp only [clsOf, e], g.set hm e ⟨C, dxx, vs', k, by rw [upd_same, q1], by rw [upd_ne hne]; exact e2, q2⟩⟩
      rw [List.length_zip, List.length_map]
      exact Nat.lt_of_le_of_lt (Nat.min_le_left _ _) hc.1
    · cases h
  · cases h
theorem ms_fld {f : Str} {pos' : Pos} (St : Std Z X kk) (hc : ClsF Z X) (hn : NoF Z X f) (ho : ME Z X o mo) (he : ME Z X e m) (hs : swapsWith e (some (.Attribute o f pos')) pos.line X.env = pure false := by rfl) : MS Z X (.Assign [.Attribute o f pos'] e pos) (.setfld mo f m) := by
  refine PS.imp (ps_fld ho he hs) fun D σ H h => ?_
  obtain ⟨F, μ, S, ρ, oo, g, rr, ev, q⟩ := h
  unfold evS at ev
  obtain ⟨x, e1, ev⟩ := bind_some' ev
  obtain ⟨y, e2, ev⟩ := bind_some' ev
  obtain ⟨S', e3, e4⟩ := map_some' ev
  cases e4
  refine ⟨F, μ, S, ρ, x.1, x.2, g, rr, e1, fun v F1 μ1 H1 x1 p1 g1 r1 => ?_⟩
  refine ⟨F1, μ1, x.2, ρ, y.1, y.2, g1, rr.mono x1 p1, e2, fun w F2 μ2 H2 x2 p2 g2 r2 => ?_⟩
  obtain ⟨a, C, dx, fs, c, h1, h2, h3, h4, h5, _, h6⟩ := setfld_rep g2 r2 (r1.mono x2 p2) e3
  refine ⟨a, C, dx, fs, h1, h2, hc.cls c C h3, hn c C h3 h4, h5, ?_⟩
  exact q F2 μ2 σ _ (x1.trans x2) (p1.trans p2) h6 (rr.mono (x1.trans x2) (p1.trans p2))
def InS (Z : Sd) (op : Op) (r : V → V → Hp → VK → Prop) : Prop := ∀ S v w x y d F μ H (Q : VK), Rep Z.W F μ v x → Rep Z.W F μ w y → augD op S x y = some d → (∀ v', Rep Z.W F μ v' d → Q v' H) → r v w H Q
def rAug : V → V → Hp → VK → Prop := fun x y H Q => rAdd x y H Q ∨ rAddS x y H Q
theorem in_aug : InOp X .Add rAug := fun pins s σ H x y u v Q I rx ry h => h.elim (in_add pins s σ H x y u v Q I rx ry) (in_addS pins s σ H x y u v Q I rx ry)
theorem inS_add : InS Z .add rAug := by
  intro S v w x y d F μ H Q rv rw_ e q
  unfold augD at e
  split at e
  · cases rv; cases rw_
    cases e
    exact .inl ⟨_, _, rfl, rfl, q _ (.int _)⟩
  · cases rv; cases rw_
    simp only [binD, addI] at e
    split at e
    · rename_i h
      cases e
      exact .inr ⟨_, _, rfl, rfl, h, q _ (.str _)⟩
    · cases e
  · cases e
theorem inS_sub : InS Z .sub rSub := by
  intro S v w x y d F μ H Q rv rw_ e q
  unfold augD at e
  split at e
  · cases rv; cases rw_
    cases e
    exact ⟨_, _, rfl, rfl, q _ (.int _)⟩
  · cases e
  · cases e
theorem ms_augfld {op : Operator} {oo : Op} {f : Str} {tpos : Pos} {r : V → V → Hp → VK → Prop} (hop : InOp X op r) (hS : InS Z oo r) (St : Std Z X kk) (hc : ClsF Z X) (hn : NoF Z X f) (ho : ME Z X o mo) (he : ME Z X e m) :
    MS Z X (.AugAssign (.Attribute o f tpos) op e pos) (.augfld mo f oo m) := by
  refine PS.imp (ps_fldaug ho he hop) fun D σ H h => ?_
  obtain ⟨F, μ, S, ρ, ou, g, rr, ev, q⟩ := h
  unfold evS at ev
  obtain ⟨x, e1, ev⟩ := bind_some' ev
  obtain ⟨c, e2, ev⟩ := bind_some' ev
  obtain ⟨a0, e3, ev⟩ := bind_some' ev
  obtain ⟨y, e4, ev⟩ := bind_some' ev
  obtain ⟨d, e5, ev⟩ := bind_some' ev
  split at ev
  rotate_left
  · cases ev
  rename_i hcl
  obtain ⟨S', e6, e7⟩ := map_some' ev
  cases e7
  split at e3
  · rename_i hno
    refine ⟨F, μ, S, ρ, x.1, x.2, g, rr, e1, fun v F1 μ1 H1 x1 p1 g1 r1 => ?_⟩
    obtain ⟨a, C, dx, fs, vs, xs, rfl, h1, h2, h3, h4, h5⟩ := ins_rep g1 r1 e2
    rw [h5] at e3
    obtain ⟨w, l1, l2⟩ := look_zip h4 h3 e3
    refine ⟨a, C, dx, _, w, rfl, h1, hc.cls c C h2, hn c C h2 hno, l1, F1, μ1, x.2, ρ, y.1, y.2, g1, rr.mono x1 p1, e4, fun v2 F2 μ2 H2 x2 p2 g2 r2 => ?_⟩
    refine hS y.2 w v2 a0 y.1 d F2 μ2 H2 _ (l2.mono x2 p2) r2 e5 fun v3 r3 => ?_
    obtain ⟨a', C', dx', fs', c', k1, k2, k3, k4, k5, k7, k6⟩ := setfld_rep g2 (r1.mono x2 p2) r3 e6
    cases k1
    have hC : C' = C := by
      rw [hcl] at k7
      cases k7
      rw [h2] at k3
      cases k3
      rfl
    subst hC
    exact ⟨dx', fs', k2, k5, q F2 μ2 σ _ (x1.trans x2) (p1.trans p2) k6 (rr.mono (x1.trans x2) (p1.trans p2))⟩
  · cases e3
end
end Fw

set_option Elab.async false
set_option linter.all false
set_option maxRecDepth 100000
/-! FwK: statements: stores, loops. -/
namespace Fw
open PySem L2
open Evl (Ex)
section
variable {Z : Sd} {X : Cx} {e a b c o i : Expr} {rest es : List Expr} {m ma mb mc mo mi : E} {ms : List E} {pos apos p : Pos} {F : Hp} {μ : List Addr} {S : Sto} {H : Hp} {kk : Nat} {t : T} {ts : List T}
variable {st : Stmt} {sts : List Stmt} {s : Sm} {ss sa sb : List Sm} {as bs : List Stmt}
theorem ms_aug {op : Operator} {oo : Op} {k : Nat} {x : Str} {tpos : Pos} {r : V → V → Hp → VK → Prop} (hop : InOp X op r) (hS : InS Z oo r) (hN : X.N.Nodup) (he : ME Z X e m) (hi : X.N[k]? = some x := by rfl) (hx : Loc X.env.scope x := by first | exact Or.inl rfl | exact Or.inr rfl)
    (hc : k ∉ Z.cs := by first | exact List.not_mem_nil | decide) (hf : X.fn x = true ∨ X.env.scope.names.lookup x = some .local := by first | exact .inl rfl | exact .inr rfl) : MS Z X (.AugAssign (.Name x tpos) op e pos) (.aug k oo m) := by
  refine PS.imp (ps_aug hN hi hx he hop hf) fun D σ H h => ?_
  obtain ⟨F, μ, S, ρ, ou, g, rr, ev, q⟩ := h
  unfold evS at ev
  obtain ⟨a0, e0, ev⟩ := bind_some' ev
  obtain ⟨y, e1, ev⟩ := bind_some' ev
  obtain ⟨d, e2, ev⟩ := bind_some' ev
  split at ev
  · cases ev
    obtain ⟨v, s1, s2⟩ := rr.slot e0 hc
    refine ⟨v, s1, F, μ, S, ρ, y.1, y.2, g, rr, e1, fun w F1 μ1 H1 x1 p1 g1 r1 => ?_⟩
    exact hS y.2 v w a0 y.1 d F1 μ1 H1 _ (s2.mono x1 p1) r1 e2 fun v3 r3 => q F1 μ1 _ H1 x1 p1 g1 ((rr.mono x1 p1).set r3 hc)
  · cases ev
theorem any_zip' {α β γ : Type} (f : α → Bool) : ∀ (kvs : List (α × β)) (vs : List γ), kvs.length = vs.length → ((kvs.map (·.1)).zip vs).any (fun kv => f kv.1) = kvs.any fun kv => f kv.1
  | [], [], _ => rfl
  | [], _ :: _, h => by cases h
  | _ :: _, [], h => by cases h
  | p :: kvs, w :: vs, h => by
    simp only [List.map_cons, List.zip_cons_cons, List.any_cons]
    rw [any_zip' f kvs vs (by simpa using h)]
theorem putmap_rep {k : Key} {v : V} {d : D} (rv : Rep Z.W F μ v d) : ∀ {kvs : List (Key × D)} {vs : List V}, Reps Z.W F μ vs (kvs.map (·.2)) →
    ∃ vs', ((kvs.map (·.1)).zip vs).map (fun kv => if kv.1 = k then (kv.1, v) else kv) = ((kvs.map fun kv => if kv.1 = k then (kv.1, d) else kv).map (·.1)).zip vs' ∧ Reps Z.W F μ vs' ((kvs.map fun kv => if kv.1 = k then (kv.1, d) else kv).map (·.2))
  | [], vs, r => by cases r; exact ⟨[], rfl, .nil⟩
  | q :: kvs, vs, r => by
    cases r with
    | @cons w _ ws _ r1 r2 =>
      obtain ⟨vs', h1, h2⟩ := putmap_rep rv r2
      simp only [List.map_cons, List.zip_cons_cons]
      by_cases e : q.1 = k
      · rw [if_pos e, if_pos e]
        exact ⟨v :: vs', by rw [List.zip_cons_cons, h1], .cons rv h2⟩
      · rw [if_neg e, if_neg e]
        exact ⟨w :: vs', by rw [List.zip_cons_cons, h1], .cons r1 h2⟩
theorem putK_rep {k : Key} {v : V} {d : D} {kvs : List (Key × D)} {vs : List V} (r : Reps Z.W F μ vs (kvs.map (·.2))) (rv : Rep Z.W F μ v d) :
    ∃ vs', L2.putK ((kvs.map (·.1)).zip vs) k v = ((putK k d kvs).map (·.1)).zip vs' ∧ Reps Z.W F μ vs' ((putK k d kvs).map (·.2)) := by
  have hl : kvs.length = vs.length := by rw [r.length, List.length_map]
  unfold L2.putK putK
  rw [any_zip' (fun x => decide (x = k)) kvs vs hl]
  split
  · exact putmap_rep rv r
  · refine ⟨vs ++ [v], ?_, ?_⟩
    · rw [List.map_append, List.zip_append (by rw [List.length_map]; exact hl)]
      rfl
    · rw [List.map_append]
      exact r.append (.one rv)
theorem ms_setsub {pos' : Pos} (St : Std Z X kk) (ho : ME Z X o mo) (hi : ME Z X i mi) (he : ME Z X e m) (hs : swapsWith e (some (.Subscript o i pos')) pos.line X.env = pure false := by rfl)
    (hs1 : swapsWithSole [.Subscript o i pos'] e pos.line X.env = pure false := by rfl) (hw : swappedStores [.Subscript o i pos'] e X.env = pure none := by rfl) (h1 : (assignEach [.Subscript o i pos'] X.env).map (·.2) = [assign (.Subscript o i pos') X.env] := by rfl)
    (ha : ∀ v, assign (.Subscript o i pos') X.env v = (do
      let ov ← holding [v] (eval o X.env)
      let iv ← holding [v, ov] (eval i X.env)
      standAt pos'
      holding [v, ov, iv] (setItem ov iv v)
      release [v, ov, iv] []) := by intro _; rfl) : MS Z X (.Assign [.Subscript o i pos'] e pos) (.setsub mo mi m) := by
  have hu : X.A.units + 1 < cLine := by have := St.hu; omega
  refine PS.imp (PS.or (ps_asg he (pg_sub ho hi set_list ha) hs1 hw h1) (ps_dput hu ho hi he hs)) fun D σ H h => ?_
  obtain ⟨F, μ, S, ρ, ou, g, rr, ev, q⟩ := h
  unfold evS at ev
  obtain ⟨x, e1, ev⟩ := bind_some' ev
  obtain ⟨y, e2, ev⟩ := bind_some' ev
  obtain ⟨z, e3, ev⟩ := bind_some' ev
  obtain ⟨S', e4, e5⟩ := map_some' ev
  cases e5
  obtain ⟨ln, hln⟩ : ∃ n, y.1 = .loc n := by cases hy : y.1 <;> rw [hy] at e4 <;> first | exact ⟨_, rfl⟩ | cases e4
  rw [hln] at e4
  have e4 : (match z.2[ln]? with
    | some (.lst xs) => match z.1 with
      | .int k => (L2.ixN xs.length k).map fun j => z.2.set ln (.lst (xs.set j x.1))
      | _ => none
    | some (.dct kvs) => (keyOf z.1).bind fun k => if kvs.length < sizeLine then some (z.2.set ln (.dct (putK k x.1 kvs))) else none
    | _ => none) = some S' := e4
  split at e4
  · rename_i xs ec
    split at e4
    · rename_i k ek
      obtain ⟨j, e5, e6⟩ := map_some' e4
      cases e6
      refine .inl ⟨F, μ, S, ρ, x.1, x.2, g, rr, e1, fun v F1 μ1 H1 x1 p1 g1 r1 => ?_⟩
      refine ⟨F1, μ1, x.2, ρ, y.1, y.2, g1, rr.mono x1 p1, e2, fun w F2 μ2 H2 x2 p2 g2 r2 => ?_⟩
      rw [hln] at r2
      refine ⟨F2, μ2, y.2, ρ, z.1, z.2, g2, (rr.mono x1 p1).mono x2 p2, e3, fun u F3 μ3 H3 x3 p3 g3 r3 => ?_⟩
      obtain ⟨a, rfl, hm, _, vs, h1, rs⟩ := g3.loc (r2.mono x3 p3) ec
      rw [ek] at r3
      cases r3
      refine ⟨a, vs, k, j, rfl, rfl, h1, by rw [rs.length]; exact e5, ?_⟩
      have x13 := (x1.trans x2).trans x3
      have p13 := (p1.trans p2).trans p3
      exact q F3 μ3 σ _ x13 p13 (g3.set hm ec ⟨_, upd_same, Reps.set (r1.mono (x2.trans x3) (p2.trans p3)) j rs⟩) (rr.mono x13 p13)
    · cases e4
  · rename_i kvs ec
    obtain ⟨k, e5, e4⟩ := bind_some' e4
    split at e4
    · rename_i hz
      cases e4
      refine .inr ⟨F, μ, S, ρ, x.1, x.2, g, rr, e1, fun v F1 μ1 H1 x1 p1 g1 r1 => ?_⟩
      refine ⟨F1, μ1, x.2, ρ, y.1, y.2, g1, rr.mono x1 p1, e2, fun w F2 μ2 H2 x2 p2 g2 r2 => ?_⟩
      rw [hln] at r2
      refine ⟨F2, μ2, y.2, ρ, z.1, z.2, g2, (rr.mono x1 p1).mono x2 p2, e3, fun u F3 μ3 H3 x3 p3 g3 r3 => ?_⟩
      obtain ⟨a, rfl, hm, _, vs, h1, rs⟩ := g3.loc (r2.mono x3 p3) ec
      have hk := keyOf_rep r3 e5
      subst hk
      have x13 := (x1.trans x2).trans x3
      have p13 := (p1.trans p2).trans p3
      obtain ⟨vs', q1, q2⟩ := putK_rep (k := k) rs (r1.mono (x2.trans x3) (p2.trans p3))
      refine ⟨a, _, rfl, .k h1 ?_, ?_⟩
      · rw [List.length_zip, List.length_map]
        exact Nat.lt_of_le_of_lt (Nat.min_le_left _ _) hz
      · rw [q1]
        exact q F3 μ3 σ _ x13 p13 (g3.set hm ec ⟨vs', upd_same, q2⟩) (rr.mono x13 p13)
    · cases e4
  · cases e4

/-! ### while -/
theorem ms_while (hp : PassesOwn (model X.prog X.w) X.A X.env X.xe) (hc : MT Z X c mc) (hb : MSs Z X as sa) : MS Z X (.While c as [] pos) (.whil mc sa) := by
  refine PS.imp (ps_while hp hc hb) fun D σ H h => ?_
  obtain ⟨F, μ, S, ρ, o, g, rr, ev, q⟩ := h
  unfold evS at ev
  obtain ⟨n, ev⟩ := whileL_some.mp ev
  refine ⟨fun n σ' H' => ∃ F' μ' S' ρ', Ex F F' ∧ μ <+: μ' ∧ Ag Z.W F' μ' S' H' ∧ Rho Z F' μ' ρ' σ' ∧ whileN (evE Z.C mc) (evSs Z.C sa) n ρ' S' = some o, ⟨n, F, μ, S, ρ, Ex.refl F, pre_refl μ, g, rr, ev⟩, ?_⟩
  rintro n σ1 H1 ⟨F1, μ1, S1, ρ1, x1, p1, g1, r1, e1⟩
  cases n with
  | zero => cases e1
  | succ n =>
    unfold whileN at e1
    split at e1
    · rename_i S2 ec
      refine ⟨F1, μ1, S1, ρ1, true, S2, g1, r1, ec, fun F2 μ2 H2 x2 p2 g2 => ?_⟩
      refine iteT ?_
      refine ⟨fun σ' H' => ∃ F' μ' S' ρ', Ex F F' ∧ μ <+: μ' ∧ Ag Z.W F' μ' S' H' ∧ Rho Z F' μ' ρ' σ' ∧ whileN (evE Z.C mc) (evSs Z.C sa) n ρ' S' = some o, fun σ' H' w => ⟨n, Nat.lt_succ_self n, w⟩, ?_⟩
      have x12 := x1.trans x2
      have p12 := p1.trans p2
      split at e1
      · rename_i ρ' S' eb
        exact ⟨F2, μ2, S2, ρ1, _, g2, r1.mono x2 p2, eb, fun F3 μ3 σ3 H3 x3 p3 g3 r3 => ⟨F3, μ3, S', ρ', x12.trans x3, p12.trans p3, g3, r3, e1⟩⟩
      · rename_i ρ' S' eb
        exact ⟨F2, μ2, S2, ρ1, _, g2, r1.mono x2 p2, eb, fun F3 μ3 σ3 H3 x3 p3 g3 r3 => ⟨F3, μ3, S', ρ', x12.trans x3, p12.trans p3, g3, r3, e1⟩⟩
      · rename_i ρ' S' eb
        cases e1
        exact ⟨F2, μ2, S2, ρ1, _, g2, r1.mono x2 p2, eb, fun F3 μ3 σ3 H3 x3 p3 g3 r3 => q F3 μ3 σ3 H3 (x12.trans x3) (p12.trans p3) g3 r3⟩
      · rename_i d S' eb
        cases e1
        exact ⟨F2, μ2, S2, ρ1, _, g2, r1.mono x2 p2, eb, fun v F3 μ3 H3 x3 p3 g3 r3 => q v F3 μ3 H3 (x12.trans x3) (p12.trans p3) g3 r3⟩
      · cases e1
    · rename_i S2 ec
      cases e1
      refine ⟨F1, μ1, S1, ρ1, false, S2, g1, r1, ec, fun F2 μ2 H2 x2 p2 g2 => ?_⟩
      refine iteF ?_
      exact q F2 μ2 σ1 H2 (x1.trans x2) (p1.trans p2) g2 (r1.mono x2 p2)
    · cases e1

/-! ### what a loop walks -/
structure ItOk (Z : Sd) (J : It) (F : Hp) (μ : List Addr) (P : Sto → Prop) (xs : List D) : Prop where
  go : ∀ i F' μ' S' H', i < xs.length → Ex F F' → μ <+: μ' → Ag Z.W F' μ' S' H' → P S' → J.go i H'
  yld : ∀ i x F' μ' S' H' v H'', xs[i]? = some x → Ex F F' → μ <+: μ' → Ag Z.W F' μ' S' H' → P S' → J.yld i H' v H'' → ∃ F'', Ex F' F'' ∧ Ag Z.W F'' μ' S' H'' ∧ Rep Z.W F'' μ' v x ∧ Ex H' H'' ∧ ∀ b, H' b ≠ none → F'' b = F' b
  stop : ∀ F' μ' S' H', Ex F F' → μ <+: μ' → Ag Z.W F' μ' S' H' → P S' → J.stop xs.length H'
def rdI (Z : Sd) (k : SrcK) (ms : List E) : TI := fun σ H R => ∃ F μ S ρ ds S' xs, Ag Z.W F μ S H ∧ Rho Z F μ ρ σ ∧ evEs Z.C ms ρ S = some (ds, S') ∧ itemsD k ds S' = some xs ∧
  ∀ J F' μ' H', Ex F F' → μ <+: μ' → Ag Z.W F' μ' S' H' → ItOk Z J F' μ' (holdD ds S') xs → R J H'
abbrev MI (Z : Sd) (X : Cx) (tg e : Expr) (k : SrcK) (ms : List E) : Prop := PI X tg e (rdI Z k ms)
/-- a list at each turn -/
theorem ls_hold {v : V} {d : D} {xs : List D} (g : Ag Z.W F μ S H) (r : Rep Z.W F μ v d) (h : lsOf S d = some xs) : ∃ a vs, v = .ref a ∧ H a = some (.lst vs) ∧ Reps Z.W F μ vs xs ∧
    ∀ F' μ' S' H', Ex F F' → μ <+: μ' → Ag Z.W F' μ' S' H' → holdD [d] S S' → ∃ vs, H' a = some (.lst vs) ∧ Reps Z.W F' μ' vs xs := by
  obtain ⟨a, vs, rfl, h1, rs⟩ := lsOf_rep g r h
  refine ⟨a, vs, rfl, h1, rs, fun F' μ' S' H' x' p' g' hh => ?_⟩
  have h' : lsOf S' d = some xs := by
    cases d <;> try exact h
    rename_i n
    have := hh n (by simp)
    simp only [lsOf, this]
    exact h
  obtain ⟨a', vs', e, h1', rs'⟩ := lsOf_rep g' (r.mono x' p') h'
  cases e
  exact ⟨vs', h1', rs'⟩
theorem itl_ok {a : Addr} {xs : List D} {P : Sto → Prop} (hK : X.K = Z.W.K)
    (h : ∀ F' μ' S' H', Ex F F' → μ <+: μ' → Ag Z.W F' μ' S' H' → P S' → ∃ vs, SqL Z.W.K H' a vs ∧ Reps Z.W F' μ' vs xs) : ItOk Z (Itl X.K a) F μ P xs := by
  rw [hK]
  refine ⟨fun i F' μ' S' H' hi x' p' g' hp => ?_, fun i x F' μ' S' H' v H'' hx x' p' g' hp y => ?_, fun F' μ' S' H' x' p' g' hp => ?_⟩
  · obtain ⟨vs, h1, h2⟩ := h F' μ' S' H' x' p' g' hp
    have hl := h2.length
    exact ⟨vs, vs[i]'(by omega), h1, List.getElem?_eq_getElem (by omega)⟩
  · obtain ⟨vs, h1, h2⟩ := h F' μ' S' H' x' p' g' hp
    obtain ⟨rfl, hy⟩ := y
    obtain ⟨w, q1, q2⟩ := h2.get hx
    rw [hy vs h1] at q1
    cases q1
    exact ⟨F', Ex.refl _, g', q2, Ex.refl _, fun _ _ => rfl⟩
  · obtain ⟨vs, h1, h2⟩ := h F' μ' S' H' x' p' g' hp
    exact ⟨vs, h1, by rw [h2.length]; exact Nat.le_refl _⟩
theorem evEs_one {C : Ctx} {m : E} {ρ : Env} {S : Sto} {ds : List D} {S' : Sto} (h : evEs C [m] ρ S = some (ds, S')) : ∃ d, evE C m ρ S = some (d, S') ∧ ds = [d] := by
  unfold evEs at h
  obtain ⟨x, e1, h⟩ := bind_some' h
  obtain ⟨y, e2, h⟩ := map_some' h
  unfold evEs at e2
  cases e2
  cases h
  exact ⟨x.1, e1, rfl⟩
theorem mi_list {tg : Expr} (St : Std Z X kk) (he : ME Z X e m) : MI Z X tg e .lst [m] := by
  refine PI.imp (pi_list he) fun σ H R h => ?_
  obtain ⟨F, μ, S, ρ, ds, S', xs, g, rr, ev, hi, q⟩ := h
  obtain ⟨d, e1, rfl⟩ := evEs_one ev
  refine ⟨F, μ, S, ρ, d, S', g, rr, e1, fun v F1 μ1 H1 x1 p1 g1 r1 => ?_⟩
  have lists : lsOf S' d = some xs → ∃ a, v = V.ref a ∧ (∃ xs, SqL X.K H1 a xs) ∧ R (Itl X.K a) H1 := fun h => by
    obtain ⟨a, vs, rfl, h1, h2, h3⟩ := ls_hold g1 r1 h
    refine ⟨a, rfl, ⟨vs, SqL.of h1⟩, q _ F1 μ1 H1 x1 p1 g1 (itl_ok St.K fun F' μ' S2 H' x' p' g' hh => ?_)⟩
    obtain ⟨vs', q1, q2⟩ := h3 F' μ' S2 H' x' p' g' hh
    exact ⟨vs', SqL.of q1, q2⟩
  cases d <;> try exact lists hi
  cases hi
  cases r1 with
  | scr h0 =>
    have hs := h0.sql
    refine ⟨_, rfl, ⟨_, by rw [St.K]; exact Evl.ex_l g1.ex hs⟩, q _ F1 μ1 H1 x1 p1 g1 (itl_ok St.K fun F' μ' S2 H' x' p' g' hh => ?_)⟩
    exact ⟨_, Evl.ex_l (x'.trans g'.ex) hs, reps_ints⟩
theorem mi_keys {tg : Expr} (St : Std Z X kk) (he : ME Z X e m) : MI Z X tg e .keys [m] := by
  refine PI.imp (pi_keys he) fun σ H R h => ?_
  obtain ⟨F, μ, S, ρ, ds, S', xs, g, rr, ev, hi, q⟩ := h
  obtain ⟨d, e1, rfl⟩ := evEs_one ev
  refine ⟨F, μ, S, ρ, d, S', g, rr, e1, fun v F1 μ1 H1 x1 p1 g1 r1 => ?_⟩
  simp only [itemsD] at hi
  split at hi
  · rename_i ks hd
    cases hd
    cases hi
    cases r1 with
    | @fky a o _ vs hs hl =>
      refine ⟨a, o, rfl, .inl ⟨_, g1.ex _ _ hs, q _ F1 μ1 H1 x1 p1 g1 ?_⟩⟩
      have hz : (ks.zip vs).length = ks.length := by rw [List.length_zip, hl, Nat.min_self]
      refine ⟨fun i F' μ' S' H' hi x' p' g' hp => ?_, fun i x F' μ' S' H' v H'' hx x' p' g' hp y => ?_, fun F' μ' S' H' x' p' g' hp => ?_⟩
      · exact ⟨g'.ex _ _ (x' _ _ hs), by rw [hz]; simpa using hi⟩
      · obtain ⟨rfl, k, w, hk, rfl⟩ := y
        have hk' : ks[i]? = some k := by
          obtain ⟨h1, h2⟩ := List.getElem?_eq_some_iff.mp hk
          rw [List.getElem_zip] at h2
          rw [hz] at h1
          rw [List.getElem?_eq_getElem h1]
          exact congrArg (fun p => some p.1) h2
        rw [List.getElem?_map, hk'] at hx
        cases hx
        refine ⟨F', Ex.refl _, g', ?_, Ex.refl _, fun _ _ => rfl⟩
        cases k with
        | inl i => exact .int i
        | inr x => exact .str x
      · exact ⟨g'.ex _ _ (x' _ _ hs), by rw [hz]; simp⟩
  · cases hi
theorem mi_tup {tg : Expr} (St : Std Z X kk) (he : ME Z X e m) : MI Z X tg e .tup [m] := by
  refine PI.imp (pi_tup he) fun σ H R h => ?_
  obtain ⟨F, μ, S, ρ, ds, S', xs, g, rr, ev, hi, q⟩ := h
  obtain ⟨d, e1, rfl⟩ := evEs_one ev
  refine ⟨F, μ, S, ρ, d, S', g, rr, e1, fun v F1 μ1 H1 x1 p1 g1 r1 => ?_⟩
  simp only [itemsD] at hi
  split at hi
  · rename_i ys hd
    cases hd
    cases hi
    cases r1 with
    | tup hs rs =>
      rw [St.K]
      refine ⟨_, rfl, ⟨_, Evl.ex_t g1.ex hs⟩, q _ F1 μ1 H1 x1 p1 g1 ?_⟩
      refine ⟨fun i F' μ' S' H' hi x' p' g' hp => ?_, fun i x F' μ' S' H' v H'' hx x' p' g' hp y => ?_, fun F' μ' S' H' x' p' g' hp => ?_⟩
      · have hl := rs.length
        exact ⟨_, _, Evl.ex_t (x'.trans g'.ex) hs, List.getElem?_eq_getElem (by omega)⟩
      · obtain ⟨rfl, hy⟩ := y
        obtain ⟨w, q1, q2⟩ := rs.get hx
        rw [hy _ (Evl.ex_t (x'.trans g'.ex) hs)] at q1
        cases q1
        exact ⟨F', Ex.refl _, g', q2.mono x' p', Ex.refl _, fun _ _ => rfl⟩
      · exact ⟨_, Evl.ex_t (x'.trans g'.ex) hs, by rw [rs.length]; exact Nat.le_refl _⟩
  · cases hi
theorem mi_str {tg : Expr} (St : Std Z X kk) (he : ME Z X e m) : MI Z X tg e .str [m] := by
  refine PI.imp (pi_str he) fun σ H R h => ?_
  obtain ⟨F, μ, S, ρ, ds, S', xs, g, rr, ev, hi, q⟩ := h
  obtain ⟨d, e1, rfl⟩ := evEs_one ev
  refine ⟨F, μ, S, ρ, d, S', g, rr, e1, fun v F1 μ1 H1 x1 p1 g1 r1 => ?_⟩
  simp only [itemsD] at hi
  split at hi
  · rename_i y hd
    cases hd
    cases hi
    cases r1
    refine ⟨y, rfl, q _ F1 μ1 H1 x1 p1 g1 ?_⟩
    refine ⟨fun i F' μ' S' H' hi x' p' g' hp => ?_, fun i x F' μ' S' H' v H'' hx x' p' g' hp yy => ?_, fun F' μ' S' H' x' p' g' hp => ?_⟩
    · show i < y.cps.size
      simpa using hi
    · obtain ⟨rfl, c, hc, rfl⟩ := yy
      rw [List.getElem?_map, Array.getElem?_toList, hc] at hx
      cases hx
      exact ⟨F', Ex.refl _, g', .str _, Ex.refl _, fun _ _ => rfl⟩
    · show y.cps.size ≤ _
      simp
  · cases hi
theorem itr_ok {lo : Int} {n : Nat} {P : Sto → Prop} {xs : List D} (hx : xs = (List.range n).map fun i => D.int (lo + (i : Nat))) : ItOk Z (Itr lo n) F μ P xs := by
  subst hx
  refine ⟨fun i F' μ' S' H' hi x' p' g' hp => ?_, fun i x F' μ' S' H' v H'' hx x' p' g' hp yy => ?_, fun F' μ' S' H' x' p' g' hp => ?_⟩
  · show i < n
    simpa using hi
  · obtain ⟨rfl, rfl⟩ := yy
    rw [List.getElem?_map] at hx
    obtain ⟨j, h1, rfl⟩ := map_some' hx
    obtain ⟨h2, h3⟩ := List.getElem?_eq_some_iff.mp h1
    rw [List.getElem_range] at h3
    subst h3
    exact ⟨F', Ex.refl _, g', .int _, Ex.refl _, fun _ _ => rfl⟩
  · show n ≤ _
    simp
theorem mi_rng1 {tg : Expr} (St : Std Z X kk) (hg : Gl X "range") (hm : X.mg "range" = none) (ha : MA Z X [a] ms) (hs : starEach [a] X.env = [(false, eval a X.env)] := by rfl) : MI Z X tg (.Call (.Name "range" p) [a] [] pos) .rng1 ms := by
  refine PI.imp (pi_range1 hg hm ha hs) fun σ H R h => ?_
  obtain ⟨F, μ, S, ρ, ds, S', xs, g, rr, ev, hi, q⟩ := h
  refine ⟨F, μ, S, ρ, ds, S', g, rr, ev, fun vs F1 μ1 H1 x1 p1 g1 r1 => ?_⟩
  simp only [itemsD] at hi
  split at hi
  · rename_i j
    split at hi
    · rename_i hj
      cases hi
      cases r1 with
      | cons r1 r2 =>
        cases r2
        cases r1
        refine ⟨j, rfl, hj.1, hj.2, q _ F1 μ1 H1 x1 p1 g1 (itr_ok ?_)⟩
        simp
    · cases hi
  · cases hi
theorem mi_rng2 {tg : Expr} (St : Std Z X kk) (hg : Gl X "range") (hm : X.mg "range" = none) (ha : MA Z X [a, b] ms) (hs : starEach [a, b] X.env = [(false, eval a X.env), (false, eval b X.env)] := by rfl) (hs2 : starEach [b] X.env = [(false, eval b X.env)] := by rfl) : MI Z X tg (.Call (.Name "range" p) [a, b] [] pos) .rng2 ms := by
  refine PI.imp (pi_range2 hg hm ha hs hs2) fun σ H R h => ?_
  obtain ⟨F, μ, S, ρ, ds, S', xs, g, rr, ev, hi, q⟩ := h
  refine ⟨F, μ, S, ρ, ds, S', g, rr, ev, fun vs F1 μ1 H1 x1 p1 g1 r1 => ?_⟩
  simp only [itemsD] at hi
  split at hi
  · rename_i j k
    split at hi
    · rename_i hj
      cases hi
      cases r1 with
      | cons r1 r2 =>
        cases r2 with
        | cons r2 r3 =>
          cases r3
          cases r1
          cases r2
          exact ⟨j, k, rfl, hj, q _ F1 μ1 H1 x1 p1 g1 (itr_ok rfl)⟩
    · cases hi
  · cases hi
theorem mi_enum {elts : List Expr} {kt : Nat} {tpos : Pos} (St : Std Z X kk) (hg : Gl X "enumerate") (hm : X.mg "enumerate" = none) (ha : MA Z X [a] ms) (hs : starEach [a] X.env = [(false, eval a X.env)] := by rfl) :
    MI Z X (.Tuple elts kt tpos) (.Call (.Name "enumerate" p) [a] [] pos) .enum ms := by
  refine PI.imp (pi_enum hg hm ha hs) fun σ H R h => ?_
  obtain ⟨F, μ, S, ρ, ds, S', xs, g, rr, ev, hi, q⟩ := h
  refine ⟨F, μ, S, ρ, ds, S', g, rr, ev, fun vs F1 μ1 H1 x1 p1 g1 r1 => ?_⟩
  simp only [itemsD] at hi
  split at hi
  · rename_i d
    obtain ⟨ys, e1, rfl⟩ := map_some' hi
    cases r1 with
    | cons r1 r2 =>
      cases r2
      obtain ⟨a, ws, rfl, h1, h2, h3⟩ := ls_hold g1 r1 e1
      rw [St.K]
      refine ⟨a, ws, rfl, SqL.of h1, q _ F1 μ1 H1 x1 p1 g1 ?_⟩
      refine ⟨fun i F' μ' S' H' hi x' p' g' hp => ?_, fun i x F' μ' S' H' v H'' hx x' p' g' hp yy => ?_, fun F' μ' S' H' x' p' g' hp => ?_⟩
      · obtain ⟨us, q1, q2⟩ := h3 F' μ' S' H' x' p' g' hp
        have hl := q2.length
        have hi : i < ys.length := by simpa using hi
        exact ⟨us, us[i]'(by omega), SqL.of q1, List.getElem?_eq_getElem (by omega)⟩
      · obtain ⟨us, q1, q2⟩ := h3 F' μ' S' H' x' p' g' hp
        obtain ⟨T, z, rfl, hT, rfl, hy⟩ := yy
        obtain ⟨y, l1, rfl⟩ : ∃ y, ys[i]? = some y ∧ x = .tup [.int (i : Nat), y] := by
          rw [List.getElem?_zipWith] at hx
          cases hr : (List.range ys.length)[i]? with
          | none => rw [hr] at hx; cases hx
          | some j =>
            cases hy : ys[i]? with
            | none => rw [hr, hy] at hx; cases hx
            | some y =>
              rw [hr, hy] at hx
              obtain ⟨h2, h3⟩ := List.getElem?_eq_some_iff.mp hr
              rw [List.getElem_range] at h3
              subst h3
              exact ⟨y, rfl, (Option.some.inj hx).symm⟩
        obtain ⟨w, k1, k2⟩ := q2.get l1
        rw [hy us (SqL.of q1)] at k1
        cases k1
        obtain ⟨g2, ex, eq⟩ := g'.frz hT (.tup [.int (i : Nat), z])
        exact ⟨_, ex, g2, .tup (.inl (.inl eq)) (.cons (.int _) (.one (k2.mono ex (pre_refl _)))), Ex.new hT, fun b hb => upd_ne fun e => hb (by rw [e]; exact hT)⟩
      · obtain ⟨us, q1, q2⟩ := h3 F' μ' S' H' x' p' g' hp
        exact ⟨us, SqL.of q1, by rw [q2.length]; simp⟩
  · cases hi
theorem mi_zip {elts : List Expr} {kt : Nat} {tpos : Pos} (St : Std Z X kk) (hg : Gl X "zip") (hm : X.mg "zip" = none) (ha : MA Z X [a, b] ms)
    (hs : starEach [a, b] X.env = (false, eval a X.env) :: starEach [b] X.env := by rfl) (hpl : (backTo pos (starEach [b] X.env)).any (·.1) = false := by rfl) :
    MI Z X (.Tuple elts kt tpos) (.Call (.Name "zip" p) [a, b] [] pos) .zip ms := by
  refine PI.imp (pi_zip hg hm ha hs hpl) fun σ H R h => ?_
  obtain ⟨F, μ, S, ρ, ds, S', xs, g, rr, ev, hi, q⟩ := h
  refine ⟨F, μ, S, ρ, ds, S', g, rr, ev, fun vs F1 μ1 H1 x1 p1 g1 r1 => ?_⟩
  simp only [itemsD] at hi
  split at hi
  · rename_i d d2
    split at hi
    · rename_i ys zs e1 e2
      cases hi
      cases r1 with
      | cons r1 r2 =>
        cases r2 with
        | cons r2 r3 =>
          cases r3
          obtain ⟨a, ws, rfl, h1, h2, h3⟩ := ls_hold g1 r1 e1
          obtain ⟨b, us, rfl, k1, k2, k3⟩ := ls_hold g1 r2 e2
          have hold1 : ∀ S2, holdD [d, d2] S' S2 → holdD [d] S' S2 := fun S2 h n hn => h n (by simp at hn ⊢; exact .inl hn)
          have hold2 : ∀ S2, holdD [d, d2] S' S2 → holdD [d2] S' S2 := fun S2 h n hn => h n (by simp at hn ⊢; exact .inr hn)
          rw [St.K]
          refine ⟨a, b, ws, us, rfl, SqL.of h1, SqL.of k1, q _ F1 μ1 H1 x1 p1 g1 ?_⟩
          refine ⟨fun i F' μ' S' H' hi x' p' g' hp => ?_, fun i x F' μ' S' H' v H'' hx x' p' g' hp yy => ?_, fun F' μ' S' H' x' p' g' hp => ?_⟩
          · obtain ⟨as, q1, q2⟩ := h3 F' μ' S' H' x' p' g' (hold1 _ hp)
            obtain ⟨bs, q3, q4⟩ := k3 F' μ' S' H' x' p' g' (hold2 _ hp)
            have hl := q2.length
            have hl' := q4.length
            have hi : i < ys.length ∧ i < zs.length := by
              rw [List.length_zipWith] at hi
              omega
            exact ⟨as, bs, as[i]'(by omega), bs[i]'(by omega), SqL.of q1, SqL.of q3, List.getElem?_eq_getElem (by omega), List.getElem?_eq_getElem (by omega)⟩
          · obtain ⟨as, q1, q2⟩ := h3 F' μ' S' H' x' p' g' (hold1 _ hp)
            obtain ⟨bs, q3, q4⟩ := k3 F' μ' S' H' x' p' g' (hold2 _ hp)
            obtain ⟨T, z, z2, rfl, hT, rfl, hy, hy2⟩ := yy
            obtain ⟨y, y2, l1, l2, rfl⟩ : ∃ y y2, ys[i]? = some y ∧ zs[i]? = some y2 ∧ x = .tup [y, y2] := by
              rw [List.getElem?_zipWith] at hx
              cases hr : ys[i]? with
              | none => rw [hr] at hx; cases hx
              | some y =>
                cases hy : zs[i]? with
                | none => rw [hr, hy] at hx; cases hx
                | some y2 =>
                  rw [hr, hy] at hx
                  exact ⟨y, y2, rfl, rfl, (Option.some.inj hx).symm⟩
            obtain ⟨w, n1, n2⟩ := q2.get l1
            obtain ⟨w2, n3, n4⟩ := q4.get l2
            rw [hy as (SqL.of q1)] at n1
            cases n1
            rw [hy2 bs (SqL.of q3)] at n3
            cases n3
            obtain ⟨g2, ex, eq⟩ := g'.frz hT (.tup [z, z2])
            exact ⟨_, ex, g2, .tup (.inl (.inl eq)) (.cons (n2.mono ex (pre_refl _)) (.one (n4.mono ex (pre_refl _)))), Ex.new hT, fun b hb => upd_ne fun e => hb (by rw [e]; exact hT)⟩
          · obtain ⟨as, q1, q2⟩ := h3 F' μ' S' H' x' p' g' (hold1 _ hp)
            obtain ⟨bs, q3, q4⟩ := k3 F' μ' S' H' x' p' g' (hold2 _ hp)
            refine ⟨as, bs, SqL.of q1, SqL.of q3, ?_⟩
            have hl := q2.length
            have hl' := q4.length
            rw [List.length_zipWith]
            omega
    · cases hi
  · cases hi
theorem mi_rev {tg : Expr} (St : Std Z X kk) (hg : Gl X "reversed") (hm : X.mg "reversed" = none) (he : ME Z X e m) (hs : starEach [e] X.env = (false, eval e X.env) :: starEach [] X.env := by rfl) : MI Z X tg (.Call (.Name "reversed" p) [e] [] pos) .rev [m] := by
  refine PI.imp (RT.pi_revA hg hm he hs) fun σ H R h => ?_
  obtain ⟨F, μ, S, ρ, ds, S', xs, g, rr, ev, hi, q⟩ := h
  obtain ⟨d, e1, rfl⟩ := evEs_one ev
  refine ⟨F, μ, S, ρ, d, S', g, rr, e1, fun v F1 μ1 H1 x1 p1 g1 r1 => ?_⟩
  simp only [itemsD] at hi
  obtain ⟨ys, e2, rfl⟩ := map_some' hi
  obtain ⟨a, ws, rfl, h1, h2, h3⟩ := ls_hold g1 r1 e2
  rw [St.K]
  have hw := h2.length
  refine ⟨a, ws, rfl, .inl ⟨SqL.of h1, q _ F1 μ1 H1 x1 p1 g1 ?_⟩⟩
  refine ⟨fun i F' μ' S' H' hi x' p' g' hp => ?_, fun i x F' μ' S' H' v H'' hx x' p' g' hp yy => ?_, fun F' μ' S' H' x' p' g' hp => ?_⟩
  · obtain ⟨us, q1, q2⟩ := h3 F' μ' S' H' x' p' g' hp
    have hl := q2.length
    rw [List.length_reverse] at hi
    exact ⟨by omega, us, us[ws.length - 1 - i]'(by omega), SqL.of q1, List.getElem?_eq_getElem (by omega)⟩
  · obtain ⟨us, q1, q2⟩ := h3 F' μ' S' H' x' p' g' hp
    obtain ⟨rfl, hy⟩ := yy
    have hi : i < ys.length := by
      have := (List.getElem?_eq_some_iff.mp hx).1
      rwa [List.length_reverse] at this
    rw [List.getElem?_reverse hi, ← hw] at hx
    obtain ⟨w, k1, k2⟩ := q2.get hx
    rw [hy us (SqL.of q1)] at k1
    cases k1
    exact ⟨F', Ex.refl _, g', k2, Ex.refl _, fun _ _ => rfl⟩
  · show ws.length ≤ _
    rw [List.length_reverse, hw]
    exact Nat.le_refl _

/-! ### for -/
theorem ms_for {tg it : Expr} {k : SrcK} (St : Std Z X kk) (hp : PassesOwn (model X.prog X.w) X.A X.env X.xe) (hi : MI Z X tg it k ms) (hg : MG Z X tg t) (hb : MSs Z X as sa) (hs : ∀ x, foldedSetIterable it X.env x = pure x := by intro _; rfl) :
    MS Z X (.For tg it as [] pos) (.for_ t k ms sa) := by
  refine PS.imp (ps_for hp St.calm hi hg hb hs) fun D σ H h => ?_
  obtain ⟨F, μ, S, ρ, o, g, rr, ev, q⟩ := h
  unfold evS at ev
  obtain ⟨x, e1, ev⟩ := bind_some' ev
  obtain ⟨xs, e2, ev⟩ := bind_some' ev
  refine ⟨F, μ, S, ρ, x.1, x.2, xs, g, rr, e1, e2, fun J F1 μ1 H1 x1 p1 g1 ok => ?_⟩
  let W : Nat → Nat → L2.St → Hp → Prop := fun i n σ' H' => n = xs.length - i ∧ i ≤ xs.length ∧ ∃ F' μ' S' ρ', Ex F1 F' ∧ μ1 <+: μ' ∧ Ag Z.W F' μ' S' H' ∧ Rho Z F' μ' ρ' σ' ∧ forL (holdD x.1 x.2) t (evSs Z.C sa) (xs.drop i) ρ' S' = some o
  refine ⟨W, ⟨xs.length, by simp, Nat.zero_le _, F1, μ1, x.2, ρ, Ex.refl _, pre_refl _, g1, rr.mono x1 p1, ev⟩, ?_⟩
  rintro i n σ2 H2 ⟨rfl, hle, F2, μ2, S2, ρ2, x2, p2, g2, r2, e3⟩
  by_cases hlt : i < xs.length
  · rw [List.drop_eq_getElem_cons hlt] at e3
    unfold forL at e3
    split at e3
    · rename_i hold
      obtain ⟨r, e4, e5⟩ := bind_some' e3
      refine .inr ⟨ok.go i F2 μ2 S2 H2 hlt x2 p2 g2 hold, fun σ' H' => W (i + 1) (xs.length - (i + 1)) σ' H', fun σ' H' w => ⟨_, by omega, w⟩, fun v H3 y => ?_⟩
      obtain ⟨F3, x3, g3, r3, _, _⟩ := ok.yld i xs[i] F2 μ2 S2 H2 v H3 (List.getElem?_eq_getElem hlt) x2 p2 g2 hold y
      refine ⟨F3, μ2, S2, ρ2, xs[i], r, g3, r2.mono x3 (pre_refl _), r3, e4, fun F4 μ4 σ4 H4 x4 p4 g4 r4 _ => ?_⟩
      have x14 := (x2.trans x3).trans x4
      have p14 := p2.trans p4
      split at e5
      · rename_i ρ' S' eb
        exact ⟨F4, μ4, r.2, r.1, _, g4, r4, eb, fun F5 μ5 σ5 H5 x5 p5 g5 r5 => ⟨rfl, hlt, F5, μ5, S', ρ', x14.trans x5, p14.trans p5, g5, r5, e5⟩⟩
      · rename_i ρ' S' eb
        exact ⟨F4, μ4, r.2, r.1, _, g4, r4, eb, fun F5 μ5 σ5 H5 x5 p5 g5 r5 => ⟨rfl, hlt, F5, μ5, S', ρ', x14.trans x5, p14.trans p5, g5, r5, e5⟩⟩
      · rename_i ρ' S' eb
        cases e5
        exact ⟨F4, μ4, r.2, r.1, _, g4, r4, eb, fun F5 μ5 σ5 H5 x5 p5 g5 r5 => q F5 μ5 σ5 H5 (x1.trans (x14.trans x5)) (p1.trans (p14.trans p5)) g5 r5⟩
      · rename_i d S' eb
        cases e5
        exact ⟨F4, μ4, r.2, r.1, _, g4, r4, eb, fun v F5 μ5 H5 x5 p5 g5 r5 => q v F5 μ5 H5 (x1.trans (x14.trans x5)) (p1.trans (p14.trans p5)) g5 r5⟩
      · cases e5
    · cases e3
  · have hi : i = xs.length := by omega
    subst hi
    rw [List.drop_length] at e3
    unfold forL at e3
    split at e3
    · rename_i hold
      cases e3
      exact .inl ⟨ok.stop F2 μ2 S2 H2 x2 p2 g2 hold, q F2 μ2 σ2 H2 (x1.trans x2) (p1.trans p2) g2 r2⟩
    · cases e3
end
end Fw

set_option Elab.async false
set_option linter.all false
set_option maxRecDepth 100000
/-! FwL: a, *b = tuple; list comprehensions. -/
namespace Fw
open PySem L2
open Evl (Ex)
section
open PySem.Spec PyProof.Rows
variable {prog : Program} {w : World} {A : Around} {E : Value → Shared → Prop} {s : Shared}
theorem walks_shift {I : Addr} {fp wr : List Addr} {n : Nat} {P : Nat → Value → Prop} {St : Nat → Heap → Prop} (k : Nat) (W : Walks prog w A I fp wr n P St) (hk : k ≤ n) : Walks prog w A I fp wr (n - k) (fun i => P (i + k)) (fun i => St (i + k)) where
  sub := W.sub
  frame := fun i h h' st hk => W.frame _ h h' st hk
  item := fun i s Q E hi st hQ => W.item (i + k) s Q E (by omega) st fun v h' tk hp st' kk => hQ v h' tk hp (by rw [show i + 1 + k = i + k + 1 by omega]; exact st') kk
  done := fun s Q E st hQ => W.done s Q E (by rw [show n - k + k = n by omega] at st; exact st) hQ
  self := fun i s Q E st hQ => W.self _ s Q E st hQ
theorem unpackItems_star {t : Addr} {items : Array Value} {k : Nat} {Q : List Value → Shared → Prop} (hh : A.handled = none) (ht : IsTup s.heap t items) (hk : k ≤ items.size) (hz : items.size ≤ sizeLine)
    (hQ : ∀ (h' : Heap) tk, (∀ b o, s.heap.get? b = some o → h'.get? b = some o) → Q (items.toList.take k ++ [.ref h'.objs.size]) { s with heap := h'.push { cls := .type "list", data := .seq (items.toList.drop k).toArray }, toks := tk }) :
    wpAny (model prog w) A (unpackItems (.ref t) (k + 1) (some k)) Q E s := by
  have hlt0 : t < s.heap.objs.size := by obtain ⟨o, ho, _⟩ := id ht; exact Heap.lt_size ho
  have hlt : t ≠ s.heap.objs.size := Nat.ne_of_lt hlt0
  unfold unpackItems
  refine wpAny_bind ?_
  unfold notIterableAtAll
  refine wpAny_bind (wpAny_specialOf ht.typeIs slot_tuple_iter.lookup ?_)
  refine wpAny_pure ?_
  simp only [Bool.false_eq_true, if_false]
  refine wpAny_bind (wpAny_holding (iter_tuple ht ?_))
  refine wpAny_bind (wpAny_holding (draw_tuple hlt k 0 _ _ ⟨_, Heap.get?_push_size _ rfl, rfl, rfl⟩ (ht.push _) (by omega) fun h₁ hit₁ hs₁ => ?_))
  rw [List.drop_zero]
  have hl : (items.toList.take k).length = k := by rw [List.length_take, Array.length_toList]; omega
  rw [if_neg (by rw [hl]; exact Nat.lt_irrefl k)]
  have ht₁ : IsTup h₁ t items := (ht.push _).extBut hs₁.extBut hlt
  have hI : s.heap.objs.size < h₁.objs.size := by obtain ⟨o, ho, _⟩ := id hit₁; exact Heap.lt_size ho
  have ht1 : t < h₁.objs.size := by obtain ⟨o, ho, _⟩ := id ht₁; exact Heap.lt_size ho
  refine wpAny_bind (wpAny_holding (wpAny_collect_iter (s := { s with heap := h₁ }) (.inr (.inr (.inr rfl))) (walks_shift k (Walks.tuple (A := A.in1) (prog := prog) (w := w) (show A.in1.handled = none from hh) s.heap.objs.size t hlt items) hk).toS
    (fun i s' st => by obtain ⟨⟨o, ho, hc, _⟩, _⟩ := st; exact ⟨o, ho, hc⟩) ⟨by rw [Nat.zero_add] at hit₁ ⊢; exact hit₁, ht₁⟩ (fun b hb => ?_) (by simp) (fun s' acc hm hacc => ?_) (by omega)))
  · rcases (by simpa using hb : b = s.heap.objs.size ∨ b = t) with e | e
    · rw [e]; exact hI
    · rw [e]; exact ht1
  · have hrest : acc.toList = items.toList.drop k := by
      apply List.ext_getElem?
      intro j
      by_cases hj : j < acc.size
      · have e1 : acc[j]? = some acc[j] := Array.getElem?_eq_getElem hj
        have e2 : items[j + k]? = some acc[j] := hacc.2 j _ e1
        rw [Array.getElem?_toList, e1, List.getElem?_drop, Array.getElem?_toList, Nat.add_comm k j, e2]
      · have e1 := hacc.1
        rw [List.getElem?_eq_none (by rw [Array.length_toList]; omega), List.getElem?_eq_none (by rw [List.length_drop, Array.length_toList]; omega)]
    rw [show k + 1 - 1 - k = 0 by omega]
    rw [if_neg (Nat.not_lt_zero _), Nat.sub_zero, List.take_length, List.drop_length, hrest]
    refine wpAny_bind (wpAny_newObj_type ?_ (by show (items.toList.drop k).toArray.size ≤ sizeLine; rw [List.size_toArray, List.length_drop, Array.length_toList]; omega))
    refine wpAny_pure ?_
    rw [List.append_nil, Moved.eq_with hm]
    refine hQ _ _ fun b o e => hm.heap b o (by simp; exact Nat.ne_of_lt (Heap.lt_size e)) ?_
    exact hs₁.extBut b o (Nat.ne_of_lt (Heap.lt_size e)) (Heap.get?_push_of_some _ e)
end
section
variable {Z : Sd} {X : Cx} {e a b c o i : Expr} {rest es es2 : List Expr} {m ma mb mc mo mi : E} {ms : List E} {pos apos p : Pos} {F : Hp} {μ : List Addr} {S : Sto} {H : Hp} {kk : Nat} {t : T} {ts : List T}
theorem setTs_snoc {i : Nat} {d : D} : ∀ {ts : List T} {xs : List D} {ρ : Env} {S : Sto}, ts.length = xs.length → setTs (ts ++ [.name i]) (xs ++ [d]) ρ S = (setTs ts xs ρ S).bind fun r => if i < r.1.length then some (r.1.set i (some d), r.2) else none
  | [], [], ρ, S, _ => by
    simp only [List.nil_append, setTs, setT, Option.bind_some]
    split <;> rfl
  | [], _ :: _, _, _, h => by cases h
  | _ :: _, [], _, _, h => by cases h
  | t :: ts, x :: xs, ρ, S, h => by
    simp only [List.cons_append, setTs]
    cases setT t x ρ S with
    | none => rfl
    | some r => exact setTs_snoc (by simpa using h)
theorem owns_snoc {i : Nat} : ∀ {ts : List T}, T.owns (ts ++ [.name i]) = T.owns ts ++ [i]
  | [] => by simp only [List.nil_append, T.owns, T.own]; rfl
  | t :: ts => by simp only [List.cons_append, T.owns, owns_snoc, List.append_assoc]
def gStar (K : PySem.W.Frag) (n : Nat) (t : TGs) : TG := fun v σ H Q => ∃ a xs, v = .ref a ∧ SqT K H a xs ∧ n ≤ xs.length ∧ ∀ p, H p = none → t (xs.take n ++ [.ref p]) σ (upd H p (.lst (xs.drop n))) Q
theorem Vals.take' : ∀ {xs : List V} {us : List Value} (n : Nat), Vals xs us → Vals (xs.take n) (us.take n)
  | _, _, 0, _ => .nil
  | _, _, _ + 1, .nil => .nil
  | _, _, n + 1, .cons h r => .cons h (Vals.take' n r)
theorem Vals.drop' : ∀ {xs : List V} {us : List Value} (n : Nat), Vals xs us → Vals (xs.drop n) (us.drop n)
  | _, _, 0, r => r
  | _, _, _ + 1, .nil => .nil
  | _, _, n + 1, .cons _ r => Vals.drop' n r
theorem Vals.snoc' {v : V} {u : Value} (h : RelV v u) : ∀ {xs : List V} {us : List Value}, Vals xs us → Vals (xs ++ [v]) (us ++ [u])
  | _, _, .nil => .cons h .nil
  | _, _, .cons q r => .cons q (Vals.snoc' h r)
theorem pg_star {k n : Nat} {t : TGs} (hc : X.calm = true) (h : PGs X es2 t) (he : (assignEach es X.env).map (·.2) = (assignEach es2 X.env).map (·.2)) (hn : (assignEach es X.env).length = n + 1) (hst : (assignEach es X.env).findIdx? (·.1) = some n) : PG X (.Tuple es k pos) (gStar X.K n t) := by
  refine ⟨fun pins s σ H v u Q I r hw => ?_⟩
  obtain ⟨a, xs, e1, hq, hl, hw⟩ := hw
  subst e1
  cases r
  obtain ⟨its, rv, ht, hz⟩ := I.tuple hq
  have hlen := rv.length
  rw [PyProof.Rows.assign_Tuple]
  refine wpAny_bind (wpAny_standAt ?_)
  unfold unpack
  rw [hn, hst]
  refine wpAny_bind (wpAny_holding (unpackItems_star (I.ok.hd hc) ht (by rw [List.size_toArray]; omega) (by rw [List.size_toArray]; omega) fun h' tk kp => ?_))
  rw [he]
  have I1 : Inv X pins σ H { s with heap := h', toks := tk } := I.kept kp
  have hp : H h'.objs.size = none := I1.hok.fresh (Nat.le_refl _)
  refine h.run pins _ σ (upd H h'.objs.size (.lst (xs.drop n))) (xs.take n ++ [.ref h'.objs.size]) _ Q ?_ (Vals.snoc' (v := .ref h'.objs.size) (u := .ref h'.objs.size) rfl (Vals.take' n (by simpa using rv))) (hw _ hp)
  refine I1.laid (t' := tk) (fun b o e => Heap.get?_push_of_some _ e) (Nat.le_refl _) ⟨?_, its.drop n, 0, Vals.drop' n (by simpa using rv), ?_⟩
  · rw [List.length_drop]; omega
  · exact Heap.get?_push_size _ rfl
theorem mg_star {k i : Nat} {mm : Bool} (St : Std Z X kk) (h : MGs Z X es2 (ts ++ [.name i])) (he : (assignEach es X.env).map (·.2) = (assignEach es2 X.env).map (·.2) := by rfl) (hn : (assignEach es X.env).length = ts.length + 1 := by rfl) (hst : (assignEach es X.env).findIdx? (·.1) = some ts.length := by rfl) : MG Z X (.Tuple es k pos) (.star mm ts i) := by
  refine PG.imp (pg_star St.calm h he hn hst) fun v σ H Q h => ?_
  obtain ⟨F, μ, S, ρ, d, r, g, rr, rv, ev, q⟩ := h
  unfold setT at ev
  rw [St.K]
  split at ev
  · rename_i xs
    split at ev
    · rename_i hc
      cases rv with
      | tup hs rs =>
        have hlen := rs.length
        refine ⟨_, _, rfl, Evl.ex_t g.ex hs, by omega, fun p hp => ?_⟩
        have own : T.own (.star mm ts i) = i :: T.owns ts := by unfold T.own; rfl
        have kp : ∀ {σ' : L2.St}, Keeps (T.owns (ts ++ [.name i])) σ σ' → Keeps (T.own (.star mm ts i)) σ σ' := fun k' ws hw => k' ws fun j hj => hw j (by rw [own]; rw [owns_snoc] at hj; simp at hj ⊢; exact hj.symm)
        cases mm with
        | true =>
          simp only [if_true] at ev
          obtain ⟨gn, pn⟩ := g.new (c := .lst (xs.drop ts.length)) hp ⟨_, upd_same, (rs.drop ts.length).mono (Ex.refl F) ⟨[p], rfl⟩⟩
          refine ⟨F, μ ++ [p], S ++ [.lst (xs.drop ts.length)], ρ, xs.take ts.length ++ [.loc S.length], r, gn, rr.mono (Ex.refl F) pn, ((rs.take _).mono (Ex.refl F) pn).append (.one (.loc ?_)), ?_, fun F' μ' σ' H' x' p' g' r' k' => q F' μ' σ' H' x' (pn.trans p') g' r' (kp k')⟩
          · rw [← g.len, List.getElem?_append_right (Nat.le_refl _), Nat.sub_self]; rfl
          · rw [setTs_snoc (by rw [List.length_take]; omega)]
            exact ev
        | false =>
          simp only [Bool.false_eq_true, if_false] at ev
          obtain ⟨g', ex, eq⟩ := g.frz hp (.lst (List.drop ts.length _))
          refine ⟨_, μ, S, ρ, xs.take ts.length ++ [.lst (xs.drop ts.length)], r, g', rr.mono ex (pre_refl μ), ((rs.take _).mono ex (pre_refl μ)).append (.one (.lst eq ((rs.drop _).mono ex (pre_refl μ)))), ?_, fun F' μ' σ' H' x' p' g' r' k' => q F' μ' σ' H' (ex.trans x') p' g' r' (kp k')⟩
          rw [setTs_snoc (by rw [List.length_take]; omega)]
          exact ev
    · cases ev
  · cases ev
end
end Fw

set_option Elab.async false
set_option linter.all false
set_option maxRecDepth 100000
/-! FwM: list comprehensions. -/
namespace Fw
open PySem L2
open Evl (Ex)

/-! ### locked while a part is worked out -/
def lkG (t : TG) : TG := fun v σ H Q => ∃ d u, H d = some u ∧ Mut (some u) ∧ ∀ od, t v σ (upd H d (.frz od u)) fun σ' H' => H' d = some (.frz od u) ∧ Q σ' (upd H' d u)
def lkT (t : TT) : TT := fun σ H Q => ∃ d u, H d = some u ∧ Mut (some u) ∧ ∀ od, t σ (upd H d (.frz od u)) fun b H' => H' d = some (.frz od u) ∧ Q b (upd H' d u)
section
variable {X : Cx} {e : Expr}
theorem pg_lock {t : TG} (h : PG X e t) : PG X e (lkG t) := by
  refine ⟨fun pins s σ H v u Q I r hw => ?_⟩
  obtain ⟨d, x, hd, mu, hw⟩ := hw
  obtain ⟨od, I1⟩ := I.lock hd mu
  refine thn (h.run pins s σ _ v u _ I1 r (hw od)) fun _ s1 ⟨σ1, H1, I2, e2, q⟩ => ?_
  exact ⟨σ1, _, I2.unlock e2 (I.nofrz hd mu), q⟩
theorem pts_lock {es : List Expr} {t : TT} (h : PTs X es t) : PTs X es (lkT t) := by
  refine ⟨fun pins s σ H Q I hw => ?_⟩
  obtain ⟨d, x, hd, mu, hw⟩ := hw
  obtain ⟨od, I1⟩ := I.lock hd mu
  refine thn (h.run pins s σ _ _ I1 (hw od)) fun b s1 ⟨H1, I2, e2, q⟩ => ?_
  exact ⟨_, I2.unlock e2 (I.nofrz hd mu), q⟩
end
def rdCs (Z : Sd) (cs : List E) : TT := fun σ H Q => ∃ F μ S ρ b S', Ag Z.W F μ S H ∧ Rho Z F μ ρ σ ∧ evCs Z.C cs ρ S = some (b, S') ∧
  ∀ F' μ' H', Ex F F' → μ <+: μ' → Ag Z.W F' μ' S' H' → Q b H'
abbrev MCs (Z : Sd) (X : Cx) (es : List Expr) (ms : List E) : Prop := PTs X es (rdCs Z ms)
theorem PTs.imp' {X : Cx} {es : List Expr} {t t' : TT} (h : PTs X es t) (i : ∀ σ H Q, t' σ H Q → t σ H Q) : PTs X es t' := ⟨fun pins s σ H Q I q => h.run pins s σ H Q I (i σ H Q q)⟩

/-! ### a thing beside the store -/
section
variable {W : Wd} {F F' : Hp} {μ μ' : List Addr} {S : Sto} {H H' : Hp} {a : Addr} {acc : List V} {od : Obj} {u : HO}
theorem Ag.notin (g : Ag W F μ S H) (h : F a = some u) : a ∉ μ := fun hm => by
  obtain ⟨n, hn⟩ := List.mem_iff_getElem?.mp hm
  have hl : n < S.length := by rw [← g.len]; exact (List.getElem?_eq_some_iff.mp hn).1
  have := (g.cell n a S[n] hn (List.getElem?_eq_getElem hl)).1
  rw [h] at this; cases this
theorem CellOk.chg {c : Cell} {b : Addr} (h : CellOk W F μ H b c) (hb : b ≠ a) (ha : H a = some u) (hu : ∀ x, u ≠ .own x) (hH : ∀ x, x ≠ a → H' x = H x) : CellOk W F μ H' b c := by
  cases c with
  | lst xs => obtain ⟨vs, q, r⟩ := h; exact ⟨vs, by rw [hH _ hb]; exact q, r⟩
  | dct kvs => obtain ⟨vs, q, r⟩ := h; exact ⟨vs, by rw [hH _ hb]; exact q, r⟩
  | obj c fs => obtain ⟨C, dx, vs, k, q, q2, r⟩ := h; exact ⟨C, dx, vs, k, by rw [hH _ hb]; exact q, by rw [hH _ (fun z => by rw [z, ha] at q2; cases q2; exact hu _ rfl)]; exact q2, r⟩
theorem CellOk.del {c : Cell} {b : Addr} (hs : W.sa ≠ some a) (h0 : F a = some (.frz od (.lst acc))) (h : CellOk W F μ H b c) : CellOk W (del F a) μ H b c := by
  cases c with
  | lst xs => obtain ⟨vs, q, r⟩ := h; exact ⟨vs, q, r.del hs h0⟩
  | dct kvs => obtain ⟨vs, q, r⟩ := h; exact ⟨vs, q, r.del hs h0⟩
  | obj c fs => obtain ⟨C, dx, vs, k, q, q2, r⟩ := h; exact ⟨C, dx, vs, k, q, q2, r.del hs h0⟩
/-- a list beside the store: written -/
theorem Ag.put {acc' : List V} (g : Ag W F μ S H) (hF : F a = none) (ha : a ∉ μ) (hH : H a = some (.lst acc)) : Ag W F μ S (upd H a (.lst acc')) := by
  refine ⟨fun b o e => ?_, g.len, g.nd, fun n b c h1 h2 => ?_, g.sc, tabs_upd g.tb hH ⟨fun _ z => (by cases z), fun _ z => (by cases z)⟩ fun b hb => upd_ne hb, g.nt⟩
  · rw [upd_ne (fun z => by rw [z, hF] at e; cases e)]; exact g.ex b o e
  · obtain ⟨q1, q2⟩ := g.cell n b c h1 h2
    exact ⟨q1, q2.chg (fun z => ha (by rw [← z]; exact List.mem_of_getElem? h1)) hH (fun x z => by cases z) fun x hx => upd_ne hx⟩
/-- .. locked -/
theorem Ag.lock (g : Ag W F μ S H) (hF : F a = none) (ha : a ∉ μ) (hH : H a = some (.lst acc)) : Ag W (upd F a (.frz od (.lst acc))) μ S (upd H a (.frz od (.lst acc))) ∧ Ex F (upd F a (.frz od (.lst acc))) := by
  have eF : Ex F (upd F a (.frz od (.lst acc))) := Ex.new hF
  refine ⟨⟨fun b o e => ?_, g.len, g.nd, fun n b c h1 h2 => ?_, fun b hb => (g.sc b hb).imp fun u hu => Evl.ex_rd eF hu, tabs_upd g.tb hH ⟨fun _ z => (by cases z), fun _ z => (by cases z)⟩ fun b hb => upd_ne hb, fun b ps z => ?_⟩, eF⟩
  · by_cases hb : b = a
    · subst hb; rw [upd_same] at e ⊢; exact e
    · rw [upd_ne hb] at e ⊢; exact g.ex b o e
  · obtain ⟨q1, q2⟩ := g.cell n b c h1 h2
    have hb : b ≠ a := fun z => ha (z ▸ List.mem_of_getElem? h1)
    refine ⟨by rw [upd_ne hb]; exact q1, CellOk.mono (H := upd H a (.frz od (.lst acc))) eF (pre_refl μ) (fun _ _ e => e) ?_⟩
    exact q2.chg hb hH (fun x z => by cases z) fun x hx => upd_ne hx
  · by_cases hb : b = a
    · subst hb; rw [upd_same] at z; cases z
    · rw [upd_ne hb] at z; exact g.nt _ _ z
/-- .. and unlocked -/
theorem Ag.unlock (g : Ag W F μ S H) (hs : W.sa ≠ some a) (h : F a = some (.frz od (.lst acc))) : Ag W (del F a) μ S (upd H a (.lst acc)) := by
  have hm := g.notin h
  refine ⟨fun b o e => ?_, g.len, g.nd, fun n b c h1 h2 => ?_, fun b hb => ?_, tabs_upd g.tb (g.ex _ _ h) ⟨fun _ z => (by cases z), fun _ z => (by cases z)⟩ fun b hb => upd_ne hb, fun b ps z => ?_⟩
  · have hb : b ≠ a := fun z => by unfold Fw.del at e; rw [if_pos z] at e; cases e
    rw [del_ne hb] at e
    rw [upd_ne hb]; exact g.ex b o e
  · obtain ⟨q1, q2⟩ := g.cell n b c h1 h2
    have hb : b ≠ a := fun z => hm (z ▸ List.mem_of_getElem? h1)
    refine ⟨by rw [del_ne hb]; exact q1, ?_⟩
    exact (q2.del hs h).chg hb (g.ex _ _ h) (fun x z => by cases z) fun x hx => upd_ne hx
  · have hba : b ≠ a := fun z => hs (z ▸ hb)
    obtain ⟨xs, q | ⟨o, q⟩⟩ := g.sc b hb
    · exact ⟨xs, .inl (by rw [del_ne hba]; exact q)⟩
    · exact ⟨xs, .inr ⟨o, by rw [del_ne hba]; exact q⟩⟩
  · have hb : b ≠ a := fun y => by unfold Fw.del at z; rw [if_pos y] at z; cases z
    rw [del_ne hb] at z
    exact g.nt _ _ z
theorem ex_del (x : Ex F F') (hF : F a = none) : Ex F (del F' a) := fun b o e => by
  rw [del_ne (fun z => by rw [z, hF] at e; cases e)]
  exact x b o e
/-- .. taken into the store -/
theorem Ag.adopt {c : Cell} (g : Ag W F μ S H) (hF : F a = none) (ha : a ∉ μ) (hc : CellOk W F (μ ++ [a]) H a c) : Ag W F (μ ++ [a]) (S ++ [c]) H := by
  refine ⟨g.ex, by rw [List.length_append, List.length_append, g.len]; rfl, ?_, fun n b d h1 h2 => ?_, g.sc, g.tb, g.nt⟩
  · rw [List.nodup_append]
    refine ⟨g.nd, by simp, fun x hx y hy => ?_⟩
    have e : y = a := by simpa using hy
    subst e
    rintro rfl
    exact ha hx
  · by_cases hn : n < μ.length
    · rw [List.getElem?_append_left hn] at h1
      rw [List.getElem?_append_left (by rw [← g.len]; exact hn)] at h2
      obtain ⟨q1, q2⟩ := g.cell n b d h1 h2
      exact ⟨q1, CellOk.mono (Ex.refl F) ⟨[a], rfl⟩ (fun _ _ e => e) q2⟩
    · have hn' : n < (μ ++ [a]).length := (List.getElem?_eq_some_iff.mp h1).1
      rw [List.length_append, List.length_singleton] at hn'
      have en : n = μ.length := by omega
      subst en
      rw [List.getElem?_append_right (Nat.le_refl _), Nat.sub_self] at h1
      rw [List.getElem?_append_right (by rw [g.len]; exact Nat.le_refl _), g.len, Nat.sub_self] at h2
      simp at h1 h2
      subst h1 h2
      exact ⟨hF, hc⟩
end
theorem wipe_idem {σ : L2.St} {vs : List Nat} : wipe (wipe σ vs) vs = wipe σ vs := by
  apply List.ext_getElem?
  intro j
  by_cases hj : j ∈ vs
  · by_cases hl : j < σ.length
    · rw [wipe_at hj hl, wipe_at hj (by rw [wipe_length]; exact hl)]
    · rw [List.getElem?_eq_none (by rw [wipe_length, wipe_length]; omega), List.getElem?_eq_none (by rw [wipe_length]; omega)]
  · rw [wipe_out hj]
section
variable {Z : Sd} {X : Cx} {e a b c o i : Expr} {rest es es2 : List Expr} {m ma mb mc mo mi me : E} {ms : List E} {pos apos p : Pos} {F : Hp} {μ : List Addr} {S : Sto} {H : Hp} {kk : Nat} {t : T} {ts : List T}
theorem mcs_nil : MCs Z X [] [] := PTs.imp' pts_nil fun σ H Q h => by
  obtain ⟨F, μ, S, ρ, b, S', g, rr, ev, q⟩ := h
  unfold evCs at ev
  cases ev
  exact q F μ H (Ex.refl F) (pre_refl μ) g
theorem mcs_one (h : MT Z X c mc) : MCs Z X [c] [mc] := PTs.imp' (pts_one h) fun σ H Q h => by
  obtain ⟨F, μ, S, ρ, b, S', g, rr, ev, q⟩ := h
  unfold evCs at ev
  obtain ⟨x, e1, ev⟩ := bind_some' ev
  obtain ⟨x1, x2⟩ := x
  split at ev
  · rename_i e2
    cases e2
    unfold evCs at ev
    cases ev
    exact ⟨F, μ, S, ρ, true, x2, g, rr, e1, q⟩
  · rename_i e2
    cases e2
    cases ev
    exact ⟨F, μ, S, ρ, false, x2, g, rr, e1, q⟩
  · cases ev
theorem compL_len {P : Sto → Prop} {elt : Env → Sto → Option (D × Sto)} {cs : Env → Sto → Option (Bool × Sto)} : True := trivial
theorem rd_lc {k : SrcK} {mm : Bool} {own : List Nat} {cs : List E} {σ : L2.St} {Q : VK} (ho : ∀ i ∈ t.own, i ∈ own) (hn : ∀ i ∈ own, i ∉ Z.cs) (h : rdE Z (.comp mm own me t k ms cs) σ H Q) : tLc (rdI Z k ms) (lkG (rdG Z t)) (lkT (rdCs Z cs)) (tLockE (rdE Z me)) own σ H Q := by
  obtain ⟨F, μ, S, ρ, d, S', g, rr, ev, q⟩ := h
  unfold evE at ev
  obtain ⟨x, e1, ev⟩ := bind_some' ev
  obtain ⟨xs, e2, ev⟩ := bind_some' ev
  obtain ⟨z, e3, ev⟩ := bind_some' ev
  refine ⟨F, μ, S, ρ, x.1, x.2, xs, g, rr, e1, e2, fun J F1 μ1 H1 x1 p1 g1 ok Da hD => ?_⟩
  have hF1 : F1 Da = none := Evl.fresh_back g1.ex hD
  have hm1 : Da ∉ μ1 := fun hm => by obtain ⟨o, ho, _⟩ := g1.mem hm; rw [hD] at ho; cases ho
  have hs : Z.W.sa ≠ some Da := fun hs => by obtain ⟨u, hu | ⟨o, hu⟩⟩ := g1.sc _ hs <;> (rw [hF1] at hu; cases hu)
  have hz : z.1.length ≤ sizeLine := by
    unfold mkLst at ev
    split at ev
    · assumption
    · cases ev
  let W : Nat → Nat → Hp → Prop := fun i n H' => n = xs.length - i ∧ i ≤ xs.length ∧ ∃ F' μ' S' acc zs zr, Ex F1 F' ∧ μ1 <+: μ' ∧ Ag Z.W F' μ' S' H' ∧ H' Da = some (.lst acc) ∧ F' Da = none ∧ Da ∉ μ' ∧ Reps Z.W F' μ' acc zs ∧
    compL (holdD x.1 x.2) (evE Z.C me) (evCs Z.C cs) t (xs.drop i) (wipeE ρ own) S' = some zr ∧ zs ++ zr.1 = z.1 ∧ zr.2 = z.2
  have g1' : Ag Z.W F1 μ1 x.2 (upd H1 Da (.lst [])) := by
    have eH : Ex H1 (upd H1 Da (.lst [])) := Ex.new hD
    exact ⟨g1.ex.trans eH, g1.len, g1.nd, fun n a c h1 h2 => by
      obtain ⟨q1, q2⟩ := g1.cell n a c h1 h2
      exact ⟨q1, q2.mono (Ex.refl F1) (pre_refl μ1) eH⟩, g1.sc, g1.tb.ext eH, g1.nt⟩
  refine ⟨W, ⟨xs.length, by simp, Nat.zero_le _, F1, μ1, x.2, [], [], z, Ex.refl _, pre_refl _, g1', upd_same, hF1, hm1, .nil, e3, rfl, rfl⟩, ?_⟩
  rintro i n H2 ⟨rfl, hle, F2, μ2, S2, acc, zs, zr, x2, p2, g2, hD2, hF2, hm2, ra, ec, ez1, ez2⟩
  have rr2 : Rho Z F2 μ2 (wipeE ρ own) (wipe σ own) := (rr.wipe own hn).mono (x1.trans x2) (p1.trans p2)
  by_cases hlt : i < xs.length
  · rw [List.drop_eq_getElem_cons hlt] at ec
    unfold compL at ec
    split at ec
    · rename_i hold
      obtain ⟨r, e4, e5⟩ := bind_some' ec
      obtain ⟨qq, e6, e7⟩ := bind_some' e5
      refine .inr ⟨ok.go i F2 μ2 S2 H2 hlt x2 p2 g2 hold, fun H' => W (i + 1) (xs.length - (i + 1)) H', fun H' w => ⟨_, by omega, w⟩, fun v H3 y => ?_⟩
      obtain ⟨F3, x3, g3, r3, xH3, hF3⟩ := ok.yld i xs[i] F2 μ2 S2 H2 v H3 (List.getElem?_eq_getElem hlt) x2 p2 g2 hold y
      have hD3 := xH3 _ _ hD2
      have hF3 : F3 Da = none := by rw [hF3 Da (by rw [hD2]; intro z; cases z)]; exact hF2
      refine ⟨Da, _, hD3, trivial, fun od => ?_⟩
      obtain ⟨g3l, x3l⟩ := g3.lock (od := od) hF3 hm2 hD3
      refine ⟨_, μ2, S2, wipeE ρ own, xs[i], r, g3l, rr2.mono (x3.trans x3l) (pre_refl μ2), r3.mono x3l (pre_refl μ2), e4, fun F4 μ4 σ4 H4 x4 p4 g4 rr4 k4 => ?_⟩
      have hF4 : F4 Da = some (.frz od (.lst acc)) := x4 _ _ upd_same
      refine ⟨g4.ex _ _ hF4, ?_, ?_⟩
      · exact (k4 own ho).trans wipe_idem
      have g4u := g4.unlock hs hF4
      have x34 : Ex F2 (del F4 Da) := x3.trans (ex_del (x3l.trans x4) hF3)
      have ra4 : Reps Z.W (del F4 Da) μ4 acc zs := (ra.mono (x3.trans (x3l.trans x4)) p4).del hs hF4
      have rr4u : Rho Z (del F4 Da) μ4 r.1 σ4 := ⟨rr4.len, fun j dd h1 h2 => by
        obtain ⟨w, q1, q2⟩ := rr4.at_ j dd h1 h2
        exact ⟨w, q1, q2.del hs hF4⟩, fun j hj => (rr4.clo j hj).del hs hF4⟩
      have hF4d : del F4 Da Da = none := if_pos rfl
      have hm4 : Da ∉ μ4 := g4.notin hF4
      -- the tests
      refine ⟨Da, .lst acc, upd_same, trivial, fun od2 => ?_⟩
      obtain ⟨g4l, x4l⟩ := g4u.lock (od := od2) hF4d hm4 upd_same
      refine ⟨_, μ4, r.2, r.1, qq.1, qq.2, g4l, rr4u.mono x4l (pre_refl μ4), e6, fun F5 μ5 H5 x5 p5 g5 => ?_⟩
      have hF5 : F5 Da = some (.frz od2 (.lst acc)) := x5 _ _ upd_same
      refine ⟨g5.ex _ _ hF5, ?_⟩
      have g5u := g5.unlock hs hF5
      have x45 : Ex (del F4 Da) (del F5 Da) := ex_del (x4l.trans x5) hF4d
      have ra5 : Reps Z.W (del F5 Da) μ5 acc zs := (ra4.mono (x4l.trans x5) p5).del hs hF5
      have hF5d : del F5 Da Da = none := if_pos rfl
      have hm5 : Da ∉ μ5 := g5.notin hF5
      obtain ⟨q1, q2⟩ := qq
      cases q1 with
      | false =>
        refine iteF ?_
        simp only [Bool.false_eq_true, if_false] at e7
        exact ⟨rfl, hlt, _, μ5, q2, acc, zs, zr, x2.trans (x34.trans x45), p2.trans (p4.trans p5), g5u, upd_same, hF5d, hm5, ra5, e7, ez1, ez2⟩
      | true =>
        refine iteT ?_
        simp only [if_true] at e7
        obtain ⟨ee, e8, e9⟩ := bind_some' e7
        obtain ⟨zz, e10, e11⟩ := map_some' e9
        subst e11
        refine ⟨Da, .lst acc, upd_same, trivial, fun od3 => ?_⟩
        obtain ⟨g5l, x5l⟩ := g5u.lock (od := od3) hF5d hm5 upd_same
        refine ⟨_, μ5, q2, r.1, ee.1, ee.2, g5l, rr4u.mono (x45.trans x5l) p5, e8, fun v6 F6 μ6 H6 x6 p6 g6 r6 => ?_⟩
        have hF6 : F6 Da = some (.frz od3 (.lst acc)) := x6 _ _ upd_same
        refine ⟨g6.ex _ _ hF6, acc, upd_same, ?_, ?_⟩
        · have h1 := ra.length
          have h2 : z.1.length = zs.length + (ee.1 :: zz.1).length := by rw [← ez1, List.length_append]
          rw [List.length_cons] at h2
          omega
        · have g6u := g6.unlock hs hF6
          have x56 : Ex (del F5 Da) (del F6 Da) := ex_del (x5l.trans x6) hF5d
          have ra6 : Reps Z.W (del F6 Da) μ6 acc zs := (ra5.mono (x5l.trans x6) p6).del hs hF6
          have hF6d : del F6 Da Da = none := if_pos rfl
          have hm6 : Da ∉ μ6 := g6.notin hF6
          refine ⟨rfl, hlt, _, μ6, ee.2, acc ++ [v6], zs ++ [ee.1], zz, x2.trans (x34.trans (x45.trans x56)), p2.trans (p4.trans (p5.trans p6)), ?_, upd_same, hF6d, hm6, ra6.append (.one (r6.del hs hF6)), e10, ?_, ez2⟩
          · exact g6u.put hF6d hm6 upd_same
          · rw [List.append_assoc]; exact ez1
    · cases ec
  · have hi : i = xs.length := by omega
    subst hi
    rw [List.drop_length] at ec
    unfold compL at ec
    split at ec
    · rename_i hold
      cases ec
      have ez2 : S2 = z.2 := ez2
      have ez1 : zs = z.1 := by rw [← ez1]; simp
      refine .inl ⟨ok.stop F2 μ2 S2 H2 x2 p2 g2 hold, ?_⟩
      unfold mkLst at ev
      rw [if_pos hz] at ev
      split at ev
      · cases ev
        rw [ez2] at g2
        have gA := g2.adopt (c := .lst z.1) hF2 hm2 ⟨acc, hD2, by rw [← ez1]; exact ra.mono (Ex.refl F2) ⟨[Da], rfl⟩⟩
        exact q _ F2 (μ2 ++ [Da]) H2 (x1.trans x2) ((p1.trans p2).trans ⟨[Da], rfl⟩) gA (.loc (by rw [← g2.len, List.getElem?_append_right (Nat.le_refl _), Nat.sub_self]; rfl))
      · cases ev
        rw [ez2] at g2
        obtain ⟨gk, xk⟩ := Ag.know (Z := Z) g2 hD2 hm2
        exact q _ _ μ2 H2 ((x1.trans x2).trans xk) (p1.trans p2) gk (.lst upd_same (by rw [← ez1]; exact ra.mono xk (pre_refl μ2)))
    · cases ec
theorem me_lc {elt tg iter : Expr} {ifs : List Expr} {scope : Scope} {own : List (Str × Nat)} {k : SrcK} {mm : Bool} {cs : List E} (St : Std Z X kk) (hN : X.N.Nodup) (hi : MI Z X tg iter k ms) (ok : BlkOk X.N X.env.scope scope own) (ho : ∀ i ∈ t.own, i ∈ own.map (·.2)) (hn : ∀ i ∈ own.map (·.2), i ∉ Z.cs)
    (hg : ∀ (s : Shared) (H : Hp) (C : Addr) (cl : List (Str × Addr)) (fp : List Addr), MG Z (X.blk s H scope (compEnvC scope cl C X.env) fp) tg t) (ht : ∀ (s : Shared) (H : Hp) (C : Addr) (cl : List (Str × Addr)) (fp : List Addr), MCs Z (X.blk s H scope (compEnvC scope cl C X.env) fp) ifs cs)
    (he : ∀ (s : Shared) (H : Hp) (C : Addr) (cl : List (Str × Addr)) (fp : List Addr), ME Z (X.blk s H scope (compEnvC scope cl C X.env) fp) elt me) (hs : ∀ x, foldedSetIterable iter X.env x = pure x := by intro _; rfl) :
    ME Z X (.ListComp elt [⟨tg, iter, ifs, 0⟩] scope pos) (.comp mm (own.map (·.2)) me t k ms cs) :=
  PE.imp (pe_lc St.calm hN hi ok (fun s H C cl fp => pg_lock (hg s H C cl fp)) (fun s H C cl fp => pts_lock (ht s H C cl fp)) (fun s H C cl fp => pe_lock (he s H C cl fp)) hs) fun σ H Q h => rd_lc ho hn h
theorem Std.blk {s : Shared} {H : Hp} {scope : Scope} {cenv : PySem.Env} {fp : List Addr} (St : Std Z X kk) : Std Z (X.blk s H scope cenv fp) kk := ⟨St.K, St.hr, St.calm⟩
theorem ms_setLc {i : Nat} {y : Str} {py : Pos} {elt tg iter : Expr} {ifs : List Expr} {scope : Scope} {own : List (Str × Nat)} {spos : Pos} {k : SrcK} {mm : Bool} {cs : List E} (St : Std Z X kk) (hN : X.N.Nodup) (hic : i ∉ Z.cs)
    (hi : MI Z X tg iter k ms) (ok : BlkOk X.N X.env.scope scope own) (ho : ∀ i ∈ t.own, i ∈ own.map (·.2)) (hn : ∀ i ∈ own.map (·.2), i ∉ Z.cs)
    (hg : ∀ (s : Shared) (H : Hp) (C : Addr) (cl : List (Str × Addr)) (fp : List Addr), MG Z (X.blk s H scope (compEnvC scope cl C X.env) fp) tg t) (ht : ∀ (s : Shared) (H : Hp) (C : Addr) (cl : List (Str × Addr)) (fp : List Addr), MCs Z (X.blk s H scope (compEnvC scope cl C X.env) fp) ifs cs)
    (he : ∀ (s : Shared) (H : Hp) (C : Addr) (cl : List (Str × Addr)) (fp : List Addr), ME Z (X.blk s H scope (compEnvC scope cl C X.env) fp) elt me) (hsw : swapsWith (.ListComp elt [⟨tg, iter, ifs, 0⟩] scope pos) (some (.Name y py)) spos.line X.env = pure true) (hy : X.N[i]? = some y := by rfl) (hyl : X.env.scope.names.lookup y = some .local := by rfl)
    (hs : ∀ x, foldedSetIterable iter X.env x = pure x := by intro _; rfl) :
    MS Z X (.Assign [.Name y py] (.ListComp elt [⟨tg, iter, ifs, 0⟩] scope pos) spos) (.asg (.name i) (.comp mm (own.map (·.2)) me t k ms cs)) := by
  refine PS.imp (ps_setLc St.calm hN hy hyl hsw hi ok (fun s H C cl fp => pg_lock (hg s H C cl fp)) (fun s H C cl fp => pts_lock (ht s H C cl fp)) (fun s H C cl fp => pe_lock (he s H C cl fp)) hs) fun D σ H h => ?_
  obtain ⟨F, μ, S, ρ, o, g, rr, ev, q⟩ := h
  unfold evS at ev
  obtain ⟨x, e1, ev⟩ := bind_some' ev
  obtain ⟨r, e2, e3⟩ := map_some' ev
  cases e3
  refine rd_lc (mm := mm) (cs := cs) (ms := ms) (k := k) ho hn ⟨F, μ, S, ρ, x.1, x.2, g, rr, e1, fun v F1 μ1 H1 x1 p1 g1 r1 => ?_⟩
  unfold setT at e2
  split at e2
  · cases e2
    exact q F1 μ1 _ H1 x1 p1 g1 ((rr.mono x1 p1).set r1 hic)
  · cases e2
end
end Fw

set_option Elab.async false
set_option linter.all false
set_option maxRecDepth 100000
/-! FwN: functions that captured names: made, handed to a def, called there. -/
namespace Fw
open PySem L2 NdefX LamX
open Evl (Ex)

/-! ### locking cells for a call, unlocking them for a call -/
open Classical in
noncomputable def delP (P : Addr → Prop) (H : Hp) : Hp := fun b => if P b then none else H b
open Classical in
noncomputable def lockP (P : Addr → Prop) (h : Heap) (H : Hp) : Hp := fun b => if P b then (h.get? b).map fun o => HO.frz o (.own b) else H b
open Classical in
noncomputable def relP (P : Addr → Prop) (H H' : Hp) : Hp := fun b => if P b then H b else H' b
def LkP (cl : List (Str × Addr)) (b : Addr) : Prop := ∃ y, cl.lookup y = some b
section
variable {P : Addr → Prop} {H H' F F' : Hp} {h h' : Heap} {b : Addr} {o : HO} {fs : List Addr} {Pr : Program} {w : World}
theorem delP_ne (hb : ¬ P b) : delP P H b = H b := if_neg hb
theorem delP_in (hb : P b) : delP P H b = none := if_pos hb
theorem delP_some (e : delP P H b = some o) : ¬ P b ∧ H b = some o := by
  unfold delP at e
  split at e
  · cases e
  · exact ⟨by assumption, e⟩
theorem lockP_ne (hb : ¬ P b) : lockP P h H b = H b := if_neg hb
theorem lockP_in {ob : Obj} (hb : P b) (e : h.get? b = some ob) : lockP P h H b = some (.frz ob (.own b)) := by
  unfold lockP
  rw [if_pos hb, e]
  rfl
theorem relP_ne (hb : ¬ P b) : relP P H H' b = H' b := if_neg hb
theorem relP_in (hb : P b) : relP P H H' b = H b := if_pos hb
theorem hok_del (hx : ∀ b, P b → ∃ ob u, H b = some (.frz ob u)) (hok : HOk Pr w H h) : HOk Pr w (delP P H) h := fun b o e => by
  obtain ⟨hb, e⟩ := delP_some e
  exact (hok b o e).stay (fun c u _ q => q) (fun c q => by
    rw [delP_ne (fun hc => by obtain ⟨ob, u, z⟩ := hx c hc; rw [q] at z; cases z)]; exact q) fun c xs q => by
    rw [delP_ne (fun hc => by obtain ⟨ob, u, z⟩ := hx c hc; rw [q] at z; cases z)]; exact q
/-- locked through the call -/
theorem un_lock (hP : ∀ b, P b → H b = none ∧ ∃ ob, h.get? b = some ob) (u : Un fs [] (lockP P h H) H' h h') (hok' : HOk Pr w H' h') : Un fs [] H (delP P H') h h' ∧ HOk Pr w (delP P H') h' := by
  have hx : ∀ b, P b → ∃ ob, h.get? b = some ob ∧ H' b = some (.frz ob (.own b)) := fun b hb => by
    obtain ⟨_, ob, e⟩ := hP b hb
    exact ⟨ob, e, u.frzs b ob _ (lockP_in hb e)⟩
  have hn : ∀ {b o}, H b = some o → ¬ P b := fun {b o} e hb => by rw [(hP b hb).1] at e; cases e
  refine ⟨⟨fun b o e n hf hx' => ?_, fun b o e n hf hx' => ?_, fun b o e n hx' => ?_, fun b o e hx' => u.there b o e hx', fun b xs e => ?_, fun b o x e => ?_, fun b ps e => ?_⟩, hok_del (fun b hb => by obtain ⟨ob, _, z⟩ := hx b hb; exact ⟨ob, _, z⟩) hok'⟩
  · by_cases hb : P b
    · obtain ⟨ob, e1, z⟩ := hx b hb
      rw [e] at e1; cases e1
      exact (hok' b _ z).1
    · exact u.keep b o e (by rw [lockP_ne hb]; exact n) hf hx'
  · by_cases hb : P b
    · obtain ⟨ob, e1, z⟩ := hx b hb
      rw [e] at e1; cases e1
      exact ⟨o.slots, (hok' b _ z).1⟩
    · exact u.slot b o e (by rw [lockP_ne hb]; exact n) hf hx'
  · by_cases hb : P b
    · exact delP_in hb
    · rw [delP_ne hb]
      exact u.free b o e (by rw [lockP_ne hb]; exact n) hx'
  · rw [delP_ne (hn e)]
    exact u.tups b xs (by rw [lockP_ne (hn e)]; exact e)
  · rw [delP_ne (hn e)]
    exact u.frzs b o x (by rw [lockP_ne (hn e)]; exact e)
  · obtain ⟨m, z⟩ := u.tbls b ps (by rw [lockP_ne (hn e)]; exact e)
    exact ⟨m, by rw [delP_ne (hn e)]; exact z⟩
/-- unlocked through the call -/
theorem un_unlock (hP : ∀ b, P b → ∃ ob, H b = some (.frz ob (.own b))) (hok : HOk Pr w H h) (hfs : ∀ b, P b → b ∉ fs) (u : Un fs [] (delP P H) H' h h') (hok' : HOk Pr w H' h') : Un fs [] H (relP P H H') h h' ∧ HOk Pr w (relP P H H') h' := by
  have hg : ∀ b, P b → H' b = none := fun b hb => by
    obtain ⟨ob, e⟩ := hP b hb
    exact u.free b ob (hok b _ e).1 (delP_in hb) (by simp)
  have hn : ∀ {b o}, H b = some o → (∀ ob x, o ≠ .frz ob x) → ¬ P b := fun {b o} e hne hb => by
    obtain ⟨ob, z⟩ := hP b hb
    rw [e] at z; cases z
    exact hne _ _ rfl
  refine ⟨⟨fun b o e n hf hx' => ?_, fun b o e n hf hx' => ?_, fun b o e n hx' => ?_, fun b o e hx' => u.there b o e hx', fun b xs e => ?_, fun b o x e => ?_, fun b ps e => ?_⟩, fun b o e => ?_⟩
  · have hb : ¬ P b := fun hb => by obtain ⟨ob, z⟩ := hP b hb; rw [n] at z; cases z
    exact u.keep b o e (by rw [delP_ne hb]; exact n) hf hx'
  · have hb : ¬ P b := fun hb => by obtain ⟨ob, z⟩ := hP b hb; rw [n] at z; cases z
    exact u.slot b o e (by rw [delP_ne hb]; exact n) hf hx'
  · have hb : ¬ P b := fun hb => by obtain ⟨ob, z⟩ := hP b hb; rw [n] at z; cases z
    rw [relP_ne hb]
    exact u.free b o e (by rw [delP_ne hb]; exact n) hx'
  · have hb := hn e fun _ _ z => by cases z
    rw [relP_ne hb]
    exact u.tups b xs (by rw [delP_ne hb]; exact e)
  · by_cases hb : P b
    · rw [relP_in hb]; exact e
    · rw [relP_ne hb]
      exact u.frzs b o x (by rw [delP_ne hb]; exact e)
  · have hb := hn e fun _ _ z => by cases z
    obtain ⟨m, z⟩ := u.tbls b ps (by rw [delP_ne hb]; exact e)
    exact ⟨m, by rw [relP_ne hb]; exact z⟩
  · by_cases hb : P b
    · rw [relP_in hb] at e
      obtain ⟨ob, z⟩ := hP b hb
      rw [e] at z; cases z
      have h1 := (hok b _ e).1
      have h2 := u.keep b ob h1 (delP_in hb) (hfs b hb) (by simp)
      exact ⟨h2, ⟨ob, h2⟩⟩
    · rw [relP_ne hb] at e
      have kp : ∀ {c u}, H' c = some u → relP P H H' c = some u := fun {c u} q => by
        rw [relP_ne (fun hc => by rw [hg c hc] at q; cases q)]; exact q
      exact (hok' b o e).stay (fun c u _ q => q) (fun c q => kp q) fun c xs q => kp q
end
section
variable {W : Wd} {F : Hp} {μ : List Addr} {P : Addr → Prop}
mutual
theorem Rep.delP (hP : ∀ b, P b → ∃ ob, F b = some (.frz ob (.own b))) : ∀ {v : V} {d : D}, Rep W F μ v d → Rep W (delP P F) μ v d
  | _, _, .non => .non
  | _, _, .bl b => .bl b
  | _, _, .int i => .int i
  | _, _, .str x => .str x
  | _, _, .tup (a := b) hh r => .tup (by
      rcases hh with (q | ⟨o, q⟩) | q
      · exact .inl (.inl (by rw [delP_ne (fun z => by obtain ⟨ob, z⟩ := hP _ z; rw [q] at z; cases z)]; exact q))
      · exact .inl (.inr ⟨o, by rw [delP_ne (fun z => by obtain ⟨ob, z⟩ := hP _ z; rw [q] at z; cases z)]; exact q⟩)
      · exact .inr q) (Reps.delP hP r)
  | _, _, .lst (a := b) q r => .lst (by rw [delP_ne (fun z => by obtain ⟨ob, z⟩ := hP _ z; rw [q] at z; cases z)]; exact q) (Reps.delP hP r)
  | _, _, .dct (a := b) hh l r => .dct (by
      rcases hh with q | ⟨o, q⟩
      · exact .inl (by rw [delP_ne (fun z => by obtain ⟨ob, z⟩ := hP _ z; rw [q] at z; cases z)]; exact q)
      · exact .inr ⟨o, by rw [delP_ne (fun z => by obtain ⟨ob, z⟩ := hP _ z; rw [q] at z; cases z)]; exact q⟩) l (Reps.delP hP r)
  | _, _, .ins (a := b) (dx := dx) q q2 c l r => .ins (by rw [delP_ne (fun z => by obtain ⟨ob, z⟩ := hP _ z; rw [q] at z; cases z)]; exact q) (by rw [delP_ne (fun z => by obtain ⟨ob, z⟩ := hP _ z; rw [q2] at z; cases z)]; exact q2) c l (Reps.delP hP r)
  | _, _, .loc q => .loc q
  | _, _, .scr (a := b) hh => .scr (by
      rcases hh with ⟨h0, q | ⟨o, q⟩⟩ | q
      · exact .inl ⟨h0, .inl (by rw [delP_ne (fun z => by obtain ⟨ob, z⟩ := hP _ z; rw [q] at z; cases z)]; exact q)⟩
      · exact .inl ⟨h0, .inr ⟨o, by rw [delP_ne (fun z => by obtain ⟨ob, z⟩ := hP _ z; rw [q] at z; cases z)]; exact q⟩⟩
      · exact .inr q)
  | _, _, .fn q => .fn q
  | _, _, .cls q => .cls q
  | _, _, .ty => .ty
  | _, _, .fky (a := b) q l => .fky (by rw [delP_ne (fun z => by obtain ⟨ob, z⟩ := hP _ z; rw [q] at z; cases z)]; exact q) l
  | _, _, .exn0 q k => .exn0 (by rw [delP_ne (fun z => by obtain ⟨ob, z⟩ := hP _ z; rw [q] at z; unfold XcO at z; cases z)]; exact q) k
  | _, _, .exn1 q q2 k l r => .exn1 (by rw [delP_ne (fun z => by obtain ⟨ob, z⟩ := hP _ z; rw [q] at z; unfold XcO at z; cases z)]; exact q) (by rw [delP_ne (fun z => by obtain ⟨ob, z⟩ := hP _ z; rw [q2] at z; cases z)]; exact q2) k l (Reps.delP hP r)
theorem Reps.delP (hP : ∀ b, P b → ∃ ob, F b = some (.frz ob (.own b))) : ∀ {vs : List V} {ds : List D}, Reps W F μ vs ds → Reps W (Fw.delP P F) μ vs ds
  | _, _, .nil => .nil
  | _, _, .cons r rs => .cons (Rep.delP hP r) (Reps.delP hP rs)
end
variable {H H' F' : Hp} {S : Sto}
theorem CellOk.delP {c : Cell} {b : Addr} (hP : ∀ b, P b → ∃ ob, F b = some (.frz ob (.own b))) (hH : ∀ x o, H x = some o → (∀ ob u, o ≠ .frz ob u) → H' x = some o) (h : CellOk W F μ H b c) : CellOk W (Fw.delP P F) μ H' b c := by
  cases c with
  | lst xs => obtain ⟨vs, q, r⟩ := h; exact ⟨vs, hH _ _ q (fun _ _ z => by cases z), r.delP hP⟩
  | dct kvs => obtain ⟨vs, q, r⟩ := h; exact ⟨vs, hH _ _ q (fun _ _ z => by cases z), r.delP hP⟩
  | obj c fs => obtain ⟨C, dx, vs, k, q, q2, r⟩ := h; exact ⟨C, dx, vs, k, hH _ _ q (fun _ _ z => by cases z), hH _ _ q2 (fun _ _ z => by cases z), r.delP hP⟩
theorem Ag.delP (hs : ∀ a, W.sa = some a → ¬ P a) (g : Ag W F μ S H) (hP : ∀ b, P b → ∃ ob, F b = some (.frz ob (.own b))) : Ag W (Fw.delP P F) μ S (Fw.delP P H) := by
  have hH : ∀ b, P b → ∃ ob, H b = some (.frz ob (.own b)) := fun b hb => by obtain ⟨ob, z⟩ := hP b hb; exact ⟨ob, g.ex _ _ z⟩
  have kp : ∀ x o, H x = some o → (∀ ob u, o ≠ .frz ob u) → Fw.delP P H x = some o := fun x o e hne => by
    rw [delP_ne (fun z => by obtain ⟨ob, z⟩ := hH x z; rw [e] at z; cases z; exact hne _ _ rfl)]; exact e
  refine ⟨fun b o e => ?_, g.len, g.nd, fun n a c h1 h2 => ?_, fun a ha => ?_, fun p hp => ?_, fun b ps z => ?_⟩
  · obtain ⟨hb, e⟩ := delP_some e
    rw [delP_ne hb]
    exact g.ex _ _ e
  · obtain ⟨q1, q2⟩ := g.cell n a c h1 h2
    refine ⟨?_, q2.delP hP kp⟩
    by_cases ha : P a
    · exact delP_in ha
    · rw [delP_ne ha]; exact q1
  · obtain ⟨xs, q | ⟨o, q⟩⟩ := g.sc a ha
    · exact ⟨xs, .inl (by rw [delP_ne (hs a ha)]; exact q)⟩
    · exact ⟨xs, .inr ⟨o, by rw [delP_ne (hs a ha)]; exact q⟩⟩
  · obtain ⟨ps, h1, h2, h3⟩ := g.tb p hp
    refine ⟨ps, kp _ _ h1 (fun _ _ z => by cases z), h2, fun pos cv hc => ?_⟩
    obtain ⟨c, e1, e2⟩ := h3 pos cv hc
    exact ⟨c, e1, kp _ _ e2 (fun _ _ z => by unfold CodeO at z; cases z)⟩
  · exact g.nt b ps (delP_some z).2
theorem sc_notfrz (g : Ag W F μ S H) (hH : ∀ b, P b → H b = none) : ∀ a, W.sa = some a → ¬ P a := fun a ha hp => by
  obtain ⟨u, hu | ⟨o, hu⟩⟩ := g.sc a ha <;> (have := g.ex _ _ hu; rw [hH a hp] at this; cases this)
theorem sc_notfrz' (g : Ag W F μ S H) (hH : ∀ b, P b → ∃ ob, F b = some (.frz ob (.own b))) : ∀ a, W.sa = some a → ¬ P a := fun a ha hp => by
  obtain ⟨ob, hb⟩ := hH a hp
  obtain ⟨u, hu | ⟨o, hu⟩⟩ := g.sc a ha <;> (rw [hb] at hu; cases hu)
/-- cells locked again -/
theorem Ag.relock {Fo Ho : Hp} (g : Ag W F μ S H) (hs : ∀ a, W.sa = some a → ¬ P a) (hn : ∀ b, P b → H b = none) (hF : ∀ b, P b → ∃ ob, Fo b = some (.frz ob (.own b)) ∧ Ho b = some (.frz ob (.own b))) : Ag W (relP P Fo F) μ S (relP P Ho H) ∧ Ex F (relP P Fo F) := by
  have nP : ∀ {b o}, H b = some o → ¬ P b := fun {b o} e hb => by rw [hn b hb] at e; cases e
  have kp : ∀ b o, H b = some o → relP P Ho H b = some o := fun b o e => by rw [relP_ne (nP e)]; exact e
  have ex : Ex F (relP P Fo F) := fun b o e => by rw [relP_ne (nP (g.ex _ _ e))]; exact e
  refine ⟨⟨fun b o e => ?_, g.len, g.nd, fun n a c h1 h2 => ?_, fun a ha => (g.sc a ha).imp fun u hu => Evl.ex_rd ex hu, g.tb.ext kp, fun b ps z => ?_⟩, ex⟩
  · by_cases hb : P b
    · obtain ⟨ob, z1, z2⟩ := hF b hb
      rw [relP_in hb, z1] at e
      rw [relP_in hb, z2]
      exact e
    · rw [relP_ne hb] at e
      exact kp _ _ (g.ex _ _ e)
  · obtain ⟨q1, q2⟩ := g.cell n a c h1 h2
    obtain ⟨u, hu, _⟩ := CellOk.there q2
    exact ⟨by rw [relP_ne (nP hu)]; exact q1, q2.mono ex (pre_refl μ) kp⟩
  · by_cases hb : P b
    · obtain ⟨ob, z1, _⟩ := hF b hb
      rw [relP_in hb, z1] at z; cases z
    · rw [relP_ne hb] at z; exact g.nt _ _ z
theorem CellsF.mono' {cl : List (Str × Addr)} {fr : List Str} {vs : List V} (e : ∀ b o, LkP cl b → F b = some (.frz o (.own b)) → F' b = some (.frz o (.own b))) (h : CellsF F cl fr vs) : CellsF F' cl fr vs :=
  ⟨h.len, fun y c k => by obtain ⟨o, v, q, r⟩ := h.all y c k; exact ⟨o, v, e _ _ ⟨y, k⟩ q, r⟩, h.inj, fun i y k => by
    obtain ⟨c, o, v, u, h1, h2, h3, h4, h5⟩ := h.has i y k
    exact ⟨c, o, v, u, h1, h2, h3, e _ _ ⟨y, h1⟩ h4, h5⟩⟩
/-- cells locked: known from now on -/
theorem Ag.lockP {Hl : Hp} (g : Ag W F μ S H) (hn : ∀ b, P b → H b = none) (hl : ∀ b, ¬ P b → Hl b = H b) (hf : ∀ b, P b → ∃ ob, Hl b = some (.frz ob (.own b))) : Ag W (relP P Hl F) μ S Hl ∧ Ex F (relP P Hl F) := by
  have nP : ∀ {b o}, H b = some o → ¬ P b := fun {b o} e hb => by rw [hn b hb] at e; cases e
  have kp : ∀ b o, H b = some o → Hl b = some o := fun b o e => by rw [hl _ (nP e)]; exact e
  have ex : Ex F (relP P Hl F) := fun b o e => by rw [relP_ne (nP (g.ex _ _ e))]; exact e
  refine ⟨⟨fun b o e => ?_, g.len, g.nd, fun n a c h1 h2 => ?_, fun a ha => (g.sc a ha).imp fun u hu => Evl.ex_rd ex hu, g.tb.ext kp, fun b ps z => ?_⟩, ex⟩
  · by_cases hb : P b
    · rw [relP_in hb] at e; exact e
    · rw [relP_ne hb] at e; exact kp _ _ (g.ex _ _ e)
  · obtain ⟨q1, q2⟩ := g.cell n a c h1 h2
    obtain ⟨u, hu, _⟩ := CellOk.there q2
    exact ⟨by rw [relP_ne (nP hu)]; exact q1, q2.mono ex (pre_refl μ) kp⟩
  · by_cases hb : P b
    · rw [relP_in hb] at z
      obtain ⟨ob, q⟩ := hf b hb
      rw [q] at z; cases z
    · rw [relP_ne hb] at z; exact g.nt _ _ z
end
/-! ### promises -/
/-- .. of a def whose second argument is a function -/
def spK (W : Wd) (c : CallT) (g : Str) : Sp := fun vs H Q _ => ∃ F μ S v0 v1 vr a0 a1 ar d S', vs = v0 :: v1 :: vr ∧ Ag W F μ S H ∧ Rep W F μ v0 a0 ∧ CloP W F μ v1 a1 ∧ Reps W F μ vr ar ∧ c g (a0 :: a1 :: ar) S = some (d, S') ∧
  ∀ v F' μ' H', Ex F F' → μ <+: μ' → Ag W F' μ' S' H' → Rep W F' μ' v d → Q v H'
/-- .. of a function that captured names -/
def spL (W : Wd) (c : CallT) (lf : Str) (ps : List Str) : List (Option V) → Sp := fun wso vs H Q E => vs.length = ps.length ∧ ∃ cvs : List V, wso = cvs.map some ∧ spC W c lf (vs ++ cvs) H Q E
structure CalF (P : Program) (w : World) (K : PySem.W.Frag) (mg : Str → Option Value) (base : Heap) (W : Wd) (c : CallT) (k : Nat) (x g : Str) (ds : List D) : Prop where
  ex : ∃ (f : Addr) (fd : FuncData) (ps : List Str) (dvs : List V) (dus : List Value), FnOk P w K mg base CX0 k f fd ps (spK W c g) ∧ PySem.W.keepIn K (.ref f) = true ∧ mg x = some (.ref f) ∧ Binds K fd ps dus ∧ Vals dvs dus ∧ ∀ F μ, Reps W F μ dvs ds
/-- the functions that captured names keep their promise -/
structure LfOk (P : Program) (w : World) (K : PySem.W.Frag) (mg : Str → Option Value) (base : Heap) (W : Wd) (c : CallT) (k : Nat) : Prop where
  ex : ∀ lf st, W.nf lf = some st → ∃ ps, (∀ args S r, c lf args S = some r → args.length = ps.length + st.fr.length) ∧ ∀ f cl cd, NOk P w K mg base CX0 k f (st.nf cl cd) ps st.fr (spL W c lf ps)
section
variable {Z : Sd} {X : Cx} {e a b c o i : Expr} {rest es es2 : List Expr} {m ma mb mc mo mi me : E} {ms : List E} {pos apos p p2 : Pos} {F : Hp} {μ : List Addr} {S : Sto} {H : Hp} {kk : Nat}

/-! ### def f(..) within a def -/
theorem ms_ndef {nm : Nat → Nat → Str} {cd Pt : Addr} {name lf : Str} {params : Arguments} {body : List Stmt} {scope : Scope} {i : Nat} (TB : TabB X.base X.mg cd Pt) (hcode : X.env.code = .ref cd) (hm : (Pt, nm) ∈ Z.W.T) (hn : nm pos.line pos.col = X.env.qual ++ name) (hu : ∀ q ∈ Z.W.T, q.1 = Pt → q.2 = nm)
    (hfree : ∀ y ∈ scope.names, y.2 = .free → X.env.scope.names.lookup y.1 = some .cell ∨ X.env.scope.names.lookup y.1 = some .free) (hd0 : params.defaults = []) (hk0 : params.kw_defaults = []) (ha : annTrees params none X.env = [])
    (hN : X.N.Nodup) (hi : X.N[i]? = some name) (hx : Loc X.env.scope name) (hf : X.fn name = true ∨ X.env.scope.names.lookup name = some .local) (hic : i ∈ Z.cs) (hck : Z.ck i = .made fun c' => ⟨name, X.env.qual ++ name, params, body, scope, cloFrom X.env.cells scope.names [], c'⟩) :
    MS Z X (.FunctionDef name params body [] none [] scope none name pos) (.ndef i lf) := by
  refine PS.imp (ps_ndefM TB hcode hm hn hu hfree hd0 hk0 ha hN hi hx hf) fun D σ H h => ?_
  obtain ⟨F, μ, S, ρ, oo, g, rr, ev, q⟩ := h
  unfold evS at ev
  split at ev
  · rename_i hlt
    cases ev
    refine ⟨g.tb, fun f c' H1 eN nn T1 f0 f1 c1 => ?_⟩
    have kp : ∀ b o, H b = some o → (∀ ps, o ≠ .tbl ps) → H1 b = some o := eN
    have hFf : F f = none := Evl.fresh_back g.ex f0
    let F1 : Hp := fun b => if b = f then H1 f else if b = c' then H1 c' else F b
    have hF1 : ∀ b o, F b = some o → F1 b = some o := fun b o e => by
      have hb : b ≠ f := fun z => by rw [z, hFf] at e; cases e
      show (if b = f then H1 f else if b = c' then H1 c' else F b) = some o
      rw [if_neg hb]
      by_cases hc : b = c'
      · rw [if_pos hc, ← hc]
        exact kp _ _ (g.ex _ _ e) fun ps z => g.nt b ps (by rw [e, z])
      · rw [if_neg hc]; exact e
    have nof : ∀ {n a}, μ[n]? = some a → ∀ cc, S[n]? = some cc → a ≠ f ∧ a ≠ c' := fun {n a} h1 cc h2 => by
      obtain ⟨_, q2⟩ := g.cell n a cc h1 h2
      obtain ⟨u, hu, nu⟩ := CellOk.notab q2
      refine ⟨fun z => (by rw [z, f0] at hu; cases hu), fun z => ?_⟩
      have := kp _ _ hu nu.1
      rw [z, c1] at this
      exact nu.2 _ (Option.some.inj this).symm
    have gA : Ag Z.W F1 μ S H1 := by
      refine ⟨fun b o e => ?_, g.len, g.nd, fun n a cc h1 h2 => ?_, fun a ha => (g.sc a ha).imp fun u hu => Evl.ex_rd hF1 hu, T1, fun b ps z => ?_⟩
      · have e : (if b = f then H1 f else if b = c' then H1 c' else F b) = some o := e
        split at e
        · rename_i hb; rw [hb]; exact e
        · split at e
          · rename_i hb; rw [hb]; exact e
          · exact kp _ _ (g.ex _ _ e) fun ps z => g.nt b ps (by rw [e, z])
      · obtain ⟨q1, q2⟩ := g.cell n a cc h1 h2
        obtain ⟨n1, n2⟩ := nof h1 cc h2
        refine ⟨?_, ?_⟩
        · show (if a = f then H1 f else if a = c' then H1 c' else F a) = none
          rw [if_neg n1, if_neg n2]; exact q1
        · cases cc with
          | lst xs => obtain ⟨vs, q, r⟩ := q2; exact ⟨vs, kp _ _ q (fun _ z => by cases z), r.mono hF1 (pre_refl μ)⟩
          | dct kvs => obtain ⟨vs, q, r⟩ := q2; exact ⟨vs, kp _ _ q (fun _ z => by cases z), r.mono hF1 (pre_refl μ)⟩
          | obj c fs => obtain ⟨C, dx, vs, k, q, q3, r⟩ := q2; exact ⟨C, dx, vs, k, kp _ _ q (fun _ z => by cases z), kp _ _ q3 (fun _ z => by cases z), r.mono hF1 (pre_refl μ)⟩
      · have z : (if b = f then H1 f else if b = c' then H1 c' else F b) = some (.tbl ps) := z
        split at z
        · rw [f1] at z; exact fnO_ne ps (Option.some.inj z)
        · split at z
          · rw [c1] at z
            have := Option.some.inj z
            unfold CodeO at this
            cases this
          · exact g.nt _ _ z
    have rr1 := rr.mono hF1 (pre_refl μ)
    refine q F1 μ _ H1 hF1 (pre_refl μ) gA ⟨by rw [List.length_set, List.length_set]; exact rr1.len, fun j d hj hc => ?_, fun j hj => ?_⟩
    · by_cases hij : i = j
      · subst hij
        rw [List.getElem?_set_self hlt] at hj
        exact absurd hic hc
      · rw [List.getElem?_set_ne hij] at hj ⊢
        exact rr1.at_ j d hj hc
    · by_cases hij : i = j
      · subst hij
        rw [List.getElem?_set_self hlt, List.getElem?_set_self (by rw [rr.len]; exact hlt), hck]
        refine ⟨f, c', rfl, ?_, ?_⟩
        · show (if f = f then H1 f else if f = c' then H1 c' else F f) = _
          rw [if_pos rfl]; exact f1
        · show (if c' = f then H1 f else if c' = c' then H1 c' else F c') = _
          by_cases hcf : c' = f
          · rw [if_pos hcf, ← hcf]; exact c1
          · rw [if_neg hcf, if_pos rfl]; exact c1
      · rw [List.getElem?_set_ne hij, List.getElem?_set_ne hij]
        exact rr1.clo j hj
  · cases ev
theorem capD_rep {ρ : Env} {σ : L2.St} (rr : Rho Z F μ ρ σ) : ∀ {js : List Nat} {ws : List D}, capD ρ js = some ws → (∀ j ∈ js, j ∉ Z.cs) → ∃ cvs : List V, js.map (slotAt σ) = cvs.map some ∧ Reps Z.W F μ cvs ws
  | [], ws, h, _ => by
    unfold capD at h
    cases h
    exact ⟨[], rfl, .nil⟩
  | j :: js, ws, h, hj => by
    unfold capD at h
    obtain ⟨d, e1, h⟩ := bind_some' h
    obtain ⟨r, e2, h⟩ := map_some' h
    cases h
    obtain ⟨v, s1, s2⟩ := rr.slot e1 (hj j List.mem_cons_self)
    obtain ⟨cvs, h1, h2⟩ := capD_rep rr e2 fun i hi => hj i (List.mem_cons_of_mem _ hi)
    exact ⟨v :: cvs, by rw [List.map_cons, List.map_cons, h1, slotAt_of s1], .cons s2 h2⟩
/-- g(e, f, ..): f made here; its cells are locked through the call -/
theorem me_callc {x fn g lf : Str} {i : Nat} {caps : List Nat} {ds : List D} {st : NS} {cl : List (Str × Addr)} (St : Std Z X kk) (C : CalF X.prog X.w X.K X.mg X.base Z.W Z.C.call kk x g ds) (hg : Gl X x) (he0 : ME Z X e m) (hlf : Z.W.nf lf = some st) (hic : i ∈ Z.cs) (hck : Z.ck i = .made fun c' => st.nf cl c')
    (hN : X.N[i]? = some fn) (hv : Vis X.env.scope fn) (cp : X.Ok → Caps X cl st.fr caps) (hown : ∀ y c, cl.lookup y = some c → X.fn y = true) (hcj : ∀ j ∈ caps, j ∉ Z.cs)
    (hdb : (x == ("__debug__" : Str)) = false := by decide) (hd : (fn == ("__debug__" : Str)) = false := by decide) (hcd : (fn == ("__classdict__" : Str)) = false := by decide)
    (he : starEach [e, .Name fn p2] X.env = (false, eval e X.env) :: starEach [.Name fn p2] X.env := by rfl) (he2 : starEach [.Name fn p2] X.env = (false, eval (.Name fn p2) X.env) :: starEach [] X.env := by rfl) (hpl : (backTo pos (starEach [.Name fn p2] X.env)).any (·.1) = false := by rfl) :
    ME Z X (.Call (.Name x p) [e, .Name fn p2] [] pos) (.callc g m i lf caps ds) := by
  obtain ⟨fa, fd, ps, dvs, dus, F0, hk, hm, hb, hdv, hdr⟩ := C.ex
  refine ⟨fun pins s σ H Q I h => ?_⟩
  obtain ⟨F, μ, S, ρ, d, S', G, rr, ev, q⟩ := h
  unfold evE at ev
  obtain ⟨y, e1, ev⟩ := bind_some' ev
  obtain ⟨dd, e2, ev⟩ := bind_some' ev
  obtain ⟨ws, e3, ev⟩ := bind_some' ev
  -- the slot of the function
  have hslot : ∃ f c', σ[i]? = some (some (.ref f)) ∧ F f = some (FnO f (st.nf cl c')) ∧ F c' = some (CodeO c' st.qual) := by
    unfold slotD at e2
    split at e2
    · rename_i d' es
      have := rr.clo i hic
      rw [hck, es] at this
      exact this
    · cases e2
  obtain ⟨f, c', hs, hf, hc'⟩ := hslot
  have ha : PA X [e, .Name fn p2] (tCons (rdE Z m) (tCons (tVar i) tNil)) := pa_cons he0 (pa_cons (pe_var hN hv hd hcd) pa_nil he2) he
  refine wpAny_Call_Name_kw (ld_glob I hg hm ?_ hdb)
  refine PySem.W.callWith_K (h₀ := X.base) I.ok.mod.kin hk (thn (ha.run pos pins s σ H (fun vs H1 => ∃ v0 F1 μ1, vs = [v0, .ref f] ∧ Ex F F1 ∧ μ <+: μ1 ∧ Ag Z.W F1 μ1 y.2 H1 ∧ Rep Z.W F1 μ1 v0 y.1) I ⟨F, μ, S, ρ, y.1, y.2, G, rr, e1, fun v F1 μ1 H1 x1 p1 g1 r1 => ⟨.ref f, hs, ⟨v, F1, μ1, rfl, x1, p1, g1, r1⟩⟩⟩) fun us s1 hh => ?_) he hpl
  obtain ⟨vs, H1, I1, r, v0, F1, μ1, rfl, x1, p1, g1, r1⟩ := hh
  refine ⟨I1.kIn, ?_⟩
  -- the cells
  have cpx := cp I1.ok
  have CA := cells_of I1 cpx
  obtain ⟨cvs, hcv, hcr⟩ := capD_rep (rr.mono x1 p1) e3 hcj
  have hP : ∀ b, LkP cl b → H1 b = none ∧ ∃ ob, s1.heap.get? b = some ob ∧ ∃ v, ob.data = .cell v := fun b ⟨y, hy⟩ => by
    obtain ⟨n, v, ob, ho, hd⟩ := CA.all y b hy
    exact ⟨n, ob, ho, v, hd⟩
  have hge : ∀ b, LkP cl b → X.s_0.heap.objs.size ≤ b := fun b ⟨y, hy⟩ => I1.ok.cab y b (hown y b hy) (cpx.sub y b hy)
  have hnf : ∀ b, LkP cl b → b ∉ frs X.stack := fun b hb hm => by
    rcases List.mem_cons.mp (I1.stkSub b hm) with z | z
    · obtain ⟨_, ob, ho, v, hd⟩ := hP b hb
      obtain ⟨m, ⟨o, es, ep, e1, e2, _⟩, _⟩ := I1.loc
      rw [z, e1] at ho
      cases ho
      rw [e2] at hd
      cases hd
    · obtain ⟨_, o, ho, _⟩ := I1.ok.funs.mem z
      exact Nat.lt_irrefl _ (Nat.lt_of_lt_of_le (Heap.lt_size ho) (hge b hb))
  have e0 := I1.env0
  let Hl : Hp := Fw.lockP (LkP cl) s1.heap H1
  have hl1 : ∀ b, ¬ LkP cl b → Hl b = H1 b := fun b hb => lockP_ne hb
  have hl2 : ∀ b, LkP cl b → ∃ ob, s1.heap.get? b = some ob ∧ Hl b = some (.frz ob (.own b)) ∧ ∃ v, ob.data = .cell v := fun b hb => by
    obtain ⟨_, ob, ho, v, hd⟩ := hP b hb
    exact ⟨ob, ho, lockP_in hb ho, v, hd⟩
  have hokl : HOk X.prog X.w Hl s1.heap := fun b o e => by
    by_cases hb : LkP cl b
    · obtain ⟨ob, ho, z, _⟩ := hl2 b hb
      rw [e] at z
      cases z
      exact ⟨ho, ⟨ob, ho⟩⟩
    · rw [hl1 b hb] at e
      have kp : ∀ {c u}, H1 c = some u → Hl c = some u := fun {c u} q => by rw [hl1 c (fun hc => by rw [(hP c hc).1] at q; cases q)]; exact q
      exact (I1.hok b o e).stay (fun c u _ q => q) (fun c q => kp q) fun c xs q => kp q
  have e0l : Env0 X.prog X.w X.K X.mg X.base X.A X.stack s1 Hl := ⟨e0.frames, e0.mod, fun b o e => by
      obtain ⟨z1, z2⟩ := e0.bs b o e
      refine ⟨z1, ?_⟩
      rw [hl1 b (fun hb => by
        exact Nat.lt_irrefl _ (Nat.lt_of_lt_of_le (Nat.lt_of_lt_of_le (Heap.lt_size e) I1.ok.bsz) (hge b hb)))]
      exact z2, e0.bsz, e0.funs, fun b hb => by rw [hl1 b (fun h => hnf b h hb)]; exact e0.frf b hb, hokl, e0.bare⟩
  obtain ⟨gl, xl⟩ := g1.lockP (P := LkP cl) (Hl := Hl) (fun b hb => (hP b hb).1) hl1 fun b hb => by obtain ⟨ob, _, z, _⟩ := hl2 b hb; exact ⟨ob, z⟩
  have CF : CellsF (relP (LkP cl) Hl F1) cl st.fr cvs := by
    have hlen : cvs.length = st.fr.length := by
      have := CA.len
      rw [hcv, List.length_map] at this
      exact this
    refine ⟨hlen, fun y c hy => ?_, CA.inj, fun j y hy => ?_⟩
    · obtain ⟨ob, ho, z, v, hd⟩ := hl2 c ⟨y, hy⟩
      exact ⟨ob, v, by rw [relP_in ⟨y, hy⟩]; exact z, hd⟩
    · obtain ⟨c, hc, hv⟩ := CA.has j y hy
      have hjl : j < cvs.length := by rw [hlen]; exact (List.getElem?_eq_some_iff.mp hy).1
      have hcj : cvs[j]? = some cvs[j] := List.getElem?_eq_getElem hjl
      obtain ⟨u, ru, ob, ho, hd⟩ := hv cvs[j] (by rw [hcv, List.getElem?_map, hcj]; rfl)
      exact ⟨c, ob, cvs[j], u, hc, hcj, ru, by rw [relP_in ⟨y, hc⟩]; exact lockP_in ⟨y, hc⟩ ho, hd⟩
  have cloP : CloP Z.W (relP (LkP cl) Hl F1) μ1 (.ref f) (.clo lf ws) := ⟨f, lf, ws, cvs, st, cl, c', rfl, rfl, hlf, xl _ _ (x1 _ _ hf), xl _ _ (x1 _ _ hc'), CF, hcr.mono xl (pre_refl μ1)⟩
  have r2 : Vals ([v0, .ref f] ++ dvs) (us ++ dus) := r.append hdv
  have hsp : spK Z.W Z.C.call g ([v0, .ref f] ++ dvs) Hl (fun v H' => Q v (Fw.delP (LkP cl) H')) E0 := by
    refine ⟨_, μ1, y.2, v0, .ref f, dvs, y.1, .clo lf ws, ds, d, S', rfl, gl, r1.mono xl (pre_refl μ1), cloP, hdr _ _, ev, fun v F' μ' H' x2 p2 g2 r2 => ?_⟩
    have hx : ∀ b, LkP cl b → ∃ ob, F' b = some (.frz ob (.own b)) := fun b hb => by
      obtain ⟨ob, _, z, _⟩ := hl2 b hb
      exact ⟨ob, x2 _ _ (by rw [relP_in hb]; exact z)⟩
    have hns := sc_notfrz (P := LkP cl) g1 fun b hb => (hP b hb).1
    refine q v (Fw.delP (LkP cl) F') μ' _ (fun b o e => ?_) (p1.trans p2) (Ag.delP hns g2 hx) (r2.delP hx)
    have e' := x1 _ _ e
    rw [delP_ne (fun hb => by have := g1.ex _ _ e'; rw [(hP b hb).1] at this; cases this)]
    exact x2 _ _ (xl _ _ e')
  have hl : (us ++ dus).length = ps.length := by rw [← r2.length]; exact F0.len _ _ _ _ hsp
  refine wpAny_call (codeAny_mono (F0.run X.A X.stack s1 Hl ⟨us, []⟩ (us ++ dus) _ _ E0 St.hr e0l (hb s1 us I1.kIn hl) r2 hsp) fun r s' hq => ?_)
  cases r with
  | error e => exact hq.elim
  | ok fl =>
    cases fl with
    | next => exact False.elim hq
    | brk => exact False.elim hq
    | cont => exact False.elim hq
    | ret u =>
      obtain ⟨v, H', os, bare, un, hok', rv, qq⟩ := hq
      obtain ⟨un', hok2⟩ := un_lock (fun b hb => ⟨(hP b hb).1, by obtain ⟨_, ob, ho, _⟩ := hP b hb; exact ⟨ob, ho⟩⟩) un hok'
      exact I1.after ⟨v, _, os, bare, un', hok2, rv, qq⟩
/-- g(e, f, ..): f handed in -/
theorem me_callp {x fn g : Str} {i : Nat} {ds : List D} (St : Std Z X kk) (C : CalF X.prog X.w X.K X.mg X.base Z.W Z.C.call kk x g ds) (hg : Gl X x) (he0 : ME Z X e m) (has : MA Z X es ms) (hic : i ∈ Z.cs) (hck : Z.ck i = .par) (hN : X.N[i]? = some fn := by rfl) (hv : Vis X.env.scope fn := by first | exact Or.inl rfl | exact Or.inr (Or.inl rfl) | exact Or.inr (Or.inr rfl))
    (hdb : (x == ("__debug__" : Str)) = false := by decide) (hd : (fn == ("__debug__" : Str)) = false := by decide) (hcd : (fn == ("__classdict__" : Str)) = false := by decide)
    (he : starEach (e :: .Name fn p2 :: es) X.env = (false, eval e X.env) :: starEach (.Name fn p2 :: es) X.env := by rfl) (he2 : starEach (.Name fn p2 :: es) X.env = (false, eval (.Name fn p2) X.env) :: starEach es X.env := by rfl) (hpl : (backTo pos (starEach (.Name fn p2 :: es) X.env)).any (·.1) = false := by rfl) :
    ME Z X (.Call (.Name x p) (e :: .Name fn p2 :: es) [] pos) (.callp g m i ms ds) := by
  obtain ⟨fa, fd, ps, dvs, dus, F0, hk, hm, hb, hdv, hdr⟩ := C.ex
  refine PE.imp (pe_call (E := E0) F0 St.hr hg hm hk hb hdv pass0 (pa_cons he0 (pa_cons (pe_var hN hv hd hcd) has he2) he) hdb he hpl) fun σ H Q h => ?_
  obtain ⟨F, μ, S, ρ, d, S', G, rr, ev, q⟩ := h
  unfold evE at ev
  obtain ⟨y, e1, ev⟩ := bind_some' ev
  obtain ⟨dd, e2, ev⟩ := bind_some' ev
  obtain ⟨z, e3, ev⟩ := bind_some' ev
  have hslot : ∃ v, σ[i]? = some (some v) ∧ CloP Z.W F μ v dd := by
    unfold slotD at e2
    split at e2
    · rename_i d' es
      cases e2
      have := rr.clo i hic
      rw [hck, es] at this
      exact this
    · cases e2
  obtain ⟨v1, hs, hc⟩ := hslot
  refine ⟨F, μ, S, ρ, y.1, y.2, G, rr, e1, fun v0 F1 μ1 H1 x1 p1 g1 r1 => ⟨v1, hs, ?_⟩⟩
  refine ⟨F1, μ1, y.2, ρ, z.1, z.2, g1, rr.mono x1 p1, e3, fun vs F2 μ2 H2 x2 p2 g2 r2 => ?_⟩
  exact ⟨F2, μ2, z.2, v0, v1, vs ++ dvs, y.1, dd, z.1 ++ ds, d, S', rfl, g2, r1.mono x2 p2, hc.mono (x1.trans x2) (p1.trans p2), r2.append (hdr _ _), ev, fun v F' μ' H' x3 p3 g3 r3 => q v F' μ' H' ((x1.trans x2).trans x3) ((p1.trans p2).trans p3) g3 r3⟩
/-- f(..), f handed in -/
theorem me_callv {fn : Str} {i : Nat} (St : Std Z X kk) (L : LfOk X.prog X.w X.K X.mg X.base Z.W Z.C.call kk) (ha : MA Z X (e :: es) ms) (hic : i ∈ Z.cs) (hck : Z.ck i = .par) (hN : X.N[i]? = some fn := by rfl) (hv : Vis X.env.scope fn := by first | exact Or.inl rfl | exact Or.inr (Or.inl rfl) | exact Or.inr (Or.inr rfl))
    (hd : (fn == ("__debug__" : Str)) = false := by decide) (hcd : (fn == ("__classdict__" : Str)) = false := by decide)
    (he : starEach (e :: es) X.env = (false, eval e X.env) :: starEach es X.env := by rfl) (hpl : (backTo pos (starEach es X.env)).any (·.1) = false := by rfl) :
    ME Z X (.Call (.Name fn p) (e :: es) [] pos) (.callv i ms) := by
  refine ⟨fun pins s σ H Q I h => ?_⟩
  obtain ⟨F, μ, S, ρ, d, S', G, rr, ev, q⟩ := h
  unfold evE at ev
  obtain ⟨dd, e1, ev⟩ := bind_some' ev
  split at ev
  rotate_left
  · cases ev
  rename_i lf ws
  obtain ⟨y, e2, ev⟩ := bind_some' ev
  have hslot : ∃ v, σ[i]? = some (some v) ∧ CloP Z.W F μ v (.clo lf ws) := by
    unfold slotD at e1
    split at e1
    · rename_i d' es
      cases e1
      have := rr.clo i hic
      rw [hck, es] at this
      exact this
    · cases e1
  obtain ⟨v1, hs, f, lf', ws', cvs, st, cl, c, rfl, hcl, hlf, hf, hc, CF, rw_⟩ := hslot
  cases hcl
  obtain ⟨ps, har, Fn⟩ := L.ex lf st hlf
  have Fn := Fn f cl c
  refine wpAny_Call_Name_kw (thn ((pe_var (pos := p) hN hv hd hcd).run pins s σ H (fun v H1 => v = .ref f ∧ H1 = H) I ⟨.ref f, hs, rfl, rfl⟩) fun u s1 ⟨v, H1, I1, r1, q1⟩ => ?_)
  obtain ⟨ev', eH⟩ := q1
  subst ev'
  rw [eH] at I1
  obtain rfl : u = Value.ref f := r1
  refine PySem.W.callWith_F (first := []) (fnAt_of I1 (G.ex _ _ hf)) (thn (ha.run pos pins s1 σ H (fun vs H2 => ∃ F1 μ1, Ex F F1 ∧ μ <+: μ1 ∧ Ag Z.W F1 μ1 y.2 H2 ∧ Reps Z.W F1 μ1 vs y.1) I1 ⟨F, μ, S, ρ, y.1, y.2, G, rr, e2, fun vs F1 μ1 H1 x1 p1 g1 r1 => ⟨F1, μ1, x1, p1, g1, r1⟩⟩) fun us s2 hh => ?_) he hpl
  obtain ⟨vs, H2, I2, r, F1, μ1, x1, p1, g1, r1⟩ := hh
  have hf2 := g1.ex _ _ (x1 _ _ hf)
  have hc2 := g1.ex _ _ (x1 _ _ hc)
  refine ⟨fnAt_of I2 hf2, ?_⟩
  show wpAny _ _ (call (.ref f) us) _ _ _
  have hP : ∀ b, LkP cl b → ∃ ob, F1 b = some (.frz ob (.own b)) ∧ ∃ v, ob.data = .cell v := fun b ⟨y, hy⟩ => by
    obtain ⟨ob, v, z1, z2⟩ := CF.all y b hy
    exact ⟨ob, x1 _ _ z1, v, z2⟩
  have hPF : ∀ b, LkP cl b → ∃ ob, F1 b = some (.frz ob (.own b)) := fun b hb => by obtain ⟨ob, z, _⟩ := hP b hb; exact ⟨ob, z⟩
  have hPH : ∀ b, LkP cl b → ∃ ob, H2 b = some (.frz ob (.own b)) := fun b hb => by obtain ⟨ob, z, _⟩ := hP b hb; exact ⟨ob, g1.ex _ _ z⟩
  have e0 := I2.env0
  have hnf : ∀ b, LkP cl b → b ∉ frs X.stack := fun b hb hm => by
    obtain ⟨ob, z⟩ := hPH b hb
    have := e0.frf b hm
    rw [z] at this; cases this
  have e0d : Env0 X.prog X.w X.K X.mg X.base X.A X.stack s2 (Fw.delP (LkP cl) H2) := ⟨e0.frames, e0.mod, fun b o e => by
      obtain ⟨z1, z2⟩ := e0.bs b o e
      exact ⟨z1, by rw [delP_ne (fun hb => by obtain ⟨ob, z⟩ := hPH b hb; rw [z] at z2; cases z2)]; exact z2⟩, e0.bsz, e0.funs, fun b hb => by rw [delP_ne (fun h => hnf b h hb)]; exact e0.frf b hb, hok_del (fun b hb => by obtain ⟨ob, z⟩ := hPH b hb; exact ⟨ob, _, z⟩) e0.hok, e0.bare⟩
  have CA : CellsAt cl st.fr (cvs.map some) s2.heap (Fw.delP (LkP cl) H2) := by
    refine ⟨by rw [List.length_map]; exact CF.len, fun y a hy => ⟨delP_in ⟨y, hy⟩, ?_⟩, CF.inj, fun j y hy => ?_⟩
    · obtain ⟨ob, v, z1, z2⟩ := CF.all y a hy
      exact ⟨v, ob, (I2.hok a _ (g1.ex _ _ (x1 _ _ z1))).1, z2⟩
    · obtain ⟨a, ob, v, u, h1, h2, h3, h4, h5⟩ := CF.has j y hy
      refine ⟨a, h1, fun v' hv' => ⟨u, ?_, ob, (I2.hok a _ (g1.ex _ _ (x1 _ _ h4))).1, h5⟩⟩
      rw [List.getElem?_map, h2] at hv'
      cases hv'
      exact h3
  have hns : ∀ a, Z.W.sa = some a → ¬ LkP cl a := sc_notfrz' g1 hPF
  have kf : Fw.delP (LkP cl) H2 f = some (FnO f (st.nf cl c)) := by
    rw [delP_ne (fun hb => by obtain ⟨ob, z⟩ := hPH f hb; rw [hf2] at z; unfold FnO at z; cases z)]; exact hf2
  have kc : Fw.delP (LkP cl) H2 c = some (CodeO c st.qual) := by
    rw [delP_ne (fun hb => by obtain ⟨ob, z⟩ := hPH c hb; rw [hc2] at z; unfold CodeO at z; cases z)]; exact hc2
  have hlen : vs.length = ps.length := by
    have h1 := har _ _ _ ev
    have h2 := r1.length
    have h3 := rw_.length
    have h4 := CF.len
    rw [List.length_append] at h1
    omega
  have hsp : spL Z.W Z.C.call lf ps (cvs.map some) vs (Fw.delP (LkP cl) H2) (fun v H' => (∀ b, LkP cl b → H' b = none) → Q v (relP (LkP cl) H2 H')) E0 := by
    refine ⟨hlen, cvs, rfl, Fw.delP (LkP cl) F1, μ1, y.2, y.1 ++ ws, d, S', Ag.delP hns g1 hPF, (r1.append (rw_.mono x1 p1)).delP hPF, ev, fun v F' μ' H' x2 p2 g2 r2 hno => ?_⟩
    obtain ⟨g3, x3⟩ := g2.relock (Fo := F1) (Ho := H2) hns hno fun b hb => by obtain ⟨ob, z⟩ := hPF b hb; exact ⟨ob, z, g1.ex _ _ z⟩
    refine q v _ μ' _ (fun b o e => ?_) (p1.trans p2) g3 (r2.mono x3 (pre_refl μ'))
    have e' := x1 _ _ e
    by_cases hb : LkP cl b
    · rw [relP_in hb]; exact e'
    · rw [relP_ne hb]; exact x2 _ _ (by rw [delP_ne hb]; exact e')
  refine wpAny_call (codeAny_mono (Fn.run X.A X.stack s2 (Fw.delP (LkP cl) H2) us vs (cvs.map some) _ E0 St.hr e0d kf kc CA r hsp) fun r s' hq => ?_)
  cases r with
  | error e => exact hq.elim
  | ok fl =>
    cases fl with
    | next => exact False.elim hq
    | brk => exact False.elim hq
    | cont => exact False.elim hq
    | ret u =>
      obtain ⟨v, H', os, bare, un, hok', rv, qq⟩ := hq
      obtain ⟨un', hok2⟩ := un_unlock hPH I2.hok hnf un hok'
      exact I2.after ⟨v, _, os, bare, un', hok2, rv, qq fun b hb => by
        obtain ⟨ob, z⟩ := hPH b hb
        exact un.free b ob (I2.hok b _ z).1 (delP_in hb) (by simp)⟩
end
end Fw

set_option Elab.async false
set_option linter.all false
set_option maxRecDepth 100000
/-! FwO: a def keeps its promise. -/
namespace Fw
open PySem L2 NdefX LamX PySem.Calls PyProof.Rows
open Evl (Ex)
section
variable {W : Wd} {F F' : Hp} {μ μ' : List Addr} {S S1 : Sto} {H H' : Hp} {v : V} {d : D}
mutual
theorem D.bel_mono {n m : Nat} (h : n ≤ m) : ∀ {d : D}, d.bel n = true → d.bel m = true
  | .non, _ => by unfold D.bel; rfl
  | .bl _, _ => by unfold D.bel; rfl
  | .int _, _ => by unfold D.bel; rfl
  | .str _, _ => by unfold D.bel; rfl
  | .tup xs, q => by unfold D.bel at q ⊢; exact D.bels_mono h q
  | .lst xs, q => by unfold D.bel at q ⊢; exact D.bels_mono h q
  | .dct _ xs, q => by unfold D.bel at q ⊢; exact D.bels_mono h q
  | .ins _ _ xs, q => by unfold D.bel at q ⊢; exact D.bels_mono h q
  | .clo _ xs, q => by unfold D.bel at q ⊢; exact D.bels_mono h q
  | .loc k, q => by unfold D.bel at q ⊢; exact decide_eq_true (Nat.lt_of_lt_of_le (of_decide_eq_true q) h)
  | .scr _, _ => by unfold D.bel; rfl
  | .fn _, _ => by unfold D.bel; rfl
  | .cls _, _ => by unfold D.bel; rfl
  | .ty _, _ => by unfold D.bel; rfl
  | .fkeys _, _ => by unfold D.bel; rfl
  | .exn _ _ xs, q => by unfold D.bel at q ⊢; exact D.bels_mono h q
theorem D.bels_mono {n m : Nat} (h : n ≤ m) : ∀ {d : List D}, D.bels n d = true → D.bels m d = true
  | [], _ => by unfold D.bels; rfl
  | x :: xs, q => by
    unfold D.bels at q ⊢
    obtain ⟨a, b⟩ := Bool.and_eq_true_iff.mp q
    rw [D.bel_mono h a, D.bels_mono h b]
    rfl
end
theorem Cell.bel_mono {n m : Nat} (h : n ≤ m) {c : Cell} (q : c.bel n = true) : c.bel m = true := by
  cases c with
  | lst xs => exact D.bels_mono h q
  | dct kvs =>
    unfold Cell.bel at q ⊢
    exact List.all_eq_true.mpr fun p hp => D.bel_mono h (List.all_eq_true.mp q p hp)
  | obj c fs =>
    unfold Cell.bel at q ⊢
    exact List.all_eq_true.mpr fun p hp => D.bel_mono h (List.all_eq_true.mp q p hp)
/-- a cell that is cut off, by value -/
theorem Ag.frzDs {Z : Sd} {μ0 : List Addr} {S0 : Sto} (g0 : Ag Z.W F μ0 S0 H) (g' : Ag Z.W F μ' S1 H) (p : μ0 <+: μ') (r : Rep Z.W F μ' v d) (hb : (frzD μ0.length S1 d).bel μ0.length = true) :
    ∃ F'', Ex F F'' ∧ Ag Z.W F'' μ0 S0 H ∧ Rep Z.W F'' μ0 v (frzD μ0.length S1 d) := by
  have same : frzD μ0.length S1 d = d → ∃ F'', Ex F F'' ∧ Ag Z.W F'' μ0 S0 H ∧ Rep Z.W F'' μ0 v (frzD μ0.length S1 d) := fun e => by
    rw [e] at hb ⊢
    exact ⟨F, Ex.refl F, g0, r.of_bel p hb⟩
  cases d <;> try exact same rfl
  rename_i n
  by_cases hn : μ0.length ≤ n
  · have e : frzD μ0.length S1 (.loc n) = (match S1[n]? with
      | some (.lst xs) => .lst xs
      | some (.dct kvs) => .dct (kvs.map (·.1)) (kvs.map (·.2))
      | some (.obj c fs) => .ins c (fs.map (·.1)) (fs.map (·.2))
      | none => .loc n) := by
      show (if μ0.length ≤ n then _ else _) = _
      rw [if_pos hn]
      all_goals (cases S1[n]? with
      | none => rfl
      | some c => cases c <;> rfl)
    cases hc : S1[n]? with
    | none =>
      refine same ?_
      rw [e, hc]
    | some c =>
      rw [hc] at e
      obtain ⟨a, rfl, hm, _, hk⟩ := g'.loc r hc
      have ha : a ∉ μ0 := by
        have := nd_not_take g'.nd hm hn
        rwa [pre_take p] at this
      cases c with
      | lst xs =>
        rw [e] at hb ⊢
        obtain ⟨vs, h1, rs⟩ := hk
        obtain ⟨g1, x1⟩ := g0.know h1 ha
        have hb : D.bels μ0.length xs = true := by have := hb; unfold D.bel at this; exact this
        exact ⟨_, x1, g1, .lst upd_same ((rs.of_bel p hb).mono x1 (pre_refl _))⟩
      | dct kvs =>
        rw [e] at hb ⊢
        obtain ⟨vs, h1, rs⟩ := hk
        obtain ⟨g1, x1⟩ := g0.know h1 ha
        have hb : D.bels μ0.length (kvs.map (·.2)) = true := by have := hb; unfold D.bel at this; exact this
        exact ⟨_, x1, g1, .dct (.inl upd_same) (by rw [rs.length, List.length_map, List.length_map]) ((rs.of_bel p hb).mono x1 (pre_refl _))⟩
      | obj c fs =>
        rw [e] at hb ⊢
        have hb : D.bels μ0.length (fs.map (·.2)) = true := by have := hb; unfold D.bel at this; exact this
        refine g0.frzObj g' p hn hc r ?_
        rw [bels_all, List.all_map] at hb
        exact hb
  · refine same ?_
    show (if μ0.length ≤ n then _ else _) = _
    rw [if_neg hn]
theorem fin_post {Z : Sd} {Q : VK} {m : Mode} {d0 : D} {S' : Sto} (g : Ag Z.W F μ S H) (e : fin m S d0 S1 = some (d, S')) (q : ∀ v F' μ' H', Ex F F' → μ <+: μ' → Ag Z.W F' μ' S' H' → Rep Z.W F' μ' v d → Q v H')
    (x : Ex F F') (p : μ <+: μ') (g' : Ag Z.W F' μ' S1 H') (r : Rep Z.W F' μ' v d0) : Q v H' := by
  cases m with
  | raw => cases e; exact q v F' μ' H' x p g' r
  | keep k fz =>
    unfold fin at e
    dsimp only at e
    by_cases hc : S1.take S.length = S ∧ (if fz then frzD (S.length + k) S1 d0 else d0).bel (S.length + k) = true ∧ ((S1.drop S.length).take k).all (fun c => c.bel (S.length + k)) = true
    · rw [if_pos hc] at e
      obtain ⟨hS, hb, hk⟩ := hc
      injection e with e
      injection e with e1 e2
      subst e1 e2
      have hle : S.length ≤ S1.length := by
        have := congrArg List.length hS
        rw [List.length_take] at this
        omega
      by_cases hn : S.length + k ≤ S1.length
      · have gc := g'.cut hn fun c hcm => by
          obtain ⟨i, hi⟩ := List.mem_iff_getElem?.mp hcm
          have hlt : i < S.length + k := by
            have := (List.getElem?_eq_some_iff.mp hi).1
            rw [List.length_take] at this
            omega
          rw [List.getElem?_take_of_lt hlt] at hi
          by_cases h1 : i < S.length
          · have h2 : S[i]? = some c := by rw [← hS, List.getElem?_take_of_lt h1]; exact hi
            obtain ⟨a, _, _, q2⟩ := g.at h2
            have := q2.bel
            rw [g.len] at this
            exact Cell.bel_mono (Nat.le_add_right _ _) this
          · refine List.all_eq_true.mp hk c ?_
            refine List.mem_of_getElem? (i := i - S.length) ?_
            rw [List.getElem?_take_of_lt (by omega), List.getElem?_drop, show S.length + (i - S.length) = i by omega]
            exact hi
        have hl : (μ'.take (S.length + k)).length = S.length + k := by rw [List.length_take, g'.len]; omega
        have pm : μ <+: μ'.take (S.length + k) := by
          have h1 := g.len
          obtain ⟨t, rfl⟩ := p
          rw [List.take_append, ← h1]
          exact ⟨_, by rw [List.take_of_length_le (by omega)]⟩
        cases fz with
        | false =>
          simp only [Bool.false_eq_true, if_false] at hb q
          exact q v F' _ H' x pm gc (r.of_bel (List.take_prefix _ _) (by rw [hl]; exact hb))
        | true =>
          simp only [if_true] at hb q
          obtain ⟨F2, x2, g2, r2⟩ := Ag.frzDs (Z := Z) gc g' (List.take_prefix _ _) r (by rw [hl]; exact hb)
          rw [hl] at r2
          exact q v F2 _ H' (x.trans x2) pm g2 r2
      · have e1 : S1.take (S.length + k) = S1 := List.take_of_length_le (by omega)
        rw [e1] at q
        have e2 : (if fz = true then frzD (S.length + k) S1 d0 else d0) = d0 := by
          split
          · cases d0 <;> try rfl
            rename_i n
            cases r with
            | loc hm =>
              have h1 := (List.getElem?_eq_some_iff.mp hm).1
              rw [g'.len] at h1
              show (if S.length + k ≤ n then _ else _) = _
              rw [if_neg (by omega)]
          · rfl
        rw [e2] at q
        exact q v F' μ' H' x p g' r
    · rw [if_neg hc] at e
      cases e
end
/-- the slots at a def's entry -/
theorem slots_at {vs : List V} {n : Nat} {i : Nat} : (vs.map some ++ List.replicate n (none : Option V))[i]? = (match vs[i]? with
    | some v => some (some v)
    | none => if i < vs.length + n then some none else none) := by
  by_cases h : i < vs.length
  · rw [List.getElem?_append_left (by rw [List.length_map]; exact h), List.getElem?_map, List.getElem?_eq_getElem h]
    rfl
  · rw [List.getElem?_append_right (by rw [List.length_map]; omega), List.getElem?_eq_none (l := vs) (by omega), List.getElem?_replicate, List.length_map]
    by_cases h2 : i < vs.length + n
    · rw [if_pos (by omega)]; show _ = if _ then _ else _; rw [if_pos h2]
    · rw [if_neg (by omega)]; show _ = if _ then _ else _; rw [if_neg h2]
theorem slots_atD {vs : List D} {n : Nat} {i : Nat} : (vs.map some ++ List.replicate n (none : Option D))[i]? = (match vs[i]? with
    | some v => some (some v)
    | none => if i < vs.length + n then some none else none) := by
  by_cases h : i < vs.length
  · rw [List.getElem?_append_left (by rw [List.length_map]; exact h), List.getElem?_map, List.getElem?_eq_getElem h]
    rfl
  · rw [List.getElem?_append_right (by rw [List.length_map]; omega), List.getElem?_eq_none (l := vs) (by omega), List.getElem?_replicate, List.length_map]
    by_cases h2 : i < vs.length + n
    · rw [if_pos (by omega)]; show _ = if _ then _ else _; rw [if_pos h2]
    · rw [if_neg (by omega)]; show _ = if _ then _ else _; rw [if_neg h2]
section
variable {Pr : Pr} {Z : Sd} {dd : Nat} {g : Str} {fn : Fn} {N ps : List Str} {vs : List V} {H : Hp} {Q : VK} {E : XK}
theorem rho_start {F : Hp} {μ : List Addr} {args : List D} (rs : Reps Z.W F μ vs args) (hcs : ∀ i ∈ Z.cs, vs.length ≤ i) {n : Nat} : Rho Z F μ (args.map some ++ List.replicate n none) (vs.map some ++ List.replicate n none) := by
  have hl := rs.length
  refine ⟨by simp [hl], fun i d h hc => ?_, fun i hi => ?_⟩
  · rw [slots_atD] at h
    cases ha : args[i]? with
    | none =>
      rw [ha] at h
      simp only at h
      split at h <;> cases h
    | some x =>
      rw [ha] at h
      cases h
      obtain ⟨v, h1, h2⟩ := rs.get ha
      exact ⟨v, by rw [slots_at, h1], h2⟩
  · have h1 : args[i]? = none := List.getElem?_eq_none (by have := hcs i hi; omega)
    rw [slots_atD, h1]
    show CloR _ _ _ _ (if _ then _ else _) _
    split
    · cases Z.ck i <;> trivial
    · cases Z.ck i <;> trivial
theorem body_ok (hC : Z.C = ctxP Pr dd) (hfn : Pr.fn g = some fn) (hnp : fn.np = ps.length) (hns : fn.ns = N.length) (hcs : ∀ i ∈ Z.cs, ps.length ≤ i) (h : spC Z.W (callF Pr (dd + 1)) g vs H Q E) :
    rdSs Z fn.body { nx := fun _ H' => Q .non H', rt := Q } (L2.start N vs) H := by
  obtain ⟨F, μ, S, args, d, S', G, rs, ev, q⟩ := h
  rw [callF_succ, hfn, Option.bind_some] at ev
  have hl := rs.length
  split at ev
  · rename_i ha
    rw [← hC] at ev
    have hst : L2.start N vs = vs.map some ++ List.replicate (fn.ns - fn.np) none := by
      unfold L2.start
      rw [hns, hl, ha]
    rw [hst]
    have R := rho_start (Z := Z) rs (fun i hi => by have := hcs i hi; omega) (n := fn.ns - fn.np)
    split at ev
    · rename_i d0 S1 eb
      exact ⟨F, μ, S, _, _, G, R, eb, fun v F' μ' H' x' p' g' r' => fin_post G ev q x' p' g' r'⟩
    · rename_i ρ1 S1 eb
      exact ⟨F, μ, S, _, _, G, R, eb, fun F' μ' σ' H' x' p' g' r' => fin_post G ev q x' p' g' .non⟩
    · cases ev
  · cases ev
theorem spC_len (hfn : Pr.fn g = some fn) (hnp : fn.np = ps.length) {W : Wd} {n : Nat} (h : spC W (callF Pr n) g vs H Q E) : vs.length = ps.length := by
  obtain ⟨F, μ, S, args, d, S', G, rs, ev, q⟩ := h
  cases n with
  | zero => cases ev
  | succ n =>
    rw [callF_succ, hfn, Option.bind_some] at ev
    split at ev
    · rename_i ha
      rw [rs.length, ha, hnp]
    · cases ev
end
section
variable {P : Program} {w : World} {K : PySem.W.Frag} {mg : Str → Option Value} {base : Heap} {x qual : Str} {params : Arguments} {body : List Stmt} {scope : Scope} {dvs : List V} {kws : List (Str × V)} {f : Addr} {fd : FuncData} {N ps : List Str}
variable {W : Wd} {pr : Pr} {d : Nat} {g : Str} {fn : Fn}
/-- at level 0 nothing is promised -/
theorem fnok0 : FnOk P w K mg base CX0 0 f fd ps (spC W (callF pr 0) g) :=
  ⟨fun vs H Q E h => by (obtain ⟨F, μ, S, args, d, S', G, rs, ev, q⟩ := h; cases ev), fun A outer s H args us vs Q E hr e0 hb r h => by obtain ⟨F, μ, S, args, d, S', G, rs, ev, q⟩ := h; cases ev⟩
theorem fnokK0 : FnOk P w K mg base CX0 0 f fd ps (spK W (callF pr 0) g) :=
  ⟨fun vs H Q E h => by (obtain ⟨F, μ, S, v0, v1, vr, a0, a1, ar, d, S', _, G, r0, r1, rr, ev, q⟩ := h; cases ev), fun A outer s H args us vs Q E hr e0 hb r h => by obtain ⟨F, μ, S, v0, v1, vr, a0, a1, ar, d, S', _, G, r0, r1, rr, ev, q⟩ := h; cases ev⟩
theorem fnok (F : FunD K x qual params body scope dvs kws f fd) (S : FnScope N ps scope) (hfn : pr.fn g = some fn) (hnp : fn.np = ps.length) (hns : fn.ns = N.length)
    (hb : ∀ (cdv : Value) (A : Around) (outer : List PySem.Env) (s : Shared) (H : Hp) (E : XK), Room d (A.deeper (envOfC qual scope s.heap.objs.size f cdv)) → MSs ⟨W, ctxP pr d, [], fun _ => .par⟩ (cxOf CX0 P w K mg base N qual scope f cdv A outer s H E).nox body fn.body) :
    FnOk P w K mg base CX0 (d + 1) f fd ps (spC W (callF pr (d + 1)) g) :=
  F.ok S (fun vs H Q E h => spC_len hfn hnp h) fun cdv A outer s H vs Q E hr h => ⟨_, PSs.nox (hb cdv A outer s H E hr), body_ok (Z := ⟨W, ctxP pr d, [], fun _ => .par⟩) rfl hfn hnp hns (fun i hi => by cases hi) h⟩
/-- .. of a def that makes a function: its code object is known -/
theorem fnokC {p : Str × Option Str} {Zs : Shared → Sd} (F : FunD K x qual params body scope dvs kws f fd) (hf : f = He.fAd K p) (S : FnScope N ps scope) (hfn : pr.fn g = some fn) (hnp : fn.np = ps.length) (hns : fn.ns = N.length) (hZ : ∀ s, (Zs s).W = W ∧ (Zs s).C = ctxP pr d ∧ ∀ i ∈ (Zs s).cs, ps.length ≤ i)
    (hb : ∀ (A : Around) (outer : List PySem.Env) (s : Shared) (H : Hp) (E : XK), Room d (A.deeper (envOfC qual scope s.heap.objs.size f (.ref (He.codeOf K p)))) → MSs (Zs s) (cxOf CX0 P w K mg base N qual scope f (.ref (He.codeOf K p)) A outer s H E).nox body fn.body) :
    FnOk P w K mg base CX0 (d + 1) f fd ps (spC W (callF pr (d + 1)) g) := by
  obtain ⟨oc, od, dV, kV, doc, pm, an, cdv, ct, osl, rfl, lk, hcd, _, _⟩ := F.ex
  obtain ⟨c, rfl⟩ := He.codeIn_ref hcd
  have hc : He.codeOf K p = c := He.codeOf_eq (by rw [← hf]; exact lk) rfl
  refine fn_of lk hcd S (fun vs H Q E h => spC_len hfn hnp h) fun A outer s H vs Q E hr h => ⟨rdSs (Zs s) fn.body, PSs.nox ?_, ?_⟩
  · rw [← hc]
    exact hb A outer s H E (by rw [hc]; exact hr)
  · obtain ⟨h1, h2, h3⟩ := hZ s
    rw [← h1] at h
    exact body_ok h2 hfn hnp hns h3 h
/-- .. of a def whose second argument is a function -/
theorem fnokK (F : FunD K x qual params body scope dvs kws f fd) (S : FnScope N ps scope) (hfn : pr.fn g = some fn) (hnp : fn.np = ps.length) (hns : fn.ns = N.length)
    (hb : ∀ (cdv : Value) (A : Around) (outer : List PySem.Env) (s : Shared) (H : Hp) (E : XK), Room d (A.deeper (envOfC qual scope s.heap.objs.size f cdv)) → MSs ⟨W, ctxP pr d, [1], fun _ => .par⟩ (cxOf CX0 P w K mg base N qual scope f cdv A outer s H E).nox body fn.body) :
    FnOk P w K mg base CX0 (d + 1) f fd ps (spK W (callF pr (d + 1)) g) := by
  refine F.ok S (fun vs H Q E h => ?_) fun cdv A outer s H vs Q E hr h => ⟨_, PSs.nox (hb cdv A outer s H E hr), ?_⟩
  · obtain ⟨F, μ, S, v0, v1, vr, a0, a1, ar, dd, S', rfl, G, r0, r1, rr, ev, q⟩ := h
    rw [callF_succ, hfn, Option.bind_some] at ev
    split at ev
    · rename_i ha
      have := rr.length
      simp only [List.length_cons] at ha ⊢
      omega
    · cases ev
  · obtain ⟨F, μ, S, v0, v1, vr, a0, a1, ar, dd, S', rfl, G, r0, r1, rr, ev, q⟩ := h
    rw [callF_succ, hfn, Option.bind_some] at ev
    have hl := rr.length
    split at ev
    · rename_i ha
      have hst : L2.start N (v0 :: v1 :: vr) = (v0 :: v1 :: vr).map some ++ List.replicate (fn.ns - fn.np) none := by
        unfold L2.start
        rw [hns, ← ha]
        simp only [List.length_cons, hl]
      rw [hst]
      have R : Rho ⟨W, ctxP pr d, [1], fun _ => .par⟩ F μ ((a0 :: a1 :: ar).map some ++ List.replicate (fn.ns - fn.np) none) ((v0 :: v1 :: vr).map some ++ List.replicate (fn.ns - fn.np) none) := by
        refine ⟨by simp [hl], fun i dx h hc => ?_, fun i hi => ?_⟩
        · match i with
          | 0 =>
            have h : some (some a0) = some (some dx) := h
            cases h
            exact ⟨v0, rfl, r0⟩
          | 1 => exact absurd (List.mem_singleton.mpr rfl) hc
          | i + 2 =>
            have h : (ar.map some ++ List.replicate (fn.ns - fn.np) (none : Option D))[i]? = some (some dx) := by
              have h2 := h
              simp only [List.map_cons, List.cons_append, List.getElem?_cons_succ] at h2
              exact h2
            show ∃ v, ((v0 :: v1 :: vr).map some ++ List.replicate (fn.ns - fn.np) none)[i + 2]? = some (some v) ∧ _
            simp only [List.map_cons, List.cons_append, List.getElem?_cons_succ]
            rw [slots_atD] at h
            cases hx : ar[i]? with
            | none =>
              rw [hx] at h
              simp only at h
              split at h <;> cases h
            | some y =>
              rw [hx] at h
              cases h
              obtain ⟨v, h1, h2⟩ := rr.get hx
              exact ⟨v, by rw [slots_at, h1], h2⟩
        · have e : i = 1 := by simpa using hi
          subst e
          exact ⟨v1, rfl, r1⟩
      split at ev
      · rename_i d0 S1 eb
        exact ⟨F, μ, S, _, _, G, R, eb, fun v F' μ' H' x' p' g' r' => fin_post (Z := ⟨W, ctxP pr d, [1], fun _ => .par⟩) G ev q x' p' g' r'⟩
      · rename_i ρ1 S1 eb
        exact ⟨F, μ, S, _, _, G, R, eb, fun F' μ' σ' H' x' p' g' r' => fin_post (Z := ⟨W, ctxP pr d, [1], fun _ => .par⟩) G ev q x' p' g' .non⟩
      · cases ev
    · cases ev
/-- .. of a function that captured names -/
theorem lfok {st : NS} {lf : Str} {cl : List (Str × Addr)} {cd : Addr} (S : NScope N ps st.fr st.scope) (hfn : pr.fn lf = some fn) (hnp : fn.np = ps.length + st.fr.length) (hns : fn.ns = N.length)
    (hbi : ∀ (doc pm ctv : Value) (us : List Value), us.length = ps.length → bindArgs ((st.nf cl cd).fd doc pm ctv) ⟨us, []⟩ = pure (ps.zip us))
    (hb : ∀ (A : Around) (outer : List PySem.Env) (s : Shared) (H : Hp) (E : XK), Room d (A.deeper (envF (st.nf cl cd) f s.heap.objs.size)) → MSs ⟨W, ctxP pr d, [], fun _ => .par⟩ (ncx CX0 P w K mg base N (st.nf cl cd) f A outer s H E).nox st.body fn.body) :
    NOk P w K mg base CX0 (d + 1) f (st.nf cl cd) ps st.fr (spL W (callF pr (d + 1)) lf ps) := by
  refine nok_of S hbi (fun ws vs H Q E h => h.1) fun A outer s H vs ws Q E hr hf hc hl h => ⟨_, PSs.nox (hb A outer s H E hr), ?_⟩
  obtain ⟨hlv, cvs, rfl, h⟩ := h
  rw [List.length_map] at hl
  have e : startF N vs (cvs.map some) = L2.start N (vs ++ cvs) := by
    unfold startF L2.start
    rw [List.map_append, List.append_assoc, List.length_map, List.length_append, Nat.sub_sub]
  rw [e]
  have hnp' : fn.np = (ps ++ st.fr).length := by rw [List.length_append]; exact hnp
  exact body_ok (ps := ps ++ st.fr) (Z := ⟨W, ctxP pr d, [], fun _ => .par⟩) rfl hfn hnp' hns (fun i hi => by cases hi) h
theorem lfok0 {st : NS} {lf : Str} {cl : List (Str × Addr)} {cd : Addr} : NOk P w K mg base CX0 0 f (st.nf cl cd) ps st.fr (spL W (callF pr 0) lf ps) :=
  ⟨fun ws vs H Q E h => h.1, fun A outer s H us vs ws Q E hr e0 hf hc C r h => by
    obtain ⟨_, cvs, rfl, F, μ, S, args, d, S', G, rs, ev, q⟩ := h
    cases ev⟩
theorem callF_len {args : List D} {S : Sto} {r : D × Sto} {n : Nat} (hfn : pr.fn g = some fn) (h : callF pr n g args S = some r) : args.length = fn.np := by
  cases n with
  | zero => cases h
  | succ n =>
    rw [callF_succ, hfn, Option.bind_some] at h
    split at h
    · assumption
    · cases h
end
end Fw

set_option Elab.async false
set_option linter.all false
set_option maxRecDepth 100000
/-! FwP: keyword calls, str(x) of an own class, constants of the module. -/
namespace Fw
open PySem L2 NdefX LamX PySem.Calls PyProof.Rows
open Evl (Ex)

/-- a call with n positional values and the keywords ks -/
structure CalN (P : Program) (w : World) (K : PySem.W.Frag) (mg : Str → Option Value) (base : Heap) (W : Wd) (c : CallT) (k : Nat) (x g : Str) (n : Nat) (ks : List Str) (ord : List (Nat ⊕ D)) : Prop where
  ex : ∃ (f : Addr) (fd : FuncData) (ps : List Str) (gf : List Value → List Value → List Value) (gV : List V → List V → List V), FnOk P w K mg base CX0 k f fd ps (spC W c g) ∧ PySem.W.keepIn K (.ref f) = true ∧ mg x = some (.ref f) ∧ KBn K fd ps n ks gf gV ∧
    ∀ F μ vs zs as bs ds, as.length = n → bs.length = ks.length → Reps W F μ vs as → Reps W F μ zs bs → ordD (as ++ bs) ord = some ds → Reps W F μ (gV vs zs) ds
theorem evEs_len {C : Ctx} : ∀ {as : List E} {ρ : Env} {S : Sto} {xs : List D} {S1 : Sto}, evEs C as ρ S = some (xs, S1) → xs.length = as.length
  | [], _, _, _, _, h => by unfold evEs at h; cases h; rfl
  | a :: as, _, _, _, _, h => by
    unfold evEs at h
    obtain ⟨x, e1, h⟩ := bind_some' h
    obtain ⟨y, e2, h⟩ := map_some' h
    cases h
    rw [List.length_cons, List.length_cons, evEs_len e2]
theorem kbn_of {K : PySem.W.Frag} {x qual : Str} {params : Arguments} {body : List Stmt} {scope : Scope} {kws : List (Str × V)} {f : Addr} {fd : FuncData} {ps : List Str} (F : FunD K x qual params body scope [] kws f fd) (n : Nat) (ks : List Str) (g : {α : Type} → List α → List α → List α)
    (hrel : ∀ {vs zs : List V} {us ws : List Value}, Vals vs us → Vals zs ws → Vals (g vs zs) (g us ws))
    (h : ∀ (kV doc pm : Value) (an : Option Addr) (cdv ct : Value) (us ws : List Value), us.length = n → ws.length = ks.length → bindArgs (PySem.W.fnOf x qual params body scope .none kV doc pm an cdv ct) ⟨us, ks.zip ws⟩ = pure (ps.zip (g us ws))) :
    KBn K fd ps n ks (fun us ws => g us ws) (fun vs zs => g vs zs) := by
  obtain ⟨oc, od, dV, kV, doc, pm, an, cdv, ct, osl, rfl, lk, hcd, hD, hK⟩ := F.ex
  rcases hD with ⟨_, rfl⟩ | ⟨e, _⟩
  · exact ⟨fun s us ws X l1 l2 => .of_eq (h kV doc pm an cdv ct us ws l1 l2), fun r1 r2 => hrel r1 r2⟩
  · exact absurd rfl e
/-- the values at these places -/
def pick {α : Type} : List Nat → List α → List α
  | [], _ => []
  | i :: r, l => match l[i]? with
    | some v => v :: pick r l
    | none => pick r l
theorem vals_pick {vs : List V} {us : List Value} (r : Vals vs us) : ∀ ord : List Nat, Vals (pick ord vs) (pick ord us)
  | [] => .nil
  | i :: t => by
    unfold pick
    cases h : vs[i]? with
    | none =>
      have h2 : us[i]? = none := by
        have := r.length
        rw [List.getElem?_eq_none_iff] at h ⊢
        omega
      rw [h2]
      exact vals_pick r t
    | some v =>
      obtain ⟨u, hu, ru⟩ := r.get h
      rw [hu]
      exact .cons ru (vals_pick r t)
theorem reps_pick {W : Wd} {F : Hp} {μ : List Addr} {vs : List V} {xs : List D} (r : Reps W F μ vs xs) : ∀ (ord : List Nat) (ds : List D), ordD xs (ord.map Sum.inl) = some ds → Reps W F μ (pick ord vs) ds
  | [], ds, h => by
    simp only [List.map_nil, ordD] at h
    cases h
    exact .nil
  | i :: t, ds, h => by
    simp only [List.map_cons, ordD] at h
    obtain ⟨d, e1, h⟩ := bind_some' h
    obtain ⟨r2, e2, h⟩ := map_some' h
    cases h
    obtain ⟨v, h1, h2⟩ := r.get e1
    unfold pick
    rw [h1]
    exact .cons h2 (reps_pick r t r2 e2)
theorem calN_of {P : Program} {w : World} {K : PySem.W.Frag} {mg : Str → Option Value} {base : Heap} {W : Wd} {c : CallT} {k : Nat} {x g nm qual : Str} {params : Arguments} {body : List Stmt} {scope : Scope} {kws : List (Str × V)} {f : Addr} {fd : FuncData} {ps : List Str}
    (F : FunD K nm qual params body scope [] kws f fd) (ok : FnOk P w K mg base CX0 k f fd ps (spC W c g)) (hm : mg x = some (.ref f)) (n : Nat) (ks : List Str) (ord : List Nat)
    (h : ∀ (kV doc pm : Value) (an : Option Addr) (cdv ct : Value) (us ws : List Value), us.length = n → ws.length = ks.length → bindArgs (PySem.W.fnOf nm qual params body scope .none kV doc pm an cdv ct) ⟨us, ks.zip ws⟩ = pure (ps.zip (pick ord (us ++ ws)))) :
    CalN P w K mg base W c k x g n ks (ord.map Sum.inl) :=
  ⟨⟨f, fd, ps, _, _, ok, F.kp, hm, kbn_of F n ks (fun us ws => pick ord (us ++ ws)) (fun r1 r2 => vals_pick (r1.append r2) ord) h, fun F' μ vs zs as bs ds _ _ r1 r2 e => reps_pick (r1.append r2) ord ds e⟩⟩
section
variable {Z : Sd} {X : Cx} {e a b c o i : Expr} {rest es : List Expr} {m ma mb mc mo mi : E} {ms mks : List E} {pos apos p : Pos} {F : Hp} {μ : List Addr} {S : Sto} {H : Hp} {kk : Nat} {kws : List Keyword}
theorem rdN {σ : L2.St} {Q : VK} {g : Str} {ord : List (Nat ⊕ D)} {mp mk : List E} {gV : List V → List V → List V} {n nk : Nat} (hn : mp.length = n) (hk : mk.length = nk)
    (hr : ∀ F μ vs zs as bs ds, as.length = n → bs.length = nk → Reps Z.W F μ vs as → Reps Z.W F μ zs bs → ordD (as ++ bs) ord = some ds → Reps Z.W F μ (gV vs zs) ds) (h : rdE Z (.callk g (mp ++ mk) ord) σ H Q) : tCallN n nk (spC Z.W Z.C.call g) gV E0 (rdEs Z mp) (rdEs Z mk) σ H Q := by
  obtain ⟨F, μ, S, ρ, d, S', G, rr, ev, q⟩ := h
  unfold evE at ev
  obtain ⟨x, e1, ev⟩ := bind_some' ev
  obtain ⟨vs, e2, ev⟩ := bind_some' ev
  obtain ⟨xs, S1, ys, h1, h2, h3, h4⟩ := evEs_append e1
  refine ⟨F, μ, S, ρ, xs, S1, G, rr, h1, fun vs F1 μ1 H1 x1 p1 g1 r1 => ?_⟩
  refine ⟨F1, μ1, S1, ρ, ys, x.2, g1, rr.mono x1 p1, h2, fun zs F2 μ2 H2 x2 p2 g2 r2 => ?_⟩
  rw [h3] at e2
  have hy := evEs_len h2
  refine ⟨by rw [r1.length, h4, hn], by rw [r2.length, hy, hk], ?_⟩
  exact ⟨F2, μ2, x.2, _, d, S', g2, hr F2 μ2 vs zs xs ys _ (h4.trans hn) (hy.trans hk) (r1.mono x2 p2) r2 e2, ev, fun v F' μ' H' x3 p3 g3 r3 => q v F' μ' H' ((x1.trans x2).trans x3) ((p1.trans p2).trans p3) g3 r3⟩
theorem me_callk {x g : Str} {ks : List Str} {ord : List (Nat ⊕ D)} (St : Std Z X kk) (C : CalN X.prog X.w X.K X.mg X.base Z.W Z.C.call kk x g ms.length ks ord) (hg : Gl X x) (ha : MA Z X (e :: es) ms) (hkw : MK Z X kws mks) (hkl : mks.length = ks.length := by rfl)
    (hall : (backToKw pos (keywordEach kws X.env)).all (·.1.isSome) = true := by rfl) (hks : (backToKw pos (keywordEach kws X.env)).filterMap (·.1) = ks := by rfl)
    (hdb : (x == ("__debug__" : Str)) = false := by decide) (he : starEach (e :: es) X.env = (false, eval e X.env) :: starEach es X.env := by rfl)
    (hpl : ((backTo pos (starEach (e :: es) X.env)).any (·.1) || (backToKw pos (keywordEach kws X.env)).any (·.1.isNone)) = false := by rfl) :
    ME Z X (.Call (.Name x p) (e :: es) kws pos) (.callk g (ms ++ mks) ord) := by
  obtain ⟨f, fd, ps, gf, gV, F0, hk, hm, hb, hr⟩ := C.ex
  exact PE.imp (pe_callN (E := E0) F0 St.hr hg hm hk hb pass0 ha hkw hall hks hdb he hpl) fun σ H Q h => rdN rfl hkl hr h
theorem me_callk0 {x g : Str} {ks : List Str} {ord : List (Nat ⊕ D)} (St : Std Z X kk) (C : CalN X.prog X.w X.K X.mg X.base Z.W Z.C.call kk x g 0 ks ord) (hg : Gl X x) (hkw : MK Z X kws mks) (hkl : mks.length = ks.length := by rfl)
    (hall : (backToKw pos (keywordEach kws X.env)).all (·.1.isSome) = true := by rfl) (hks : (backToKw pos (keywordEach kws X.env)).filterMap (·.1) = ks := by rfl)
    (hdb : (x == ("__debug__" : Str)) = false := by decide)
    (hpl : ((backTo pos (starEach [] X.env)).any (·.1) || (backToKw pos (keywordEach kws X.env)).any (·.1.isNone)) = false := by rfl) :
    ME Z X (.Call (.Name x p) [] kws pos) (.callk g mks ord) := by
  obtain ⟨f, fd, ps, gf, gV, F0, hk, hm, hb, hr⟩ := C.ex
  refine ⟨fun pins s σ H Q I h => ?_⟩
  have h := rdN (mp := []) (n := 0) rfl hkl hr h
  obtain ⟨F, μ, S, ρ, ds', S', g, rr, e1, k⟩ := h
  unfold evEs at e1
  cases e1
  have h := k [] F μ H (Ex.refl F) (pre_refl μ) g .nil
  refine wpAny_Call_Name_kw (ld_glob I hg hm ?_ hdb)
  refine PySem.W.callWith_KW0 (h₀ := X.base) I.ok.mod.kin hk hall ?_ hpl
  refine thn (hkw.run pos pins s σ H _ I h) fun ws s2 ⟨zs, H2, I2, rz, l1, l2, q2⟩ => ⟨I2.kIn, ?_⟩
  rw [hks]
  exact run_fnN (us := []) (vs := []) (E := E0) F0 St.hr hb pass0 I2 .nil rz rfl l2 q2

/-! ### constants of the module -/
theorem me_gstr {x z : Str} (hg : Gl X x) (hm : ∃ t, X.mg x = some (.str z t)) (hd : Z.C.glob x = some (.str z)) (hdb : (x == ("__debug__" : Str)) = false := by decide) : ME Z X (.Name x pos) (.glob x) := by
  obtain ⟨t, h⟩ := hm
  exact me_glob hg h (v := .str z) ⟨t, rfl⟩ hd (fun _ _ => .str z) hdb
theorem me_gint {x : Str} {z : Int} (hg : Gl X x) (hm : ∃ t, X.mg x = some (.int z t)) (hd : Z.C.glob x = some (.int z)) (hdb : (x == ("__debug__" : Str)) = false := by decide) : ME Z X (.Name x pos) (.glob x) := by
  obtain ⟨t, h⟩ := hm
  exact me_glob hg h (v := .int z) ⟨t, rfl⟩ hd (fun _ _ => .int z) hdb

/-! ### str(x), x a text or of a class that has a __str__ -/
theorem room_in11 {k : Nat} {A : Around} (r : Room (k + 1) A) : Room k A.in1.in1 :=
  ⟨r.hd, by have := r.dp; show A.depth + 3 * k + 5 < _; omega, by have := r.un; show A.units + 1 + 1 + 16 * k + 200 < _; omega⟩
theorem me_stro (St : Std Z X kk) (h0 : kk = 0 → ∀ g as S, Z.C.init g as S = none) (hc : ClsF Z X) (M : Mth X.prog X.w X.K X.mg X.base Z.W Z.C.meth Z.C.init (kk - 1) "__str__") (hm : X.mg "str" = none) (he0 : ME Z X e m) (hg : Gl X "str" := by rfl)
    (he : starEach [e] X.env = (false, eval e X.env) :: starEach [] X.env := by rfl) (hpl : (backTo pos (starEach [] X.env)).any (·.1) = false := by rfl) : ME Z X (.Call (.Name "str" p) [e] [] pos) (.stro m) := by
  refine ⟨fun pins s σ H Q I h => ?_⟩
  obtain ⟨F, μ, S, ρ, d, S', G, rr, ev, q⟩ := h
  unfold evE at ev
  obtain ⟨x, e1, ev⟩ := bind_some' ev
  by_cases hx : ∃ z, x.1 = .str z
  · obtain ⟨z, hz⟩ := hx
    rw [hz] at ev
    cases ev
    refine (me_str' (Z := Z) (X := X) (p := p) (pos := pos) hm (ma_cons he0 ma_nil he) hg (he := he)).run pins s σ H Q I ⟨F, μ, S, ρ, .str z, x.2, G, rr, ?_, q⟩
    unfold evE evEs evEs
    rw [e1]
    simp only [Option.bind_some, Option.map_some, biD, hz]
  · have ev : ((clsOf x.2 x.1).bind fun c => (Z.C.meth c "__str__").bind fun g => (Z.C.init g [x.1] x.2).bind fun r => match r.1 with
      | .str z => some (.str z, r.2)
      | _ => none) = some (d, S') := by
      obtain ⟨x1, x2⟩ := x
      cases x1 <;> first | exact ev | exact absurd ⟨_, rfl⟩ hx
    obtain ⟨cn, e2, ev⟩ := bind_some' ev
    obtain ⟨g, e3, ev⟩ := bind_some' ev
    obtain ⟨r, e4, ev⟩ := bind_some' ev
    obtain ⟨z, hz, hrz⟩ : ∃ z, r.1 = .str z ∧ (D.str z, r.2) = (d, S') := by
      split at ev
      · rename_i z hz; exact ⟨z, hz, Option.some.inj ev⟩
      · cases ev
    cases hrz
    by_cases hk : kk = 0
    · rw [h0 hk] at e4; cases e4
    refine wpAny_Call_Name_kw (ld_blt I hg hm boot_str (PyProof.Rows.callWith_type1 (args_cons (thn (he0.run pins s σ H (fun v H1 => ∃ F1 μ1, Ex F F1 ∧ μ <+: μ1 ∧ Ag Z.W F1 μ1 x.2 H1 ∧ Rep Z.W F1 μ1 v x.1) I ⟨F, μ, S, ρ, x.1, x.2, G, rr, e1, fun v F1 μ1 H1 x1 p1 g1 r1 => ⟨F1, μ1, x1, p1, g1, r1⟩⟩) fun u s1 hh => args_nil ?_) he) he hpl))
    obtain ⟨v, H1, I1, rx, F1, μ1, x1, p1, g1, r1⟩ := hh
    obtain ⟨a, C, dx, fs, vs, xs, rfl, h1, h2, h3, h4, h5⟩ := ins_rep g1 r1 e2
    obtain rfl : u = Value.ref a := rx
    obtain ⟨f, fd, ps, F0, hM, hb⟩ := M.ex cn C g h2 e3
    obtain ⟨mA, O, rr2, _, _, _⟩ := ins_get I1.hok h1
    obtain ⟨od, es, ep, hod, _, _⟩ := O.ns
    have hr1 : Room (kk - 1 + 1) X.A := St.hr.mono (by omega)
    have hr := room_in11 hr1
    have r2 : Vals [V.ref a] [Value.ref a] := .cons rfl .nil
    have hsp : spC Z.W Z.C.init g [V.ref a] H1 (fun v H' => (∃ z', v = .str z') ∧ Q v H') E0 := ⟨F1, μ1, x.2, [x.1], r.1, r.2, g1, .one r1, e4, fun v F' μ' H' x2 p2 g2 r2 => by
      have r2' := r2
      rw [hz] at r2'
      cases r2'
      exact ⟨⟨_, rfl⟩, q _ F' μ' H' (x1.trans x2) (p1.trans p2) g2 (.str _)⟩⟩
    have hl : ([Value.ref a] ++ []).length = ps.length := F0.len _ _ _ _ hsp
    refine PySem.W.kso_call (od := some od) (show X.A.in1.in1.units < cLine by have := hr.un; omega) I1.kIn ⟨O.obj, rfl, rfl, hod⟩ hM.at_ hM.fn (wpAny_call (codeAny_mono (F0.run X.A.in1.in1 X.stack s1 H1 ⟨[.ref a], []⟩ [.ref a] [.ref a] _ E0 hr I1.env0.in1.in1 (hb s1 [.ref a] I1.kIn hl) r2 hsp) fun rr s' hq => ?_))
    cases rr with
    | error e => exact hq.elim
    | ok fl =>
      cases fl with
      | next => exact False.elim hq
      | brk => exact False.elim hq
      | cont => exact False.elim hq
      | ret u =>
        obtain ⟨v, H', J, rv, ⟨z', rfl⟩, qq⟩ := I1.after hq
        obtain ⟨t, rfl⟩ := rv
        exact ⟨.str z', H', J, ⟨t, rfl⟩, qq⟩
end
end Fw
namespace Fw
open PySem L2 NdefX LamX PySem.Calls PyProof.Rows
open Evl (Ex)
/-! ### the law's start -/
theorem fnok_ex {P : Program} {w : World} {K : PySem.W.Frag} {mg : Str → Option Value} {base : Heap} {k : Nat} {f : Addr} {fd : FuncData} {ps : List Str} {α : Type} {sp : α → Sp} (h : ∀ a, FnOk P w K mg base CX0 k f fd ps (sp a)) : FnOk P w K mg base CX0 k f fd ps (fun vs H Q E => ∃ a, sp a vs H Q E) :=
  ⟨fun vs H Q E ⟨a, q⟩ => (h a).len vs H Q E q, fun A outer s H args us vs Q E hr e0 hb r ⟨a, q⟩ => (h a).run A outer s H args us vs Q E hr e0 hb r q⟩
theorem fund_inj {K : PySem.W.Frag} {x qual : Str} {params : Arguments} {body : List Stmt} {scope : Scope} {dvs : List V} {kws : List (Str × V)} {f : Addr} {fd fd2 : FuncData} (F2 : FunD K x qual params body scope dvs kws f fd2) (F : FunD K x qual params body scope dvs kws f fd) : fd2 = fd := by
  obtain ⟨oc, od, dV, kV, doc, pm, an, cdv, ct, osl, _, lk, _⟩ := F.ex
  obtain ⟨oc', od', dV', kV', doc', pm', an', cdv', ct', osl', _, lk', _⟩ := F2.ex
  rw [lk] at lk'
  injection lk' with e
  injection e with e1 e2 e3 e4
  injection e3 with e5
  exact e5.symm
theorem law_start {Wk : PySem.W.Frag → Option Addr → Wd} {K : PySem.W.Frag} {H : Hp} {a : Addr} {ns : List Int} {c : CallT} {S' : Sto} (hW : (∀ sa, (Wk K sa).K = K ∧ (Wk K sa).sa = sa ∧ (Wk K sa).T = (Wk K none).T)) (hT : ∀ q ∈ (Wk K none).T, H q.1 = some (.tbl #[])) (hS : SqL K H a (ns.map V.int)) (hl : c "law" [.scr ns] [] = some (.bl true, S')) :
    ∃ sa, spC (Wk K sa) c "law" [.ref a] H (fun v _ => v = .bl true) fun _ _ _ => False := by
  have tb : ∀ sa, TabsN (Wk K sa).T H := fun sa q hq => by
    rw [(hW sa).2.2] at hq
    exact TabN.nil (hT q hq)
  rcases hS with hR | hK
  · refine ⟨some a, fun b => if b = a then H a else none, [], [], [.scr ns], .bl true, S', ⟨fun b o e => ?_, rfl, List.nodup_nil, fun n b cc h1 => (by cases h1), fun b hb => ?_, tb _, fun b ps e => ?_⟩, .one (.scr (.inl ⟨(hW _).2.1, ?_⟩)), hl, fun v F' μ' H' _ _ _ r => by cases r; rfl⟩
    · have e : (if b = a then H a else none) = some o := e
      split at e
      · rename_i hb; rw [hb]; exact e
      · cases e
    · rw [(hW _).2.1] at hb
      cases hb
      rcases hR with q | ⟨o, q⟩
      · exact ⟨_, .inl (show (if a = a then H a else none) = _ by rw [if_pos rfl]; exact q)⟩
      · exact ⟨_, .inr ⟨o, show (if a = a then H a else none) = _ by rw [if_pos rfl]; exact q⟩⟩
    · have e : (if b = a then H a else none) = some (.tbl ps) := e
      split at e
      · rcases hR with q | ⟨o, q⟩ <;> (rw [q] at e; cases e)
      · cases e
    · rcases hR with q | ⟨o, q⟩
      · exact .inl (show (if a = a then H a else none) = _ by rw [if_pos rfl]; exact q)
      · exact .inr ⟨o, show (if a = a then H a else none) = _ by rw [if_pos rfl]; exact q⟩
  · refine ⟨none, fun _ => none, [], [], [.scr ns], .bl true, S', ⟨fun b o e => (by cases e), rfl, List.nodup_nil, fun n b cc h1 => (by cases h1), fun b hb => ?_, tb _, fun b ps e => (by cases e)⟩, .one (.scr (.inr ?_)), hl, fun v F' μ' H' _ _ _ r => by cases r; rfl⟩
    · rw [(hW _).2.1] at hb; cases hb
    · rw [(hW _).1]; exact hK
end Fw

set_option Elab.async false
set_option linter.all false
set_option maxRecDepth 100000
set_option maxHeartbeats 0
/-! FwR: own ==, !=, len, isinstance. -/
namespace Fw
open PySem L2 PySem.Spec PyProof.Rows
open Evl (Ex)
/-- what they ask of a class -/
structure ClsQ (K : PySem.W.Frag) (C : Addr) : Prop where
  ca : PySem.W.findIn K (.ref C) "__class__" = some (some (.builtin "object.__class__"))
  cn : PySem.W.specialIn K (.builtin "object.__class__") "__get__" = some (some (.builtin "getset_descriptor.__get__"))
  ct : PySem.W.takesIn K (.builtin "object.__class__") = some true
  cm : PySem.W.mroIn K C (.type "object") = some true
  ne : PySem.W.findIn K (.ref C) "__ne__" = some (some (.builtin "object.__ne__"))
  nf : PySem.W.notFirst K C (.ref C) = true
  bt : ∀ t ∈ tysN, PySem.W.kitOne K (.type t) (.ref C) = some false
  mt : ∀ t ∈ tysN, PySem.W.mroIn K C (.type t) = some false
def clsQB (K : PySem.W.Frag) (C : Addr) : Bool :=
  decide (PySem.W.findIn K (.ref C) "__class__" = some (some (.builtin "object.__class__"))) && (decide (PySem.W.specialIn K (.builtin "object.__class__") "__get__" = some (some (.builtin "getset_descriptor.__get__"))) &&
  (decide (PySem.W.takesIn K (.builtin "object.__class__") = some true) && (decide (PySem.W.mroIn K C (.type "object") = some true) && (decide (PySem.W.findIn K (.ref C) "__ne__" = some (some (.builtin "object.__ne__"))) &&
  (PySem.W.notFirst K C (.ref C) && ((tysN.all fun t => decide (PySem.W.kitOne K (.type t) (.ref C) = some false)) && tysN.all fun t => decide (PySem.W.mroIn K C (.type t) = some false)))))))
theorem clsQ_ok {K : PySem.W.Frag} {C : Addr} (h : clsQB K C = true) : ClsQ K C := by
  unfold clsQB at h
  simp only [Bool.and_eq_true, decide_eq_true_eq, List.all_eq_true] at h
  obtain ⟨h1, h2, h3, h4, h5, h6, h7, h8⟩ := h
  exact ⟨h1, h2, h3, h4, h5, h6, h7, h8⟩

section
variable {prog : Program} {w : World} {A : Around} {E : Value → Shared → Prop} {s : Shared} {K : PySem.W.Frag} {x C g : Addr} {y tb : Value} {ox : Obj} {od : Option Obj}
theorem ifBound_objNe {M : Model} {args : List Value} {Q : Option Value → Shared → Prop} (X : K.In s.heap) (I : PySem.W.InstAt s.heap x ox C od) (hs : PySem.W.findIn K (.ref C) "__ne__" = some (some (.builtin "object.__ne__")))
    (h : wpAny M A (call (.builtin "object.__ne__") (.ref x :: args)) (fun v => Q (some v)) E s) : wpAny M A (callSpecialIfBound? (.ref x) "__ne__" args) Q E s := by
  simp only [callSpecialIfBound?, bindSpecialIfBound?]
  refine wpAny_holding (wpAny_bind (wpAny_bind (wpAny_bind (I.type.here ((PySem.W.looks_findIn X hs).here ?_)))))
  refine wpAny_bind (wpAny_askSetting (wpAny_ite ?_))
  have fin : wpAny M A (call (.builtin "object.__ne__") ([.ref x] ++ args) >>= fun v => pure (some v)) Q E s := wpAny_bind (wpAny_mono h (fun v s' h' => wpAny_pure h') fun _ _ h' => h')
  split
  · exact wpAny_bind (wpAny_of_eq (F.cmp_object.ne.bind _) (wpAny_pure (by exact fin)))
  · exact wpAny_tryCatch (wpAny_bind (wpAny_of_eq (F.cmp_object.ne.bind _) (wpAny_pure (by exact fin))))
theorem objNe_body {Q : PySem.Fin → Shared → Prop} (X : K.In s.heap) (I : PySem.W.InstAt s.heap x ox C od) (hu : A.units < cLine) (hs : PySem.W.findIn K (.ref C) "__eq__" = some (some (.ref g))) (hf : PySem.W.isFn K (.ref g) = true)
    (h : wpAny (model prog w) A (call (.ref g) [.ref x, y]) (fun v s' => ∃ b, v = .bool b ∧ Q (.done (.ret (.bool (!b)))) s') E s) :
    wpAny (model prog w) A (Builtin.«object.__ne__» ⟨[.ref x, y], []⟩) Q E s := by
  unfold Builtin.«object.__ne__»
  repeat (first
    | with_reducible refine wpAny_cRoomFor hu ?_
    | (refine wpAny_bind (m := callSpecialIfBound? (.ref x) (Str.ofString "__eq__") [y])
        (PySem.W.ifBound_K X I hs hf (wpAny_mono h (fun r s' hr => by
          obtain ⟨b, rfl, hq⟩ := hr
          repeat (first | exact hq | exact wpAny_pure hq | exact wpAny_truthy_bool hq | (refine wpAny_bind (m := truthy (.bool _)) (wpAny_truthy_bool ?_)) | wp_step)) fun _ _ e => e)))
    | wp_step)
theorem ne_K {Q : Value → Shared → Prop} (X : K.In s.heap) (I : PySem.W.InstAt s.heap x ox C od) (J : PySem.W.Looks (model prog w) s.heap (typeOf y) tb) (hn : PySem.W.notFirst K C tb = true) (c : ClsQ K C) (hu : A.units + 1 < cLine) (hs : PySem.W.findIn K (.ref C) "__eq__" = some (some (.ref g))) (hf : PySem.W.isFn K (.ref g) = true)
    (h : wpAny (model prog w) A.in1 (call (.ref g) [.ref x, y]) (fun v s' => ∃ b, v = .bool b ∧ Q (.bool (!b)) s') E s) :
    wpAny (model prog w) A (richCompare .NotEq (.ref x) y) Q E s := by
  have one : wpAny (model prog w) A (tryCompare (.ref x) (cmpInfo .NotEq).2.1 y) (fun r s' => ∃ v, r = some v ∧ Q v s') E s := by
    unfold tryCompare
    refine wpAny_bind (ifBound_objNe X I c.ne (wpAny_call (codeAny_call_builtin F.cmp_object.ne.plain F.cmpEntry_ne (PySem.W.check_slot F.cmpKind_ne F.cmpSplit_ne (I.type.andThen (PySem.W.looks_mroIn X c.cm)) (F.cmpArgs_ne _ _)
      (objNe_body (A := A.in1) X I hu hs hf (wpAny_mono h (fun v s' hv => ?_) fun _ _ e => e))))))
    obtain ⟨b, rfl, hq⟩ := hv
    first | exact ⟨b, rfl, wpAny_pure ⟨_, rfl, hq⟩⟩ | exact ⟨b, rfl, wpAny_pure (wpAny_pure ⟨_, rfl, hq⟩)⟩ | exact ⟨b, rfl, _, rfl, hq⟩
  unfold richCompare
  simp only [oneThing_ref]
  refine wpAny_holding (wpAny_bind (wpAny_cRoomFor (by omega) ?_))
  refine wpAny_bind (I.type.here (wpAny_bind (J.here ?_)))
  split
  · rename_i q
    have e : PySem.W.subIn K tb (.ref C) = some false := by
      rcases Bool.or_eq_true_iff.mp hn with e | e
      · rw [beq_iff_eq.mp e] at q; simp at q
      · exact beq_iff_eq.mp e
    refine wpAny_bind ((PySem.W.looks_subIn X e).here ?_)
    simp only [Bool.false_eq_true, if_false]
    refine wpAny_bind (m := tryCompare (.ref x) _ y) (wpAny_mono one (fun r s' z => ?_) fun _ _ e => e)
    obtain ⟨v, rfl, hq⟩ := z
    exact wpAny_pure hq
  · refine wpAny_bind (wpAny_pure ?_)
    simp only [Bool.false_eq_true, if_false]
    refine wpAny_bind (m := tryCompare (.ref x) _ y) (wpAny_mono one (fun r s' z => ?_) fun _ _ e => e)
    obtain ⟨v, rfl, hq⟩ := z
    exact wpAny_pure hq
theorem sub_ty {K : PySem.W.Frag} {C : Addr} {t : String} (h : t ∈ tysN) : PySem.W.subIn K (.type t) (.ref C) = some false := by
  have e : (tysN.all fun t => match fastBuiltinMro t with | some l => (l.all fun v => match v with | .type _ => true | _ => false) | none => false) = true := by decide +kernel
  have q := List.all_eq_true.mp e t h
  show (fastBuiltinMro t).map (·.contains (.ref C)) = some false
  cases e2 : fastBuiltinMro t with
  | none => rw [e2] at q; cases q
  | some l =>
    rw [e2] at q
    have : l.contains (Value.ref C) = false := by
      rw [Bool.eq_false_iff]
      intro z
      have z := List.contains_iff_mem.mp z
      have := List.all_eq_true.mp q _ z
      cases this
    show some (l.contains (Value.ref C)) = _
    rw [this]
end
section
variable {Z : Sd} {X : Cx} {e a b : Expr} {m ma mb : E} {pos p p2 : Pos} {F : Hp} {μ : List Addr} {S : Sto} {H : Hp} {kk : Nat}
def ClsQF (Z : Sd) (X : Cx) (m : Str) : Prop := ∀ c C, Z.W.ca c = some C → (Z.C.meth c m).isSome = true → ClsQ X.K C
def rEqo (Z : Sd) (neg : Bool) : R2 := fun xv yv H Q => ∃ F μ S xd yd c gg k S', Ag Z.W F μ S H ∧ Rep Z.W F μ xv xd ∧ Rep Z.W F μ yv yd ∧ clsOf S xd = some c ∧ eqOk S c yd = true ∧ Z.C.meth c "__eq__" = some gg ∧ (if neg then Z.C.init else Z.C.call) gg [xd, yd] S = some (.bl k, S') ∧
  ∀ F' μ' H', Ex F F' → μ <+: μ' → Ag Z.W F' μ' S' H' → Q (.bl (k != neg)) H'
theorem ty_rd {v : V} {x : D} {t : String} (g : Ag Z.W F μ S H) (r : Rep Z.W F μ v x) (et : tyOf (val S x) = some t) (hd : ¬ t = "dict") : TyX Z.W.K H v (.type t) := by
  cases x <;> try (cases et; done)
  · cases r; cases et; exact .base .non
  · cases r; cases et; exact .base (.bl _)
  · cases r; cases et; exact .base (.int _)
  · cases r; cases et; exact .base (.str _)
  · cases et
    cases r with
    | tup hs rs =>
      rcases hs with (hs | ⟨ob, hs⟩) | ⟨ob, its, nn, hk, hc, _⟩
      · exact .base (.tup (g.ex _ _ hs))
      · exact .fTuple (g.ex _ _ hs)
      · exact .kTuple hk hc
  · cases et
    cases r with
    | lst hs rs => exact .base (.lst (g.ex _ _ hs))
  · cases et
    exact absurd rfl hd
  · rename_i k
    have hv : val S (.loc k) = (match S[k]? with
      | some (.lst xs) => .lst xs
      | some (.dct kvs) => .dct (kvs.map (·.1)) (kvs.map (·.2))
      | _ => .loc k) := rfl
    rw [hv] at et
    cases e2 : S[k]? with
    | none => rw [e2] at et; cases et
    | some c =>
      rw [e2] at et
      obtain ⟨a, rfl, _, _, hc⟩ := g.loc r e2
      cases c with
      | lst xs => obtain ⟨vs, h1, rs⟩ := hc; cases et; exact .base (.lst h1)
      | dct kvs => cases et; exact absurd rfl hd
      | obj c fs => cases et
theorem right_look {pins : List (Addr × Obj)} {σ : L2.St} {s : Shared} {yv : V} {yd : D} {u : Value} {c : Str} {C : Addr} (hK : X.K = Z.W.K) (I : Inv X pins σ H s) (g : Ag Z.W F μ S H) (r : Rep Z.W F μ yv yd) (ry : RelV yv u) (h : eqOk S c yd = true) (hC : Z.W.ca c = some C) (cq : ClsQ X.K C) :
    ∃ tb, PySem.W.Looks (model X.prog X.w) s.heap (typeOf u) tb ∧ PySem.W.notFirst X.K C tb = true := by
  unfold eqOk at h
  split at h
  · rename_i c' ec
    have e := of_decide_eq_true h
    subst e
    obtain ⟨b, C', dy, fs', vs', ys, rfl, k1, k2, k3, k4, k5⟩ := ins_rep g r ec
    cases hC.symm.trans k2
    cases (show u = Value.ref b from ry)
    obtain ⟨mB, O', _⟩ := ins_get I.hok k1
    obtain ⟨od', J', _⟩ := O'.look
    exact ⟨.ref C, J'.type, cq.nf⟩
  · split at h
    · rename_i t et
      obtain ⟨h1, h2⟩ := Bool.and_eq_true_iff.mp h
      have ht : t ∈ tysN := of_decide_eq_true h2
      have ty := ty_rd g r et (of_decide_eq_true h1)
      rw [← hK] at ty
      obtain ⟨P, KX, hP, _⟩ := kit_of I ry ty
      refine ⟨.type t, KX.ty _ _ I.kIn hP, ?_⟩
      unfold PySem.W.notFirst
      rw [sub_ty ht]
      simp
    · cases h
theorem op_eqo (St : Std Z X kk) (hq : ClsQF Z X "__eq__") (M : Mth X.prog X.w X.K X.mg X.base Z.W Z.C.meth Z.C.call kk "__eq__") : OpR X (compareOp .Eq) (rEqo Z false) := by
  intro pins s σ H xv yv v u Q I rx ry h
  obtain ⟨F, μ, S, xd, yd, c, gg, k, S', g, r1, r2, e1, e2, e3, e4, q⟩ := h
  obtain ⟨a, C, dx, fs, vs, xs, rfl, h1, h2, h3, h4, h5⟩ := ins_rep g r1 e1
  cases (show v = Value.ref a from rx)
  obtain ⟨f, fd, ps, F0, hM, hb⟩ := M.ex c C gg h2 e3
  have cq := hq c C h2 (by rw [e3]; rfl)
  obtain ⟨tb, J', nf⟩ := right_look St.K I g r2 ry e2 h2 cq
  obtain ⟨mA, O, _⟩ := ins_get I.hok h1
  obtain ⟨od, J, _⟩ := O.look
  obtain ⟨m, hF⟩ := I.fr
  have hsp : spC Z.W Z.C.call gg ([V.ref a, yv] ++ []) H (fun z H' => Q z H') E0 := ⟨F, μ, S, [xd, yd], .bl k, S', g, .cons r1 (.one r2), e4, fun v' F' μ' H' x' p' g' r' => by
    cases r'
    have := q F' μ' H' x' p' g'
    rwa [show (k != false) = k by cases k <;> rfl] at this⟩
  show wpAny _ _ (richCompare .Eq (.ref a) u) _ _ _
  refine PySem.W.cmp_K (op := .Eq) (tb := tb) St.hr.units0 hF I.ok.mod.kin J J' nf hM.at_ hM.fn ?_
  refine wpAny_mono (run_fn (us := [.ref a, u]) (vs := [.ref a, yv]) (dvs := []) (E := E0) F0 St.hr hb .nil pass0 I (.cons rfl (.cons ry .nil)) hsp) (fun w s' z => ?_) fun _ _ x => x
  obtain ⟨z', H', I', rz, qz⟩ := z
  exact SlX.cmpback rz ⟨z', H', I', rz, qz⟩
theorem op_neo (St : Std Z X kk) (h0 : kk = 0 → ∀ g as S, Z.C.init g as S = none) (hq : ClsQF Z X "__eq__") (M : Mth X.prog X.w X.K X.mg X.base Z.W Z.C.meth Z.C.init (kk - 1) "__eq__") : OpR X (compareOp .NotEq) (rEqo Z true) := by
  intro pins s σ H xv yv v u Q I rx ry h
  obtain ⟨F, μ, S, xd, yd, c, gg, k, S', g, r1, r2, e1, e2, e3, e4, q⟩ := h
  obtain ⟨a, C, dx, fs, vs, xs, rfl, h1, h2, h3, h4, h5⟩ := ins_rep g r1 e1
  cases (show v = Value.ref a from rx)
  by_cases hk : kk = 0
  · rw [if_pos rfl, h0 hk] at e4; cases e4
  obtain ⟨f, fd, ps, F0, hM, hb⟩ := M.ex c C gg h2 e3
  have cq := hq c C h2 (by rw [e3]; rfl)
  obtain ⟨tb, J', nf⟩ := right_look St.K I g r2 ry e2 h2 cq
  obtain ⟨mA, O, _⟩ := ins_get I.hok h1
  obtain ⟨od, J, _⟩ := O.look
  have hr1 : Room (kk - 1 + 1) X.A := St.hr.mono (by omega)
  have hsp : spC Z.W Z.C.init gg ([V.ref a, yv] ++ []) H (fun z H' => ∃ k, z = .bl k ∧ Q (.bl (!k)) H') E0 := ⟨F, μ, S, [xd, yd], .bl k, S', g, .cons r1 (.one r2), e4, fun v' F' μ' H' x' p' g' r' => by
    cases r'
    have := q F' μ' H' x' p' g'
    rw [show (k != true) = !k by cases k <;> rfl] at this
    exact ⟨k, rfl, this⟩⟩
  have FR := F0.raw (dvs := []) hb .nil
  show wpAny _ _ (richCompare .NotEq (.ref a) u) _ _ _
  refine ne_K I.kIn J J' nf cq (by have := St.hu; omega) hM.at_ hM.fn ?_
  refine wpAny_mono (wpAny_call (SlX.run_at (us := [.ref a, u]) (ws := [.ref a, yv]) FR hr1.in1 I.env0.in1 pass0 I (.cons rfl (.cons ry .nil)) hsp)) (fun w s' z => ?_) fun _ _ x => x
  obtain ⟨z', H', I', rz, k', ez, qz⟩ := z
  subst ez
  cases (show w = Value.bool k' from rz)
  exact ⟨k', rfl, .bl (!k'), H', I', rfl, qz⟩
theorem rd_eqo {neg : Bool} {σ : L2.St} {Q : VK} (h : rdE Z (.eqo neg ma mb) σ H Q) : ∃ k, tOp (rEqo Z neg) (rdE Z ma) (rdE Z mb) σ H fun v H' => Q v H' ∧ v = .bl k := by
  obtain ⟨F, μ, S, ρ, d, S', g, rr, ev, q⟩ := h
  unfold evE at ev
  obtain ⟨x, e1, ev⟩ := bind_some' ev
  obtain ⟨y, e2, ev⟩ := bind_some' ev
  obtain ⟨c, e3, ev⟩ := bind_some' ev
  split at ev
  · rename_i hcy
    obtain ⟨gg, e4, ev⟩ := bind_some' ev
    obtain ⟨r, e5, ev⟩ := bind_some' ev
    split at ev
    · rename_i k hk
      cases ev
      refine ⟨k != neg, F, μ, S, ρ, x.1, x.2, g, rr, e1, fun v F1 μ1 H1 x1 p1 g1 r1 => ?_⟩
      refine ⟨F1, μ1, x.2, ρ, y.1, y.2, g1, rr.mono x1 p1, e2, fun u F2 μ2 H2 x2 p2 g2 r2 => ?_⟩
      refine ⟨F2, μ2, y.2, x.1, y.1, c, gg, k, r.2, g2, r1.mono x2 p2, r2, e3, hcy, e4, by rw [e5]; obtain ⟨r1, r2⟩ := r; cases hk; rfl, fun F' μ' H' x3 p3 g3 => ⟨?_, rfl⟩⟩
      exact q _ F' μ' H' ((x1.trans x2).trans x3) ((p1.trans p2).trans p3) g3 (.bl _)
    · cases ev
  · cases ev
theorem rEqo_mono {neg : Bool} {x y : V} {Q Q' : VK} (hQ : ∀ v H, Q v H → Q' v H) (h : rEqo Z neg x y H Q) : rEqo Z neg x y H Q' := by
  obtain ⟨F, μ, S, xd, yd, c, gg, k, S', g, r1, r2, e1, e2, e3, e4, q⟩ := h
  exact ⟨F, μ, S, xd, yd, c, gg, k, S', g, r1, r2, e1, e2, e3, e4, fun F' μ' H' x p g => hQ _ _ (q F' μ' H' x p g)⟩
theorem tOp_eqo_mono {neg : Bool} {σ : L2.St} {Q Q' : VK} (hQ : ∀ v H, Q v H → Q' v H) (h : tOp (rEqo Z neg) (rdE Z ma) (rdE Z mb) σ H Q) : tOp (rEqo Z neg) (rdE Z ma) (rdE Z mb) σ H Q' := by
  obtain ⟨F, μ, S, ρ, d, S', g, rr, ev, q⟩ := h
  refine ⟨F, μ, S, ρ, d, S', g, rr, ev, fun v F1 μ1 H1 x1 p1 g1 r1 => ?_⟩
  obtain ⟨F, μ, S, ρ, d, S', g, rr, ev, q⟩ := q v F1 μ1 H1 x1 p1 g1 r1
  exact ⟨F, μ, S, ρ, d, S', g, rr, ev, fun v F1 μ1 H1 x1 p1 g1 r1 => rEqo_mono hQ (q v F1 μ1 H1 x1 p1 g1 r1)⟩
theorem me_eqo (St : Std Z X kk) (hq : ClsQF Z X "__eq__") (M : Mth X.prog X.w X.K X.mg X.base Z.W Z.C.meth Z.C.call kk "__eq__") (ha : ME Z X a ma) (hb : ME Z X b mb) : ME Z X (.Compare a [.Eq] [b] pos) (.eqo false ma mb) :=
  PE.imp (pe_cmpR (op_eqo St hq M) ha hb (nomark _)) fun σ H Q h => by
    obtain ⟨k, h⟩ := rd_eqo h
    exact tOp_eqo_mono (fun _ _ z => z.1) h
theorem me_neo (St : Std Z X kk) (h0 : kk = 0 → ∀ g as S, Z.C.init g as S = none) (hq : ClsQF Z X "__eq__") (M : Mth X.prog X.w X.K X.mg X.base Z.W Z.C.meth Z.C.init (kk - 1) "__eq__") (ha : ME Z X a ma) (hb : ME Z X b mb) : ME Z X (.Compare a [.NotEq] [b] pos) (.eqo true ma mb) :=
  PE.imp (pe_cmpR (op_neo St h0 hq M) ha hb (nomark _)) fun σ H Q h => by
    obtain ⟨k, h⟩ := rd_eqo h
    exact tOp_eqo_mono (fun _ _ z => z.1) h
theorem rdT_eqo {neg : Bool} {σ : L2.St} {Q : Bool → Hp → Prop} (h : rdT Z (.eqo neg ma mb) σ H Q) : tTest (tOp (rEqo Z neg) (rdE Z ma) (rdE Z mb)) σ H Q := by
  obtain ⟨F, μ, S, ρ, b, S', g, rr, ev, q⟩ := h
  obtain ⟨k, h⟩ := rd_eqo (Z := Z) (neg := neg) (Q := fun v H' => ∃ k, v = .bl k ∧ Q k H') (σ := σ) (H := H) ⟨F, μ, S, ρ, .bl b, S', g, rr, ev, fun v F' μ' H' x p g' r => by cases r; exact ⟨b, rfl, q F' μ' H' x p g'⟩⟩
  exact tOp_eqo_mono (fun _ _ z => z.1) h
theorem mt_eqo (St : Std Z X kk) (hq : ClsQF Z X "__eq__") (M : Mth X.prog X.w X.K X.mg X.base Z.W Z.C.meth Z.C.call kk "__eq__") (ha : ME Z X a ma) (hb : ME Z X b mb) : MT Z X (.Compare a [.Eq] [b] pos) (.eqo false ma mb) :=
  PT.imp (pt_cmpR (op_eqo St hq M) ha hb (nomark _)) fun σ H Q h => rdT_eqo h
theorem mt_neo (St : Std Z X kk) (h0 : kk = 0 → ∀ g as S, Z.C.init g as S = none) (hq : ClsQF Z X "__eq__") (M : Mth X.prog X.w X.K X.mg X.base Z.W Z.C.meth Z.C.init (kk - 1) "__eq__") (ha : ME Z X a ma) (hb : ME Z X b mb) : MT Z X (.Compare a [.NotEq] [b] pos) (.eqo true ma mb) :=
  PT.imp (pt_cmpR (op_neo St h0 hq M) ha hb (nomark _)) fun σ H Q h => rdT_eqo h

/-! ### isinstance(x, C) -/
theorem isc_rd {v : V} {x : D} {n : Str} {C : Addr} {bb : Bool} (hK : X.K = Z.W.K) (g : Ag Z.W F μ S H) (r : Rep Z.W F μ v x) (hc : Cls X.K C) (cq : ClsQ X.K C) (hn : Z.W.ca n = some C) (h : iscD S n x = some bb) : ∃ t, TyX X.K H v t ∧ PySem.W.kitOne X.K t (.ref C) = some bb := by
  unfold iscD at h
  split at h
  · rename_i c' ec
    split at h
    · rename_i hcc
      cases h
      subst hcc
      obtain ⟨a, C', dx, fs, vs, xs, rfl, h1, h2, h3, h4, h5⟩ := ins_rep g r ec
      cases h2.symm.trans hn
      refine ⟨.ref C, .base (.ins h1 hc cq.ca cq.cn cq.ct cq.cm), ?_⟩
      unfold PySem.W.kitOne
      rw [if_pos (by simp)]
    · cases h
  · split at h
    · rename_i t et
      split at h
      · cases h
      · rename_i hd
        split at h
        · rename_i ht
          cases h
          exact ⟨.type t, by rw [hK]; exact ty_rd g r et hd, cq.bt t ht⟩
        · cases h
    · cases h
theorem me_isc {n : Str} {C : Addr} (St : Std Z X kk) (hm : X.mg "isinstance" = none) (hmT : X.mg n = some (.ref C)) (hgT : Gl X n) (hc : Cls X.K C) (cq : ClsQ X.K C) (hn : Z.W.ca n = some C) (he : ME Z X e m) (hg : Gl X "isinstance" := by rfl) (hdb : (n == ("__debug__" : Str)) = false := by decide)
    (hse : starEach [e, .Name n p2] X.env = (false, eval e X.env) :: starEach [.Name n p2] X.env := by rfl) (hse2 : starEach [.Name n p2] X.env = (false, eval (.Name n p2) X.env) :: starEach [] X.env := by rfl) (hpl : (backTo pos (starEach [.Name n p2] X.env)).any (·.1) = false := by rfl) :
    ME Z X (.Call (.Name "isinstance" p) [e, .Name n p2] [] pos) (.isc m n) := by
  refine PE.imp (pe_callB call_isi hg hm (by decide +kernel) (pa_cons he (pa_cons (pe_glob (v := .ref C) hgT hmT rfl hdb) pa_nil hse2) hse) (he := hse) (hpl := hpl)) fun σ H Q h => ?_
  obtain ⟨F, μ, S, ρ, d, S', g, rr, ev, q⟩ := h
  unfold evE at ev
  obtain ⟨x, e1, ev⟩ := bind_some' ev
  obtain ⟨bb, e2, ev⟩ := map_some' ev
  cases ev
  refine ⟨F, μ, S, ρ, x.1, x.2, g, rr, e1, fun v F1 μ1 H1 x1 p1 g1 r1 => ?_⟩
  obtain ⟨t, h1, h2⟩ := isc_rd (X := X) St.K g1 r1 hc cq hn e2
  exact ⟨v, .ref C, t, .ref C, bb, rfl, .own C, h1, h2, q _ F1 μ1 H1 x1 p1 g1 (.bl bb)⟩

/-! ### len(x) -/
def rLeno (Z : Sd) : List V → Hp → VK → Prop := fun xs H Q => ∃ xv F μ S xd c gg k S', xs = [xv] ∧ Ag Z.W F μ S H ∧ Rep Z.W F μ xv xd ∧ clsOf S xd = some c ∧ Z.C.meth c "__len__" = some gg ∧ Z.C.init gg [xd] S = some (.int k, S') ∧ 0 ≤ k ∧ k < 2 ^ 62 ∧
  ∀ F' μ' H', Ex F F' → μ <+: μ' → Ag Z.W F' μ' S' H' → Q (.int k) H'
theorem call_leno (St : Std Z X kk) (h0 : kk = 0 → ∀ g as S, Z.C.init g as S = none) (M : Mth X.prog X.w X.K X.mg X.base Z.W Z.C.meth Z.C.init (kk - 1) "__len__") : CallR X (.builtin "len") (rLeno Z) := by
  intro pins s σ H xs us Q I r h
  obtain ⟨xv, F, μ, S, xd, c, gg, k, S', rfl, g, r1, e1, e3, e4, k0, k1, q⟩ := h
  obtain ⟨u, rfl, ru⟩ := r.one
  obtain ⟨a, C, dx, fs, vs, xs, rfl, h1, h2, h3, h4, h5⟩ := ins_rep g r1 e1
  cases (show u = Value.ref a from ru)
  by_cases hk : kk = 0
  · rw [h0 hk] at e4; cases e4
  obtain ⟨f, fd, ps, F0, hM, hb⟩ := M.ex c C gg h2 e3
  obtain ⟨mA, O, _⟩ := ins_get I.hok h1
  obtain ⟨od, J, _⟩ := O.look
  obtain ⟨m, hF⟩ := I.fr
  have hr1 : Room (kk - 1 + 1) X.A := St.hr.mono (by omega)
  have hsp : spC Z.W Z.C.init gg ([V.ref a] ++ []) H (fun z H' => z = .int k ∧ Q (.int k) H') E0 := ⟨F, μ, S, [xd], .int k, S', g, .one r1, e4, fun v' F' μ' H' x' p' g' r' => by
    cases r'
    exact ⟨rfl, q F' μ' H' x' p' g'⟩⟩
  have FR := F0.raw (dvs := []) hb .nil
  refine PySem.W.len_K hF I.ok.mod.kin J hM.at_ hM.fn ?_
  refine wpAny_mono (wpAny_call (SlX.run_at (us := [.ref a]) (ws := [.ref a]) FR hr1.in1 I.env0.in1 pass0 I (.cons rfl .nil) hsp)) (fun w s' z => ?_) fun _ _ x => x
  obtain ⟨z', H', I', rz, ez, qz⟩ := z
  subst ez
  obtain ⟨t, e⟩ := (show ∃ t, w = Value.int k t from rz)
  cases e
  exact ⟨⟨k0, Int.lt_trans k1 (by decide)⟩, .int k, H', I'.tok _, ⟨_, rfl⟩, qz⟩
theorem me_leno (St : Std Z X kk) (h0 : kk = 0 → ∀ g as S, Z.C.init g as S = none) (M : Mth X.prog X.w X.K X.mg X.base Z.W Z.C.meth Z.C.init (kk - 1) "__len__") (hm : X.mg "len" = none) (he : ME Z X e m) (hg : Gl X "len" := by rfl)
    (hse : starEach [e] X.env = (false, eval e X.env) :: starEach [] X.env := by rfl) (hpl : (backTo pos (starEach [] X.env)).any (·.1) = false := by rfl) : ME Z X (.Call (.Name "len" p) [e] [] pos) (.leno m) := by
  refine PE.imp (pe_callB (call_leno St h0 M) hg hm (by decide +kernel) (pa_cons he pa_nil hse) (he := hse) (hpl := hpl)) fun σ H Q h => ?_
  obtain ⟨F, μ, S, ρ, d, S', g, rr, ev, q⟩ := h
  unfold evE at ev
  obtain ⟨x, e1, ev⟩ := bind_some' ev
  obtain ⟨c, e2, ev⟩ := bind_some' ev
  obtain ⟨gg, e3, ev⟩ := bind_some' ev
  obtain ⟨r, e4, ev⟩ := bind_some' ev
  split at ev
  · rename_i k hk
    split at ev
    · rename_i hk2
      cases ev
      refine ⟨F, μ, S, ρ, x.1, x.2, g, rr, e1, fun v F1 μ1 H1 x1 p1 g1 r1 => ?_⟩
      exact ⟨v, F1, μ1, x.2, x.1, c, gg, k, r.2, rfl, g1, r1, e2, e3, by rw [e4]; obtain ⟨r1, r2⟩ := r; cases hk; rfl, hk2.1, hk2.2, fun F' μ' H' x2 p2 g2 => q _ F' μ' H' (x1.trans x2) (p1.trans p2) g2 (.int k)⟩
    · cases ev
  · cases ev
end
end Fw

set_option Elab.async false
set_option linter.all false
set_option maxRecDepth 100000
set_option maxHeartbeats 0
/-! FwS: sorted(set(xs)), xs a list of texts. -/
namespace Fw
open PySem L2 PySem.Spec PyProof.Rows
open Evl (Ex)
/-- a text, laid in a set -/
def TxtE (w : World) (e : Int × Value) : Prop := ∃ k tk, e.2 = Value.str k tk ∧ e.1 = hashStr w k
def txtOf (e : Int × Value) : Str := match e.2 with
  | .str k _ => k
  | _ => Str.empty
/-- the set at a holds the texts l, each once; its table may be walked -/
def SetS (w : World) (h : Heap) (a : Addr) (l : List Str) : Prop :=
  ∃ o es ep t, h.get? a = some o ∧ o.ExactSet ∧ o.data = .set es ep t ∧ (∀ e ∈ es.toList, TxtE w e) ∧ (es.toList.map txtOf).Perm l ∧ l.Nodup ∧ es.size < scanBound ∧ t.fits es.size = true ∧ Ris t.place.toList ∧
    (w.params.followText "set-order" = true ∨ t.led = true)
theorem addL_mem {k x : Str} {l : List Str} : x ∈ addL k l ↔ x = k ∨ x ∈ l := by
  unfold addL
  split
  · rename_i h
    rw [List.any_eq_true] at h
    obtain ⟨y, hy, e⟩ := h
    have e := of_decide_eq_true e
    subst e
    exact ⟨.inr, fun h => h.elim (fun e => e ▸ hy) id⟩
  · exact List.mem_cons
theorem addL_nodup {k : Str} {l : List Str} (h : l.Nodup) : (addL k l).Nodup := by
  unfold addL
  split
  · exact h
  · rename_i hk
    refine List.nodup_cons.mpr ⟨fun hm => hk ?_, h⟩
    exact List.any_eq_true.mpr ⟨k, hm, decide_eq_true rfl⟩
theorem addL_len {k : Str} {l : List Str} : (addL k l).length ≤ l.length + 1 := by
  unfold addL
  split <;> simp
section
variable {P : Program} {w : World} {A : Around} {E : Value → Shared → Prop} {s : Shared} {a : Addr} {l : List Str}
theorem SetS.len {h : Heap} (R : SetS w h a l) : ∃ es : Array (Int × Value), es.size = l.length ∧ es.size < scanBound := by
  obtain ⟨o, es, ep, t, _, _, _, _, pm, _, hb, _⟩ := R
  refine ⟨es, ?_, hb⟩
  have := pm.length_eq
  rwa [List.length_map, Array.length_toList] at this
theorem SetS.keep {h h' : Heap} (R : SetS w h a l) (k : ∀ o, h.get? a = some o → h'.get? a = some o) : SetS w h' a l := by
  obtain ⟨o, es, ep, t, ho, r⟩ := R
  exact ⟨o, es, ep, t, k o ho, r⟩
theorem txt_elems {es : List (Int × Value)} (g : ∀ e ∈ es, TxtE w e) : ElemsOf (PySem.strKind P w) es := fun e he => by
  obtain ⟨k, tk, h1, h2⟩ := g e he
  exact ⟨⟨k, by rw [h1]; exact PySem.Froz.is_str k tk, h2⟩, by rw [h1]; rfl⟩
theorem txt_is {e : Int × Value} (g : TxtE w e) (k : Str) : (PySem.strKind P w).is k e.2 = true ↔ txtOf e = k := by
  obtain ⟨k0, tk, h1, _⟩ := g
  unfold txtOf
  rw [h1]
  show ((k0 == k) = true) ↔ k0 = k
  exact beq_iff_eq
/-- behind the add of a new text -/
theorem setS_tail {g : Bool → Sem Unit} (hg : ∀ (b : Bool) (s₁ : Shared) (Q' : Unit → Shared → Prop), Q' () s₁ → wpAny (model P w) A (g b) Q' E s₁)
    {o : Obj} {es es1 : Array (Int × Value)} {ep : Nat} {t t2 : SetTable} (ho : s.heap.get? a = some o) (hex : o.ExactSet) (hd : o.data = .set es ep t)
    (g1 : ∀ e ∈ es1.toList, TxtE w e) (pm1 : (es1.toList.map txtOf).Perm l) (nd : l.Nodup) (hb1 : es1.size < scanBound) (hf2 : t2.fits es1.size = true) (hr : Ris t2.place.toList)
    (hl : w.params.followText "set-order" = true ∨ t2.led = true) {wasDummy : Bool} {R : Option Bool → Shared → Prop}
    (hR : ∀ h', Heap.SameBut a s.heap h' → SetS w h' a l → R (some true) { s with heap := h' }) :
    wpAny (model P w) A (do
        storeSet a es1 t2
        if (!wasDummy && t2.tooFull) = true then do
            g (relayAll t2 es1 (SetTable.grown es1.size)).2.2
            storeSet a (relayAll t2 es1 (SetTable.grown es1.size)).1 (relayAll t2 es1 (SetTable.grown es1.size)).2.1
            pure (some true)
          else pure (some true)) R E s := by
  have ho1 := store_at (es' := es1) (t' := t2) ho hd
  have sb1 := Heap.SameBut.update s.heap a (Obj.putSet es1 t2)
  refine wpAny_bind (wpAny_storeSet_of ho hd ?_ (fits_of_scanBound hb1))
  by_cases c : (!wasDummy && t2.tooFull) = true
  · rw [if_pos c]
    have pm := relayAll_perm t2 es1 (SetTable.grown es1.size)
    have q1 := relayAll_fits t2 es1 (SetTable.grown es1.size)
    have q2 := relayAll_ris t2 es1 (SetTable.grown es1.size)
    have q3 := relayAll_led t2 es1 (SetTable.grown es1.size)
    generalize relayAll t2 es1 (SetTable.grown es1.size) = Y at pm q1 q2 q3 ⊢
    obtain ⟨es2, t3, gv⟩ := Y
    simp only at pm q1 q2 q3 ⊢
    have z : es2.size = es1.size := by rw [← Array.length_toList, pm.length_eq, Array.length_toList]
    refine wpAny_bind (hg _ _ _ (wpAny_bind (wpAny_storeSet_of ho1 rfl (wpAny_pure (hR _ (sb1.trans (Heap.SameBut.update _ a _)) ?_)) (fits_of_scanBound (by rw [z]; exact hb1)))))
    exact ⟨_, es2, _, t3, store_at (es' := es2) (t' := t3) ho1 rfl, hex, rfl, fun e he => g1 e (pm.mem_iff.mp he), (pm.map txtOf).trans pm1, nd, by rw [z]; exact hb1, q1, q2, hl.imp id fun y => by rw [q3]; exact y⟩
  · rw [if_neg c]
    exact wpAny_pure (hR _ sb1 ⟨_, es1, _, t2, ho1, hex, rfl, g1, pm1, nd, hb1, hf2, hr, hl⟩)
theorem setS_add {k : Str} {tk : Tok} {Q : Bool → Shared → Prop} (R : SetS w s.heap a l) (room : l.length + 1 < scanBound)
    (hQ : ∀ b h', Heap.SameBut a s.heap h' → SetS w h' a (addL k l) → Q b { s with heap := h' }) :
    wpAny (model P w) A (setAddHashed a (.str k tk) (hashStr w k)) Q E s := by
  obtain ⟨o, es, ep, t, ho, hex, hd, g, pm, nd, hb, hf, hr, hl⟩ := R
  have hlen : es.size = l.length := by
    have := pm.length_eq
    rwa [List.length_map, Array.length_toList] at this
  have hkey : (PySem.strKind P w).is k (.str k tk) = true := PySem.Froz.is_str k tk
  have hsc : (Value.str k tk).scannable = true := rfl
  have hel : ElemsOf (PySem.strKind P w) es.toList := txt_elems g
  have hnote : ∀ (b : Bool) {s₁ : Shared} {Q' : Unit → Shared → Prop}, Q' () s₁ → wpAny (model P w) A (match b with | true => rule "set.scan.the-table-gave-way" | false => pure ()) Q' E s₁ := fun b s₁ Q' q => by
    cases b
    · exact wpAny_pure q
    · exact wpAny_rule q
  unfold setAddHashed setAddHashedIn
  refine wpAny_holding (wpAny_bind (wpAny_setState_of ho hd hf ?_))
  dsimp only
  rw [byScan_of hsc hb hel]
  simp only [↓reduceIte]
  unfold setAddByScan
  refine wpAny_bind (wpAny_bind (wpAny_rule (wpAny_bind (wpAny_setScan_of hkey ho hd hf hel ?_))))
  have hin : k ∈ l ↔ ∃ e ∈ es.toList, (PySem.strKind P w).is k e.2 = true := by
    rw [← pm.mem_iff, List.mem_map]
    exact ⟨fun ⟨e, he, q⟩ => ⟨e, he, (txt_is (g e he) k).2 q⟩, fun ⟨e, he, q⟩ => ⟨e, he, (txt_is (g e he) k).1 q⟩⟩
  cases hfi : List.findIdx? (fun e => (PySem.strKind P w).is k e.2) es.toList with
  | some j =>
    dsimp only
    obtain ⟨hj, pj, _⟩ := List.findIdx?_eq_some_iff_getElem.mp hfi
    have hk : k ∈ l := hin.mpr ⟨es.toList[j], List.getElem_mem hj, pj⟩
    have ea : addL k l = l := by
      unfold addL
      rw [if_pos (List.any_eq_true.mpr ⟨k, hk, decide_eq_true rfl⟩)]
    refine wpAny_pure (wpAny_pure (hQ _ s.heap (Heap.SameBut.refl a s.heap) ?_))
    rw [ea]
    exact ⟨o, es, ep, t, ho, hex, hd, g, pm, nd, hb, hf, hr, hl⟩
  | none =>
    dsimp only
    have hk : k ∉ l := fun hk => by
      obtain ⟨e, he, q⟩ := hin.mp hk
      have c := List.findIdx?_eq_none_iff.mp hfi e he
      rw [q] at c
      cases c
    have ea : addL k l = k :: l := by
      unfold addL
      rw [if_neg fun h => by
        rw [List.any_eq_true] at h
        obtain ⟨y, hy, e⟩ := h
        exact hk (of_decide_eq_true e ▸ hy)]
    rw [ea] at hQ
    have p1 := layNew_perm t es ((PySem.strKind P w).hash k) (.str k tk)
    have q1 := layNew_fits t es ((PySem.strKind P w).hash k) (.str k tk)
    have q2 := layNew_ris t es ((PySem.strKind P w).hash k) (.str k tk) hr
    have q3 := layNew_led t es ((PySem.strKind P w).hash k) (.str k tk)
    have eh : (PySem.strKind P w).hash k = hashStr w k := rfl
    rw [eh] at p1 q1 q2 q3
    generalize layNew t es (hashStr w k) (.str k tk) = Y at p1 q1 q2 q3 ⊢
    obtain ⟨es1, t1, wasDummy, gv⟩ := Y
    simp only at p1 q1 q2 q3 ⊢
    rw [Array.toList_push] at p1
    have p2 : es1.toList.Perm ((hashStr w k, Value.str k tk) :: es.toList) := p1.trans (List.perm_append_singleton _ _)
    have p3 : (es1.toList.map txtOf).Perm (k :: l) := (p2.map txtOf).trans (List.Perm.cons k pm)
    have g1 : ∀ e ∈ es1.toList, TxtE w e := fun e he => by
      rcases List.mem_cons.mp (p2.mem_iff.mp he) with y | y
      · rw [y]; exact ⟨k, tk, rfl, rfl⟩
      · exact g e y
    have z : es1.size = l.length + 1 := by rw [← Array.length_toList, p2.length_eq, List.length_cons, Array.length_toList, hlen]
    have hb1 : es1.size < scanBound := by rw [z]; exact room
    have nd1 : (k :: l).Nodup := List.nodup_cons.mpr ⟨hk, nd⟩
    have hled : w.params.followText "set-order" = true ∨ t1.led = true := hl.imp id fun y => by rw [q3]; exact y
    refine wpAny_bind (hnote _ ?_)
    by_cases hpl : t1.plain = true
    · rw [if_pos hpl]
      refine wpAny_bind ?_
      rw [hashByValue_scannable 8 hsc]
      refine wpAny_pure ?_
      refine setS_tail (l := k :: l) ?_ ho hex hd g1 p3 nd1 hb1 ?_ ?_ ?_ fun h' sb r => ?_
      · intro b s₁ Q' q; exact hnote b q
      · exact SetTable.fits_plain_off q1
      · exact q2
      · exact hled
      · dsimp only; exact wpAny_pure (hQ _ h' sb r)
    · rw [if_neg hpl]
      refine wpAny_bind (wpAny_pure ?_)
      simp only [↓reduceIte]
      refine setS_tail (l := k :: l) ?_ ho hex hd g1 p3 nd1 hb1 q1 q2 hled fun h' sb r => ?_
      · intro b s₁ Q' q; exact hnote b q
      · dsimp only; exact wpAny_pure (hQ _ h' sb r)
end
section
variable {P : Program} {w : World} {A : Around} {s : Shared} {R : Result → Shared → Prop} {I : Addr} {fp wr : List Addr} {G : Array GenState → Array GenState → Prop} {n : Nat} {Pv : Nat → Value → Prop} {St : Nat → Shared → Prop}
/-- the items of a walk, all texts, one after another into the set at S -/
theorem fill_txt (W : WalksS P w A.in1 I fp wr G n Pv St) (S : Addr) (hSf : S ∉ fp) (ys : List Str) (hn : n = ys.length) (room : ys.length + 2 < scanBound) (hval : ∀ i v, Pv i v → ∃ t, v = .str (ys.getD i Str.empty) t) :
    ∀ (m i : Nat) (s : Shared), n - i = m → i ≤ n → St i s → (∃ l, SetS w s.heap S l ∧ (∀ x, x ∈ l ↔ x ∈ ys.take i) ∧ l.length ≤ i) →
      (∀ s' l, Moved (S :: wr) G s s' → SetS w s'.heap S l → (∀ x, x ∈ l ↔ x ∈ ys) → R (.ok (.ret .none)) s') →
      codeAny (model P w) A (.builtin "set.update.loop" ⟨[.ref S, .ref I], []⟩) R s := by
  have hSw : S ∉ wr := fun h => hSf (W.sub _ h)
  have up : ∀ b ∈ wr, b ∈ S :: wr := fun b hb => List.mem_cons_of_mem _ hb
  intro m
  induction m with
  | zero =>
    intro i s hm hi hst ⟨l, hS, hl, _⟩ hR
    obtain rfl : i = n := by omega
    refine codeAny_builtin PyProof.Rows.F.entry_set_update_loop ?_
    rw [Around.under_plainId PyProof.Rows.F.plain_set_update_loop _]
    refine wpAny_bind (m := pyNext (.ref I)) (W.done s _ _ hst fun s' hmv => ?_)
    refine wpAny_pure (hR s' l (hmv.mono up) (hS.keep fun o e => hmv.heap S o hSw e) fun x => ?_)
    rw [hl x, hn, List.take_length]
  | succ m ih =>
    intro i s hm hi hst ⟨l, hS, hl, hlen⟩ hR
    have hlt : i < n := by omega
    refine codeAny_builtin PyProof.Rows.F.entry_set_update_loop ?_
    rw [Around.under_plainId PyProof.Rows.F.plain_set_update_loop _]
    refine wpAny_bind (m := pyNext (.ref I)) (W.item i s _ _ hlt hst fun v s' hP hst' hmv => ?_)
    obtain ⟨t, rfl⟩ := hval i v hP
    have hS' : SetS w s'.heap S l := hS.keep fun o e => hmv.heap S o hSw e
    refine wpAny_bind (m := holding [Value.str (ys.getD i Str.empty) t] (setAdd S (.str (ys.getD i Str.empty) t))) (wpAny_holding ?_)
    unfold setAdd
    refine wpAny_holding (wpAny_bind ((PySem.strKind P w).pyHash (k := ys.getD i Str.empty) (PySem.Froz.is_str _ _) ?_))
    refine setS_add (s := { s' with toks := s'.toks + 1 }) hS' (by omega) fun b h' hsb hS2 => ?_
    have hg : ys.getD i Str.empty ∈ ys ∧ ys.take (i + 1) = ys.take i ++ [ys.getD i Str.empty] := by
      have hi2 : i < ys.length := by omega
      rw [List.getD_eq_getElem?_getD, List.getElem?_eq_getElem hi2]
      exact ⟨List.getElem_mem _, by rw [List.take_succ, List.getElem?_eq_getElem hi2]; rfl⟩
    refine wpAny_pure ⟨plainId_quiet PyProof.Rows.F.plain_set_update_loop _, ih (i + 1) _ (by omega) hlt (W.frame _ s' _ _ hst' (Nat.le_succ _) fun b hb o e => ?_) ⟨_, hS2, fun x => ?_, ?_⟩ fun s2 l2 hmv2 hS3 hl2 => ?_⟩
    · rw [hsb.2 b (fun h : b = S => hSf (by rw [← h]; exact hb))]; exact e
    · rw [addL_mem, hl x, hg.2, List.mem_append, List.mem_singleton]
      exact Or.comm
    · have := addL_len (k := ys.getD i Str.empty) (l := l)
      omega
    · refine hR s2 l2 (Moved.trans W.gtrans ((hmv.mono up).then_heap (Nat.le_succ _) fun b o hb e => ?_) hmv2) hS3 hl2
      rw [hsb.2 b (fun h : b = S => hb (by rw [h]; exact List.mem_cons_self))]; exact e
end
section
variable {P : Program} {w : World} {A : Around} {E : Value → Shared → Prop} {s : Shared} {a : Addr} {l : List Str}
abbrev set0 (w : World) : Obj := { cls := .type "set", dict := none, data := .set #[] 0 (.fresh 0 0 (!w.params.followText "set-order")) }
theorem setS_fresh {h : Heap} {a : Addr} (ho : h.get? a = some (set0 w)) : SetS w h a [] :=
  ⟨_, #[], 0, _, ho, ⟨rfl, rfl, rfl⟩, rfl, (fun e he => by simp at he), List.Perm.nil, List.nodup_nil, (by decide), (by rfl), List.Pairwise.nil, by
    show _ ∨ (!w.params.followText "set-order") = true
    cases w.params.followText "set-order"
    · exact .inr rfl
    · exact .inl rfl⟩
/-- set(xs) -/
theorem call_set_txt {x : Addr} {items : Array Value} {ys : List Str} {Q : Value → Shared → Prop} (hh : A.handled = none) (hl : s.heap.IsList x items) (hi : StrsAre items.toList ys) (room : ys.length + 2 < scanBound)
    (h : ∀ (h' : Heap) (tk : Nat) l, SetS w h' s.heap.objs.size l → (∀ x, x ∈ l ↔ x ∈ ys) → (∀ b o, s.heap.get? b = some o → h'.get? b = some o) → Q (.ref s.heap.objs.size) { s with heap := h', toks := tk }) :
    wpAny (model P w) A (call (.type "set") [.ref x]) Q E s := by
  have hsz : items.size = ys.length := by rw [← StrsAre.len_eq hi, Array.length_toList]
  obtain ⟨c, tl, hmro⟩ := PySem.F.called_set.mro
  have hmade := PySem.F.called_set.made
  have hsub := PySem.F.called_set.sub
  refine wpAny_call (codeAny_of_tree (wpAny_pure ⟨Code.quiet_builtin _ (by decide +kernel), codeAny_builtin PySem.F.entry_type_call ?_⟩))
  rw [Around.under_plain (weight_type_call_type "set" [.ref x] []) rfl]
  have h1 := PySem.F.called_set.notType
  have h2 := PySem.F.called_set.canCreate
  have hct := PySem.F.typeCall_set_1 (.ref x)
  repeat (any_goals (first | assumption | wp_step))
  refine codeAny_mono (code_set_led1 (.ref x) (E := E) (Q₁ := fun v s1 => v = .ref s.heap.objs.size ∧ s1 = { s with heap := s.heap.push (set0 w) }) ⟨rfl, rfl⟩) fun r s1 hr => ?_
  cases r with
  | error e => exact hr
  | ok f1 =>
    cases f1 with
    | ret v =>
      obtain ⟨rfl, rfl⟩ := hr
      have hS : (s.heap.push (set0 w)).get? s.heap.objs.size = some (set0 w) := Heap.get?_push_size _ rfl
      have hT : Shared.TypeIs { s with heap := s.heap.push (set0 w) } (.ref s.heap.objs.size) "set" := ⟨_, hS, rfl⟩
      have hli := PySem.F.called_set.init.lookup
      have hbi := PySem.F.called_set.init.bind (.ref s.heap.objs.size)
      repeat (any_goals (first | assumption | wp_step))
      refine codeAny_mono (codeAny_call_builtin (R := wants (fun r s2 => r = .none ∧ ∃ h' tk l, s2 = { s with heap := h', toks := tk } ∧ SetS w h' s.heap.objs.size l ∧ (∀ x, x ∈ l ↔ x ∈ ys) ∧ (∀ b o, s.heap.get? b = some o → h'.get? b = some o)) E)
        PySem.F.called_set.init.plain PySem.F.entry_set_init (check_set_init_1 hT ?_)) fun r2 s2 hr2 => ?_
      · obtain ⟨⟨ocls, odict, odata, oslots⟩, hol, hcl, nl, hdl⟩ := hl
        simp only at hcl hdl
        subst hcl; subst hdl
        have hol' : (s.heap.push (set0 w)).get? x = some { cls := .type "list", dict := odict, data := .seq items nl, slots := oslots } := Heap.get?_push_of_some _ hol
        have hsls := PySem.F.sub_list_set
        have hslf := PySem.F.sub_list_frozenset
        have hne : (Value.type "list" == Value.type "dict") = false := by decide
        have hl1 : (s.heap.push (set0 w)).IsList x items := ⟨_, hol', rfl, nl, rfl⟩
        unfold Builtin.«set.__init__» noKeywords Builtin.Frozenset.updateFrom
        generalize hPI : pyIter = PI
        wp_walk
        subst hPI
        refine wpAny_pyIter_list hl1 (wpAny_bind (wpAny_runValue ?_))
        have hxs : x < s.heap.objs.size := Heap.lt_size hol
        have hz : (s.heap.push (set0 w)).objs.size = s.heap.objs.size + 1 := Heap.size_push ..
        have hh3 : A.in1.in1.in1.handled = none := by simp [hh]
        have hval : ∀ (i : Nat) (v : Value), items[i]? = some v → ∃ t, v = .str (ys.getD i Str.empty) t := fun i v hv => SS.strs_at hi i v (by rw [Array.getElem?_toList]; exact hv)
        refine fill_txt ((Walks.list hh3 _ x (by rw [hz]; exact Nat.ne_of_lt (Nat.lt_succ_of_lt hxs)) items).toS) s.heap.objs.size
          (by rw [hz]; simp only [List.mem_cons, List.not_mem_nil, or_false, not_or]; exact ⟨Nat.ne_of_lt (Nat.lt_succ_self _), Nat.ne_of_gt hxs⟩) ys hsz room hval (items.size - 0) 0 _ (by omega) (Nat.zero_le _)
          ⟨⟨_, Heap.get?_push_size _ rfl, rfl, rfl⟩, (hl1.push _)⟩ ⟨[], setS_fresh (Heap.get?_push_of_some _ hS), by simp, Nat.le_refl _⟩ fun s' l hmv hS' hl' => ?_
        obtain ⟨h', g', d', tk', os'⟩ := s'
        have eg : g' = s.gens := hmv.gens
        have ed : d' = s.drawn := hmv.drawn
        have eo : os' = s.os := hmv.os
        subst eg; subst ed; subst eo
        refine wpAny_pure (wpAny_pure ⟨rfl, h', tk', l, rfl, hS', hl', fun b o e => ?_⟩)
        have hb := Heap.lt_size e
        exact hmv.heap b o (by rw [hz]; simp only [List.mem_cons, List.not_mem_nil, or_false, not_or]; exact ⟨Nat.ne_of_lt hb, Nat.ne_of_lt (Nat.lt_succ_of_lt hb)⟩) (Heap.get?_push_of_some _ (Heap.get?_push_of_some _ e))
      · cases r2 with
        | error e => exact hr2
        | ok f2 =>
          cases f2 with
          | ret r =>
            obtain ⟨rfl, h', tk, l, rfl, q1, q2, q3⟩ := hr2
            repeat (any_goals (first | assumption | wp_step))
            exact h _ _ _ q1 q2 q3
          | _ => exact hr2.elim
    | _ => exact hr.elim
theorem strs_txt : ∀ (vs : List Value), (∀ v ∈ vs, ∃ k tk, v = Value.str k tk) → ∃ ks, StrsAre vs ks
  | [], _ => ⟨[], .nil⟩
  | v :: vs, h => by
    obtain ⟨k, tk, rfl⟩ := h v List.mem_cons_self
    obtain ⟨ks, q⟩ := strs_txt vs fun u hu => h u (List.mem_cons_of_mem _ hu)
    exact ⟨k :: ks, .cons k tk q⟩
theorem strs_keys {f : Value → Str} (hf : ∀ k tk, f (.str k tk) = k) : ∀ {vs : List Value} {ks : List Str}, StrsAre vs ks → vs.map f = ks
  | _, _, .nil => rfl
  | _, _, .cons k tk q => by rw [List.map_cons, hf, strs_keys hf q]
/-- sorted(set(..)) -/
theorem sorted_txt {Q : Value → Shared → Prop} (R : SetS w s.heap a l) (hh : A.handled = none) (h64 : l.length < 64)
    (hQ : ∀ s' p (out : Array Value) (c : Nat) (ks : List Str), (∀ b o, s.heap.get? b = some o → s'.heap.get? b = some o) → s'.gens = s.gens → s'.os = s.os → s.heap.objs.size ≤ p →
      s'.heap.get? p = some (seqObj "list" out c) → StrsAre out.toList ks → ks.Perm l → sortedS ks = true → Q (.ref p) s') :
    wpAny (model P w) A (call (.builtin "sorted") [.ref a]) Q E s := by
  obtain ⟨o, es, ep, t, ho, hex, hd, g, pm, nd, hb, hf, hr, hl⟩ := R
  refine Calls.call_function_entry kind_sorted plain_sorted entry_sorted (args_sorted1 _) ?_
  unfold Builtin.«sorted»
  refine wpAny_bind (m := checkCount "sorted" 1 1 _) (wpAny_pure ?_)
  refine wpAny_bind (collect_set (A := A.in1) hh ⟨o, ho, hex.1, hd⟩ hf hb hr hl fun s1 vs k1 hz g1 o1 pv => ?_)
  have key : ∀ v ∈ vs, ∃ k tk, v = Value.str k tk := fun v hv => by
    obtain ⟨e, he, q⟩ := List.mem_map.mp (pv.mem_iff.mp hv)
    obtain ⟨k, tk, h1, _⟩ := g e he
    exact ⟨k, tk, by rw [← q]; exact h1⟩
  obtain ⟨k0, hS⟩ := strs_txt vs key
  have p0 : k0.Perm l := by
    have e1 := strs_keys (f := fun v => txtOf (0, v)) (fun _ _ => rfl) hS
    have e2 := pv.map fun v => txtOf (0, v)
    rw [e1, List.map_map] at e2
    exact e2.trans pm
  have hvl : vs.length = k0.length := StrsAre.len_eq hS
  have hkl := p0.length_eq
  refine wpAny_bind (wpAny_newList ?_ (by rw [hvl, sizeLine_eq]; omega))
  have hoL : (s1.heap.push (seqObj "list" vs.toArray 0)).get? s1.heap.objs.size = some (seqObj "list" vs.toArray 0) := Heap.get?_push_size _ rfl
  refine wpAny_bind (wpAny_holding (wpAny_call_entry slot_list_sort ⟨_, hoL, rfl⟩ entry_list_sort (list_sort_treeK strKind_oneLt hoL hS.keysOf (fun v1 v2 rest e => keyKind_strs (by rw [← e]; exact hS)) (by omega) fun st' hp hs => ?_) (args_list_sort _)))
  obtain ⟨ks, q1, q2, q3⟩ := sorted_out_str hS hp hs
  refine ⟨_, rfl, ?_⟩
  obtain ⟨c, hc⟩ := sortedHeap_at (vs := vs) (out := (arrOf st').map (·.2)) hoL
  refine wpAny_pure ⟨_, rfl, hQ _ s1.heap.objs.size _ c ks (fun b u e => ?_) g1 o1 hz hc q1 (q2.trans p0) q3⟩
  have q := k1 b u e
  have hlt := Heap.lt_size q
  show (sortedHeap (s1.heap.push (seqObj "list" vs.toArray 0)) s1.heap.objs.size vs _).get? b = some u
  rw [sortedHeap_old (Nat.ne_of_lt hlt) (by rw [Heap.size_push]; exact Nat.lt_succ_of_lt hlt)]
  exact Heap.get?_push_of_some _ q
end
theorem dedS_mem {x : Str} : ∀ {l : List Str}, x ∈ dedS l ↔ x ∈ l
  | [] => Iff.rfl
  | y :: l => by
    unfold dedS
    rw [addL_mem, dedS_mem, List.mem_cons]
theorem dedS_nodup : ∀ l : List Str, (dedS l).Nodup
  | [] => List.nodup_nil
  | y :: l => addL_nodup (dedS_nodup l)
theorem same_perm : ∀ {l m : List Str}, l.Nodup → m.Nodup → (∀ x, x ∈ l ↔ x ∈ m) → l.Perm m
  | [], m, _, _, h => by
    cases m with
    | nil => exact .nil
    | cons y m => exact absurd ((h y).mpr List.mem_cons_self) (by simp)
  | x :: l, m, hl, hm, h => by
    obtain ⟨m1, m2, rfl⟩ := List.append_of_mem ((h x).mp List.mem_cons_self)
    obtain ⟨hx, hl2⟩ := List.nodup_cons.mp hl
    have pm : (m1 ++ x :: m2).Perm (x :: (m1 ++ m2)) := List.perm_middle
    obtain ⟨hxm, hm2⟩ := List.nodup_cons.mp (pm.nodup_iff.mp hm)
    refine ((same_perm hl2 hm2 fun y => ?_).cons x).trans pm.symm
    have hy := (h y).trans pm.mem_iff
    rw [List.mem_cons, List.mem_cons] at hy
    constructor
    · intro q
      rcases hy.mp (.inr q) with e | e
      · exact absurd (e ▸ q) hx
      · exact e
    · intro q
      rcases hy.mpr (.inr q) with e | e
      · exact absurd (e ▸ q) hxm
      · exact e
theorem SS_strs : ∀ {ys : List Str} {us : List Value}, Vals (ys.map V.str) us → StrsAre us ys
  | [], _, .nil => .nil
  | y :: ys, _, .cons r t => by
    obtain ⟨k, rfl⟩ := r
    exact .cons y k (SS_strs t)
def tSset (K : PySem.W.Frag) (ta : TE) : TE := fun σ H Q => ta σ H fun x H1 => ∃ (b : Addr) (ys : List Str), x = .ref b ∧ SqL K H1 b (ys.map V.str) ∧ ys.length ≤ 1000 ∧ (dedS ys).length < 64 ∧
  ∀ ks p, ks.Perm (dedS ys) → sortedS ks = true → H1 p = none → Q (.ref p) (upd H1 p (.lst (ks.map V.str)))
theorem pe_sset {X : Cx} {a : Expr} {ta : TE} {p p2 q pos : Pos} (hc : X.calm = true) (hg : Gl X "sorted") (hm : X.mg "sorted" = none) (hg2 : Gl X "set") (hm2 : X.mg "set" = none) (ha : PE X a ta)
    (na : starEach [a] X.env = (false, eval a X.env) :: starEach [] X.env := by rfl) : PE X (.Call (.Name "sorted" p) [.Call (.Name "set" p2) [a] [] q] [] pos) (tSset X.K ta) := by
  have hb1 : bootBuiltins "sorted" = some (.builtin "sorted") := by decide +kernel
  have hb2 : bootBuiltins "set" = some (.type "set") := by decide +kernel
  refine ⟨fun pins s σ H Q I h => ?_⟩
  refine Call_ (ld_blt I hg hm hb1 ?_)
  refine PyProof.Rows.callWith_builtin1 (PyProof.Rows.args_cons ?_ rfl) rfl rfl
  refine Call_ (ld_blt I hg2 hm2 hb2 ?_)
  refine PyProof.Rows.callWith_type1 (PyProof.Rows.args_cons (thn (ha.run pins s σ H _ I h) fun v s1 ⟨x, H1, I1, r1, q1⟩ => PyProof.Rows.args_nil ?_) na) na rfl
  obtain ⟨b, ys, rfl, hq, h1000, h64, q1⟩ := q1
  cases r1
  obtain ⟨its, r, pl, hz⟩ := I1.list hq
  refine call_set_txt (I1.ok.hd hc) pl.isList (by simpa using SS_strs r) (by unfold scanBound; omega) fun h' tk l hS hl hk => ?_
  refine PyProof.Rows.args_nil ?_
  have I2 : Inv X pins σ H1 { s1 with heap := h', toks := tk } := I1.kept fun b o e => hk b o e
  have pl2 : l.Perm (dedS ys) := by
    obtain ⟨_, _, _, _, _, _, _, _, _, nd, _⟩ := hS
    exact same_perm nd (dedS_nodup ys) fun x => (hl x).trans dedS_mem.symm
  obtain ⟨s2, hs2⟩ : ∃ s2 : Shared, s2 = { s1 with heap := h', toks := tk } := ⟨_, rfl⟩
  rw [← hs2] at I2
  rw [← hs2]
  have hS2 : SetS X.w s2.heap s1.heap.objs.size l := by rw [hs2]; exact hS
  refine sorted_txt (s := s2) hS2 (I2.ok.hd hc) (by rw [pl2.length_eq]; exact h64) fun s' p out c ks k g o hp hgt hks hpm hso => ?_
  have hpm2 : ks.Perm (dedS ys) := hpm.trans pl2
  have hlen : (ks.map V.str).length ≤ sizeLine := by rw [List.length_map, hpm2.length_eq, sizeLine_eq]; omega
  have hn : H1 p = none := I2.hok.fresh hp
  have J : Inv X pins σ (upd H1 p (.lst (ks.map V.str))) { s2 with heap := s'.heap, gens := s'.gens, drawn := s'.drawn, toks := s'.toks } :=
    I2.call (ch := []) (Un.laid k hp hn) (I2.hok.laid k hp ⟨hlen, out.toList, c, vals_of_strs hks, hgt⟩) (by rw [g]; exact I2.bare) (fun _ z => nomatch z)
  have e : s' = { s2 with heap := s'.heap, gens := s'.gens, drawn := s'.drawn, toks := s'.toks } := by
    clear J I2 hS2 hgt hp k hs2
    cases s'
    cases s2
    cases o
    rfl
  rw [e]
  exact ⟨.ref p, _, J, rfl, q1 ks p hpm2 hso hn⟩
section
variable {Z : Sd} {X : Cx} {a : Expr} {m : E} {p p2 pq pos : Pos} {kk : Nat}
theorem me_sset (St : Std Z X kk) (hm : X.mg "sorted" = none) (hm2 : X.mg "set" = none) (ha : ME Z X a m) (hg : Gl X "sorted" := by rfl) (hg2 : Gl X "set" := by rfl)
    (na : starEach [a] X.env = (false, eval a X.env) :: starEach [] X.env := by rfl) : ME Z X (.Call (.Name "sorted" p) [.Call (.Name "set" p2) [a] [] pq] [] pos) (.sset m) := by
  refine PE.imp (pe_sset St.calm hg hm hg2 hm2 ha na) fun σ H Q h => ?_
  obtain ⟨F, μ, S, ρ, d, S', g, rr, ev, q⟩ := h
  unfold evE at ev
  obtain ⟨x, e1, ev⟩ := bind_some' ev
  obtain ⟨dd, e2, ev⟩ := map_some' ev
  cases ev
  unfold ssetD at e2
  obtain ⟨xs, e3, e2⟩ := bind_some' e2
  obtain ⟨ss, e4, e2⟩ := bind_some' e2
  split at e2
  · rename_i hz
    cases e2
    refine ⟨F, μ, S, ρ, x.1, x.2, g, rr, e1, fun v F1 μ1 H1 x1 p1 g1 r1 => ?_⟩
    obtain ⟨b, ws, rfl, h1, rs⟩ := lsOf_rep g1 r1 e3
    have ek := allStr_rep rs e4
    subst ek
    refine ⟨b, ss, rfl, SqL.of h1, hz.1, hz.2, fun ks p hp hs hn => ?_⟩
    have ey := sorted_one (hp.trans (sortS_perm _).symm) (sortedS_pw _ hs) (sortS_pw _)
    subst ey
    obtain ⟨g', ex, eq⟩ := g1.frz hn (.lst ((sortS (dedS ss)).map V.str))
    exact q _ _ _ _ (x1.trans ex) p1 g' (.lst eq (reps_strs _))
  · cases e2
end
end Fw

set_option Elab.async false
set_option linter.all false
set_option maxRecDepth 100000
set_option maxHeartbeats 0
/-! FwT: own == in lists: in, index; a sorted list that changes; == {}. -/
namespace PySem.SeqAt
open AutoSeq1 (wpAny_loadPart')
open MeetsSeq MeetsSeq2 MeetsSeq3 SeqRoads2
def ListAt (h : Heap) (l : Addr) (items : Array Value) : Prop := ∃ n dd sl, h.get? l = some { cls := .type "list", dict := dd, data := .seq items n, slots := sl }
section
variable {prog : Program} {w : World} {A : Around} {l : Addr} {x : Value} {N : Nat} {e : Nat → Bool} {Φ : Shared → Prop} {Er : Value → Shared → Prop}
theorem contains_loopO {res : Nat → Bool} (hI : ∀ s, Φ s → ∃ items, ListAt s.heap l items ∧ items.size = N) (hr0 : res N = false) (hr : ∀ i, i < N → res i = (e i || res (i + 1)))
    (he : ∀ i s items (hi : i < items.size), (∀ m, m < i → e m = false) → Φ s → ListAt s.heap l items → wpAny (model prog w) A.in1 (eqBool items[i] x) (fun b s' => b = e i ∧ Φ s') Er s) (k : Nat) :
    ∀ i : Nat, N - i = k → i ≤ N → (∀ m, m < i → e m = false) → ∀ (R : Result → Shared → Prop) (s : Shared), (∀ er s', Er er s' → R (.error er) s') → Φ s → (∀ s', Φ s' → R (.ok (.ret (.bool (res i)))) s') →
      wpAny (model prog w) A.in1 (Builtin.«list.__contains__.loop» ⟨[.ref l, x, rawInt i], []⟩) (fun fin s' => match fin with | .done f => R (.ok f) s' | .again c' => c'.quiet = true ∧ codeAny (model prog w) A c' R s') (fun e s' => R (.error e) s') s := by
  induction k with
  | zero =>
    intro i hk hle hno R s hE hs h
    obtain ⟨items, ⟨n, dd, sl, hl⟩, hsz⟩ := hI s hs
    have h := h s hs
    have ei : i = N := by omega
    rw [ei, hr0] at h
    obtain ⟨hp, g, d, tk, os⟩ := s
    wp_walk using wpAny_loadPart' hl
    have hi : items[((i : Nat) : Int).toNat]? = none := by simp; omega
    rw [hi]
    wp_walk
    exact h
  | succ k ih =>
    intro i hk hle hno R s hE hs h
    obtain ⟨items, ⟨n, dd, sl, hl⟩, hsz⟩ := hI s hs
    have hlt : i < items.size := by omega
    have hstep := he i s items hlt hno hs ⟨n, dd, sl, hl⟩
    obtain ⟨hp, g, d, tk, os⟩ := s
    wp_walk using wpAny_loadPart' hl
    have hi : items[((i : Nat) : Int).toNat]? = some items[i] := by simp [hlt]
    rw [hi]
    refine wpAny_bind (wpAny_mono hstep (fun b s' hb => ?_) fun er s' z => hE er s' z)
    obtain ⟨eb, hs'⟩ := hb
    subst eb
    rw [hr i (by omega)] at h
    cases hb : e i with
    | true =>
      rw [hb] at h
      wp_walk
      exact h s' hs'
    | false =>
      rw [hb] at h
      have hc : ((i : Int) + 1) = ((i + 1 : Nat) : Int) := by push_cast; rfl
      wp_walk
      rw [hc]
      exact ⟨plainId_quiet plain_contains_loop _, codeAny_builtin entry_contains_loop (by
        rw [Around.under_plainId plain_contains_loop _]
        exact ih (i + 1) (by omega) (by omega) (fun m hm => by
          rcases Nat.lt_or_ge m i with q | q
          · exact hno m q
          · rw [show m = i by omega]; exact hb) R s' hE hs' (fun s' q => by simpa using h s' q))⟩
theorem index_loopO {j : Nat} {upto : Int} (hI : ∀ s, Φ s → ∃ items, ListAt s.heap l items ∧ items.size = N) (hj : j < N) (hsmall : (j : Int) < upto) (hit : e j = true)
    (he : ∀ i s items (hi : i < items.size), i ≤ j → Φ s → ListAt s.heap l items → wpAny (model prog w) A.in1 (eqBool items[i] x) (fun b s' => b = e i ∧ Φ s') Er s) (k : Nat) :
    ∀ i : Nat, j - i = k → i ≤ j → (∀ m, i ≤ m → m < j → e m = false) → ∀ (R : Result → Shared → Prop) (s : Shared), (∀ er s', Er er s' → R (.error er) s') → Φ s → (∀ s', Φ s' → R (.ok (.ret (.int j s'.toks))) { s' with toks := s'.toks + 1 }) →
      wpAny (model prog w) A.in1 (Builtin.«list.index.loop» ⟨[.ref l, x, rawInt i, rawInt upto], []⟩) (fun fin s' => match fin with | .done f => R (.ok f) s' | .again c' => c'.quiet = true ∧ codeAny (model prog w) A c' R s') (fun e s' => R (.error e) s') s := by
  induction k with
  | zero =>
    intro i hk hij hno R s hE hs h
    obtain ⟨items, ⟨n, dd, sl, hl⟩, hsz⟩ := hI s hs
    have hij' : i = j := by omega
    subst hij'
    have hlt : i < items.size := by omega
    have hstep := he i s items hlt (Nat.le_refl _) hs ⟨n, dd, sl, hl⟩
    obtain ⟨hp, g, d, tk, os⟩ := s
    wp_walk using wpAny_loadPart' hl
    have hi : (if (i : Int) < upto then items[((i : Nat) : Int).toNat]? else none) = some items[i] := by rw [if_pos hsmall]; simp [hlt]
    rw [hi]
    refine wpAny_bind (wpAny_mono hstep (fun b s' hb => ?_) fun er s' z => hE er s' z)
    obtain ⟨eb, hs'⟩ := hb
    subst eb
    rw [hit]
    have h := h s' hs'
    obtain ⟨hp, g, d, tk, os⟩ := s'
    wp_walk
    exact h
  | succ k ih =>
    intro i hk hij hno R s hE hs h
    obtain ⟨items, ⟨n, dd, sl, hl⟩, hsz⟩ := hI s hs
    have hlt : i < items.size := by omega
    have hst : (i : Int) < upto := by omega
    have hstep := he i s items hlt hij hs ⟨n, dd, sl, hl⟩
    obtain ⟨hp, g, d, tk, os⟩ := s
    wp_walk using wpAny_loadPart' hl
    have hi : (if (i : Int) < upto then items[((i : Nat) : Int).toNat]? else none) = some items[i] := by rw [if_pos hst]; simp [hlt]
    have hc : ((i : Int) + 1) = ((i + 1 : Nat) : Int) := by push_cast; rfl
    rw [hi]
    refine wpAny_bind (wpAny_mono hstep (fun b s' hb => ?_) fun er s' z => hE er s' z)
    obtain ⟨eb, hs'⟩ := hb
    subst eb
    rw [hno i (Nat.le_refl _) (by omega)]
    wp_walk
    rw [hc]
    exact ⟨plainId_quiet plain_index_loop _, codeAny_builtin entry_index_loop (by
      rw [Around.under_plainId plain_index_loop _]
      exact ih (i + 1) (by omega) (by omega) (fun m h1 h2 => hno m (by omega) h2) R s' hE hs' h)⟩
theorem in_meetsO {s : Shared} {E : Value → Shared → Prop} {T id : String} {B : Builtin} {c x : Value} {S : Spec} {Q : Value → Shared → Prop} (hT : s.TypeIs c T) (slot : Slot T "__contains__" id)
    (entry : entryFor table id = some B) (args : argsOk id ⟨[c, x], []⟩) (g : MeetsIn prog w (B ⟨[c, x], []⟩) S)
    (h : S A (wants (fun v s' => ∃ b, v = .bool b ∧ Q (.bool b) s') E) s) : wpAny (model prog w) A (compareOp .In x c) Q E s := by
  show wpAny _ A (do return .bool (← contains c x)) Q E s
  refine wpAny_bind (wpAny_contains_slot hT slot (wpAny_mono (call_meetsIn slot hT entry args g h) (fun v s' hv => ?_) fun _ _ e => e))
  obtain ⟨b, rfl, hq⟩ := hv
  exact wpAny_truthy_bool (wpAny_pure hq)
theorem notIn_meetsO {s : Shared} {E : Value → Shared → Prop} {T id : String} {B : Builtin} {c x : Value} {S : Spec} {Q : Value → Shared → Prop} (hT : s.TypeIs c T) (slot : Slot T "__contains__" id)
    (entry : entryFor table id = some B) (args : argsOk id ⟨[c, x], []⟩) (g : MeetsIn prog w (B ⟨[c, x], []⟩) S)
    (h : S A (wants (fun v s' => ∃ b, v = .bool b ∧ Q (.bool (!b)) s') E) s) : wpAny (model prog w) A (compareOp .NotIn x c) Q E s := by
  show wpAny _ A (do return .bool (!(← contains c x))) Q E s
  refine wpAny_bind (wpAny_contains_slot hT slot (wpAny_mono (call_meetsIn slot hT entry args g h) (fun v s' hv => ?_) fun _ _ e => e))
  obtain ⟨b, rfl, hq⟩ := hv
  exact wpAny_truthy_bool (wpAny_pure hq)
theorem list_containsO {res : Nat → Bool} (hI : ∀ s, Φ s → ∃ items, ListAt s.heap l items ∧ items.size = N) (hr0 : res N = false) (hr : ∀ i, i < N → res i = (e i || res (i + 1)))
    (he : ∀ i s items (hi : i < items.size), (∀ m, m < i → e m = false) → Φ s → ListAt s.heap l items → wpAny (model prog w) A.in1 (eqBool items[i] x) (fun b s' => b = e i ∧ Φ s') Er s) :
    MeetsIn prog w (Builtin.«list.__contains__» ⟨[.ref l, x], []⟩) (fun A' R s => A' = A ∧ Φ s ∧ (∀ er s', Er er s' → R (.error er) s') ∧ ∀ s', Φ s' → R (.ok (.ret (.bool (res 0)))) s') := by
  rintro _ R s ⟨rfl, hs, hE, h⟩
  obtain ⟨items, ⟨n, dd, sl, hl⟩, hsz⟩ := id (hI s hs)
  have hs2 := hs
  obtain ⟨hp, g, d, tk, os⟩ := s
  wp_walk using wpAny_loadPart' hl
  exact ⟨plainId_quiet plain_contains_loop _, codeAny_builtin entry_contains_loop (by
    rw [Around.under_plainId plain_contains_loop _]
    exact contains_loopO hI hr0 hr he N 0 rfl (Nat.zero_le _) (fun m hm => absurd hm (Nat.not_lt_zero m)) R _ hE hs2 h)⟩
theorem list_indexO {j : Nat} (hI : ∀ s, Φ s → ∃ items, ListAt s.heap l items ∧ items.size = N) (hj : j < N) (hsmall : (j : Int) < 2 ^ 63 - 1) (hit : e j = true) (hno : ∀ m, m < j → e m = false)
    (he : ∀ i s items (hi : i < items.size), i ≤ j → Φ s → ListAt s.heap l items → wpAny (model prog w) A.in1 (eqBool items[i] x) (fun b s' => b = e i ∧ Φ s') Er s) :
    MeetsIn prog w (Builtin.«list.index» ⟨[.ref l, x], []⟩) (fun A' R s => A' = A ∧ Φ s ∧ (∀ er s', Er er s' → R (.error er) s') ∧ ∀ s', Φ s' → R (.ok (.ret (.int j s'.toks))) { s' with toks := s'.toks + 1 }) := by
  rintro _ R s ⟨rfl, hs, hE, h⟩
  obtain ⟨items, ⟨n, dd, sl, hl⟩, hsz⟩ := id (hI s hs)
  have hs2 := hs
  obtain ⟨hp, g, d, tk, os⟩ := s
  wp_walk using wpAny_loadPart' hl
  have a1 : ((fun i : Int => if i < 0 then max 0 (i + (items.size : Int)) else i) ((none : Option Int).getD 0)) = ((0 : Nat) : Int) := by simp
  have a2 : ((fun i : Int => if i < 0 then max 0 (i + (items.size : Int)) else i) ((none : Option Int).getD (2 ^ 63 - 1))) = 2 ^ 63 - 1 := by simp
  rw [a1, a2]
  exact ⟨plainId_quiet plain_index_loop _, codeAny_builtin entry_index_loop (by
    rw [Around.under_plainId plain_index_loop _]
    exact index_loopO hI hj hsmall hit he _ 0 rfl (Nat.zero_le _) (fun m _ h2 => hno m h2) R _ hE hs2 h)⟩
end
end PySem.SeqAt
namespace Fw
open PySem L2 PySem.Spec PyProof.Rows
open Evl (Ex)
section
variable {prog : Program} {w : World} {A : Around} {E : Value → Shared → Prop} {s : Shared}
theorem eqBool_same {u : Value} {Q : Bool → Shared → Prop} (h : Q true s) : wpAny (model prog w) A (eqBool u u) Q E s := by
  unfold eqBool
  refine wpAny_holding (wpAny_ite_split (fun _ => ?_) (fun hab => absurd (beq_self_eq_true u) hab))
  exact wpAny_bind (wpAny_rule (wpAny_pure h))
theorem eqBool_ref1 {a : Addr} {u : Value} {Q : Bool → Shared → Prop} (hne : Value.ref a ≠ u) (h : wpAny (model prog w) A (richCompare .Eq (.ref a) u) (fun v s' => ∃ r, v = .bool r ∧ Q r s') E s) : wpAny (model prog w) A (eqBool (.ref a) u) Q E s := by
  unfold eqBool
  refine wpAny_holding (wpAny_ite_split (fun hab => absurd (eq_of_beq hab) hne) (fun _ => ?_))
  exact wpAny_bind (wpAny_mono h (fun v s' z => by
    obtain ⟨r, rfl, hq⟩ := z
    exact wpAny_truthy_bool hq) fun _ _ x => x)
theorem eqBool_str1 {a : Addr} {x : Str} {t : Tok} {Q : Bool → Shared → Prop} (h : wpAny (model prog w) A (richCompare .Eq (.str x t) (.ref a)) (fun v s' => ∃ r, v = .bool r ∧ Q r s') E s) : wpAny (model prog w) A (eqBool (.str x t) (.ref a)) Q E s := by
  unfold eqBool
  refine wpAny_holding (wpAny_ite_split (fun hab => by have := eq_of_beq hab; cases this) (fun _ => ?_))
  exact wpAny_bind (wpAny_mono h (fun v s' z => by
    obtain ⟨r, rfl, hq⟩ := z
    exact wpAny_truthy_bool hq) fun _ _ x => x)
theorem eqBool_non1 {a : Addr} {Q : Bool → Shared → Prop} (h : wpAny (model prog w) A (richCompare .Eq .none (.ref a)) (fun v s' => ∃ r, v = .bool r ∧ Q r s') E s) : wpAny (model prog w) A (eqBool .none (.ref a)) Q E s := by
  unfold eqBool
  refine wpAny_holding (wpAny_ite_split (fun hab => by have := eq_of_beq hab; cases this) (fun _ => ?_))
  exact wpAny_bind (wpAny_mono h (fun v s' z => by
    obtain ⟨r, rfl, hq⟩ := z
    exact wpAny_truthy_bool hq) fun _ _ x => x)
/-- the left one has no answer, the right one's own == has -/
theorem rc_turned {K : PySem.W.Frag} {T id : String} {a C f : Addr} {od : Option Obj} {ox : Obj} {u : Value} {Q : Value → Shared → Prop} (X : K.In s.heap) (hT : s.TypeIs u T) (slot : Slot T "__eq__" id)
    (hd : wpAny (model prog w) A (call (.builtin id) [u, .ref a]) (fun v s' => v = .notImplemented ∧ s' = s) E s)
    (I : PySem.W.InstAt s.heap a ox C od) (hm : PySem.W.mroIn K C (.type T) = some false) (hu : A.units < cLine) (hs : PySem.W.findIn K (.ref C) "__eq__" = some (some (.ref f))) (hf : PySem.W.isFn K (.ref f) = true)
    (h : wpAny (model prog w) A (call (.ref f) [.ref a, u]) (PySem.W.CmpBack Q) E s) : wpAny (model prog w) A (richCompare .Eq u (.ref a)) Q E s := by
  have one : wpAny (model prog w) A (tryCompare (.ref a) "__eq__" u) (fun r s' => ∃ v, r = some v ∧ Q v s') E s := by
    unfold tryCompare
    refine wpAny_bind (PySem.W.ifBound_K X I hs hf (wpAny_mono h (fun v s' hv => ?_) fun _ _ e => e))
    cases v <;> first | exact hv.elim | exact wpAny_pure ⟨_, rfl, hv⟩
  unfold richCompare
  simp only [hT.oneThing_none, cmpInfo]
  refine wpAny_holding (wpAny_bind (wpAny_cRoomFor hu ?_))
  refine wpAny_bind (wpAny_typeOf hT (wpAny_bind (I.type.here ?_)))
  rw [if_pos (by rfl)]
  refine wpAny_bind ((PySem.W.looks_mroIn X hm).here ?_)
  simp only [Bool.false_eq_true, if_false, Bool.not_false, if_true]
  refine wpAny_bind (m := tryCompare u _ (.ref a)) (wpAny_tryCompare_declines hT slot (wpAny_mono hd (fun v s₁ h₁ => ⟨h₁.1, ?_⟩) fun _ _ x => x))
  obtain ⟨_, e⟩ := h₁
  subst e
  refine wpAny_bind (m := tryCompare (.ref a) _ u) (wpAny_mono one (fun r s' z => ?_) fun _ _ e => e)
  obtain ⟨v, rfl, hq⟩ := z
  exact wpAny_pure hq
theorem str_declines {a C : Addr} {dx : Addr} {x : Str} {t : Tok} (h : s.heap.get? a = some (PySem.W.instObj C dx)) : wpAny (model prog w) A (call (.builtin "str.__eq__") [.str x t, .ref a]) (fun v s' => v = .notImplemented ∧ s' = s) E s := by
  refine wpAny_call_entry PySem.F.slot_str_eq (typeIs_str s x t) PySem.F.entry_str_eq ?_ (PySem.F.args_str_eq_2 _ _)
  obtain ⟨hp, g, d, tk, os⟩ := s
  unfold Builtin.«str.__eq__»
  wp_walk using AutoSeq1.wpAny_loadPart' h
  exact ⟨_, rfl, rfl, rfl⟩
theorem non_declines {a : Addr} : wpAny (model prog w) A (call (.builtin "NoneType.__eq__") [.none, .ref a]) (fun v s' => v = .notImplemented ∧ s' = s) E s := by
  refine wpAny_call_entry PySem.F.slot_NoneType_eq rfl PySem.F.entry_NoneType_eq ?_ (PySem.F.args_NoneType_eq_2 _ _)
  obtain ⟨hp, g, d, tk, os⟩ := s
  wp_walk
  exact ⟨_, rfl, rfl, rfl⟩
end
section
variable {Z : Sd} {X : Cx} {a b e l x : Expr} {ma mb m ml mx : E} {pos p p2 : Pos} {F : Hp} {μ : List Addr} {S : Sto} {H : Hp} {kk : Nat} {pins : List (Addr × Obj)} {σ : L2.St} {s : Shared}
/-- what stands, stands; some new things -/
def Still (Z : Sd) (X : Cx) (F : Hp) (μ : List Addr) (S : Sto) (pins : List (Addr × Obj)) (σ : L2.St) (s : Shared) : Prop := ∃ F' μ' H', Ex F F' ∧ μ <+: μ' ∧ Ag Z.W F' μ' S H' ∧ Inv X pins σ H' s
theorem Still.trans {F' : Hp} {μ' : List Addr} (x : Ex F F') (p : μ <+: μ') (h : Still Z X F' μ' S pins σ s) : Still Z X F μ S pins σ s := by
  obtain ⟨F1, μ1, H1, x1, p1, g1, i1⟩ := h
  exact ⟨F1, μ1, H1, x.trans x1, p.trans p1, g1, i1⟩
section
variable {xv yv : V} {xd yd : D} {ux uy : Value} {c gg : Str} {k : Bool}
theorem rc_own (St : Std Z X kk) (h0 : kk = 0 → ∀ g as S, Z.C.init g as S = none) (hq : ClsQF Z X "__eq__") (M : Mth X.prog X.w X.K X.mg X.base Z.W Z.C.meth Z.C.init (kk - 1) "__eq__") (I : Inv X pins σ H s) (g : Ag Z.W F μ S H)
    (r1 : Rep Z.W F μ xv xd) (r2 : Rep Z.W F μ yv yd) (rx : RelV xv ux) (ry : RelV yv uy) (e1 : clsOf S xd = some c) (e2 : eqOk S c yd = true) (e3 : Z.C.meth c "__eq__" = some gg) (e4 : Z.C.init gg [xd, yd] S = some (.bl k, S)) :
    wpAny (model X.prog X.w) X.A.in1 (richCompare .Eq ux uy) (fun v s' => ∃ r, v = .bool r ∧ r = k ∧ Still Z X F μ S pins σ s') X.xe s := by
  obtain ⟨a, C, dx, fs, vs, xs, rfl, h1, h2, h3, h4, h5⟩ := ins_rep g r1 e1
  cases (show ux = Value.ref a from rx)
  by_cases hk : kk = 0
  · rw [h0 hk] at e4; cases e4
  obtain ⟨f, fd, ps, F0, hM, hb⟩ := M.ex c C gg h2 e3
  have cq := hq c C h2 (by rw [e3]; rfl)
  obtain ⟨tb, J', nf⟩ := right_look St.K I g r2 ry e2 h2 cq
  obtain ⟨mA, O, _⟩ := ins_get I.hok h1
  obtain ⟨od, J, _⟩ := O.look
  obtain ⟨m, hF⟩ := I.fr
  have hr1 : Room (kk - 1 + 1) X.A := St.hr.mono (by omega)
  have hsp : spC Z.W Z.C.init gg ([V.ref a, yv] ++ []) H (fun z H' => z = .bl k ∧ ∃ F' μ', Ex F F' ∧ μ <+: μ' ∧ Ag Z.W F' μ' S H') E0 := ⟨F, μ, S, [xd, yd], .bl k, S, g, .cons r1 (.one r2), e4, fun v' F' μ' H' x' p' g' r' => by
    cases r'
    exact ⟨rfl, F', μ', x', p', g'⟩⟩
  have FR := F0.raw (dvs := []) hb .nil
  refine PySem.W.cmp_K (op := .Eq) (tb := tb) (by have := St.hu; show X.A.units + 1 < cLine; omega) hF I.ok.mod.kin J J' nf hM.at_ hM.fn ?_
  refine wpAny_mono (wpAny_call (SlX.run_at (us := [.ref a, uy]) (ws := [.ref a, yv]) FR hr1.in1 I.env0.in1 pass0 I (.cons rfl (.cons ry .nil)) hsp)) (fun w s' z => ?_) fun _ _ x => x
  obtain ⟨z', H', I', rz, ez, F', μ', x', p', g'⟩ := z
  subst ez
  exact SlX.cmpback rz ⟨k, rz, rfl, F', μ', H', x', p', g', I'⟩
theorem rc_back (St : Std Z X kk) (h0 : kk = 0 → ∀ g as S, Z.C.init g as S = none) (hq : ClsQF Z X "__eq__") (M : Mth X.prog X.w X.K X.mg X.base Z.W Z.C.meth Z.C.init (kk - 1) "__eq__") (I : Inv X pins σ H s) (g : Ag Z.W F μ S H)
    (hx : (∃ z, xd = .str z) ∨ xd = .non) (r1 : Rep Z.W F μ xv xd) (r2 : Rep Z.W F μ yv yd) (rx : RelV xv ux) (ry : RelV yv uy) (e1 : clsOf S yd = some c) (e3 : Z.C.meth c "__eq__" = some gg) (e4 : Z.C.init gg [yd, xd] S = some (.bl k, S)) :
    wpAny (model X.prog X.w) X.A.in1 (eqBool ux uy) (fun b s' => b = k ∧ Still Z X F μ S pins σ s') X.xe s := by
  obtain ⟨a, C, dx, fs, vs, xs, rfl, h1, h2, h3, h4, h5⟩ := ins_rep g r2 e1
  cases (show uy = Value.ref a from ry)
  by_cases hk : kk = 0
  · rw [h0 hk] at e4; cases e4
  obtain ⟨f, fd, ps, F0, hM, hb⟩ := M.ex c C gg h2 e3
  have cq := hq c C h2 (by rw [e3]; rfl)
  obtain ⟨mA, O, _⟩ := ins_get I.hok h1
  obtain ⟨od, J, _⟩ := O.look
  have hr1 : Room (kk - 1 + 1) X.A := St.hr.mono (by omega)
  have hsp : spC Z.W Z.C.init gg ([V.ref a, xv] ++ []) H (fun z H' => z = .bl k ∧ ∃ F' μ', Ex F F' ∧ μ <+: μ' ∧ Ag Z.W F' μ' S H') E0 := ⟨F, μ, S, [yd, xd], .bl k, S, g, .cons r2 (.one r1), e4, fun v' F' μ' H' x' p' g' r' => by
    cases r'
    exact ⟨rfl, F', μ', x', p', g'⟩⟩
  have FR := F0.raw (dvs := []) hb .nil
  have hu : X.A.in1.units < cLine := by have := St.hu; show X.A.units + 1 < cLine; omega
  have run : wpAny (model X.prog X.w) X.A.in1 (call (.ref f) [.ref a, ux]) (PySem.W.CmpBack fun v s' => ∃ r, v = .bool r ∧ r = k ∧ Still Z X F μ S pins σ s') X.xe s := by
    refine wpAny_mono (wpAny_call (SlX.run_at (us := [.ref a, ux]) (ws := [.ref a, xv]) FR hr1.in1 I.env0.in1 pass0 I (.cons rfl (.cons rx .nil)) hsp)) (fun w s' z => ?_) fun _ _ x => x
    obtain ⟨z', H', I', rz, ez, F', μ', x', p', g'⟩ := z
    subst ez
    exact SlX.cmpback rz ⟨k, rz, rfl, F', μ', H', x', p', g', I'⟩
  rcases hx with ⟨z, rfl⟩ | rfl
  · cases r1
    obtain ⟨t, e⟩ := (show ∃ t, ux = Value.str z t from rx)
    subst e
    exact eqBool_str1 (rc_turned I.kIn (typeIs_str s z t) PySem.F.slot_str_eq (str_declines O.obj) J (cq.mt "str" (by simp [tysN])) hu hM.at_ hM.fn run)
  · cases r1
    cases (show ux = Value.none from rx)
    exact eqBool_non1 (rc_turned I.kIn rfl PySem.F.slot_NoneType_eq non_declines J (cq.mt "NoneType" (by simp [tysN])) hu hM.at_ hM.fn run)

theorem no_lt {a : Addr} {vs vs' : List V} (hK : X.K = Z.W.K) (I : Inv X pins σ H s) (h : SqT Z.W.K H a vs) (h' : H a = some (.lst vs')) : False := by
  rw [← hK] at h
  obtain ⟨its, r, ⟨o, e, c, n, d⟩, _⟩ := I.tuple h
  obtain ⟨its', r', ⟨o', n', e', c', d'⟩, _⟩ := I.list (SqL.of h')
  rw [e] at e'; cases e'
  rw [c] at c'
  injection c' with z
  exact absurd z (by decide)
mutual
theorem uqD (hK : X.K = Z.W.K) (I : Inv X pins σ H s) (g : Ag Z.W F μ S H) : ∀ (x : D) {y : D} {v : V}, x.data = true → y.data = true → Rep Z.W F μ v x → Rep Z.W F μ v y → x = y
  | .non, y, v, h1, h2, r1, r2 => by cases r1; cases y <;> first | rfl | (cases r2; done) | (unfold D.data at h2; cases h2)
  | .bl b, y, v, h1, h2, r1, r2 => by cases r1; cases y <;> first | (cases r2; rfl) | (cases r2; done) | (unfold D.data at h2; cases h2)
  | .int b, y, v, h1, h2, r1, r2 => by cases r1; cases y <;> first | (cases r2; rfl) | (cases r2; done) | (unfold D.data at h2; cases h2)
  | .str b, y, v, h1, h2, r1, r2 => by cases r1; cases y <;> first | (cases r2; rfl) | (cases r2; done) | (unfold D.data at h2; cases h2)
  | .tup xs, y, v, h1, h2, r1, r2 => by
    cases r1 with
    | tup hs rs =>
      cases y <;> try (cases r2; done)
      · cases r2 with
        | tup hs' rs' =>
          have q1 := Evl.ex_t g.ex hs
          have q2 := Evl.ex_t g.ex hs'
          rw [← hK] at q1 q2
          have e := I.tuple_inj q1 q2
          subst e
          rw [uqDs hK I g xs (by unfold D.data at h1; exact h1) (by unfold D.data at h2; exact h2) rs rs']
      · cases r2 with
        | lst hs' rs' => exact (no_lt hK I (Evl.ex_t g.ex hs) (g.ex _ _ hs')).elim
      all_goals (unfold D.data at h2; cases h2)
  | .lst xs, y, v, h1, h2, r1, r2 => by
    cases r1 with
    | lst hs rs =>
      cases y <;> try (cases r2; done)
      · cases r2 with
        | tup hs' rs' => exact (no_lt hK I (Evl.ex_t g.ex hs') (g.ex _ _ hs)).elim
      · cases r2 with
        | lst hs' rs' =>
          rw [hs] at hs'
          cases hs'
          rw [uqDs hK I g xs (by unfold D.data at h1; exact h1) (by unfold D.data at h2; exact h2) rs rs']
      all_goals (unfold D.data at h2; cases h2)
  | .dct _ _, y, v, h1, h2, r1, r2 => by unfold D.data at h1; cases h1
  | .ins _ _ _, y, v, h1, h2, r1, r2 => by unfold D.data at h1; cases h1
  | .loc _, y, v, h1, h2, r1, r2 => by unfold D.data at h1; cases h1
  | .scr _, y, v, h1, h2, r1, r2 => by unfold D.data at h1; cases h1
  | .fn _, y, v, h1, h2, r1, r2 => by unfold D.data at h1; cases h1
  | .cls _, y, v, h1, h2, r1, r2 => by unfold D.data at h1; cases h1
  | .ty _, y, v, h1, h2, r1, r2 => by unfold D.data at h1; cases h1
  | .fkeys _, y, v, h1, h2, r1, r2 => by unfold D.data at h1; cases h1
  | .clo _ _, y, v, h1, h2, r1, r2 => by unfold D.data at h1; cases h1
theorem uqDs (hK : X.K = Z.W.K) (I : Inv X pins σ H s) (g : Ag Z.W F μ S H) : ∀ (xs : List D) {ys : List D} {vs : List V}, D.datas xs = true → D.datas ys = true → Reps Z.W F μ vs xs → Reps Z.W F μ vs ys → xs = ys
  | [], ys, vs, h1, h2, r1, r2 => by cases r1; cases r2; rfl
  | x :: xs, ys, vs, h1, h2, r1, r2 => by
    cases r1 with
    | cons a1 b1 =>
      cases r2 with
      | cons a2 b2 =>
        unfold D.datas at h1 h2
        obtain ⟨h1, h1'⟩ := Bool.and_eq_true_iff.mp h1
        obtain ⟨h2, h2'⟩ := Bool.and_eq_true_iff.mp h2
        rw [uqD hK I g x h1 h2 a1 a2, uqDs hK I g xs h1' h2' b1 b2]
end
theorem zip_inj {α β : Type} : ∀ {fs fs' : List α} {vs vs' : List β}, fs.zip vs = fs'.zip vs' → fs.length = vs.length → fs'.length = vs'.length → fs = fs' ∧ vs = vs'
  | [], [], [], [], _, _, _ => ⟨rfl, rfl⟩
  | [], f :: fs, [], v :: vs, h, _, _ => by cases h
  | f :: fs, [], v :: vs, [], h, _, _ => by cases h
  | f :: fs, f' :: fs', v :: vs, v' :: vs', h, h1, h2 => by
    simp only [List.zip_cons_cons, List.cons.injEq, Prod.mk.injEq] at h
    obtain ⟨⟨rfl, rfl⟩, h⟩ := h
    obtain ⟨rfl, rfl⟩ := zip_inj h (by simpa using h1) (by simpa using h2)
    exact ⟨rfl, rfl⟩
  | [], _, _ :: _, _, _, h, _ => by cases h
  | _ :: _, _, [], _, _, h, _ => by cases h
  | _, [], _, _ :: _, _, _, h => by cases h
  | _, _ :: _, _, [], _, _, h => by cases h
theorem uq_ins {v : V} {x y : D} {c : Str} (hK : X.K = Z.W.K) (I : Inv X pins σ H s) (g : Ag Z.W F μ S H) (r1 : Rep Z.W F μ v x) (r2 : Rep Z.W F μ v y) (h1 : x.insd = true) (h2 : y.insd = true) (e1 : clsOf S x = some c) (e2 : clsOf S y = some c) : x = y := by
  cases x <;> try (cases h1; done)
  cases y <;> try (cases h2; done)
  cases r1 with
  | ins f1 o1 c1 l1 q1 =>
    cases r2 with
    | ins f2 o2 c2 l2 q2 =>
      rw [f1] at f2
      injection f2 with f2
      injection f2 with eC eD ez
      obtain ⟨rfl, rfl⟩ := zip_inj ez l1 l2
      have e1 := Option.some.inj (show some _ = some c from e1)
      have e2 := Option.some.inj (show some _ = some c from e2)
      rw [uqDs hK I g _ h1 h2 q1 q2, e1, e2]
theorem ins_alone {xv yv : V} {x y : D} {u : Value} {c : Str} (I : Inv X pins σ H s) (g : Ag Z.W F μ S H) (r1 : Rep Z.W F μ xv x) (r2 : Rep Z.W F μ yv y) (rx : RelV xv u) (ry : RelV yv u) (h1 : x.isIns = true) (h2 : y.isIns = false) (h : eqOk S c y = true) (hK : X.K = Z.W.K := by assumption) : False := by
  cases x <;> try (cases h1; done)
  cases r1 with
  | @ins a C dx _ _ _ _ f1 o1 c1 l1 q1 =>
    have eu := (show u = Value.ref a from rx)
    subst eu
    cases y <;> try (first | (cases h2; done) | (cases h; done))
    · cases r2; cases (show Value.ref a = Value.none from ry)
    · cases r2; cases (show Value.ref a = Value.bool _ from ry)
    · cases r2; obtain ⟨t, e⟩ := (show ∃ t, Value.ref a = Value.int _ t from ry); cases e
    · cases r2; obtain ⟨t, e⟩ := (show ∃ t, Value.ref a = Value.str _ t from ry); cases e
    · cases r2 with
      | tup hs rs =>
        have e := (show Value.ref a = Value.ref _ from ry)
        cases e
        have q1 := Evl.ex_t g.ex hs
        rw [← hK] at q1
        obtain ⟨its, r, ⟨o, e, c, n, d⟩, _⟩ := I.tuple q1
        obtain ⟨mA, O, _⟩ := ins_get I.hok (g.ex _ _ f1)
        have := O.obj
        rw [e] at this
        cases this
        cases c
    · cases r2 with
      | lst hs rs =>
        have e := (show Value.ref a = Value.ref _ from ry)
        cases e
        rw [f1] at hs
        cases hs
    · rename_i n
      cases r2 with
      | loc hn =>
        have e := (show Value.ref a = Value.ref _ from ry)
        cases e
        have hl : n < S.length := by
          have := (List.getElem?_eq_some_iff.mp hn).1
          rw [← g.len]; exact this
        obtain ⟨a', e1, e2, _⟩ := g.at (List.getElem?_eq_getElem hl)
        rw [hn] at e1
        cases e1
        rw [f1] at e2
        cases e2
/-- one item -/
theorem eq_step {xv yv : V} {xd yd : D} {ux uy : Value} {k : Bool} (St : Std Z X kk) (h0 : kk = 0 → ∀ g as S, Z.C.init g as S = none) (hq : ClsQF Z X "__eq__") (M : Mth X.prog X.w X.K X.mg X.base Z.W Z.C.meth Z.C.init (kk - 1) "__eq__") (I : Inv X pins σ H s) (g : Ag Z.W F μ S H)
    (r1 : Rep Z.W F μ xv xd) (r2 : Rep Z.W F μ yv yd) (rx : RelV xv ux) (ry : RelV yv uy) (h : eqVD Z.C.meth Z.C.init S xd yd = some k) :
    wpAny (model X.prog X.w) X.A.in1 (eqBool ux uy) (fun b s' => b = k ∧ Still Z X F μ S pins σ s') X.xe s := by
  unfold eqVD at h
  split at h
  · rename_i c ec
    split at h
    · rename_i hok
      obtain ⟨gg, e3, h⟩ := bind_some' h
      obtain ⟨r, e4, h⟩ := bind_some' h
      split at h
      · rename_i k' hk
        split at h
        · rename_i hc
          cases h
          obtain ⟨hS, hc⟩ := hc
          obtain ⟨a, C, dx, fs, vs, xs, rfl, h1, h2, h3, h4, h5⟩ := ins_rep g r1 ec
          have eux := (show ux = Value.ref a from rx)
          by_cases hu : ux = uy
          · subst hu
            have hk' : k = true := by
              rcases hc with hc | ⟨hc1, hc2⟩ | ⟨hc1, hc2, hc3⟩
              · exact hc
              · exact (ins_alone (hK := St.K) I g r1 r2 rx ry hc1 hc2 hok).elim
              · exfalso
                cases yd <;> try (cases hc2; done)
                cases r2 with
                | ins f2 o2 c2 l2 q2 =>
                  have := (show ux = Value.ref _ from ry)
                  rw [eux] at this
                  cases this
                  refine hc3 (uq_ins (S := S) St.K I g r1 (.ins f2 o2 c2 l2 q2) hc1 hc2 ec ?_)
                  unfold eqOk at hok
                  exact congrArg some (of_decide_eq_true hok)
            rw [hk']
            exact eqBool_same ⟨rfl, F, μ, H, Ex.refl F, pre_refl μ, g, I⟩
          · rw [eux] at hu rx ⊢
            obtain ⟨rv, rs⟩ := r
            cases hk
            cases hS
            exact eqBool_ref1 hu (rc_own St h0 hq M I g r1 r2 rx ry ec hok e3 e4)
        · cases h
      · cases h
    · cases h
  · rename_i ec
    split at h
    · rename_i z
      obtain ⟨c, ec2, h⟩ := bind_some' h
      obtain ⟨gg, e3, h⟩ := bind_some' h
      obtain ⟨r, e4, h⟩ := bind_some' h
      split at h
      · rename_i k' hk
        split at h
        · rename_i hS
          cases h
          obtain ⟨rv, rs⟩ := r
          cases hk
          cases hS
          exact rc_back St h0 hq M I g (.inl ⟨_, rfl⟩) r1 r2 rx ry ec2 e3 e4
        · cases h
      · cases h
    · obtain ⟨c, ec2, h⟩ := bind_some' h
      obtain ⟨gg, e3, h⟩ := bind_some' h
      obtain ⟨r, e4, h⟩ := bind_some' h
      split at h
      · rename_i k' hk
        split at h
        · rename_i hS
          cases h
          obtain ⟨rv, rs⟩ := r
          cases hk
          cases hS
          exact rc_back St h0 hq M I g (.inr rfl) r1 r2 rx ry ec2 e3 e4
        · cases h
      · cases h
    · cases h
end
noncomputable def fB (Z : Sd) (S : Sto) (y x : D) : Bool := (eqVD Z.C.meth Z.C.init S x y).getD false
noncomputable def eB (Z : Sd) (S : Sto) (y : D) (xs : List D) (i : Nat) : Bool := match xs[i]? with
  | some x => fB Z S y x
  | none => false
theorem any_is {y : D} : ∀ {xs : List D} {k : Bool}, anyVD Z.C.meth Z.C.init S y xs = some k → k = xs.any (fB Z S y) ∧ ∀ i (h : i < xs.length), (∀ m, m < i → eB Z S y xs m = false) → ∃ b, eqVD Z.C.meth Z.C.init S xs[i] y = some b
  | [], k, h => by cases h; exact ⟨rfl, fun i h => absurd h (Nat.not_lt_zero i)⟩
  | x :: xs, k, h => by
    unfold anyVD at h
    obtain ⟨b, e1, h⟩ := bind_some' h
    have ef : fB Z S y x = b := by unfold fB; rw [e1]; rfl
    cases b with
    | true =>
      cases h
      refine ⟨by rw [List.any_cons, ef]; rfl, fun i hi hm => ?_⟩
      cases i with
      | zero => exact ⟨true, e1⟩
      | succ i =>
        have := hm 0 (Nat.succ_pos i)
        unfold eB at this
        rw [List.getElem?_cons_zero] at this
        simp only at this
        rw [ef] at this
        cases this
    | false =>
      obtain ⟨h1, h2⟩ := any_is (xs := xs) h
      refine ⟨by rw [List.any_cons, ef, h1]; rfl, fun i hi hm => ?_⟩
      cases i with
      | zero => exact ⟨false, e1⟩
      | succ i => exact h2 i (by simpa using hi) fun m q => hm (m + 1) (by omega)
theorem eB_at {y : D} {xs : List D} {i : Nat} (h : i < xs.length) : eB Z S y xs i = fB Z S y xs[i] := by
  unfold eB
  rw [List.getElem?_eq_getElem h]
theorem idx_is {y : D} : ∀ {xs : List D} {i0 j : Nat}, idxVD Z.C.meth Z.C.init S y xs i0 = some j → ∃ m, j = i0 + m ∧ ∃ h : m < xs.length, eqVD Z.C.meth Z.C.init S xs[m] y = some true ∧ ∀ i (q : i < m), eqVD Z.C.meth Z.C.init S (xs[i]'(Nat.lt_trans q h)) y = some false
  | [], i0, j, h => by cases h
  | x :: xs, i0, j, h => by
    unfold idxVD at h
    obtain ⟨b, e1, h⟩ := bind_some' h
    cases b with
    | true =>
      cases h
      exact ⟨0, rfl, Nat.succ_pos _, e1, fun i q => absurd q (Nat.not_lt_zero i)⟩
    | false =>
      obtain ⟨m, e, hm, e2, e3⟩ := idx_is (xs := xs) h
      refine ⟨m + 1, by omega, Nat.succ_lt_succ hm, e2, fun i q => ?_⟩
      cases i with
      | zero => exact e1
      | succ i => exact e3 i (by omega)
def rIno (Z : Sd) (neg : Bool) : R2 := fun xv yv H Q => ∃ F μ S xd yd xs k, Ag Z.W F μ S H ∧ Rep Z.W F μ xv xd ∧ Rep Z.W F μ yv yd ∧ lsOf S yd = some xs ∧ anyVD Z.C.meth Z.C.init S xd xs = some k ∧
  ∀ F' μ' H', Ex F F' → μ <+: μ' → Ag Z.W F' μ' S H' → Q (.bl (k != neg)) H'
theorem ino_facts {xv yv : V} {xd yd : D} {xs : List D} {v u : Value} (St : Std Z X kk) (h0 : kk = 0 → ∀ g as S, Z.C.init g as S = none) (hq : ClsQF Z X "__eq__") (M : Mth X.prog X.w X.K X.mg X.base Z.W Z.C.meth Z.C.init (kk - 1) "__eq__") (I : Inv X pins σ H s) (g : Ag Z.W F μ S H)
    (r1 : Rep Z.W F μ xv xd) (r2 : Rep Z.W F μ yv yd) (rx : RelV xv v) (ry : RelV yv u) (hl : lsOf S yd = some xs) :
    ∃ a, u = .ref a ∧ (∀ s, Still Z X F μ S pins σ s → ∃ items, SeqAt.ListAt s.heap a items ∧ items.size = xs.length) ∧
      ∀ i s (items : Array Value) (hi : i < items.size), Still Z X F μ S pins σ s → SeqAt.ListAt s.heap a items → ∀ (hx : i < xs.length) b, eqVD Z.C.meth Z.C.init S xs[i] xd = some b → wpAny (model X.prog X.w) X.A.in1 (eqBool items[i] v) (fun b' s' => b' = b ∧ Still Z X F μ S pins σ s') X.xe s := by
  obtain ⟨a, vs, rfl, _, _⟩ := lsOf_rep g r2 hl
  refine ⟨a, ry, fun s hs => ?_, fun i s items hi hs hli hx b hb => ?_⟩
  · obtain ⟨F', μ', H', x, p, g', I'⟩ := hs
    obtain ⟨a', vs', ea, hH, rs⟩ := lsOf_rep g' (r2.mono x p) hl
    cases ea
    obtain ⟨its, rv, ⟨o, n, ho, hc, hd, hdt⟩, _⟩ := I'.list (SqL.of hH)
    obtain ⟨cls, dd, dt, sl⟩ := o
    simp only at hc hdt
    subst hc hdt
    refine ⟨its.toArray, ⟨n, dd, sl, ho⟩, ?_⟩
    rw [← rs.length, rv.length]
    simp
  · obtain ⟨F', μ', H', x, p, g', I'⟩ := hs
    obtain ⟨a', vs', ea, hH, rs⟩ := lsOf_rep g' (r2.mono x p) hl
    cases ea
    obtain ⟨its, rv, ⟨o, n, ho, hc, hd, hdt⟩, _⟩ := I'.list (SqL.of hH)
    obtain ⟨n', dd', sl', ho'⟩ := hli
    rw [ho] at ho'
    cases ho'
    simp only at hdt
    injection hdt with hits _
    subst hits
    obtain ⟨w, hw, rw1⟩ := rs.get (List.getElem?_eq_getElem hx)
    obtain ⟨u', hu', ru⟩ := rv.get hw
    obtain ⟨hlt, hue⟩ := List.getElem?_eq_some_iff.mp hu'
    have e1 : its.toArray[i] = u' := by simpa using hue
    rw [e1]
    refine wpAny_mono (eq_step St h0 hq M I' g' rw1 (r1.mono x p) ru rx hb) (fun b' s' z => ⟨z.1, z.2.trans x p⟩) fun _ _ z => z
theorem op_ino (St : Std Z X kk) (h0 : kk = 0 → ∀ g as S, Z.C.init g as S = none) (hq : ClsQF Z X "__eq__") (M : Mth X.prog X.w X.K X.mg X.base Z.W Z.C.meth Z.C.init (kk - 1) "__eq__") : OpR X (compareOp .In) (rIno Z false) := by
  intro pins s σ H xv yv v u Q I rx ry h
  obtain ⟨F, μ, S, xd, yd, xs, k, g, r1, r2, hl, hk, q⟩ := h
  obtain ⟨a, rfl, f1, f2⟩ := ino_facts St h0 hq M I g r1 r2 rx ry hl
  obtain ⟨ek, hall⟩ := any_is hk
  have hs : Still Z X F μ S pins σ s := ⟨F, μ, H, Ex.refl F, pre_refl μ, g, I⟩
  obtain ⟨items, ⟨n, dd, sl, ho⟩, hsz⟩ := id (f1 s hs)
  refine SeqAt.in_meetsO ⟨_, ho, rfl⟩ PySem.F.slot_list_contains PySem.F.entry_list_contains (PySem.F.args_list_contains_2 _ _)
    (SeqAt.list_containsO (Φ := Still Z X F μ S pins σ) (Er := X.xe) (N := xs.length) (e := eB Z S xd xs) (res := fun i => (xs.drop i).any (fB Z S xd)) f1 (by simp) (fun i hi => ?_) (fun i s items hi hno hs hli => ?_)) ⟨rfl, hs, fun _ _ z => z, fun s' z => ?_⟩
  · show (xs.drop i).any _ = (_ || (xs.drop (i + 1)).any _)
    rw [List.drop_eq_getElem_cons hi, List.any_cons, eB_at hi]
  · obtain ⟨its, hits, hsz⟩ := f1 s hs
    have hx : i < xs.length := by
      obtain ⟨n1, d1, l1, h1⟩ := hits
      obtain ⟨n2, d2, l2, h2⟩ := hli
      rw [h1] at h2
      cases h2
      omega
    obtain ⟨b, hb⟩ := hall i hx hno
    have : eB Z S xd xs i = b := by rw [eB_at hx]; unfold fB; rw [hb]; rfl
    rw [this]
    exact f2 i s items hi hs hli hx b hb
  · obtain ⟨F', μ', H', x, p, g', I'⟩ := z
    refine ⟨_, rfl, ?_⟩
    have := q F' μ' H' x p g'
    rw [show (k != false) = k by cases k <;> rfl, ek] at this
    exact ⟨.bl _, H', I', rfl, this⟩
theorem op_nino (St : Std Z X kk) (h0 : kk = 0 → ∀ g as S, Z.C.init g as S = none) (hq : ClsQF Z X "__eq__") (M : Mth X.prog X.w X.K X.mg X.base Z.W Z.C.meth Z.C.init (kk - 1) "__eq__") : OpR X (compareOp .NotIn) (rIno Z true) := by
  intro pins s σ H xv yv v u Q I rx ry h
  obtain ⟨F, μ, S, xd, yd, xs, k, g, r1, r2, hl, hk, q⟩ := h
  obtain ⟨a, rfl, f1, f2⟩ := ino_facts St h0 hq M I g r1 r2 rx ry hl
  obtain ⟨ek, hall⟩ := any_is hk
  have hs : Still Z X F μ S pins σ s := ⟨F, μ, H, Ex.refl F, pre_refl μ, g, I⟩
  obtain ⟨items, ⟨n, dd, sl, ho⟩, hsz⟩ := id (f1 s hs)
  refine SeqAt.notIn_meetsO ⟨_, ho, rfl⟩ PySem.F.slot_list_contains PySem.F.entry_list_contains (PySem.F.args_list_contains_2 _ _)
    (SeqAt.list_containsO (Φ := Still Z X F μ S pins σ) (Er := X.xe) (N := xs.length) (e := eB Z S xd xs) (res := fun i => (xs.drop i).any (fB Z S xd)) f1 (by simp) (fun i hi => ?_) (fun i s items hi hno hs hli => ?_)) ⟨rfl, hs, fun _ _ z => z, fun s' z => ?_⟩
  · show (xs.drop i).any _ = (_ || (xs.drop (i + 1)).any _)
    rw [List.drop_eq_getElem_cons hi, List.any_cons, eB_at hi]
  · obtain ⟨its, hits, hsz⟩ := f1 s hs
    have hx : i < xs.length := by
      obtain ⟨n1, d1, l1, h1⟩ := hits
      obtain ⟨n2, d2, l2, h2⟩ := hli
      rw [h1] at h2
      cases h2
      omega
    obtain ⟨b, hb⟩ := hall i hx hno
    have : eB Z S xd xs i = b := by rw [eB_at hx]; unfold fB; rw [hb]; rfl
    rw [this]
    exact f2 i s items hi hs hli hx b hb
  · obtain ⟨F', μ', H', x, p, g', I'⟩ := z
    refine ⟨_, rfl, ?_⟩
    have := q F' μ' H' x p g'
    rw [show (k != true) = !k by cases k <;> rfl, ek] at this
    exact ⟨.bl _, H', I', rfl, this⟩
def rIdxo (Z : Sd) : V → List V → Hp → VK → Prop := fun lv us H Q => ∃ xv F μ S xd yd xs j, us = [xv] ∧ Ag Z.W F μ S H ∧ Rep Z.W F μ xv xd ∧ Rep Z.W F μ lv yd ∧ lsOf S yd = some xs ∧ idxVD Z.C.meth Z.C.init S xd xs 0 = some j ∧
  ∀ F' μ' H', Ex F F' → μ <+: μ' → Ag Z.W F' μ' S H' → Q (.int (j : Nat)) H'
theorem mt_idxo (St : Std Z X kk) (h0 : kk = 0 → ∀ g as S, Z.C.init g as S = none) (hq : ClsQF Z X "__eq__") (M : Mth X.prog X.w X.K X.mg X.base Z.W Z.C.meth Z.C.init (kk - 1) "__eq__") : MtR X "list.index" (rIdxo Z) := by
  intro pins s σ H lv ws u us Q I ry rxs h
  obtain ⟨xv, F, μ, S, xd, yd, xs, j, rfl, g, r1, r2, hl, hj, q⟩ := h
  obtain ⟨v, rfl, rx⟩ := rxs.one
  obtain ⟨a, rfl, f1, f2⟩ := ino_facts St h0 hq M I g r1 r2 rx ry hl
  obtain ⟨m, ej, hm, e1, e2⟩ := idx_is hj
  have ej : j = m := by omega
  subst ej
  have hs : Still Z X F μ S pins σ s := ⟨F, μ, H, Ex.refl F, pre_refl μ, g, I⟩
  obtain ⟨items, ⟨n, dd, sl, ho⟩, hsz⟩ := id (f1 s hs)
  have hz : xs.length ≤ sizeLine := by
    obtain ⟨a', vs', ea, hH, rs⟩ := lsOf_rep g r2 hl
    obtain ⟨its, rv, _, z⟩ := I.list (SqL.of hH)
    rw [← rs.length]; exact z
  have b1 : eB Z S xd xs j = true := by rw [eB_at hm]; unfold fB; rw [e1]; rfl
  have b0 : ∀ i, i < j → eB Z S xd xs i = false := fun i hi => by rw [eB_at (Nat.lt_trans hi hm)]; unfold fB; rw [e2 i hi]; rfl
  refine call_meetsIn PySem.F.slot_list_index ⟨_, ho, rfl⟩ PySem.F.entry_list_index (PySem.F.args_list_index_2 _ _)
    (SeqAt.list_indexO (Φ := Still Z X F μ S pins σ) (Er := X.xe) (N := xs.length) (e := eB Z S xd xs) f1 hm (by have := sizeLine_eq; omega) b1 b0 (fun i s items hi hij hs hli => ?_)) ⟨rfl, hs, fun _ _ z => z, fun s' z => ?_⟩
  · rcases Nat.lt_or_ge i j with h | h
    · rw [b0 i h]
      exact f2 i s items hi hs hli (Nat.lt_trans h hm) false (e2 i h)
    · have : i = j := by omega
      subst this
      rw [b1]
      exact f2 i s items hi hs hli hm true e1
  · obtain ⟨F', μ', H', x, p, g', I'⟩ := z
    exact ⟨.int (j : Nat), H', I'.tok _, ⟨_, rfl⟩, q F' μ' H' x p g'⟩
theorem rd_ino {neg : Bool} {σ : L2.St} {Q : VK} (h : rdE Z (.ino neg ma mb) σ H Q) : ∃ k, tOp (rIno Z neg) (rdE Z ma) (rdE Z mb) σ H fun v H' => Q v H' ∧ v = .bl k := by
  obtain ⟨F, μ, S, ρ, d, S', g, rr, ev, q⟩ := h
  unfold evE at ev
  obtain ⟨x, e1, ev⟩ := bind_some' ev
  obtain ⟨y, e2, ev⟩ := bind_some' ev
  obtain ⟨xs, e3, ev⟩ := bind_some' ev
  obtain ⟨k, e4, ev⟩ := map_some' ev
  cases ev
  refine ⟨k != neg, F, μ, S, ρ, x.1, x.2, g, rr, e1, fun v F1 μ1 H1 x1 p1 g1 r1 => ?_⟩
  refine ⟨F1, μ1, x.2, ρ, y.1, y.2, g1, rr.mono x1 p1, e2, fun u F2 μ2 H2 x2 p2 g2 r2 => ?_⟩
  exact ⟨F2, μ2, y.2, x.1, y.1, xs, k, g2, r1.mono x2 p2, r2, e3, e4, fun F' μ' H' x3 p3 g3 => ⟨q _ F' μ' H' ((x1.trans x2).trans x3) ((p1.trans p2).trans p3) g3 (.bl _), rfl⟩⟩
theorem rIno_mono {neg : Bool} {x y : V} {Q Q' : VK} (hQ : ∀ v H, Q v H → Q' v H) (h : rIno Z neg x y H Q) : rIno Z neg x y H Q' := by
  obtain ⟨F, μ, S, xd, yd, xs, k, g, r1, r2, e1, e2, q⟩ := h
  exact ⟨F, μ, S, xd, yd, xs, k, g, r1, r2, e1, e2, fun F' μ' H' x p g => hQ _ _ (q F' μ' H' x p g)⟩
theorem tOp_ino_mono {neg : Bool} {σ : L2.St} {Q Q' : VK} (hQ : ∀ v H, Q v H → Q' v H) (h : tOp (rIno Z neg) (rdE Z ma) (rdE Z mb) σ H Q) : tOp (rIno Z neg) (rdE Z ma) (rdE Z mb) σ H Q' := by
  obtain ⟨F, μ, S, ρ, d, S', g, rr, ev, q⟩ := h
  refine ⟨F, μ, S, ρ, d, S', g, rr, ev, fun v F1 μ1 H1 x1 p1 g1 r1 => ?_⟩
  obtain ⟨F, μ, S, ρ, d, S', g, rr, ev, q⟩ := q v F1 μ1 H1 x1 p1 g1 r1
  exact ⟨F, μ, S, ρ, d, S', g, rr, ev, fun v F1 μ1 H1 x1 p1 g1 r1 => rIno_mono hQ (q v F1 μ1 H1 x1 p1 g1 r1)⟩
theorem me_ino (St : Std Z X kk) (h0 : kk = 0 → ∀ g as S, Z.C.init g as S = none) (hq : ClsQF Z X "__eq__") (M : Mth X.prog X.w X.K X.mg X.base Z.W Z.C.meth Z.C.init (kk - 1) "__eq__") (ha : ME Z X a ma) (hb : ME Z X b mb) (hm : behindInMarks .In b = false := by rfl) : ME Z X (.Compare a [.In] [b] pos) (.ino false ma mb) :=
  PE.imp (pe_cmpR (op_ino St h0 hq M) ha hb hm) fun σ H Q h => by
    obtain ⟨k, h⟩ := rd_ino h
    exact tOp_ino_mono (fun _ _ z => z.1) h
theorem me_nino (St : Std Z X kk) (h0 : kk = 0 → ∀ g as S, Z.C.init g as S = none) (hq : ClsQF Z X "__eq__") (M : Mth X.prog X.w X.K X.mg X.base Z.W Z.C.meth Z.C.init (kk - 1) "__eq__") (ha : ME Z X a ma) (hb : ME Z X b mb) (hm : behindInMarks .NotIn b = false := by rfl) : ME Z X (.Compare a [.NotIn] [b] pos) (.ino true ma mb) :=
  PE.imp (pe_cmpR (op_nino St h0 hq M) ha hb hm) fun σ H Q h => by
    obtain ⟨k, h⟩ := rd_ino h
    exact tOp_ino_mono (fun _ _ z => z.1) h
theorem rdT_ino {neg : Bool} {σ : L2.St} {Q : Bool → Hp → Prop} (h : rdT Z (.ino neg ma mb) σ H Q) : tTest (tOp (rIno Z neg) (rdE Z ma) (rdE Z mb)) σ H Q := by
  obtain ⟨F, μ, S, ρ, b, S', g, rr, ev, q⟩ := h
  obtain ⟨k, h⟩ := rd_ino (Z := Z) (neg := neg) (Q := fun v H' => ∃ k, v = .bl k ∧ Q k H') (σ := σ) (H := H) ⟨F, μ, S, ρ, .bl b, S', g, rr, ev, fun v F' μ' H' x p g' r => by cases r; exact ⟨b, rfl, q F' μ' H' x p g'⟩⟩
  exact tOp_ino_mono (fun _ _ z => z.1) h
theorem mt_ino (St : Std Z X kk) (h0 : kk = 0 → ∀ g as S, Z.C.init g as S = none) (hq : ClsQF Z X "__eq__") (M : Mth X.prog X.w X.K X.mg X.base Z.W Z.C.meth Z.C.init (kk - 1) "__eq__") (ha : ME Z X a ma) (hb : ME Z X b mb) (hm : behindInMarks .In b = false := by rfl) : MT Z X (.Compare a [.In] [b] pos) (.ino false ma mb) :=
  PT.imp (pt_cmpR (op_ino St h0 hq M) ha hb hm) fun σ H Q h => rdT_ino h
theorem mt_nino (St : Std Z X kk) (h0 : kk = 0 → ∀ g as S, Z.C.init g as S = none) (hq : ClsQF Z X "__eq__") (M : Mth X.prog X.w X.K X.mg X.base Z.W Z.C.meth Z.C.init (kk - 1) "__eq__") (ha : ME Z X a ma) (hb : ME Z X b mb) (hm : behindInMarks .NotIn b = false := by rfl) : MT Z X (.Compare a [.NotIn] [b] pos) (.ino true ma mb) :=
  PT.imp (pt_cmpR (op_nino St h0 hq M) ha hb hm) fun σ H Q h => rdT_ino h
theorem me_idxo {apos cpos : Pos} (St : Std Z X kk) (h0 : kk = 0 → ∀ g as S, Z.C.init g as S = none) (hq : ClsQF Z X "__eq__") (M : Mth X.prog X.w X.K X.mg X.base Z.W Z.C.meth Z.C.init (kk - 1) "__eq__") (ho : ME Z X l ml) (ha : ME Z X x mx)
    (hbase : attributeBase l "index" X.env (eval l X.env) = eval l X.env := by rfl)
    (hfew : ((backTo cpos (starEach [x] X.env)).all (fun x => !x.1) && (backToKw cpos (keywordEach [] X.env)).all (fun x => x.1.isSome) && decide ([x].length + ([] : List Keyword).length + (if ([] : List Keyword).isEmpty then 0 else 1) < 30)) = true := by rfl)
    (hline : (apos.endLine == cpos.line) = true := by rfl) (hse : starEach [x] X.env = (false, eval x X.env) :: starEach [] X.env := by rfl) (hpl : (backTo cpos (starEach [] X.env)).any (·.1) = false := by rfl) :
    ME Z X (.Call (.Attribute l "index" apos) [x] [] cpos) (.idxo ml mx) := by
  refine PE.imp (pe_bm PySem.F.plainAttrs_list PySem.F.slot_list_index PySem.F.type_list_index (mt_idxo St h0 hq M) ho (pa_cons ha pa_nil hse) hbase hfew hline hse hpl) fun σ H Q h => ?_
  obtain ⟨F, μ, S, ρ, d, S', g, rr, ev, q⟩ := h
  unfold evE at ev
  obtain ⟨xl, e1, ev⟩ := bind_some' ev
  obtain ⟨xs0, e0, ev⟩ := bind_some' ev
  obtain ⟨y, e2, ev⟩ := bind_some' ev
  obtain ⟨xs, e3, ev⟩ := bind_some' ev
  obtain ⟨j, e4, ev⟩ := map_some' ev
  cases ev
  rw [St.K]
  refine ⟨F, μ, S, ρ, xl.1, xl.2, g, rr, e1, fun v F1 μ1 H1 x1 p1 g1 r1 => ?_⟩
  obtain ⟨a0, vs0, rfl, hH0, _⟩ := lsOf_rep g1 r1 e0
  refine ⟨.inl ⟨rfl, _, SqL.of hH0⟩, F1, μ1, xl.2, ρ, y.1, y.2, g1, rr.mono x1 p1, e2, fun u F2 μ2 H2 x2 p2 g2 r2 => ?_⟩
  exact ⟨u, F2, μ2, y.2, y.1, xl.1, xs, j, rfl, g2, r2, r1.mono x2 p2, e3, e4, fun F' μ' H' x3 p3 g3 => q _ F' μ' H' ((x1.trans x2).trans x3) ((p1.trans p2).trans p3) g3 (.int _)⟩
/-! ### a sorted list that changes -/
theorem sort_rd {v : V} {d : D} {ss : List Str} {Q : VK} (g : Ag Z.W F μ S H) (r1 : Rep Z.W F μ v d) (e1 : sortedD S d = some ss) (h64 : ss.length < 64) (fin : ∀ (ys : List Str) (p : Addr), ys.Perm ss → PyProof.Rows.sortedS ys = true → H p = none → Q (.ref p) (upd H p (.lst (ys.map V.str)))) : rSortM Z.W.K [v] H Q := by
  have tab : ∀ {a : Addr} {ks : List Key} {vs : List V}, v = .ref a → Rd H a (.dK (ks.zip vs)) → ks.length = vs.length → keyStr ks = some ss → rSortM Z.W.K [v] H Q := fun {a ks vs} ev hd hl hk => by
    refine .inr ⟨a, _, ss, by rw [ev], hd, ?_, h64, fin⟩
    rw [List.map_fst_zip (by omega)]
    exact keyStr_eq hk
  have lst : ∀ {a : Addr} {xs : List D} {vs : List V}, v = .ref a → H a = some (.lst vs) → Reps Z.W F μ vs xs → allStr xs = some ss → rSortM Z.W.K [v] H Q := fun {a xs vs} ev hd hl hk => by
    have ek := allStr_rep hl hk
    subst ek
    exact .inl ⟨a, ss, by rw [ev], SqL.of hd, h64, fin⟩
  unfold sortedD at e1
  cases d <;> try (cases e1; done)
  · cases r1 with
    | lst hs rs => exact lst rfl (g.ex _ _ hs) rs e1
  · cases r1 with
    | dct hd hl rs => exact tab rfl (Evl.ex_rd g.ex hd) hl e1
  · rename_i n
    have hv : val S (.loc n) = (match S[n]? with
      | some (.lst xs) => .lst xs
      | some (.dct kvs) => .dct (kvs.map (·.1)) (kvs.map (·.2))
      | _ => .loc n) := rfl
    rw [hv] at e1
    cases e2 : S[n]? with
    | none => rw [e2] at e1; cases e1
    | some c =>
      rw [e2] at e1
      obtain ⟨a, rfl, _, _, hc⟩ := g.loc r1 e2
      cases c with
      | lst xs => obtain ⟨vs, h1, rs⟩ := hc; exact lst rfl h1 rs e1
      | dct kvs => obtain ⟨vs, h1, rs⟩ := hc; exact tab rfl (.inl h1) (by rw [rs.length, List.length_map, List.length_map]) e1
      | obj c fs => cases e1
theorem me_sortm (T : Std Z X kk) (hm : X.mg "sorted" = none) (ha : ME Z X e m) (hg : Gl X "sorted" := by rfl) (he : starEach [e] X.env = (false, eval e X.env) :: starEach [] X.env := by rfl) : ME Z X (.Call (.Name "sorted" p) [e] [] pos) (.sortm m) := by
  refine PE.imp (pe_callB (cr_sortedS.or (call_sortedD T.calm)) hg hm (by decide +kernel) (pa_cons ha pa_nil he) (he := he)) fun σ H Q h => ?_
  obtain ⟨F, μ, S, ρ, d, S', g, rr, ev, q⟩ := h
  unfold evE at ev
  obtain ⟨x, e1, ev⟩ := bind_some' ev
  obtain ⟨ss, e2, ev⟩ := bind_some' ev
  split at ev
  · rename_i h64
    cases ev
    refine ⟨F, μ, S, ρ, x.1, x.2, g, rr, e1, fun v F1 μ1 H1 x1 p1 g1 r1 => ?_⟩
    have : rSortM Z.W.K [v] H1 Q := sort_rd g1 r1 e2 h64 fun ys p hp hs hn => by
      have ey := sorted_one (hp.trans (sortS_perm ss).symm) (sortedS_pw _ hs) (sortS_pw ss)
      subst ey
      obtain ⟨g', p'⟩ := g1.new hn (o := .lst ((sortS ss).map V.str)) (c := .lst ((sortS ss).map D.str)) ⟨_, upd_same, reps_strs _⟩
      exact q _ _ _ _ x1 (p1.trans p') g' (.loc (by rw [← g1.len, List.getElem?_append_right (Nat.le_refl _), Nat.sub_self]; rfl))
    rw [← T.K] at this
    exact this
  · cases ev
/-! ### == {} -/
theorem op_emp (hu : X.A.units < cLine) : OpR X (compareOp .Eq) (fun x y H Q => ∃ a b kvs, x = .ref a ∧ y = .ref b ∧ Rd H a (.dK kvs) ∧ H b = some (.dK []) ∧ Q (.bl kvs.isEmpty) H) := by
  intro pins s σ H x y v u Q I rx ry h
  obtain ⟨a, b, kvs, rfl, rfl, hd, hb, q⟩ := h
  cases (show v = Value.ref a from rx)
  cases (show u = Value.ref b from ry)
  obtain ⟨z, lo, vs, rel, dd⟩ := dk_rd I.hok hd
  obtain ⟨z', lo', vs', rel', dd'⟩ := dk_of I.hok hb
  have e' : vs' = [] := by
    have h := rel'.keys
    cases vs' with
    | nil => rfl
    | cons p l => cases h
  subst e'
  have hl : kvs.length = vs.length := by
    have := congrArg List.length rel.keys
    simpa using this
  refine PySem.W.rcP_dicts (r := true) lo lo' dd dd' hu (fun h => ?_) _ _ ?_
  · have : vs = [] := List.length_eq_zero_iff.mp h
    subst this
    exact .nil
  · refine ⟨.bl _, H, I, rfl, ?_⟩
    have e : (vs.length == ([] : List (Key × Value)).length && true) = kvs.isEmpty := by
      cases vs with
      | nil =>
        have : kvs = [] := List.length_eq_zero_iff.mp hl
        subst this; rfl
      | cons p l => cases kvs with
        | nil => cases hl
        | cons q m => rfl
    rw [e]
    exact q
theorem me_emp {dp : Pos} (T : Std Z X kk) (ha : ME Z X a ma) : ME Z X (.Compare a [.Eq] [.Dict [] [] dp] pos) (.emp ma) := by
  refine PE.imp (pe_cmpR (op_emp (by have := T.hu; omega)) ha pe_dnewK (nomark _)) fun σ H Q h => ?_
  obtain ⟨F, μ, S, ρ, d, S', g, rr, ev, q⟩ := h
  unfold evE at ev
  obtain ⟨x, e1, ev⟩ := bind_some' ev
  split at ev
  · rename_i ks ds ex
    cases ev
    refine ⟨F, μ, S, ρ, x.1, x.2, g, rr, e1, fun v F1 μ1 H1 x1 p1 g1 r1 => ?_⟩
    rw [ex] at r1
    cases r1 with
    | dct hd hl rs =>
      rename_i aa vs
      intro p hp
      obtain ⟨g', ex', eq⟩ := g1.frz hp (.dK [])
      refine ⟨_, p, _, rfl, rfl, Evl.ex_rd g'.ex (Evl.ex_rd ex' hd), upd_same, ?_⟩
      have e : (ks.zip vs).isEmpty = ks.isEmpty := by
        cases ks with
        | nil => rfl
        | cons k ks => cases vs with
          | nil => cases hl
          | cons v vs => rfl
      rw [e]
      exact q _ _ _ _ (x1.trans ex') p1 g' (.bl _)
  · cases ev
end
end Fw

set_option Elab.async false
set_option linter.all false
set_option maxRecDepth 100000
set_option exponentiation.threshold 1000000
/-! FwQ: the evaluator by simp; numbers, texts. -/
namespace Fw
open PySem
/-! ### texts as lists of signs -/
def sl (l : List Nat) : Str := ⟨l.toArray⟩
@[simp] theorem sl_len (l : List Nat) : (sl l).length = l.length := by show l.toArray.size = _; simp
@[simp] theorem sl_cps (l : List Nat) : (sl l).cps.toList = l := by show l.toArray.toList = _; simp
@[simp] theorem sl_app (a b : List Nat) : sl a ++ sl b = sl (a ++ b) := by
  show (⟨a.toArray ++ b.toArray⟩ : Str) = ⟨(a ++ b).toArray⟩
  simp
theorem sl_inj {a b : List Nat} : sl a = sl b ↔ a = b := by
  constructor
  · intro h
    have := congrArg (fun x : Str => x.cps.toList) h
    simpa using this
  · rintro rfl; rfl
theorem sl_of (x : Str) : x = sl x.cps.toList := by cases x; simp [sl]
theorem cutS_nat {l : List Nat} {i j : Nat} (hij : i ≤ j) : L2.cutS (sl l) (some (i : Int)) (some (j : Int)) = sl ((l.drop i).take (j - i)) := by
  unfold L2.cutS
  rw [HT.sIx_nat, HT.sIx_nat, sl_len, sl_cps]
  show sl _ = _
  rw [sl_inj]
  by_cases h1 : i ≤ l.length
  · rw [Nat.min_eq_left h1]
    by_cases h2 : j ≤ l.length
    · rw [Nat.min_eq_left h2]
    · rw [Nat.min_eq_right (by omega)]
      rw [List.take_of_length_le (by rw [List.length_drop]; omega), List.take_of_length_le (by rw [List.length_drop]; omega)]
  · rw [List.drop_of_length_le (l := l) (i := i) (by omega), List.drop_of_length_le (by omega)]
    simp
/-! ### numbers -/
theorem log2_lt {n k : Nat} (h : n < 2 ^ k) (hk : 0 < k) : n.log2 < k := by
  by_cases hn : n = 0
  · subst hn; simpa using hk
  · exact (Nat.log2_lt hn).mpr h
theorem mulI_ok {i j : Int} (hi : i.natAbs < 2 ^ 400000) (hj : j.natAbs < 2 ^ 400000) : mulI (.int i) (.int j) = some (.int (i * j)) := by
  have h1 := log2_lt hi (by decide)
  have h2 := log2_lt hj (by decide)
  simp only [mulI]
  rw [if_pos (by omega)]
theorem modI_ok {i j : Int} (hj : 0 < j) : modI (.int i) (.int j) = some (.int (i % j)) := by
  simp only [modI]
  rw [if_pos hj]
theorem fdivI_ok {i j : Int} (hj : 0 < j) (h : j.natAbs < 2 ^ 8999) : fdivI (.int i) (.int j) = some (.int (i / j)) := by
  simp only [fdivI]
  rw [if_pos ⟨hj, by have := log2_lt h (by decide); omega⟩]
theorem small {i : Int} {B : Nat} (h0 : 0 ≤ i) (h : i < 10 ^ B) (hB : B ≤ 100000) : i.natAbs < 2 ^ 400000 := by
  have h1 : i.natAbs < 10 ^ B := by
    have : ((i.natAbs : Nat) : Int) = i := Int.natAbs_of_nonneg h0
    have h2 : ((i.natAbs : Nat) : Int) < ((10 ^ B : Nat) : Int) := by rw [this]; push_cast; exact h
    exact_mod_cast h2
  have h3 : (10 : Nat) ^ B ≤ 16 ^ B := Nat.pow_le_pow_left (by decide) B
  have h4 : (16 : Nat) ^ B = 2 ^ (4 * B) := by rw [Nat.pow_mul]
  have h5 : (2 : Nat) ^ (4 * B) ≤ 2 ^ 400000 := Nat.pow_le_pow_right (by decide) (by omega)
  omega
@[simp] theorem addI_int (S : Sto) (i j : Int) : addI S (.int i) (.int j) = some (.int (i + j)) := Eq.trans rfl rfl
theorem addI_str {S : Sto} {a b : List Nat} (h : a.length + b.length ≤ 16777216) : addI S (.str (sl a)) (.str (sl b)) = some (.str (sl (a ++ b))) := by
  show (if (sl a).length + (sl b).length ≤ sizeLine then some (D.str (sl a ++ sl b)) else none) = _
  rw [if_pos (by rw [sl_len, sl_len]; exact h), sl_app]
theorem addI_lst {S : Sto} {a b : D} {xs ys : List D} (ha : lsOf S a = some xs) (hb : lsOf S b = some ys) (h : xs.length + ys.length ≤ 16777216) : addI S a b = some (.lst (xs ++ ys)) := by
  have : addI S a b = (match lsOf S a, lsOf S b with
    | some xs, some ys => if xs.length + ys.length ≤ sizeLine then some (.lst (xs ++ ys)) else none
    | _, _ => none) := by
    cases a <;> first | rfl | (cases b <;> first | rfl | (cases ha; done) | (cases hb; done))
  rw [this, ha, hb]
  exact if_pos h
@[simp] theorem subI_int (i j : Int) : subI (.int i) (.int j) = some (.int (i - j)) := Eq.trans rfl rfl
@[simp] theorem cmp_lt (S : Sto) (i j : Int) : cmpD .lt S (.int i) (.int j) = some (decide (i < j)) := Eq.trans rfl rfl
@[simp] theorem cmp_le (S : Sto) (i j : Int) : cmpD .le S (.int i) (.int j) = some (decide (i ≤ j)) := Eq.trans rfl rfl
@[simp] theorem cmp_gt (S : Sto) (i j : Int) : cmpD .gt S (.int i) (.int j) = some (decide (j < i)) := Eq.trans rfl rfl
@[simp] theorem cmp_ge (S : Sto) (i j : Int) : cmpD .ge S (.int i) (.int j) = some (decide (j ≤ i)) := Eq.trans rfl rfl
@[simp] theorem cmp_eq (S : Sto) (a b : D) : cmpD .eq S a b = eqD S a b := Eq.trans rfl rfl
@[simp] theorem cmp_ne (S : Sto) (a b : D) : cmpD .ne S a b = (eqD S a b).map (!·) := Eq.trans rfl rfl
@[simp] theorem cmp_in (S : Sto) (a b : D) : cmpD .isin S a b = inD S a b := Eq.trans rfl rfl
@[simp] theorem cmp_nin (S : Sto) (a b : D) : cmpD .notin S a b = (inD S a b).map (!·) := Eq.trans rfl rfl
@[simp] theorem bin_add (S : Sto) (a b : D) : binD .add S a b = addI S a b := Eq.trans rfl rfl
@[simp] theorem bin_sub (S : Sto) (a b : D) : binD .sub S a b = subI a b := Eq.trans rfl rfl
@[simp] theorem bin_mul (S : Sto) (a b : D) : binD .mul S a b = mulI a b := Eq.trans rfl rfl
@[simp] theorem bin_fdiv (S : Sto) (a b : D) : binD .fdiv S a b = fdivI a b := Eq.trans rfl rfl
@[simp] theorem bin_mod (S : Sto) (a b : D) : binD .mod S a b = modI a b := Eq.trans rfl rfl
@[simp] theorem bin_pow (S : Sto) (a b : D) : binD .pow S a b = powI a b := Eq.trans rfl rfl
@[simp] theorem eqD_int (S : Sto) (i j : Int) : eqD S (.int i) (.int j) = some (decide (i = j)) := Eq.trans rfl rfl
theorem eqD_str' (S : Sto) (a b : Str) : eqD S (.str a) (.str b) = some (decide (a = b)) := rfl
@[simp] theorem eqD_str (S : Sto) (a b : List Nat) : eqD S (.str (sl a)) (.str (sl b)) = some (decide (a = b)) := by
  rw [eqD_str']
  simp only [sl_inj]
/-! ### one step at a time: what comes first is worked out first -/
theorem bind_congr1 {α β : Type} {a a' : Option α} {f : α → Option β} (h : a = a') : a.bind f = a'.bind f := by rw [h]
theorem map_congr1 {α β : Type} {a a' : Option α} {f : α → β} (h : a = a') : a.map f = a'.map f := by rw [h]
@[simp high] theorem obs {α β : Type} {a : α} {f : α → Option β} : (some a).bind f = f a := Eq.trans rfl rfl
@[simp high] theorem oms {α β : Type} {a : α} {f : α → β} : (some a).map f = some (f a) := Eq.trans rfl rfl
def onB {α : Type} (d : D) (t f : Option α) : Option α := match d with
  | .bl true => t
  | .bl false => f
  | _ => none
theorem onB_congr {α : Type} {d d' : D} {t f : Option α} (h : d = d') : onB d t f = onB d' t f := by rw [h]
@[simp] theorem onB_t {α : Type} {t f : Option α} : onB (.bl true) t f = t := rfl
@[simp] theorem onB_f {α : Type} {t f : Option α} : onB (.bl false) t f = f := rfl
def seqO (o : Option Out) (k : Env → Sto → Option Out) : Option Out := match o with
  | some (.nx ρ S) => k ρ S
  | o => o
theorem seqO_congr {o o' : Option Out} {k : Env → Sto → Option Out} (h : o = o') : seqO o k = seqO o' k := by rw [h]
@[simp] theorem seqO_nx {ρ : Env} {S : Sto} {k : Env → Sto → Option Out} : seqO (some (.nx ρ S)) k = k ρ S := rfl
@[simp] theorem seqO_rt {d : D} {S : Sto} {k : Env → Sto → Option Out} : seqO (some (.rt d S)) k = some (.rt d S) := rfl
@[simp] theorem seqO_bk {ρ : Env} {S : Sto} {k : Env → Sto → Option Out} : seqO (some (.bk ρ S)) k = some (.bk ρ S) := rfl
@[simp] theorem seqO_ct {ρ : Env} {S : Sto} {k : Env → Sto → Option Out} : seqO (some (.ct ρ S)) k = some (.ct ρ S) := rfl
@[simp] theorem seqO_none {k : Env → Sto → Option Out} : seqO none k = none := rfl
section
variable {C : Ctx} {ρ : Env} {S : Sto} {a b c e o i : E} {as bs cs ds : List E}
@[simp] theorem ev_slot {n : Nat} : evE C (.slot n) ρ S = (slotD ρ n).map fun d => (d, S) := by unfold evE; rfl
@[simp] theorem ev_cst {d : D} : evE C (.cst d) ρ S = some (d, S) := by unfold evE; rfl
@[simp] theorem ev_glob {x : Str} : evE C (.glob x) ρ S = (C.glob x).map fun d => (d, S) := by unfold evE; rfl
@[simp] theorem ev_bin {op : Op} : evE C (.bin op a b) ρ S = (evE C a ρ S).bind fun x => (evE C b ρ x.2).bind fun y => (binD op y.2 x.1 y.1).map fun d => (d, y.2) := by rw [evE]
@[simp] theorem ev_cmp {op : Cm} : evE C (.cmp op a b) ρ S = (evE C a ρ S).bind fun x => (evE C b ρ x.2).bind fun y => (cmpD op y.2 x.1 y.1).map fun d => (.bl d, y.2) := by rw [evE]
@[simp] theorem ev_chain {o1 o2 : Cm} : evE C (.chain o1 o2 a b c) ρ S = (evE C a ρ S).bind fun x => (evE C b ρ x.2).bind fun y => (cmpD o1 y.2 x.1 y.1).bind fun r => onB (.bl r) ((evE C c ρ y.2).bind fun z => (cmpD o2 z.2 y.1 z.1).map fun d => (.bl d, z.2)) (some (.bl false, y.2)) := by
  rw [evE]
  congr 1; funext x; congr 1; funext y; congr 1; funext r
  cases r <;> rfl
@[simp] theorem ev_and : evE C (.and a b) ρ S = (evE C a ρ S).bind fun x => onB x.1 (evE C b ρ x.2) (some (.bl false, x.2)) := by
  rw [evE]; congr 1
@[simp] theorem ev_or : evE C (.or a b) ρ S = (evE C a ρ S).bind fun x => onB x.1 (some (.bl true, x.2)) (evE C b ρ x.2) := by
  rw [evE]; congr 1; funext x
  cases x.1 with
  | bl k => cases k <;> rfl
  | _ => rfl
@[simp] theorem ev_not : evE C (.not a) ρ S = (evE C a ρ S).bind fun x => onB x.1 (some (.bl false, x.2)) (some (.bl true, x.2)) := by
  rw [evE]; congr 1; funext x; unfold onB
  cases x.1 with
  | bl b => cases b <;> rfl
  | _ => rfl
@[simp] theorem ev_ite : evE C (.ite c a b) ρ S = (evE C c ρ S).bind fun x => onB x.1 (evE C a ρ x.2) (evE C b ρ x.2) := by
  rw [evE]; congr 1
@[simp] theorem ev_call {g : Str} {ds : List D} : evE C (.call g as ds) ρ S = (evEs C as ρ S).bind fun x => C.call g (x.1 ++ ds) x.2 := by rw [evE]
@[simp] theorem ev_callk {g : Str} {ord : List (Nat ⊕ D)} : evE C (.callk g as ord) ρ S = (evEs C as ρ S).bind fun x => (ordD x.1 ord).bind fun vs => C.call g vs x.2 := by rw [evE]
@[simp] theorem ev_callc {g lf : Str} {n : Nat} {caps : List Nat} {ds : List D} : evE C (.callc g e n lf caps ds) ρ S = (evE C e ρ S).bind fun x => (slotD ρ n).bind fun _ => (capD ρ caps).bind fun ws => C.call g (x.1 :: .clo lf ws :: ds) x.2 := by rw [evE]
@[simp] theorem ev_callp {g : Str} {n : Nat} {ds : List D} : evE C (.callp g e n as ds) ρ S = (evE C e ρ S).bind fun x => (slotD ρ n).bind fun d => (evEs C as ρ x.2).bind fun y => C.call g (x.1 :: d :: (y.1 ++ ds)) y.2 := by rw [evE]
theorem ev_callv {n : Nat} {lf : Str} {ws : List D} (h : slotD ρ n = some (.clo lf ws)) : evE C (.callv n as) ρ S = (evEs C as ρ S).bind fun x => C.call lf (x.1 ++ ws) x.2 := by rw [evE, h]; rfl
@[simp] theorem ev_mk {fz : Bool} {x : Str} : evE C (.mk fz x as) ρ S = (evEs C as ρ S).bind fun y => mkObj C fz x y.1 y.2 := by rw [evE]
@[simp] theorem ev_meth {m : Str} : evE C (.meth o m as) ρ S = (evE C o ρ S).bind fun x => (clsOf x.2 x.1).bind fun c => (C.meth c m).bind fun g => onB (.bl (fldD x.2 x.1 m).isNone) ((evEs C as ρ x.2).bind fun y => C.call g (x.1 :: y.1) y.2) none := by
  rw [evE]; congr 1; funext x; congr 1; funext c; congr 1; funext g
  cases (fldD x.2 x.1 m).isNone <;> rfl
@[simp] theorem ev_bi {k : Bi} : evE C (.bi k as) ρ S = (evEs C as ρ S).bind fun x => (biD k x.1 x.2).map fun d => (d, x.2) := by rw [evE]
@[simp] theorem ev_bm {T : Ty} {k : Bm} : evE C (.bm T k o as) ρ S = (evE C o ρ S).bind fun x => onB (.bl (chkTy T x.2 x.1)) ((evEs C as ρ x.2).bind fun y => bmD k x.1 y.1 y.2) none := by
  rw [evE]; congr 1; funext x
  cases chkTy T x.2 x.1 <;> rfl
@[simp] theorem ev_isi {n : String} : evE C (.isi e n) ρ S = (evE C e ρ S).bind fun x => (isinD x.2 n x.1).map fun b => (.bl b, x.2) := by rw [evE]
@[simp] theorem ev_fld {f : Str} : evE C (.fld o f) ρ S = (evE C o ρ S).bind fun x => (clsOf x.2 x.1).bind fun c => onB (.bl (C.meth c f).isNone) ((fldD x.2 x.1 f).map fun d => (d, x.2)) none := by
  rw [evE]; congr 1; funext x; congr 1; funext c
  cases (C.meth c f).isNone <;> rfl
@[simp] theorem ev_sub : evE C (.sub o i) ρ S = (evE C o ρ S).bind fun x => (evE C i ρ x.2).bind fun y => (subD y.2 x.1 y.1).map fun d => (d, y.2) := by rw [evE]
@[simp] theorem ev_slice : evE C (.slice o as bs) ρ S = (evE C o ρ S).bind fun x => (evEs C as ρ x.2).bind fun y => (evEs C bs ρ y.2).bind fun z => (allInt y.1).bind fun l => (allInt z.1).bind fun h => (sliceD z.2 x.1 l.head? h.head?).map fun d => (d, z.2) := by rw [evE]
@[simp] theorem ev_tup : evE C (.tup as) ρ S = (evEs C as ρ S).bind fun x => if x.1.length ≤ sizeLine then some (.tup x.1, x.2) else none := by rw [evE]
@[simp] theorem ev_lst {m : Bool} : evE C (.lst m as) ρ S = (evEs C as ρ S).bind fun x => mkLst m x.1 x.2 := by rw [evE]
@[simp] theorem ev_dict {m : Bool} : evE C (.dict m) ρ S = if m then some (.loc S.length, S ++ [.dct []]) else some (.dct [] [], S) := by rw [evE]
@[simp] theorem ev_comp {m : Bool} {own : List Nat} {t : T} {k : SrcK} : evE C (.comp m own e t k as cs) ρ S = (evEs C as ρ S).bind fun x => (itemsD k x.1 x.2).bind fun xs => (compL (holdD x.1 x.2) (evE C e) (evCs C cs) t xs (wipeE ρ own) x.2).bind fun z => mkLst m z.1 z.2 := by rw [evE]
@[simp] theorem ev_fstr : evE C (.fstr as) ρ S = (evEs C as ρ S).bind fun x => (txtL x.1).bind fun y => if y.length ≤ sizeLine then some (.str y, x.2) else none := by rw [evE]
theorem ev_stro : evE C (.stro e) ρ S = (evE C e ρ S).bind fun x => match x.1 with
    | .str z => some (.str z, x.2)
    | d => (clsOf x.2 d).bind fun c => (C.meth c "__str__").bind fun g => (C.init g [d] x.2).bind fun r => match r.1 with
      | .str z => some (.str z, r.2)
      | _ => none := by
  rw [evE]; all_goals congr 1
theorem ev_stro_s {x : Str} {S' : Sto} (h : evE C e ρ S = some (.str x, S')) : evE C (.stro e) ρ S = some (.str x, S') := by rw [ev_stro, h]; rfl
theorem ev_isc {c : Str} : evE C (.isc e c) ρ S = (evE C e ρ S).bind fun x => (iscD x.2 c x.1).map fun b => (.bl b, x.2) := by rw [evE]
theorem ev_eqo {neg : Bool} : evE C (.eqo neg a b) ρ S = (evE C a ρ S).bind fun x => (evE C b ρ x.2).bind fun y => (clsOf y.2 x.1).bind fun c => if eqOk y.2 c y.1 = true then (C.meth c "__eq__").bind fun g => ((if neg then C.init else C.call) g [x.1, y.1] y.2).bind fun r => match r.1 with
    | .bl k => some (.bl (k != neg), r.2)
    | _ => none else none := by
  rw [evE]; all_goals congr 1
theorem ev_ino {neg : Bool} : evE C (.ino neg a b) ρ S = (evE C a ρ S).bind fun x => (evE C b ρ x.2).bind fun y => (lsOf y.2 y.1).bind fun xs => (anyVD C.meth C.init y.2 x.1 xs).map fun k => (.bl (k != neg), y.2) := by rw [evE]
theorem ev_idxo : evE C (.idxo a b) ρ S = (evE C a ρ S).bind fun x => (lsOf x.2 x.1).bind fun _ => (evE C b ρ x.2).bind fun y => (lsOf y.2 x.1).bind fun xs => (idxVD C.meth C.init y.2 y.1 xs 0).map fun k => (.int (k : Nat), y.2) := by rw [evE]
theorem ev_sortm : evE C (.sortm e) ρ S = (evE C e ρ S).bind fun x => (sortedD x.2 x.1).bind fun ss => if ss.length < 64 then some (.loc x.2.length, x.2 ++ [.lst ((sortS ss).map D.str)]) else none := by rw [evE]
theorem ev_emp : evE C (.emp e) ρ S = (evE C e ρ S).bind fun x => match x.1 with
    | .dct ks _ => some (.bl ks.isEmpty, x.2)
    | _ => none := by
  rw [evE]; all_goals congr 1
theorem ev_sset : evE C (.sset e) ρ S = (evE C e ρ S).bind fun x => (ssetD x.2 x.1).map fun d => (d, x.2) := by rw [evE]
theorem ev_leno : evE C (.leno e) ρ S = (evE C e ρ S).bind fun x => (clsOf x.2 x.1).bind fun c => (C.meth c "__len__").bind fun g => (C.init g [x.1] x.2).bind fun r => match r.1 with
    | .int k => if 0 ≤ k ∧ k < 2 ^ 62 then some (.int k, r.2) else none
    | _ => none := by
  rw [evE]; all_goals congr 1
theorem ev_frzk : evE C (.frzk e) ρ S = (evE C e ρ S).bind fun x => frzkD S x := by rw [evE]
@[simp] theorem evEs_nil : evEs C [] ρ S = some ([], S) := by rw [evEs]
@[simp] theorem evEs_cons : evEs C (e :: as) ρ S = (evE C e ρ S).bind fun x => (evEs C as ρ x.2).map fun y => (x.1 :: y.1, y.2) := by rw [evEs]
@[simp] theorem evCs_nil : evCs C [] ρ S = some (true, S) := by rw [evCs]
@[simp] theorem evCs_cons : evCs C (e :: as) ρ S = (evE C e ρ S).bind fun x => onB x.1 (evCs C as ρ x.2) (some (false, x.2)) := by
  rw [evCs]; congr 1
@[simp] theorem evSs_nil : evSs C [] ρ S = some (.nx ρ S) := by rw [evSs]
@[simp] theorem evSs_cons {s : Sm} {ss : List Sm} : evSs C (s :: ss) ρ S = seqO (evS C s ρ S) (evSs C ss) := by
  rw [evSs]
  cases evS C s ρ S with
  | none => rfl
  | some o => cases o <;> rfl
variable {t : T} {ss sa sb : List Sm}
@[simp] theorem es_asg : evS C (.asg t e) ρ S = (evE C e ρ S).bind fun x => (setT t x.1 ρ x.2).map fun r => .nx r.1 r.2 := by rw [evS]
@[simp] theorem es_setfld {f : Str} : evS C (.setfld o f e) ρ S = (evE C e ρ S).bind fun x => (evE C o ρ x.2).bind fun y => (setfldD C y.2 y.1 f x.1).map fun S' => .nx ρ S' := by rw [evS]
@[simp] theorem es_setsub : evS C (.setsub o i e) ρ S = (evE C e ρ S).bind fun x => (evE C o ρ x.2).bind fun y => (evE C i ρ y.2).bind fun z => (setsubD z.2 y.1 z.1 x.1).map fun S' => .nx ρ S' := by rw [evS]
@[simp] theorem es_aug {n : Nat} {op : Op} : evS C (.aug n op e) ρ S = (slotD ρ n).bind fun a => (evE C e ρ S).bind fun x => (augD op x.2 a x.1).bind fun d => if n < ρ.length then some (.nx (ρ.set n (some d)) x.2) else none := by rw [evS]
@[simp] theorem es_augfld {f : Str} {op : Op} : evS C (.augfld o f op e) ρ S = (evE C o ρ S).bind fun x => (clsOf x.2 x.1).bind fun c => (onB (.bl (C.meth c f).isNone) (fldD x.2 x.1 f) none).bind fun a => (evE C e ρ x.2).bind fun y => (augD op y.2 a y.1).bind fun d => if clsOf y.2 x.1 = some c then (setfldD C y.2 x.1 f d).map fun S' => .nx ρ S' else none := by
  rw [evS]; congr 1; funext x; congr 1; funext c; congr 1
  cases (C.meth c f).isNone <;> rfl
@[simp] theorem es_ex : evS C (.ex e) ρ S = (evE C e ρ S).map fun x => .nx ρ x.2 := by rw [evS]
@[simp] theorem es_ret : evS C (.ret e) ρ S = (evE C e ρ S).map fun x => .rt x.1 x.2 := by rw [evS]
@[simp] theorem es_ite : evS C (.ite c sa sb) ρ S = (evE C c ρ S).bind fun x => onB x.1 (evSs C sa ρ x.2) (evSs C sb ρ x.2) := by rw [evS]; congr 1
@[simp] theorem es_whil : evS C (.whil c sa) ρ S = whileL (evE C c) (evSs C sa) ρ S := by rw [evS]
@[simp] theorem es_for {k : SrcK} : evS C (.for_ t k as sa) ρ S = (evEs C as ρ S).bind fun x => (itemsD k x.1 x.2).bind fun xs => forL (holdD x.1 x.2) t (evSs C sa) xs ρ x.2 := by rw [evS]
@[simp] theorem es_pass : evS C .pass ρ S = some (.nx ρ S) := by rw [evS]
@[simp] theorem es_brk : evS C .brk ρ S = some (.bk ρ S) := by rw [evS]
@[simp] theorem es_cnt : evS C .cnt ρ S = some (.ct ρ S) := by rw [evS]
@[simp] theorem es_ndef {n : Nat} {g : Str} : evS C (.ndef n g) ρ S = if n < ρ.length then some (.nx (ρ.set n (some (.clo g []))) S) else none := by rw [evS]
end
@[simp] theorem slot_at {ρ : Env} {i : Nat} : slotD ρ i = (ρ[i]?).bind fun x => x := by
  unfold slotD
  cases ρ[i]? with
  | none => rfl
  | some x => cases x <;> rfl
section
variable {ρ : Env} {S : Sto} {d : D} {i : Nat} {m : Bool} {t : T} {ts : List T} {xs : List D} {x : D}
@[simp] theorem st_name : setT (.name i) d ρ S = if i < ρ.length then some (ρ.set i (some d), S) else none := by rw [setT]
@[simp] theorem st_tup_t : setT (.tup ts) (.tup xs) ρ S = setTs ts xs ρ S := by rw [setT]
@[simp] theorem st_tup_l : setT (.tup ts) (.lst xs) ρ S = setTs ts xs ρ S := by rw [setT]
@[simp] theorem st_star : setT (.star m ts i) (.tup xs) ρ S = if ts.length ≤ xs.length ∧ xs.length ≤ sizeLine then
        (setTs ts (xs.take ts.length) ρ (if m then S ++ [.lst (xs.drop ts.length)] else S)).bind fun r =>
          if i < r.1.length then some (r.1.set i (some (if m then .loc S.length else .lst (xs.drop ts.length))), r.2) else none
        else none := by rw [setT]
@[simp] theorem sts_nil : setTs [] [] ρ S = some (ρ, S) := by rw [setTs]
@[simp] theorem sts_cons : setTs (t :: ts) (x :: xs) ρ S = (setT t x ρ S).bind fun r => setTs ts xs r.1 r.2 := by rw [setTs]
@[simp] theorem cap_nil : capD ρ [] = some [] := by rw [capD]
@[simp] theorem cap_cons {r : List Nat} : capD ρ (i :: r) = (slotD ρ i).bind fun d => (capD ρ r).map (d :: ·) := by rw [capD]
end
/-! ### calls -/
noncomputable def finO (m : Mode) (S : Sto) (o : Option Out) : Option (D × Sto) := match o with
  | some (.rt d S') => fin m S d S'
  | some (.nx _ S') => fin m S .non S'
  | _ => none
theorem finO_congr {m : Mode} {S : Sto} {o o' : Option Out} (h : o = o') : finO m S o = finO m S o' := by rw [h]
@[simp] theorem finO_rt {m : Mode} {S S' : Sto} {d : D} : finO m S (some (.rt d S')) = fin m S d S' := rfl
@[simp] theorem finO_nx {m : Mode} {S S' : Sto} {ρ : Env} : finO m S (some (.nx ρ S')) = fin m S .non S' := rfl
@[simp] theorem fin_raw {S S' : Sto} {d : D} : fin .raw S d S' = some (d, S') := rfl
theorem callF_step {P : Pr} {g : Str} {f : Fn} (h : P.fn g = some f) {d : Nat} {as : List D} {S : Sto} (hl : as.length = f.np) : callF P (d + 1) g as S = finO f.mode S (evSs (ctxP P d) f.body (as.map some ++ List.replicate (f.ns - f.np) none) S) := by
  rw [callF_succ, h, Option.bind_some, if_pos hl]
  cases evSs (ctxP P d) f.body (as.map some ++ List.replicate (f.ns - f.np) none) S with
  | none => rfl
  | some o => cases o <;> rfl
@[simp] theorem ctx_call {P : Pr} {d : Nat} : (ctxP P d).call = callF P d := rfl
@[simp] theorem ctx_init {P : Pr} {d : Nat} : (ctxP P d).init = callF P (d - 1) := rfl
@[simp] theorem ctx_glob {P : Pr} {d : Nat} : (ctxP P d).glob = P.glob := rfl
@[simp] theorem ctx_meth {P : Pr} {d : Nat} : (ctxP P d).meth = P.meth := rfl
/-! ### stores -/
section
variable {S : Sto} {n : Nat} {k i : Int} {d x y : D} {f : Str}
@[simp] theorem sub_loc : subD S (.loc n) (.int k) = (S[n]?).bind fun c => match c with
    | .lst xs => L2.atI xs k
    | .dct kvs => getK (.inl k) kvs
    | _ => none := by
  show (match S[n]?, D.int k with
    | some (.lst xs), .int i => L2.atI xs i
    | some (.dct kvs), i => (keyOf i).bind fun k => getK k kvs
    | _, _ => none) = _
  cases S[n]? with
  | none => rfl
  | some c => cases c <;> rfl
@[simp] theorem sub_tup {xs : List D} : subD S (.tup xs) (.int k) = L2.atI xs k := rfl
@[simp] theorem sub_lst {xs : List D} : subD S (.lst xs) (.int k) = L2.atI xs k := rfl
@[simp] theorem sub_scr {xs : List Int} : subD S (.scr xs) (.int k) = (L2.atI xs k).map D.int := rfl
@[simp] theorem at_0 {α : Type} {a : α} {l : List α} : L2.atI (a :: l) 0 = some a := by
  unfold L2.atI L2.ixN
  rw [if_pos (by decide), if_pos (by simp only [List.length_cons]; omega)]; rfl
@[simp] theorem at_1 {α : Type} {a b : α} {l : List α} : L2.atI (a :: b :: l) 1 = some b := by
  unfold L2.atI L2.ixN
  rw [if_pos (by decide), if_pos (by simp only [List.length_cons]; omega)]; rfl
@[simp] theorem at_2 {α : Type} {a b c : α} {l : List α} : L2.atI (a :: b :: c :: l) 2 = some c := by
  unfold L2.atI L2.ixN
  rw [if_pos (by decide), if_pos (by simp only [List.length_cons]; omega)]; rfl
theorem at_nat {α : Type} {l : List α} {j : Nat} : L2.atI l (j : Int) = l[j]? := by
  unfold L2.atI L2.ixN
  rw [if_pos (by omega)]
  by_cases h : j < l.length
  · rw [if_pos (by omega)]; rfl
  · rw [if_neg (by omega), List.getElem?_eq_none (by omega)]; rfl
@[simp] theorem ssub_loc : setsubD S (.loc n) (.int k) d = (S[n]?).bind fun c => match c with
    | .lst xs => (L2.ixN xs.length k).map fun j => S.set n (.lst (xs.set j d))
    | .dct kvs => if kvs.length < sizeLine then some (S.set n (.dct (putK (.inl k) d kvs))) else none
    | _ => none := by
  show (match S[n]? with
    | some (.lst xs) => match D.int k with
      | .int k => (L2.ixN xs.length k).map fun j => S.set n (.lst (xs.set j d))
      | _ => none
    | some (.dct kvs) => (keyOf (D.int k)).bind fun k => if kvs.length < sizeLine then some (S.set n (.dct (putK k d kvs))) else none
    | _ => none) = _
  cases S[n]? with
  | none => rfl
  | some c => cases c <;> rfl
@[simp] theorem ix_0 {m : Nat} : L2.ixN (m + 1) 0 = some 0 := by
  unfold L2.ixN
  rw [if_pos (by decide), if_pos (by omega)]; rfl
@[simp] theorem ix_1 {m : Nat} : L2.ixN (m + 1 + 1) 1 = some 1 := by
  unfold L2.ixN
  rw [if_pos (by decide), if_pos (by omega)]; rfl
@[simp] theorem fld_loc : fldD S (.loc n) f = (S[n]?).bind fun c => match c with
    | .obj _ fs => getFd f fs
    | _ => none := by
  show (match S[n]? with | some (.obj _ fs) => getFd f fs | _ => none) = _
  cases S[n]? with
  | none => rfl
  | some c => cases c <;> rfl
@[simp] theorem fld_ins {c : Str} {fs : List Str} {vs : List D} : fldD S (.ins c fs vs) f = getFd f (fs.zip vs) := rfl
@[simp] theorem cls_loc : clsOf S (.loc n) = (S[n]?).bind fun c => match c with
    | .obj c _ => some c
    | _ => none := by
  show (match S[n]? with | some (.obj c _) => some c | _ => none) = _
  cases S[n]? with
  | none => rfl
  | some c => cases c <;> rfl
@[simp] theorem cls_ins {c : Str} {fs : List Str} {vs : List D} : clsOf S (.ins c fs vs) = some c := rfl
end
/-! ### loops -/
def seqL (o : Option Out) (k : Env → Sto → Option Out) : Option Out := match o with
  | some (.nx ρ S) => k ρ S
  | some (.ct ρ S) => k ρ S
  | some (.bk ρ S) => some (.nx ρ S)
  | some (.rt d S) => some (.rt d S)
  | none => none
theorem seqL_congr {o o' : Option Out} {k : Env → Sto → Option Out} (h : o = o') : seqL o k = seqL o' k := by rw [h]
@[simp] theorem seqL_nx {ρ : Env} {S : Sto} {k : Env → Sto → Option Out} : seqL (some (.nx ρ S)) k = k ρ S := rfl
@[simp] theorem seqL_ct {ρ : Env} {S : Sto} {k : Env → Sto → Option Out} : seqL (some (.ct ρ S)) k = k ρ S := rfl
@[simp] theorem seqL_bk {ρ : Env} {S : Sto} {k : Env → Sto → Option Out} : seqL (some (.bk ρ S)) k = some (.nx ρ S) := rfl
@[simp] theorem seqL_rt {d : D} {S : Sto} {k : Env → Sto → Option Out} : seqL (some (.rt d S)) k = some (.rt d S) := rfl
theorem forL_nil {P : Sto → Prop} {t : T} {b : Env → Sto → Option Out} {ρ : Env} {S : Sto} (h : P S) : forL P t b [] ρ S = some (.nx ρ S) := by unfold forL; rw [if_pos h]
theorem forL_cons {P : Sto → Prop} {t : T} {b : Env → Sto → Option Out} {ρ : Env} {S : Sto} {x : D} {xs : List D} (h : P S) : forL P t b (x :: xs) ρ S = (setT t x ρ S).bind fun r => seqL (b r.1 r.2) (forL P t b xs) := by
  rw [forL, if_pos h]
  congr 1
theorem whileL_step {c : Env → Sto → Option (D × Sto)} {b : Env → Sto → Option Out} {ρ : Env} {S : Sto} : whileL c b ρ S = (c ρ S).bind fun x => onB x.1 (seqL (b ρ x.2) (whileL c b)) (some (.nx ρ x.2)) := by
  rw [whileL_eq]
  cases c ρ S with
  | none => rfl
  | some x =>
    obtain ⟨d, S1⟩ := x
    cases d with
    | bl k =>
      cases k with
      | false => rfl
      | true =>
        show (match b ρ S1 with
          | some (.nx ρ' S') => whileL c b ρ' S'
          | some (.ct ρ' S') => whileL c b ρ' S'
          | some (.bk ρ' S') => some (.nx ρ' S')
          | some (.rt d S') => some (.rt d S')
          | none => none) = seqL (b ρ S1) (whileL c b)
        cases b ρ S1 with
        | none => rfl
        | some o => cases o <;> rfl
    | _ => rfl
theorem compL_nil {P : Sto → Prop} {elt : Env → Sto → Option (D × Sto)} {cs : Env → Sto → Option (Bool × Sto)} {t : T} {ρ : Env} {S : Sto} (h : P S) : compL P elt cs t [] ρ S = some ([], S) := by unfold compL; rw [if_pos h]
theorem compL_cons {P : Sto → Prop} {elt : Env → Sto → Option (D × Sto)} {cs : Env → Sto → Option (Bool × Sto)} {t : T} {ρ : Env} {S : Sto} {x : D} {xs : List D} (h : P S) : compL P elt cs t (x :: xs) ρ S = (setT t x ρ S).bind fun r => (cs r.1 r.2).bind fun q => onB (.bl q.1) ((elt r.1 q.2).bind fun e => (compL P elt cs t xs ρ e.2).map fun z => (e.1 :: z.1, z.2)) (compL P elt cs t xs ρ q.2) := by
  rw [compL, if_pos h]
  congr 1; funext r; congr 1; funext q
  cases q.1 <;> rfl
@[simp] theorem hold_int {S S' : Sto} {i : Int} : holdD [.int i] S S' := fun n h => by simp at h
@[simp] theorem hold_str {S S' : Sto} {i : Str} : holdD [.str i] S S' := fun n h => by simp at h
@[simp] theorem hold_lst {S S' : Sto} {i : List D} : holdD [.lst i] S S' := fun n h => by simp at h
@[simp] theorem hold_tup {S S' : Sto} {i : List D} : holdD [.tup i] S S' := fun n h => by simp at h
@[simp] theorem hold_scr {S S' : Sto} {i : List Int} : holdD [.scr i] S S' := fun n h => by simp at h
@[simp] theorem wipe_nil {ρ : Env} : wipeE ρ [] = ρ := rfl
@[simp] theorem wipe_cons {ρ : Env} {v : Nat} {vs : List Nat} : wipeE ρ (v :: vs) = (wipeE ρ vs).set v none := rfl
@[simp] theorem at_3 {α : Type} {a b c d : α} {l : List α} : L2.atI (a :: b :: c :: d :: l) 3 = some d := by
  unfold L2.atI L2.ixN
  rw [if_pos (by decide), if_pos (by simp only [List.length_cons]; omega)]; rfl
/-! ### equality of plain data -/
@[simp] theorem szl : sizeLine = 16777216 := PySem.sizeLine_eq
@[simp] theorem datas_nil : D.datas [] = true := by unfold D.datas; rfl
@[simp] theorem datas_cons {x : D} {xs : List D} : D.datas (x :: xs) = (x.data && D.datas xs) := by rw [D.datas]
@[simp] theorem data_lst {xs : List D} : (D.lst xs).data = D.datas xs := by rw [D.data]
@[simp] theorem data_tup {xs : List D} : (D.tup xs).data = D.datas xs := by rw [D.data]
@[simp] theorem data_int {i : Int} : (D.int i).data = true := by rw [D.data]
@[simp] theorem data_bl {i : Bool} : (D.bl i).data = true := by rw [D.data]
/-- signs that a text may have -/
def okL (l : List Nat) : Bool := l.all (· < 0x110000)
@[simp] theorem data_str {l : List Nat} : (D.str (sl l)).data = okL l := by
  rw [D.data]
  show Array.all l.toArray _ = _
  simp [okL]
@[simp] theorem datas_app {xs ys : List D} : D.datas (xs ++ ys) = (D.datas xs && D.datas ys) := by
  induction xs with
  | nil => simp
  | cons x xs ih => simp [ih, Bool.and_assoc]
theorem eqD_nil {S : Sto} {xs : List D} (h : D.datas xs = true) : eqD S (.lst xs) (.lst []) = some (xs.isEmpty) := by
  have e : eqD S (.lst xs) (.lst []) = if (D.lst xs).data && (D.lst []).data && decide (min (D.lst xs).py.depth (D.lst []).py.depth ≤ 150) then some (PyData.eqv (D.lst xs).py (D.lst []).py) else none := rfl
  rw [e]
  have h2 : (D.lst ([] : List D)).py.depth = 1 := by simp [D.py, D.pys, PyData.depth, PyData.depthAll]
  rw [h2]
  simp only [data_lst, h, datas_nil, Bool.and_self, Bool.true_and, decide_eq_true_eq]
  rw [if_pos (by omega)]
  cases xs with
  | nil => simp [D.py, D.pys, PyData.eqv, PyData.eqvAll]
  | cons x xs => simp [D.py, D.pys, PyData.eqv, PyData.eqvAll]
theorem eqD_loc {S : Sto} {n : Nat} {xs : List D} (hn : S[n]? = some (.lst xs)) (y : D) : eqD S (.loc n) y = eqD S (.lst xs) y := by
  have e1 : scalE (.loc n) y = none := by cases y <;> rfl
  have e2 : scalE (.lst xs) y = none := by cases y <;> rfl
  have e3 : val S (.loc n) = .lst xs := by
    unfold val
    simp only [hn]
  have e4 : val S (.lst xs) = .lst xs := rfl
  unfold eqD
  rw [e1, e2, e3, e4]
/-! ### constants -/
theorem pow_18 : powI (.int 10) (.int 18) = some (.int (10 ^ 18)) := by simp only [powI]; rw [if_pos (by decide +kernel)]; rfl
theorem pow_60 : powI (.int 10) (.int 60) = some (.int (10 ^ 60)) := by simp only [powI]; rw [if_pos (by decide +kernel)]; rfl
theorem pow_60_10 : powI (.int (10 ^ 60)) (.int 10) = some (.int ((10 ^ 60) ^ 10)) := by simp only [powI]; rw [if_pos (by decide +kernel)]; rfl
theorem pow_60_8 : powI (.int (10 ^ 60)) (.int 8) = some (.int ((10 ^ 60) ^ 8)) := by simp only [powI]; rw [if_pos (by decide +kernel)]; rfl
end Fw

set_option Elab.async false
set_option linter.all false
set_option maxRecDepth 100000
/-! FwU: an exception that is caught is a value from then on. -/
namespace Fw
open PySem L2 PySem.Spec PyProof.Rows
open Evl (Ex)
section
variable {X : Cx} {pins : List (Addr × Obj)} {σ : L2.St} {H : Hp} {s sI : Shared} {a : Addr}
theorem Inv.track (J : Inv X pins σ H sI) (hI : sI.heap.get? a = none) (I : Inv X pins σ H s) (na : H a = none) {o : HO} (new : ObjOk X.prog X.w (upd H a o) s.heap a o) : Inv X pins σ (upd H a o) s := by
  have nI : ∀ {b : Addr} {u : Obj}, sI.heap.get? b = some u → b ≠ a := fun {b u} q z => by rw [z, hI] at q; cases q
  have nH : ∀ {b : Addr} {u : HO}, H b = some u → b ≠ a := fun {b u} q z => by rw [z, na] at q; cases q
  refine ⟨I.ok, I.os, I.bare, ⟨I.base.keep, I.base.slot, fun b u e n hx => ?_, I.base.there, fun b xs e => ?_, fun b ob u e => ?_, fun b ps e => ?_⟩, I.loc, I.cell, ?_, fun x c e => ?_, fun p hp => ?_, fun b u e => ?_, I.len⟩
  · obtain ⟨u', q⟩ := J.base.there b u e hx
    rw [upd_ne (nI q)]
    exact I.base.free b u e n hx
  · have q := I.base.tups b xs e
    rw [upd_ne (nH q)]
    exact q
  · have q := I.base.frzs b ob u e
    rw [upd_ne (nH q)]
    exact q
  · obtain ⟨more, q⟩ := I.base.tbls b ps e
    exact ⟨more, by rw [upd_ne (nH q)]; exact q⟩
  · obtain ⟨m, hn, _⟩ := J.loc
    obtain ⟨oL, _, _, hoL, _⟩ := hn
    rw [upd_ne (nI hoL)]
    exact I.free
  · obtain ⟨v, q⟩ := J.cell x c e
    obtain ⟨oc, hc, _⟩ := q
    rw [upd_ne (nI hc)]
    exact I.freeC x c e
  · obtain ⟨q1, q2, q3, q4, q5⟩ := I.pin p hp
    obtain ⟨r1, _⟩ := J.pin p hp
    exact ⟨q1, by rw [upd_ne (nI r1)]; exact q2, q3, q4, q5⟩
  · by_cases hb : b = a
    · subst hb
      rw [upd_same] at e
      cases e
      exact new
    · rw [upd_ne hb] at e
      exact (I.hok b u e).stay (fun _ _ _ q => q) (fun c q => by rw [upd_ne (nH q)]; exact q) fun c xs q => by rw [upd_ne (nH q)]; exact q
theorem Inv.suite0 (I : Inv X pins σ H s) (a : Addr) : Inv (X.suite a (X.pn ++ pins)) [] σ H s :=
  ⟨I.ok.suite _ _, I.os, I.bare, I.base, I.loc, I.cell, I.free, I.freeC, fun p hp => I.pin p (by rw [List.append_nil] at hp; exact hp), I.hok, I.len⟩
theorem Inv.unsuite0 {a : Addr} {pn' : List (Addr × Obj)} (I : Inv (X.suite a (X.pn ++ pins)) pn' σ H s) (ok : X.Ok) : Inv X pins σ H s :=
  ⟨ok, I.os, I.bare, I.base, I.loc, I.cell, I.free, I.freeC, fun p hp => I.pin p (List.mem_append_left _ hp), I.hok, I.len⟩
theorem xco_ok {P : Program} {w : World} {h : Heap} {C : Addr} {dd : Option Addr} {oe : Obj} {vs : Array Value} (e : h.get? a = some oe) (z : Zc (.ref C) dd oe) (d : oe.data = .fields vs) : ObjOk P w H h a (XcO C dd a) :=
  ⟨⟨oe, vs, e, z, d⟩, ⟨oe, e⟩, fun _ _ ⟨o, v, q, r⟩ k => ⟨o, v, k o q, r⟩⟩
end
/-- what the clause 'except x as n' wishes of an exception of the body: slot i is n's, the exception is a value -/
def wAsV (K : PySem.W.Frag) (c : Value) (i : Nat) (ts : TS) (Wout : WX) (D : Ends) : WX := fun cls d σ H =>
  ∃ b C, cls = .ref C ∧ PySem.W.exmOne K cls c = some b ∧ (b = true → ∀ a, H a = none → ts { nx := fun σ' H' => D.nx (σ'.set i none) H', rt := D.rt, bk := fun σ' H' => D.bk (σ'.set i none) H', ct := fun σ' H' => D.ct (σ'.set i none) H' } (σ.set i (some (.ref a))) (upd H a (XcO C d a))) ∧
    (b = false → Wout cls d σ H)
section
variable {X : Cx} {x n : Str} {c : Value} {i : Nat} {body suite : List Stmt} {b₀ : Stmt} {np pos pos' : Pos} {tb : WX → TS} {ts : TS} {Wout : WX}
set_option maxHeartbeats 1000000 in
theorem ps_try_asV (hs : X.stack = X.env :: X.outer) (hf : X.env.frame = some X.env.locals) (hN : X.N.Nodup) (hi : X.N[i]? = some n) (hln : X.env.kindOf n = some .local) (hc : Names X x c) (tk : Takes X Wout)
    (hb : ∀ (W : WX) (pn : List (Addr × Obj)) (xe : Value → Shared → Prop), Takes (X.tr pn xe) W → PassesOwn (model X.prog X.w) X.A X.env xe → PSs (X.tr pn xe) body (tb W))
    (hsu : ∀ (a : Addr) (pn : List (Addr × Obj)), PSs (X.suite a pn) (b₀ :: suite) ts) :
    PS X (.Try body [.ExceptHandler (some (.Name x np)) (some n) (b₀ :: suite) pos'] [] [] pos) (fun D σ H => tb (wAsV X.K c i ts Wout D) D σ H) := by
  refine ⟨fun pins s σ H D I h => ?_⟩
  have ok := I.ok
  have hfr : X.A.frames = some (X.env :: X.outer) := by rw [ok.frames, hs]
  have hloc : Loc X.env.scope n := .inl hln
  refine wpAny_Try_except ?_
  refine wpAny_mono ((hb (wAsV X.K c i ts Wout D) (X.pn ++ pins) (fun e s₁ => wpAny (model X.prog X.w) X.A (noteFrame e X.env) (fun _ s₂ => wpAny (model X.prog X.w) X.A (setFlight e none) (fun _ s₃ =>
    wpAny (model X.prog X.w) X.A (handleBy e X.env [.ExceptHandler (some (.Name x np)) (some n) (b₀ :: suite) pos']) (SP X pins D) X.xe s₃) X.xe s₂) X.xe s₁) (fun u s' xx => ?_) PassesOwn.looking).run [] s σ H D (I.toTry _) h) (fun f s1 hsp => ?_) (fun e s1 he => he)
  · -- the catch
    obtain ⟨a, B, sI, pins', σ', H', cls, d, rfl, J', nb, up, sky, na, os, ag, b, C, rfl, hb1, hyes, hno⟩ := xx
    have J : Inv X pins σ' H' sI := J'.ofTry ok
    have sky' : Sky B (X.env :: X.outer) a (Zc (.ref C) d) X.env.locals s'.heap := by rw [← hs]; exact sky
    show wpAny (model X.prog X.w) X.A (noteFrame (.ref a) X.env) _ _ _
    refine Sky.land Zc.steady hfr hf sky' fun h3 fl3 up3 => ?_
    have J3 : Inv X pins σ' H' { s' with heap := h3 } := J.landed nb fl3.1 (up.trans up3) os ag
    obtain ⟨oe3, vs3, he3, hz3, hd3⟩ := fl3.there
    have notFr : ∀ {h : Heap} {o : Obj} {vs : Array Value}, h.FunFrames B (X.env :: X.outer) → h.get? a = some o → o.data = .fields vs → a ∉ frs (X.env :: X.outer) := fun {h o vs} ff e dd hm => by
      obtain ⟨_, o', e', hnf⟩ := ff.mem hm
      rw [e] at e'; cases e'
      exact hnf _ dd
    have nfr := notFr fl3.2.2.1 he3 hd3
    have hI : sI.heap.get? a = none := by
      cases e : sI.heap.get? a with
      | none => rfl
      | some o =>
        have q := nb a o e (by rw [hs]; exact nfr)
        have q2 := fl3.2.1
        rw [q] at q2; cases q2
    refine wpAny_handleBy_cons (codeAny_handlers_test ?_) (by intro q; cases q)
    have LT : PySem.W.Looks (model X.prog X.w) h3 (typeOf (.ref a)) (.ref C) := fun A Q E s k q => wpAny_typeOf_ref (k _ _ he3) (by rw [hz3.1]; exact q)
    have LM := PySem.W.exm_one (M := model X.prog X.w) (J3.kIn) LT hb1
    have S3 : Inv (X.suite a (X.pn ++ pins)) [] σ' H' { s' with heap := h3 } := Inv.suite0 J3 a
    have test : ∀ {Q : Value → Shared → Prop} {E : Value → Shared → Prop}, Q c { s' with heap := h3 } → wpAny (model X.prog X.w) (X.A.mark (some (.ref a))) (eval (.Name x np) X.env) Q E { s' with heap := h3 } := fun {Q E} q => by
      obtain ⟨hg, hdbg, hm | ⟨hm, hv, hnn⟩⟩ := hc
      · exact ld_glob (X := X.suite a (X.pn ++ pins)) S3 hg hm q hdbg
      · exact ld_blt (X := X.suite a (X.pn ++ pins)) S3 hg hm hv q hnn hdbg
    refine test (LM.here ?_)
    cases b with
    | true =>
      refine codeAny_handlers_suite_as ?_
      refine HandSPX.lands_againZ fl3 fun h4 fl4 up4 => ?_
      have J4 : Inv X pins σ' H' { s' with heap := h4 } := J.landed nb fl4.1 ((up.trans up3).trans up4) os ag
      obtain ⟨oe4, vs4, he4, hz4, hd4⟩ := fl4.there
      have T4 : Inv X pins σ' (upd H' a (XcO C d a)) { s' with heap := h4 } := Inv.track J hI J4 na (xco_ok he4 hz4 hd4)
      have S4 : Inv (X.suite a (X.pn ++ pins)) [] σ' (upd H' a (XcO C d a)) { s' with heap := h4 } := Inv.suite0 T4 a
      refine store_ok (X := X.suite a (X.pn ++ pins)) (v := .ref a) S4 hN hi hloc rfl (fun s5 S5 => ?_) (.inr hln)
      refine wpAny_mono ((hsu a (X.pn ++ pins)).run [] s5 _ (upd H' a (XcO C d a)) _ S5 (hyes rfl a na)) (fun f s6 hsp => ?_) (fun _ _ z => False.elim z)
      have end_ : ∀ {σ6 : L2.St} {H6 : Hp} {Q : Shared → Prop}, Inv (X.suite a (X.pn ++ pins)) [] σ6 H6 s6 → (∀ s7, Inv X pins (σ6.set i none) H6 s7 → Q s7) →
          wpAny (model X.prog X.w) X.A (do bindName X.env n .none; unbindBehindTheSuite X.env n pos') (fun _ s7 => Q s7) X.xe s6 := fun {σ6 H6 Q} S6 hq => gone_ok (Inv.unsuite0 S6 ok) hN hi hln hq
      cases f with
      | next =>
        obtain ⟨σ6, H6, S6, q6⟩ := hsp
        exact end_ S6 fun s7 J7 => ⟨_, _, J7, q6⟩
      | brk =>
        obtain ⟨σ6, H6, S6, q6⟩ := hsp
        exact end_ S6 fun s7 J7 => ⟨_, _, J7, q6⟩
      | cont =>
        obtain ⟨σ6, H6, S6, q6⟩ := hsp
        exact end_ S6 fun s7 J7 => ⟨_, _, J7, q6⟩
      | ret u =>
        obtain ⟨v6, σ6, H6, S6, r6, q6⟩ := hsp
        exact end_ S6 fun s7 J7 => ⟨_, _, _, J7, r6, q6⟩
    | false =>
      show wpAny _ X.A (handleBy (.ref a) X.env []) _ _ _
      refine wpAny_handleBy_nil ?_
      obtain ⟨k1, k2, k3, oe, vs, T, oT, ts', he, hz, hd, h1, hr⟩ := id fl3
      unfold PySem.passOn
      refine wpAny_bind (wpAny_field he hd h1 ?_)
      rw [if_neg (show ¬ ((Value.ref T == Value.none) = true) from by simp)]
      have fin : wpAny (model X.prog X.w) X.A (setFlight (.ref a) X.env.frame) (fun _ s4 => wpAny (model X.prog X.w) X.A (throw (.ref a) : Sem Flow) (SP X pins D) X.xe s4) X.xe { s' with heap := h3 } := by
        rw [hf]
        refine HandSPX.setFlight_upZ fl3 fun h4 hh4 up4 => wpAny_throw (tk _ _ ?_)
        exact ⟨a, B, sI, pins, σ', H', .ref C, d, rfl, J, nb, (up.trans up3).trans up4, .inr (.inr (by rw [hs]; exact hh4)), na, os, ag, hno rfl⟩
      first
        | exact wpAny_bind (wpAny_pure (wpAny_bind fin))
        | exact wpAny_bind fin
  · cases f with
    | next =>
      obtain ⟨σ', H', J', q⟩ := hsp
      exact wpAny_execs_nil ⟨σ', H', J'.ofTry ok, q⟩
    | brk =>
      obtain ⟨σ', H', J', q⟩ := hsp
      exact ⟨σ', H', J'.ofTry ok, q⟩
    | cont =>
      obtain ⟨σ', H', J', q⟩ := hsp
      exact ⟨σ', H', J'.ofTry ok, q⟩
    | ret u =>
      obtain ⟨v, σ', H', J', r, q⟩ := hsp
      exact ⟨v, σ', H', J'.ofTry ok, r, q⟩
end
end Fw

set_option Elab.async false
set_option linter.all false
set_option maxRecDepth 100000
/-! FwV: what expressions and statements raise. -/
namespace Fw
open PySem L2 PySem.Spec PyProof.Rows
open Evl (Ex)
def XRep (W : Wd) (F : Hp) (μ : List Addr) (cls : Value) (dd : Option Addr) : D → Prop
  | .exn c fs xs => ∃ C, cls = .ref C ∧ W.xa c = some C ∧ ((dd = none ∧ fs = [] ∧ xs = []) ∨ ∃ dx vs, dd = some dx ∧ F dx = some (.xd (fs.zip vs)) ∧ fs.length = vs.length ∧ Reps W F μ vs xs)
  | _ => False
theorem XRep.mono {W : Wd} {F F' : Hp} {μ μ' : List Addr} {cls : Value} {dd : Option Addr} {x : D} (e : Ex F F') (p : μ <+: μ') (h : XRep W F μ cls dd x) : XRep W F' μ' cls dd x := by
  cases x <;> try (exact h.elim)
  obtain ⟨C, h1, h2, h3⟩ := h
  refine ⟨C, h1, h2, ?_⟩
  rcases h3 with h3 | ⟨dx, vs, q1, q2, q3, q4⟩
  · exact .inl h3
  · exact .inr ⟨dx, vs, q1, e _ _ q2, q3, q4.mono e p⟩
abbrev XwT := Value → Option Addr → Hp → Prop
/-- what an expression raises is wished for -/
def ErE (Z : Sd) (Wx : WX) (ex : Env → Sto → Option (D × Sto)) (σ : L2.St) (H : Hp) : Prop := ∃ F μ S ρ x S', Ag Z.W F μ S H ∧ Rho Z F μ ρ σ ∧ ex ρ S = some (x, S') ∧
  ∀ cls dd F' μ' H', Ex F F' → μ <+: μ' → Ag Z.W F' μ' S' H' → XRep Z.W F' μ' cls dd x → Wx cls dd σ H'
/-- what a statement raises is wished for -/
def ErS (Z : Sd) (Wx : WX) (ex : Env → Sto → Option (D × Env × Sto)) (σ : L2.St) (H : Hp) : Prop := ∃ F μ S ρ x ρ' S', Ag Z.W F μ S H ∧ Rho Z F μ ρ σ ∧ ex ρ S = some (x, ρ', S') ∧
  ∀ cls dd F' μ' σ' H', Ex F F' → μ <+: μ' → Ag Z.W F' μ' S' H' → Rho Z F' μ' ρ' σ' → XRep Z.W F' μ' cls dd x → Wx cls dd σ' H'
abbrev XE' (Z : Sd) (Wx : WX) (X : Cx) (e : Expr) (m : E) : Prop := PE X e (fun σ H _ => ErE Z Wx (exE Z.C m) σ H)
abbrev XT' (Z : Sd) (Wx : WX) (X : Cx) (e : Expr) (m : E) : Prop := PT X e (fun σ H _ => ErE Z Wx (exE Z.C m) σ H)
abbrev XA' (Z : Sd) (Wx : WX) (X : Cx) (es : List Expr) (ms : List E) : Prop := PA X es (fun σ H _ => ErE Z Wx (exEs Z.C ms) σ H)
abbrev XS' (Z : Sd) (Wx : WX) (X : Cx) (s : Stmt) (m : Sm) : Prop := PS X s (fun _ σ H => ErS Z Wx (exS Z.C m) σ H)
abbrev XSs' (Z : Sd) (Wx : WX) (X : Cx) (s : List Stmt) (m : List Sm) : Prop := PSs X s (fun _ σ H => ErS Z Wx (exSs Z.C m) σ H)
theorem PE.or2 {X : Cx} {e : Expr} {t u : TE} (h1 : PE X e t) (h2 : PE X e u) : PE X e (fun σ H Q => t σ H Q ∨ u σ H Q) := ⟨fun pins s σ H Q I h => h.elim (h1.run pins s σ H Q I) (h2.run pins s σ H Q I)⟩
theorem PT.or2 {X : Cx} {e : Expr} {t u : TT} (h1 : PT X e t) (h2 : PT X e u) : PT X e (fun σ H Q => t σ H Q ∨ u σ H Q) := ⟨fun pins s σ H Q I h => h.elim (h1.run pins s σ H Q I) (h2.run pins s σ H Q I)⟩
theorem PA.or2 {X : Cx} {e : List Expr} {t u : TA} (h1 : PA X e t) (h2 : PA X e u) : PA X e (fun σ H Q => t σ H Q ∨ u σ H Q) := ⟨fun pos pins s σ H Q I h => h.elim (h1.run pos pins s σ H Q I) (h2.run pos pins s σ H Q I)⟩
theorem PS.or2 {X : Cx} {e : Stmt} {t u : TS} (h1 : PS X e t) (h2 : PS X e u) : PS X e (fun D σ H => t D σ H ∨ u D σ H) := ⟨fun pins s σ H Q I h => h.elim (h1.run pins s σ H Q I) (h2.run pins s σ H Q I)⟩
theorem PSs.or2 {X : Cx} {e : List Stmt} {t u : TS} (h1 : PSs X e t) (h2 : PSs X e u) : PSs X e (fun D σ H => t D σ H ∨ u D σ H) := ⟨fun pins s σ H Q I h => h.elim (h1.run pins s σ H Q I) (h2.run pins s σ H Q I)⟩

/-! ### nothing is raised -/
mutual
def noE : E → Bool
  | .xcal .. => false
  | .xcalk .. => false
  | .xmeth .. => false
  | .call _ as _ => noEs as
  | .mk _ _ as => noEs as
  | .tup es => noEs es
  | .fld o _ => noE o
  | .not a => noE a
  | .stro a => noE a
  | .sub o i => noE o && noE i
  | .cmp _ o i => noE o && noE i
  | .and a b => noE a && noE b
  | .or a b => noE a && noE b
  | .ite c a b => noE c && (noE a && noE b)
  | _ => true
def noEs : List E → Bool
  | [] => true
  | e :: es => noE e && noEs es
end
section
variable {C : Ctx}
mutual
theorem noE_ok : ∀ (m : E), noE m = true → ∀ (ρ : Env) (S : Sto), exE C m ρ S = none
  | .xcal .., h => by unfold noE at h; cases h
  | .xcalk .., h => by unfold noE at h; cases h
  | .xmeth .., h => by unfold noE at h; cases h
  | .call _ as _, h => fun ρ S => by unfold noE at h; unfold exE; exact noEs_ok as h ρ S
  | .mk _ _ as, h => fun ρ S => by unfold noE at h; unfold exE; exact noEs_ok as h ρ S
  | .tup es, h => fun ρ S => by unfold noE at h; unfold exE; exact noEs_ok es h ρ S
  | .fld o _, h => fun ρ S => by unfold noE at h; unfold exE; exact noE_ok o h ρ S
  | .not a, h => fun ρ S => by unfold noE at h; unfold exE; exact noE_ok a h ρ S
  | .stro a, h => fun ρ S => by unfold noE at h; unfold exE; exact noE_ok a h ρ S
  | .sub o i, h => fun ρ S => by
    unfold noE at h
    obtain ⟨h1, h2⟩ := Bool.and_eq_true_iff.mp h
    unfold exE
    split
    · exact noE_ok i h2 _ _
    · exact noE_ok o h1 _ _
  | .cmp _ o i, h => fun ρ S => by
    unfold noE at h
    obtain ⟨h1, h2⟩ := Bool.and_eq_true_iff.mp h
    unfold exE
    split
    · exact noE_ok i h2 _ _
    · exact noE_ok o h1 _ _
  | .and o i, h => fun ρ S => by
    unfold noE at h
    obtain ⟨h1, h2⟩ := Bool.and_eq_true_iff.mp h
    unfold exE
    split
    · exact noE_ok i h2 _ _
    · rfl
    · exact noE_ok o h1 _ _
  | .or o i, h => fun ρ S => by
    unfold noE at h
    obtain ⟨h1, h2⟩ := Bool.and_eq_true_iff.mp h
    unfold exE
    split
    · exact noE_ok i h2 _ _
    · rfl
    · exact noE_ok o h1 _ _
  | .ite c a b, h => fun ρ S => by
    unfold noE at h
    obtain ⟨h1, h2⟩ := Bool.and_eq_true_iff.mp h
    obtain ⟨h2, h3⟩ := Bool.and_eq_true_iff.mp h2
    unfold exE
    split
    · exact noE_ok a h2 _ _
    · exact noE_ok b h3 _ _
    · rfl
    · exact noE_ok c h1 _ _
  | .slot .., _ => fun ρ S => by unfold exE; rfl
  | .cst .., _ => fun ρ S => by unfold exE; rfl
  | .glob .., _ => fun ρ S => by unfold exE; rfl
  | .bin .., _ => fun ρ S => by unfold exE; rfl
  | .neg .., _ => fun ρ S => by unfold exE; rfl
  | .chain .., _ => fun ρ S => by unfold exE; rfl
  | .callk .., _ => fun ρ S => by unfold exE; rfl
  | .callv .., _ => fun ρ S => by unfold exE; rfl
  | .callc .., _ => fun ρ S => by unfold exE; rfl
  | .callp .., _ => fun ρ S => by unfold exE; rfl
  | .meth .., _ => fun ρ S => by unfold exE; rfl
  | .bi .., _ => fun ρ S => by unfold exE; rfl
  | .bm .., _ => fun ρ S => by unfold exE; rfl
  | .isi .., _ => fun ρ S => by unfold exE; rfl
  | .slice .., _ => fun ρ S => by unfold exE; rfl
  | .lst .., _ => fun ρ S => by unfold exE; rfl
  | .dict .., _ => fun ρ S => by unfold exE; rfl
  | .comp .., _ => fun ρ S => by unfold exE; rfl
  | .fstr .., _ => fun ρ S => by unfold exE; rfl
  | .frzk .., _ => fun ρ S => by unfold exE; rfl
  | .eqo .., _ => fun ρ S => by unfold exE; rfl
  | .isc .., _ => fun ρ S => by unfold exE; rfl
  | .leno .., _ => fun ρ S => by unfold exE; rfl
  | .sset .., _ => fun ρ S => by unfold exE; rfl
  | .ino .., _ => fun ρ S => by unfold exE; rfl
  | .idxo .., _ => fun ρ S => by unfold exE; rfl
  | .sortm .., _ => fun ρ S => by unfold exE; rfl
  | .emp .., _ => fun ρ S => by unfold exE; rfl
  | .isx .., _ => fun ρ S => by unfold exE; rfl
  | .fldx .., _ => fun ρ S => by unfold exE; rfl
  | .cntl .., _ => fun ρ S => by unfold exE; rfl
  | .idxl .., _ => fun ρ S => by unfold exE; rfl
  | .idxs .., _ => fun ρ S => by unfold exE; rfl
  | .dsp .., _ => fun ρ S => by unfold exE; rfl
  | .getd .., _ => fun ρ S => by unfold exE; rfl
  | .gsub .., _ => fun ρ S => by unfold exE; rfl
  | .dcm .., _ => fun ρ S => by unfold exE; rfl
  | .tcat .., _ => fun ρ S => by unfold exE; rfl
  | .ind .., _ => fun ρ S => by unfold exE; rfl
theorem noEs_ok : ∀ (ms : List E), noEs ms = true → ∀ (ρ : Env) (S : Sto), exEs C ms ρ S = none
  | [], _ => fun ρ S => by unfold exEs; rfl
  | e :: es, h => fun ρ S => by
    unfold noEs at h
    obtain ⟨h1, h2⟩ := Bool.and_eq_true_iff.mp h
    unfold exEs
    split
    · exact noEs_ok es h2 _ _
    · exact noE_ok e h1 _ _
end
end
mutual
def noS : Sm → Bool
  | .asg _ e => noE e
  | .ex e => noE e
  | .ret e => noE e
  | .ite c a b => noE c && (noSs a && noSs b)
  | .whil _ b => noSs b
  | .for_ _ _ _ b => noSs b
  | .raise .. => false
  | .tryx .. => false
  | _ => true
def noSs : List Sm → Bool
  | [] => true
  | s :: ss => noS s && noSs ss
end
theorem whileXN_no {c : Env → Sto → Option (D × Sto)} {b : Env → Sto → Option Out} {bx : Env → Sto → Option (D × Env × Sto)} (h : ∀ ρ S, bx ρ S = none) : ∀ (n : Nat) (ρ : Env) (S : Sto), whileXN c b bx n ρ S = none
  | 0, _, _ => rfl
  | n + 1, ρ, S => by
    unfold whileXN
    split
    · split
      · exact whileXN_no h n _ _
      · exact whileXN_no h n _ _
      · rfl
      · exact h _ _
    · rfl
theorem whileX_no {c : Env → Sto → Option (D × Sto)} {b : Env → Sto → Option Out} {bx : Env → Sto → Option (D × Env × Sto)} (h : ∀ ρ S, bx ρ S = none) (ρ : Env) (S : Sto) : whileX c b bx ρ S = none := by
  cases e : whileX c b bx ρ S with
  | none => rfl
  | some r =>
    obtain ⟨n, q⟩ := whileX_some.mp e
    rw [whileXN_no h] at q
    cases q
theorem forX_no {P : Sto → Prop} {t : T} {b : Env → Sto → Option Out} {bx : Env → Sto → Option (D × Env × Sto)} (h : ∀ ρ S, bx ρ S = none) : ∀ (xs : List D) (ρ : Env) (S : Sto), forX P t b bx xs ρ S = none
  | [], _, _ => rfl
  | x :: xs, ρ, S => by
    unfold forX
    split
    · cases e : setT t x ρ S with
      | none => rfl
      | some r =>
        show (match b r.1 r.2 with | some (.nx ρ' S') => _ | some (.ct ρ' S') => _ | some _ => none | none => _) = none
        split
        · exact forX_no h xs _ _
        · exact forX_no h xs _ _
        · rfl
        · exact h _ _
    · rfl
section
variable {C : Ctx}
mutual
theorem noS_ok : ∀ (m : Sm), noS m = true → ∀ (ρ : Env) (S : Sto), exS C m ρ S = none
  | .asg _ e, h => fun ρ S => by unfold noS at h; unfold exS; rw [noE_ok e h]; rfl
  | .ex e, h => fun ρ S => by unfold noS at h; unfold exS; rw [noE_ok e h]; rfl
  | .ret e, h => fun ρ S => by unfold noS at h; unfold exS; rw [noE_ok e h]; rfl
  | .ite c a b, h => fun ρ S => by
    unfold noS at h
    obtain ⟨h1, h2⟩ := Bool.and_eq_true_iff.mp h
    obtain ⟨h2, h3⟩ := Bool.and_eq_true_iff.mp h2
    unfold exS
    split
    · exact noSs_ok a h2 _ _
    · exact noSs_ok b h3 _ _
    · rfl
    · rw [noE_ok c h1]; rfl
  | .whil _ b, h => fun ρ S => by unfold noS at h; unfold exS; exact whileX_no (fun ρ S => noSs_ok b h ρ S) ρ S
  | .for_ _ _ as b, h => fun ρ S => by
    unfold noS at h
    unfold exS
    cases evEs C as ρ S with
    | none => rfl
    | some x =>
      show ((itemsD _ x.1 x.2).bind fun xs => _) = none
      cases itemsD _ x.1 x.2 with
      | none => rfl
      | some xs => exact forX_no (fun ρ S => noSs_ok b h ρ S) xs ρ x.2
  | .raise .., h => by unfold noS at h; cases h
  | .tryx .., h => by unfold noS at h; cases h
  | .setfld .., _ => fun ρ S => by unfold exS; rfl
  | .setsub .., _ => fun ρ S => by unfold exS; rfl
  | .aug .., _ => fun ρ S => by unfold exS; rfl
  | .augfld .., _ => fun ρ S => by unfold exS; rfl
  | .pass, _ => fun ρ S => by unfold exS; rfl
  | .brk, _ => fun ρ S => by unfold exS; rfl
  | .cnt, _ => fun ρ S => by unfold exS; rfl
  | .never, _ => fun ρ S => by unfold exS; rfl
  | .ndef .., _ => fun ρ S => by unfold exS; rfl
theorem noSs_ok : ∀ (ms : List Sm), noSs ms = true → ∀ (ρ : Env) (S : Sto), exSs C ms ρ S = none
  | [], _ => fun ρ S => by unfold exSs; rfl
  | e :: es, h => fun ρ S => by
    unfold noSs at h
    obtain ⟨h1, h2⟩ := Bool.and_eq_true_iff.mp h
    unfold exSs
    split
    · exact noSs_ok es h2 _ _
    · rfl
    · exact noS_ok e h1 _ _
end
end

section
variable {Z : Sd} {Wx : WX} {X : Cx} {e a b c o i : Expr} {rest es : List Expr} {m ma mb mc mo mi : E} {ms : List E} {pos apos p : Pos} {F : Hp} {μ : List Addr} {S : Sto} {H : Hp} {kk : Nat} {t : T} {ts : List T} {σ : L2.St}
variable {st : Stmt} {sts : List Stmt} {s : Sm} {ss sa sb : List Sm} {as bs : List Stmt}
theorem xe_no (h : noE m = true) : XE' Z Wx X e m := ⟨fun pins s σ H Q I q => by
  obtain ⟨F, μ, S, ρ, x, S', _, _, ev, _⟩ := q
  rw [noE_ok m h] at ev
  cases ev⟩
theorem xt_no (h : noE m = true) : XT' Z Wx X e m := ⟨fun pins s σ H Q I q => by
  obtain ⟨F, μ, S, ρ, x, S', _, _, ev, _⟩ := q
  rw [noE_ok m h] at ev
  cases ev⟩
theorem xa_no (h : noEs ms = true) : XA' Z Wx X es ms := ⟨fun pos pins s σ H Q I q => by
  obtain ⟨F, μ, S, ρ, x, S', _, _, ev, _⟩ := q
  rw [noEs_ok ms h] at ev
  cases ev⟩
theorem xs_no (h : noS s = true) : XS' Z Wx X st s := ⟨fun pins s σ H D I q => by
  obtain ⟨F, μ, S, ρ, x, ρ', S', _, _, ev, _⟩ := q
  rw [noS_ok _ h] at ev
  cases ev⟩
theorem xss_no (h : noSs ss = true) : XSs' Z Wx X sts ss := ⟨fun pins s σ H D I q => by
  obtain ⟨F, μ, S, ρ, x, ρ', S', _, _, ev, _⟩ := q
  rw [noSs_ok _ h] at ev
  cases ev⟩

/-! ### two parts, one behind the other -/
theorem ErE.imp {ex ex' : Env → Sto → Option (D × Sto)} (h : ErE Z Wx ex σ H) (i : ∀ ρ S, ex ρ S = ex' ρ S) : ErE Z Wx ex' σ H := by
  obtain ⟨F, μ, S, ρ, x, S', g, rr, ev, q⟩ := h
  exact ⟨F, μ, S, ρ, x, S', g, rr, by rw [← i]; exact ev, q⟩
theorem er_seq {ex2 : Env → Sto → Option (D × Sto)} (h : ErE Z Wx (fun ρ S => match evE Z.C m ρ S with | some x => ex2 ρ x.2 | none => exE Z.C m ρ S) σ H) {Q : VK} (k : ∀ v H1, ErE Z Wx ex2 σ H1 → Q v H1) :
    rdE Z m σ H Q ∨ ErE Z Wx (exE Z.C m) σ H := by
  obtain ⟨F, μ, S, ρ, x, S', g, rr, ev, q⟩ := h
  dsimp only at ev
  split at ev
  · rename_i y ey
    exact .inl ⟨F, μ, S, ρ, y.1, y.2, g, rr, ey, fun v F1 μ1 H1 x1 p1 g1 r1 => k v H1 ⟨F1, μ1, y.2, ρ, x, S', g1, rr.mono x1 p1, ev, fun cls dd F' μ' H' x2 p2 g2 r2 => q cls dd F' μ' H' (x1.trans x2) (p1.trans p2) g2 r2⟩⟩
  · exact .inr ⟨F, μ, S, ρ, x, S', g, rr, ev, q⟩
theorem er_seqs {ex2 : Env → Sto → Option (D × Sto)} (h : ErE Z Wx (fun ρ S => match evE Z.C m ρ S with | some x => ex2 ρ x.2 | none => exE Z.C m ρ S) σ H) {Q : VK} (k : ∀ v H1, ErE Z Wx ex2 σ H1 → Q v H1) :
    rdE Z m σ H Q ∨ ErE Z Wx (exE Z.C m) σ H := er_seq h k
theorem xa_nil : XA' Z Wx X [] [] := xa_no (by unfold noEs; rfl)
theorem xa_cons (ha : ME Z X e m) (xa : XE' Z Wx X e m) (xr : XA' Z Wx X es ms) (hs : starEach (e :: es) X.env = (false, eval e X.env) :: starEach es X.env := by rfl) : XA' Z Wx X (e :: es) (m :: ms) := by
  refine PA.imp (pa_cons (PE.or2 ha xa) xr hs) fun σ H Q h => ?_
  refine er_seq (ex2 := exEs Z.C ms) (h.imp fun ρ S => by rw [exEs]; all_goals (cases evE Z.C m ρ S <;> rfl)) fun v H1 q => q
theorem xe_sub (T : Std Z X kk) (ho : ME Z X o mo) (xo : XE' Z Wx X o mo) (xi : XE' Z Wx X i mi) (hs : PlainIx i := by intro _ _; rfl) : XE' Z Wx X (.Subscript o i pos) (.sub mo mi) := by
  refine PE.imp (pe_ix (ix_all T.hu) (PE.or2 ho xo) xi hs) fun σ H Q h => ?_
  refine er_seq (ex2 := exE Z.C mi) (h.imp fun ρ S => by rw [exE]; all_goals (cases evE Z.C mo ρ S <;> rfl)) fun v H1 q => q
theorem xe_tup {k : Nat} (ha : XA' Z Wx X es ms) : XE' Z Wx X (.Tuple es k pos) (.tup ms) := by
  refine PE.imp (pe_tup ha) fun σ H Q h => h.imp fun ρ S => by rw [exE]
theorem xt_val (ha : XE' Z Wx X e m) (he : ∀ whole, isTrue e X.env whole = (do let v ← whole; standAt e.pos; holding [v] (truthy v)) := by intro _; rfl) : XT' Z Wx X e m :=
  PT.imp (pt_val ha he) fun σ H Q h => h
theorem xt_not (ha : XT' Z Wx X a ma) : XT' Z Wx X (.UnaryOp .Not a pos) (.not ma) :=
  PT.imp (pt_not ha) fun σ H Q h => h.imp fun ρ S => by rw [exE]
theorem xe_ite (hc : MT Z X c mc) (xc : XT' Z Wx X c mc) (xa : XE' Z Wx X a ma) (xb : XE' Z Wx X b mb) : XE' Z Wx X (.IfExp c a b pos) (.ite mc ma mb) := by
  refine PE.imp (pe_ifExp (PT.or2 hc xc) xa xb) fun σ H Q h => ?_
  obtain ⟨F, μ, S, ρ, x, S', g, rr, ev, q⟩ := h
  unfold exE at ev
  split at ev
  · rename_i S1 e1
    exact .inl ⟨F, μ, S, ρ, true, S1, g, rr, e1, fun F1 μ1 H1 x1 p1 g1 => iteT ⟨F1, μ1, S1, ρ, x, S', g1, rr.mono x1 p1, ev, fun cls dd F' μ' H' x2 p2 g2 r2 => q cls dd F' μ' H' (x1.trans x2) (p1.trans p2) g2 r2⟩⟩
  · rename_i S1 e1
    exact .inl ⟨F, μ, S, ρ, false, S1, g, rr, e1, fun F1 μ1 H1 x1 p1 g1 => iteF ⟨F1, μ1, S1, ρ, x, S', g1, rr.mono x1 p1, ev, fun cls dd F' μ' H' x2 p2 g2 r2 => q cls dd F' μ' H' (x1.trans x2) (p1.trans p2) g2 r2⟩⟩
  · cases ev
  · exact .inr ⟨F, μ, S, ρ, x, S', g, rr, ev, q⟩

/-! ### statements -/
theorem ErS.imp {ex ex' : Env → Sto → Option (D × Env × Sto)} (h : ErS Z Wx ex σ H) (i : ∀ ρ S, ex ρ S = ex' ρ S) : ErS Z Wx ex' σ H := by
  obtain ⟨F, μ, S, ρ, x, ρ', S', g, rr, ev, q⟩ := h
  exact ⟨F, μ, S, ρ, x, ρ', S', g, rr, by rw [← i]; exact ev, q⟩
theorem ErS.ofE {ex : Env → Sto → Option (D × Sto)} (h : ErS Z Wx (fun ρ S => (ex ρ S).map fun x => (x.1, ρ, x.2)) σ H) : ErE Z Wx ex σ H := by
  obtain ⟨F, μ, S, ρ, x, ρ', S', g, rr, ev, q⟩ := h
  obtain ⟨y, e1, e2⟩ := map_some' ev
  cases e2
  exact ⟨F, μ, S, ρ, y.1, y.2, g, rr, e1, fun cls dd F' μ' H' x p g2 r2 => q cls dd F' μ' σ H' x p g2 (rr.mono x p) r2⟩
theorem xs_ex (he : XE' Z Wx X e m) (hs : swapsWith e none pos.line X.env = pure false := by rfl) : XS' Z Wx X (.Expr e pos) (.ex m) :=
  PS.imp (ps_expr he hs) fun D σ H h => ErS.ofE (h.imp fun ρ S => by rw [exS])
theorem xs_ret (he : XE' Z Wx X e m) : XS' Z Wx X (.Return (some e) pos) (.ret m) :=
  PS.imp (ps_ret he) fun D σ H h => ErS.ofE (h.imp fun ρ S => by rw [exS])
theorem xs_asg {tg : Expr} (he : XE' Z Wx X e m) (hg : MG Z X tg t) (hs : swapsWithSole [tg] e pos.line X.env = pure false := by rfl) (hw : swappedStores [tg] e X.env = pure none := by rfl)
    (h1 : (assignEach [tg] X.env).map (·.2) = [assign tg X.env] := by rfl) : XS' Z Wx X (.Assign [tg] e pos) (.asg t m) :=
  PS.imp (ps_asg he hg hs hw h1) fun D σ H h => ErS.ofE (h.imp fun ρ S => by rw [exS])
theorem xs_if (hc : MT Z X c mc) (xc : XT' Z Wx X c mc) (ha : XSs' Z Wx X as sa) (hb : XSs' Z Wx X bs sb) : XS' Z Wx X (.If c as bs pos) (.ite mc sa sb) := by
  refine PS.imp (ps_if (PT.or2 hc xc) ha hb) fun D σ H h => ?_
  obtain ⟨F, μ, S, ρ, x, ρ', S', g, rr, ev, q⟩ := h
  unfold exS at ev
  split at ev
  · rename_i S1 e1
    exact .inl ⟨F, μ, S, ρ, true, S1, g, rr, e1, fun F1 μ1 H1 x1 p1 g1 => iteT ⟨F1, μ1, S1, ρ, x, ρ', S', g1, rr.mono x1 p1, ev, fun cls dd F' μ' σ' H' x2 p2 g2 r2 => q cls dd F' μ' σ' H' (x1.trans x2) (p1.trans p2) g2 r2⟩⟩
  · rename_i S1 e1
    exact .inl ⟨F, μ, S, ρ, false, S1, g, rr, e1, fun F1 μ1 H1 x1 p1 g1 => iteF ⟨F1, μ1, S1, ρ, x, ρ', S', g1, rr.mono x1 p1, ev, fun cls dd F' μ' σ' H' x2 p2 g2 r2 => q cls dd F' μ' σ' H' (x1.trans x2) (p1.trans p2) g2 r2⟩⟩
  · cases ev
  · exact .inr (ErS.ofE ⟨F, μ, S, ρ, x, ρ', S', g, rr, ev, q⟩)
theorem xss_nil : XSs' Z Wx X [] [] := xss_no (by unfold noSs; rfl)
theorem xss_cons (h1 : MS Z X st s) (x1 : XS' Z Wx X st s) (h2 : XSs' Z Wx X sts ss) : XSs' Z Wx X (st :: sts) (s :: ss) := by
  refine PSs.imp (pss_cons (PS.or2 h1 x1) h2) fun D σ H h => ?_
  obtain ⟨F, μ, S, ρ, x, ρ', S', g, rr, ev, q⟩ := h
  unfold exSs at ev
  split at ev
  · rename_i ρ1 S1 e1
    exact .inl ⟨F, μ, S, ρ, _, g, rr, e1, fun F1 μ1 σ1 H1 x1 p1 g1 r1 => ⟨F1, μ1, S1, ρ1, x, ρ', S', g1, r1, ev, fun cls dd F' μ' σ' H' x2 p2 g2 r2 => q cls dd F' μ' σ' H' (x1.trans x2) (p1.trans p2) g2 r2⟩⟩
  · cases ev
  · exact .inr ⟨F, μ, S, ρ, x, ρ', S', g, rr, ev, q⟩
theorem xss_skip (h1 : PS X st tNext) (h2 : XSs' Z Wx X sts ss) : XSs' Z Wx X (st :: sts) ss := PSs.imp (pss_cons h1 h2) fun D σ H h => h
theorem xs_while (hp : PassesOwn (model X.prog X.w) X.A X.env X.xe) (hc : MT Z X c mc) (hb : MSs Z X as sa) (xb : XSs' Z Wx X as sa) : XS' Z Wx X (.While c as [] pos) (.whil mc sa) := by
  refine PS.imp (ps_while hp hc (PSs.or2 hb xb)) fun D σ H h => ?_
  obtain ⟨F, μ, S, ρ, x, ρ', S', g, rr, ev, q⟩ := h
  unfold exS at ev
  obtain ⟨n, ev⟩ := whileX_some.mp ev
  refine ⟨fun n σ' H' => ∃ F' μ' S1 ρ1, Ex F F' ∧ μ <+: μ' ∧ Ag Z.W F' μ' S1 H' ∧ Rho Z F' μ' ρ1 σ' ∧ whileXN (evE Z.C mc) (evSs Z.C sa) (exSs Z.C sa) n ρ1 S1 = some (x, ρ', S'), ⟨n, F, μ, S, ρ, Ex.refl F, pre_refl μ, g, rr, ev⟩, ?_⟩
  rintro n σ1 H1 ⟨F1, μ1, S1, ρ1, x1, p1, g1, r1, e1⟩
  cases n with
  | zero => cases e1
  | succ n =>
    unfold whileXN at e1
    split at e1
    · rename_i S2 ec
      refine ⟨F1, μ1, S1, ρ1, true, S2, g1, r1, ec, fun F2 μ2 H2 x2 p2 g2 => ?_⟩
      refine iteT ?_
      refine ⟨fun σ' H' => ∃ F' μ' S1 ρ1, Ex F F' ∧ μ <+: μ' ∧ Ag Z.W F' μ' S1 H' ∧ Rho Z F' μ' ρ1 σ' ∧ whileXN (evE Z.C mc) (evSs Z.C sa) (exSs Z.C sa) n ρ1 S1 = some (x, ρ', S'), fun σ' H' w => ⟨n, Nat.lt_succ_self n, w⟩, ?_⟩
      have x12 := x1.trans x2
      have p12 := p1.trans p2
      split at e1
      · rename_i ρ2 S3 eb
        exact .inl ⟨F2, μ2, S2, ρ1, _, g2, r1.mono x2 p2, eb, fun F3 μ3 σ3 H3 x3 p3 g3 r3 => ⟨F3, μ3, S3, ρ2, x12.trans x3, p12.trans p3, g3, r3, e1⟩⟩
      · rename_i ρ2 S3 eb
        exact .inl ⟨F2, μ2, S2, ρ1, _, g2, r1.mono x2 p2, eb, fun F3 μ3 σ3 H3 x3 p3 g3 r3 => ⟨F3, μ3, S3, ρ2, x12.trans x3, p12.trans p3, g3, r3, e1⟩⟩
      · cases e1
      · exact .inr ⟨F2, μ2, S2, ρ1, x, ρ', S', g2, r1.mono x2 p2, e1, fun cls dd F3 μ3 σ3 H3 x3 p3 g3 r3 => q cls dd F3 μ3 σ3 H3 (x12.trans x3) (p12.trans p3) g3 r3⟩
    · cases e1
theorem xs_for {tg it : Expr} {k : SrcK} (St : Std Z X kk) (hp : PassesOwn (model X.prog X.w) X.A X.env X.xe) (hi : MI Z X tg it k ms) (hg : MG Z X tg t) (hb : MSs Z X as sa) (xb : XSs' Z Wx X as sa) (hs : ∀ x, foldedSetIterable it X.env x = pure x := by intro _; rfl) :
    XS' Z Wx X (.For tg it as [] pos) (.for_ t k ms sa) := by
  refine PS.imp (ps_for hp St.calm hi hg (PSs.or2 hb xb) hs) fun D σ H h => ?_
  obtain ⟨F, μ, S, ρ, y, ρ', S', g, rr, ev, q⟩ := h
  unfold exS at ev
  obtain ⟨x, e1, ev⟩ := bind_some' ev
  obtain ⟨xs, e2, ev⟩ := bind_some' ev
  refine ⟨F, μ, S, ρ, x.1, x.2, xs, g, rr, e1, e2, fun J F1 μ1 H1 x1 p1 g1 ok => ?_⟩
  let W : Nat → Nat → L2.St → Hp → Prop := fun i n σ' H' => n = xs.length - i ∧ i ≤ xs.length ∧ ∃ F' μ' S1 ρ1, Ex F1 F' ∧ μ1 <+: μ' ∧ Ag Z.W F' μ' S1 H' ∧ Rho Z F' μ' ρ1 σ' ∧ forX (holdD x.1 x.2) t (evSs Z.C sa) (exSs Z.C sa) (xs.drop i) ρ1 S1 = some (y, ρ', S')
  refine ⟨W, ⟨xs.length, by simp, Nat.zero_le _, F1, μ1, x.2, ρ, Ex.refl _, pre_refl _, g1, rr.mono x1 p1, ev⟩, ?_⟩
  rintro i n σ2 H2 ⟨rfl, hle, F2, μ2, S2, ρ2, x2, p2, g2, r2, e3⟩
  by_cases hlt : i < xs.length
  · rw [List.drop_eq_getElem_cons hlt] at e3
    unfold forX at e3
    split at e3
    · rename_i hold
      obtain ⟨r, e4, e5⟩ := bind_some' e3
      refine .inr ⟨ok.go i F2 μ2 S2 H2 hlt x2 p2 g2 hold, fun σ' H' => W (i + 1) (xs.length - (i + 1)) σ' H', fun σ' H' w => ⟨_, by omega, w⟩, fun v H3 yy => ?_⟩
      obtain ⟨F3, x3, g3, r3, _, _⟩ := ok.yld i xs[i] F2 μ2 S2 H2 v H3 (List.getElem?_eq_getElem hlt) x2 p2 g2 hold yy
      refine ⟨F3, μ2, S2, ρ2, xs[i], r, g3, r2.mono x3 (pre_refl _), r3, e4, fun F4 μ4 σ4 H4 x4 p4 g4 r4 _ => ?_⟩
      have x14 := (x2.trans x3).trans x4
      have p14 := p2.trans p4
      split at e5
      · rename_i ρ3 S3 eb
        exact .inl ⟨F4, μ4, r.2, r.1, _, g4, r4, eb, fun F5 μ5 σ5 H5 x5 p5 g5 r5 => ⟨rfl, hlt, F5, μ5, S3, ρ3, x14.trans x5, p14.trans p5, g5, r5, e5⟩⟩
      · rename_i ρ3 S3 eb
        exact .inl ⟨F4, μ4, r.2, r.1, _, g4, r4, eb, fun F5 μ5 σ5 H5 x5 p5 g5 r5 => ⟨rfl, hlt, F5, μ5, S3, ρ3, x14.trans x5, p14.trans p5, g5, r5, e5⟩⟩
      · cases e5
      · exact .inr ⟨F4, μ4, r.2, r.1, y, ρ', S', g4, r4, e5, fun cls dd F5 μ5 σ5 H5 x5 p5 g5 r5 => q cls dd F5 μ5 σ5 H5 (x1.trans (x14.trans x5)) (p1.trans (p14.trans p5)) g5 r5⟩
    · cases e3
  · have hi : i = xs.length := by omega
    subst hi
    rw [List.drop_length] at e3
    unfold forX at e3
    cases e3
end
end Fw

set_option Elab.async false
set_option linter.all false
set_option maxRecDepth 100000
/-! FwW: defs that raise, their calls; raise, try. -/
namespace Fw
open PySem L2 PySem.Spec PyProof.Rows PySem.Calls
open Evl (Ex)
/-- what a def raises -/
def spE (W : Wd) (cx : CallT) (g : Str) : Sp := fun vs H _ E => ∃ F μ S args x S', Ag W F μ S H ∧ Reps W F μ vs args ∧ cx g args S = some (x, S') ∧
  ∀ cls dd F' μ' H', Ex F F' → μ <+: μ' → Ag W F' μ' S' H' → XRep W F' μ' cls dd x → E cls dd H'
def spX (W : Wd) (c cx : CallT) (g : Str) : Sp := fun vs H Q E => spC W c g vs H Q E ∨ spE W cx g vs H Q E
structure CalX (P : Program) (w : World) (K : PySem.W.Frag) (mg : Str → Option Value) (base : Heap) (W : Wd) (c cx : CallT) (k : Nat) (x g : Str) (ds : List D) : Prop where
  ex : ∃ (f : Addr) (fd : FuncData) (ps : List Str) (dvs : List V) (dus : List Value), FnOk P w K mg base (L2.CX P w) k f fd ps (spX W c cx g) ∧ PySem.W.keepIn K (.ref f) = true ∧ mg x = some (.ref f) ∧ Binds K fd ps dus ∧ Vals dvs dus ∧ ∀ F μ, Reps W F μ dvs ds
/-- .. with keywords -/
structure CalNX (P : Program) (w : World) (K : PySem.W.Frag) (mg : Str → Option Value) (base : Heap) (W : Wd) (c cx : CallT) (k : Nat) (x g : Str) (n : Nat) (ks : List Str) (ord : List (Nat ⊕ D)) : Prop where
  ex : ∃ (f : Addr) (fd : FuncData) (ps : List Str) (gf : List Value → List Value → List Value) (gV : List V → List V → List V), FnOk P w K mg base (L2.CX P w) k f fd ps (spX W c cx g) ∧ PySem.W.keepIn K (.ref f) = true ∧ mg x = some (.ref f) ∧ KBn K fd ps n ks gf gV ∧
    ∀ F μ vs zs as bs ds, as.length = n → bs.length = ks.length → Reps W F μ vs as → Reps W F μ zs bs → ordD (as ++ bs) ord = some ds → Reps W F μ (gV vs zs) ds
structure MthX (P : Program) (w : World) (K : PySem.W.Frag) (mg : Str → Option Value) (base : Heap) (W : Wd) (me : Str → Str → Option Str) (c cx : CallT) (k : Nat) (m : Str) : Prop where
  ex : ∀ cl C g, W.ca cl = some C → me cl m = some g → ∃ (f : Addr) (fd : FuncData) (ps : List Str), FnOk P w K mg base (L2.CX P w) k f fd ps (spX W c cx g) ∧ Meth K C m f ∧ Binds K fd ps []
theorem calNX_of {P : Program} {w : World} {K : PySem.W.Frag} {mg : Str → Option Value} {base : Heap} {W : Wd} {c cx : CallT} {k : Nat} {x g nm qual : Str} {params : Arguments} {body : List Stmt} {scope : Scope} {kws : List (Str × V)} {f : Addr} {fd : FuncData} {ps : List Str}
    (F : FunD K nm qual params body scope [] kws f fd) (ok : FnOk P w K mg base (L2.CX P w) k f fd ps (spX W c cx g)) (hm : mg x = some (.ref f)) (n : Nat) (ks : List Str) (ord : List Nat)
    (h : ∀ (kV doc pm : Value) (an : Option Addr) (cdv ct : Value) (us ws : List Value), us.length = n → ws.length = ks.length → bindArgs (PySem.W.fnOf nm qual params body scope .none kV doc pm an cdv ct) ⟨us, ks.zip ws⟩ = pure (ps.zip (pick ord (us ++ ws)))) :
    CalNX P w K mg base W c cx k x g n ks (ord.map Sum.inl) :=
  ⟨⟨f, fd, ps, _, _, ok, F.kp, hm, kbn_of F n ks (fun us ws => pick ord (us ++ ws)) (fun r1 r2 => vals_pick (r1.append r2) ord) h, fun F' μ vs zs as bs ds _ _ r1 r2 e => reps_pick (r1.append r2) ord ds e⟩⟩
section
variable {X : Cx} {CX : CXT} {k n : Nat} {f : Addr} {fd : FuncData} {ps ks : List Str} {sp : Sp} {dvs : List V} {ds : List Value} {x : Str} {p pos : Pos} {e : Expr} {es : List Expr} {t : TA} {E : L2.St → XK}
theorem run_fnSD {pins : List (Addr × Obj)} {σ : L2.St} {H : Hp} {s : Shared} {Q : VK} {us : List Value} {vs : List V} {E : XK} (F : FnOk X.prog X.w X.K X.mg X.base CX k f fd ps sp) (hr : Room k X.A) (hb : Binds X.K fd ps ds) (hd : Vals dvs ds) (hx : PassesAt CX X σ E)
    (I : Inv X pins σ H s) (r : Vals vs us) (h : sp (vs ++ dvs) H Q E) : wpAny (model X.prog X.w) X.A (call (.ref f) us) (EP X pins σ Q) X.xe s := by
  have r2 : Vals (vs ++ dvs) (us ++ ds) := r.append hd
  have hl : (us ++ ds).length = ps.length := by rw [← r2.length]; exact F.len _ _ _ _ h
  refine wpAny_call (codeAny_mono (F.run X.A X.stack s H ⟨us, []⟩ (us ++ ds) (vs ++ dvs) Q E hr I.env0 (hb s us I.kIn hl) r2 h) fun r s' hq => ?_)
  cases r with
  | error e => exact hx pins H s e s' I hq
  | ok fl =>
    cases fl with
    | ret u => exact I.after hq
    | next => exact False.elim hq
    | brk => exact False.elim hq
    | cont => exact False.elim hq
theorem run_fnSN {pins : List (Addr × Obj)} {σ : L2.St} {H : Hp} {s : Shared} {Q : VK} {us ws : List Value} {vs zs : List V} {E : XK} {g : List Value → List Value → List Value} {gV : List V → List V → List V} (F : FnOk X.prog X.w X.K X.mg X.base CX k f fd ps sp) (hr : Room k X.A) (hb : KBn X.K fd ps n ks g gV) (hx : PassesAt CX X σ E)
    (I : Inv X pins σ H s) (r : Vals vs us) (rz : Vals zs ws) (l1 : vs.length = n) (l2 : zs.length = ks.length) (h : sp (gV vs zs) H Q E) : wpAny (model X.prog X.w) X.A (call (.ref f) us (ks.zip ws)) (EP X pins σ Q) X.xe s := by
  have r2 := hb.rel r rz
  refine wpAny_call (codeAny_mono (F.run X.A X.stack s H ⟨us, ks.zip ws⟩ (g us ws) (gV vs zs) Q E hr I.env0 (hb.to s us ws I.kIn (r.length.symm.trans l1) (rz.length.symm.trans l2)) r2 h) fun r s' hq => ?_)
  cases r with
  | error e => exact hx pins H s e s' I hq
  | ok fl =>
    cases fl with
    | ret u => exact I.after hq
    | next => exact False.elim hq
    | brk => exact False.elim hq
    | cont => exact False.elim hq
end
section
variable {Z : Sd} {Wx : WX} {X : Cx} {e a b c o i : Expr} {rest es : List Expr} {m ma mb mc mo mi : E} {ms mks : List E} {pos apos p : Pos} {F : Hp} {μ : List Addr} {S : Sto} {H : Hp} {kk : Nat} {t : T} {ts : List T} {σ : L2.St} {kws : List Keyword}
variable {st : Stmt} {sts : List Stmt} {s : Sm} {ss sa sb : List Sm} {as bs : List Stmt}

/-! ### calls of defs that raise -/
theorem me_xcal {x g : Str} {ds : List D} (St : Std Z X kk) (C : CalX X.prog X.w X.K X.mg X.base Z.W Z.C.call Z.C.xcall kk x g ds) (hg : Gl X x) (ha : MA Z X (e :: es) ms) (hdb : (x == ("__debug__" : Str)) = false := by decide)
    (he : starEach (e :: es) X.env = (false, eval e X.env) :: starEach es X.env := by rfl) (hpl : (backTo pos (starEach es X.env)).any (·.1) = false := by rfl) :
    ME Z X (.Call (.Name x p) (e :: es) [] pos) (.xcal g ms ds) := by
  obtain ⟨f, fd, ps, dvs, dus, F0, hk, hm, hb, hd, hr⟩ := C.ex
  refine PE.imp (pe_call (E := E0) F0 St.hr hg hm hk hb hd passL ha hdb he hpl) fun σ H Q h => ?_
  have h2 : rdE Z (.call g ms ds) σ H Q := by
    obtain ⟨F, μ, S, ρ, d, S', g1, rr, ev, q⟩ := h
    unfold evE at ev
    exact ⟨F, μ, S, ρ, d, S', g1, rr, by unfold evE; exact ev, q⟩
  obtain ⟨F, μ, S, ρ, ds', S', g1, rr, e1, k⟩ := rdC hr h2
  exact ⟨F, μ, S, ρ, ds', S', g1, rr, e1, fun vs F1 μ1 H1 x1 p1 g1 r1 => .inl (k vs F1 μ1 H1 x1 p1 g1 r1)⟩
theorem xe_xcal {x g : Str} {ds : List D} (tk : Takes X Wx) (St : Std Z X kk) (C : CalX X.prog X.w X.K X.mg X.base Z.W Z.C.call Z.C.xcall kk x g ds) (hg : Gl X x) (ha : MA Z X (e :: es) ms) (xa : XA' Z Wx X (e :: es) ms) (hdb : (x == ("__debug__" : Str)) = false := by decide)
    (he : starEach (e :: es) X.env = (false, eval e X.env) :: starEach es X.env := by rfl) (hpl : (backTo pos (starEach es X.env)).any (·.1) = false := by rfl) :
    XE' Z Wx X (.Call (.Name x p) (e :: es) [] pos) (.xcal g ms ds) := by
  obtain ⟨f, fd, ps, dvs, dus, F0, hk, hm, hb, hd, hr⟩ := C.ex
  refine ⟨fun pins s σ H Q I h => ?_⟩
  obtain ⟨F, μ, S, ρ, x0, S', g1, rr, ev, q⟩ := h
  refine wpAny_Call_Name_kw (ld_glob I hg hm ?_ hdb)
  refine PySem.W.callWith_K (h₀ := X.base) I.ok.mod.kin hk (thn ((PA.or2 ha xa).run pos pins s σ H (fun vs H1 => spX Z.W Z.C.call Z.C.xcall g (vs ++ dvs) H1 Q (WE Wx σ)) I ?_) fun us s1 ⟨vs, H1, I1, r, q⟩ => ⟨I1.kIn, ?_⟩) he hpl
  · unfold exE at ev
    split at ev
    · rename_i y ey
      exact .inl ⟨F, μ, S, ρ, y.1, y.2, g1, rr, ey, fun vs F1 μ1 H1 x1 p1 g1 r1 => .inr ⟨F1, μ1, y.2, _, x0, S', g1, r1.append (hr F1 μ1), ev, fun cls dd F' μ' H' x2 p2 g2 r2 => q cls dd F' μ' H' (x1.trans x2) (p1.trans p2) g2 r2⟩⟩
    · exact .inr ⟨F, μ, S, ρ, x0, S', g1, rr, ev, q⟩
  · exact run_fnSD F0 St.hr hb hd (passAt tk σ) I1 r q
/-- a def that raises nothing, an argument that may -/
theorem xe_call {x g : Str} {ds : List D} (St : Std Z X kk) (C : Cal X.prog X.w X.K X.mg X.base Z.W Z.C.call kk x g ds) (hg : Gl X x) (xa : XA' Z Wx X (e :: es) ms) (hdb : (x == ("__debug__" : Str)) = false := by decide)
    (he : starEach (e :: es) X.env = (false, eval e X.env) :: starEach es X.env := by rfl) (hpl : (backTo pos (starEach es X.env)).any (·.1) = false := by rfl) :
    XE' Z Wx X (.Call (.Name x p) (e :: es) [] pos) (.call g ms ds) := by
  obtain ⟨f, fd, ps, dvs, dus, F0, hk, hm, hb, hd, hr⟩ := C.ex
  exact PE.imp (pe_call (E := E0) F0 St.hr hg hm hk hb hd pass0 xa hdb he hpl) fun σ H Q h => h.imp fun ρ S => by rw [exE]
theorem me_xcalk0 {x g : Str} {ks : List Str} {ord : List (Nat ⊕ D)} (St : Std Z X kk) (C : CalNX X.prog X.w X.K X.mg X.base Z.W Z.C.call Z.C.xcall kk x g 0 ks ord) (hg : Gl X x) (hkw : MK Z X kws mks) (hkl : mks.length = ks.length := by rfl)
    (hall : (backToKw pos (keywordEach kws X.env)).all (·.1.isSome) = true := by rfl) (hks : (backToKw pos (keywordEach kws X.env)).filterMap (·.1) = ks := by rfl)
    (hdb : (x == ("__debug__" : Str)) = false := by decide)
    (hpl : ((backTo pos (starEach [] X.env)).any (·.1) || (backToKw pos (keywordEach kws X.env)).any (·.1.isNone)) = false := by rfl) :
    ME Z X (.Call (.Name x p) [] kws pos) (.xcalk g mks ord) := by
  obtain ⟨f, fd, ps, gf, gV, F0, hk, hm, hb, hr⟩ := C.ex
  refine ⟨fun pins s σ H Q I h => ?_⟩
  have h2 : rdE Z (.callk g ([] ++ mks) ord) σ H Q := by
    obtain ⟨F, μ, S, ρ, d, S', g1, rr, ev, q⟩ := h
    unfold evE at ev
    exact ⟨F, μ, S, ρ, d, S', g1, rr, by unfold evE; exact ev, q⟩
  have h := rdN (mp := []) (n := 0) rfl hkl hr h2
  obtain ⟨F, μ, S, ρ, ds', S', g, rr, e1, k⟩ := h
  unfold evEs at e1
  cases e1
  have h := k [] F μ H (Ex.refl F) (pre_refl μ) g .nil
  refine wpAny_Call_Name_kw (ld_glob I hg hm ?_ hdb)
  refine PySem.W.callWith_KW0 (h₀ := X.base) I.ok.mod.kin hk hall ?_ hpl
  refine thn (hkw.run pos pins s σ H _ I h) fun ws s2 ⟨zs, H2, I2, rz, l1, l2, q2⟩ => ⟨I2.kIn, ?_⟩
  rw [hks]
  exact run_fnN (us := []) (vs := []) (E := E0) F0 St.hr hb passL I2 .nil rz rfl l2 (.inl q2)
theorem xe_xcalk0 {x g : Str} {ks : List Str} {ord : List (Nat ⊕ D)} (tk : Takes X Wx) (St : Std Z X kk) (C : CalNX X.prog X.w X.K X.mg X.base Z.W Z.C.call Z.C.xcall kk x g 0 ks ord) (hg : Gl X x) (hkw : MK Z X kws mks) (hkl : mks.length = ks.length := by rfl)
    (hall : (backToKw pos (keywordEach kws X.env)).all (·.1.isSome) = true := by rfl) (hks : (backToKw pos (keywordEach kws X.env)).filterMap (·.1) = ks := by rfl)
    (hdb : (x == ("__debug__" : Str)) = false := by decide)
    (hpl : ((backTo pos (starEach [] X.env)).any (·.1) || (backToKw pos (keywordEach kws X.env)).any (·.1.isNone)) = false := by rfl) :
    XE' Z Wx X (.Call (.Name x p) [] kws pos) (.xcalk g mks ord) := by
  obtain ⟨f, fd, ps, gf, gV, F0, hk, hm, hb, hr⟩ := C.ex
  refine ⟨fun pins s σ H Q I h => ?_⟩
  obtain ⟨F, μ, S, ρ, x0, S', g1, rr, ev, q⟩ := h
  unfold exE at ev
  obtain ⟨y, e1, ev⟩ := bind_some' ev
  obtain ⟨vs, e2, ev⟩ := bind_some' ev
  refine wpAny_Call_Name_kw (ld_glob I hg hm ?_ hdb)
  refine PySem.W.callWith_KW0 (h₀ := X.base) I.ok.mod.kin hk hall ?_ hpl
  refine thn (hkw.run pos pins s σ H (fun zs H2 => zs.length = ks.length ∧ spX Z.W Z.C.call Z.C.xcall g (gV [] zs) H2 Q (WE Wx σ)) I ⟨F, μ, S, ρ, y.1, y.2, g1, rr, e1, fun zs F1 μ1 H1 x1 p1 g1 r1 => ⟨by rw [r1.length, evEs_len e1, hkl], ?_⟩⟩) fun ws s2 ⟨zs, H2, I2, rz, l2, q2⟩ => ⟨I2.kIn, ?_⟩
  · exact .inr ⟨F1, μ1, y.2, vs, x0, S', g1, hr F1 μ1 [] zs [] y.1 vs rfl (by rw [evEs_len e1, hkl]) .nil r1 e2, ev, fun cls dd F' μ' H' x2 p2 g2 r2 => q cls dd F' μ' H' (x1.trans x2) (p1.trans p2) g2 r2⟩
  · rw [hks]
    exact run_fnSN (us := []) (vs := []) (E := WE Wx σ) F0 St.hr hb (passAt tk σ) I2 .nil rz rfl l2 q2

/-! ### methods that raise -/
theorem me_xmeth {mt : Str} {pl : Sem Bool} (St : Std Z X kk) (hc : ClsF Z X) (M : MthX X.prog X.w X.K X.mg X.base Z.W Z.C.meth Z.C.call Z.C.xcall kk mt) (ho : ME Z X o mo) (ha : MA Z X (e :: es) ms)
    (hst : starEach (e :: es) X.env = (false, eval e X.env) :: starEach es X.env := by rfl) (hpl : (backTo pos (starEach es X.env)).any (·.1) = false := by rfl)
    (ht : eval (.Call (.Attribute o mt apos) (e :: es) [] pos) X.env = (do
      let ov ← eval o X.env
      standAt apos.atName
      let (f, first) ← holding [ov] (getMethod ov mt pl)
      callWith pos f first (backTo pos (starEach (e :: es) X.env)) (backToKw pos (keywordEach [] X.env))) := by rfl) :
    ME Z X (.Call (.Attribute o mt apos) (e :: es) [] pos) (.xmeth mo mt ms) := by
  refine ⟨fun pins s σ H Q I h => ?_⟩
  obtain ⟨F, μ, S, ρ, d, S', g, rr, ev, q⟩ := h
  unfold evE at ev
  obtain ⟨x, e1, ev⟩ := bind_some' ev
  obtain ⟨c, e2, ev⟩ := bind_some' ev
  obtain ⟨gg, e3, ev⟩ := bind_some' ev
  split at ev
  · rename_i hno
    obtain ⟨y, e4, ev⟩ := bind_some' ev
    refine PySem.W.methodCall_KW (pl := pl) (thn (ho.run pins s σ H (fun v H1 => ∃ F1 μ1, Ex F F1 ∧ μ <+: μ1 ∧ Ag Z.W F1 μ1 x.2 H1 ∧ Rep Z.W F1 μ1 v x.1) I ⟨F, μ, S, ρ, x.1, x.2, g, rr, e1, fun v F1 μ1 H1 x1 p1 g1 r1 => ⟨F1, μ1, x1, p1, g1, r1⟩⟩) fun u s1 hh => ?_) ht
    obtain ⟨v, H1, I1, rx, F1, μ1, x1, p1, g1, r1⟩ := hh
    obtain ⟨a, C, dx, fs, vs, xs, rfl, h1, h2, h3, h4, h5⟩ := ins_rep g1 r1 e2
    obtain rfl : u = Value.ref a := rx
    obtain ⟨f, fd, ps, F0, hM, hb⟩ := M.ex c C gg h2 e3
    refine getmeth_ok I1 h1 (hc.cls c C h2) hM (look_zip_none h4 h3 (by rw [← h5]; exact hno)) ?_
    have hrun := ha.run pos pins s1 σ H1 (fun ws H2 => ∃ F2 μ2, Ex F1 F2 ∧ μ1 <+: μ2 ∧ Ag Z.W F2 μ2 y.2 H2 ∧ Reps Z.W F2 μ2 ws y.1) I1 ⟨F1, μ1, x.2, ρ, y.1, y.2, g1, rr.mono x1 p1, e4, fun ws F2 μ2 H2 x2 p2 g2 r2 => ⟨F2, μ2, x2, p2, g2, r2⟩⟩
    refine PySem.W.callWith_K (first := [.ref a]) (h₀ := X.base) I.ok.mod.kin hM.kp (thn hrun fun us s2 hh => ?_) hst hpl
    obtain ⟨ws, H2, I2, r, F2, μ2, x2, p2, g2, r2⟩ := hh
    refine ⟨I2.kIn, ?_⟩
    refine run_fn (us := .ref a :: us) (vs := .ref a :: ws) (dvs := []) (E := E0) F0 St.hr hb .nil passL I2 (.cons rfl r) (.inl ?_)
    rw [List.append_nil]
    exact ⟨F2, μ2, y.2, _, d, S', g2, .cons (r1.mono x2 p2) r2, ev, fun v F' μ' H' x3 p3 g3 r3 => q v F' μ' H' ((x1.trans x2).trans x3) ((p1.trans p2).trans p3) g3 r3⟩
  · cases ev
theorem xe_xmeth {mt : Str} {pl : Sem Bool} (tk : Takes X Wx) (St : Std Z X kk) (hc : ClsF Z X) (M : MthX X.prog X.w X.K X.mg X.base Z.W Z.C.meth Z.C.call Z.C.xcall kk mt) (ho : ME Z X o mo) (ha : MA Z X (e :: es) ms) (xa : XA' Z Wx X (e :: es) ms)
    (hst : starEach (e :: es) X.env = (false, eval e X.env) :: starEach es X.env := by rfl) (hpl : (backTo pos (starEach es X.env)).any (·.1) = false := by rfl)
    (ht : eval (.Call (.Attribute o mt apos) (e :: es) [] pos) X.env = (do
      let ov ← eval o X.env
      standAt apos.atName
      let (f, first) ← holding [ov] (getMethod ov mt pl)
      callWith pos f first (backTo pos (starEach (e :: es) X.env)) (backToKw pos (keywordEach [] X.env))) := by rfl) :
    XE' Z Wx X (.Call (.Attribute o mt apos) (e :: es) [] pos) (.xmeth mo mt ms) := by
  refine ⟨fun pins s σ H Q I h => ?_⟩
  obtain ⟨F, μ, S, ρ, x0, S', g, rr, ev, q⟩ := h
  unfold exE at ev
  obtain ⟨x, e1, ev⟩ := bind_some' ev
  obtain ⟨c, e2, ev⟩ := bind_some' ev
  obtain ⟨gg, e3, ev⟩ := bind_some' ev
  split at ev
  · rename_i hno
    refine PySem.W.methodCall_KW (pl := pl) (thn (ho.run pins s σ H (fun v H1 => ∃ F1 μ1, Ex F F1 ∧ μ <+: μ1 ∧ Ag Z.W F1 μ1 x.2 H1 ∧ Rep Z.W F1 μ1 v x.1) I ⟨F, μ, S, ρ, x.1, x.2, g, rr, e1, fun v F1 μ1 H1 x1 p1 g1 r1 => ⟨F1, μ1, x1, p1, g1, r1⟩⟩) fun u s1 hh => ?_) ht
    obtain ⟨v, H1, I1, rx, F1, μ1, x1, p1, g1, r1⟩ := hh
    obtain ⟨a, C, dx, fs, vs, xs, rfl, h1, h2, h3, h4, h5⟩ := ins_rep g1 r1 e2
    obtain rfl : u = Value.ref a := rx
    obtain ⟨f, fd, ps, F0, hM, hb⟩ := M.ex c C gg h2 e3
    refine getmeth_ok I1 h1 (hc.cls c C h2) hM (look_zip_none h4 h3 (by rw [← h5]; exact hno)) ?_
    have hrun := (PA.or2 ha xa).run pos pins s1 σ H1 (fun ws H2 => spX Z.W Z.C.call Z.C.xcall gg (.ref a :: ws) H2 Q (WE Wx σ)) I1 (by
      split at ev
      · rename_i y e4
        exact .inl ⟨F1, μ1, x.2, ρ, y.1, y.2, g1, rr.mono x1 p1, e4, fun ws F2 μ2 H2 x2 p2 g2 r2 => .inr ⟨F2, μ2, y.2, _, x0, S', g2, .cons (r1.mono x2 p2) r2, ev, fun cls dd F' μ' H' x3 p3 g3 r3 => q cls dd F' μ' H' ((x1.trans x2).trans x3) ((p1.trans p2).trans p3) g3 r3⟩⟩
      · exact .inr ⟨F1, μ1, x.2, ρ, x0, S', g1, rr.mono x1 p1, ev, fun cls dd F' μ' H' x3 p3 g3 r3 => q cls dd F' μ' H' (x1.trans x3) (p1.trans p3) g3 r3⟩)
    refine PySem.W.callWith_K (first := [.ref a]) (h₀ := X.base) I.ok.mod.kin hM.kp (thn hrun fun us s2 hh => ?_) hst hpl
    obtain ⟨ws, H2, I2, r, q2⟩ := hh
    refine ⟨I2.kIn, ?_⟩
    exact run_fnSD (us := .ref a :: us) (vs := .ref a :: ws) (dvs := []) (E := WE Wx σ) F0 St.hr hb .nil (passAt tk σ) I2 (.cons rfl r) (by rw [List.append_nil]; exact q2)
  · cases ev
theorem me_xmeth0 {mt : Str} {pl : Sem Bool} (St : Std Z X kk) (hc : ClsF Z X) (M : MthX X.prog X.w X.K X.mg X.base Z.W Z.C.meth Z.C.call Z.C.xcall kk mt) (ho : ME Z X o mo)
    (ht : eval (.Call (.Attribute o mt apos) [] [] pos) X.env = (do
      let ov ← eval o X.env
      standAt apos.atName
      let (f, first) ← holding [ov] (getMethod ov mt pl)
      callWith pos f first (backTo pos (starEach [] X.env)) (backToKw pos (keywordEach [] X.env))) := by rfl) :
    ME Z X (.Call (.Attribute o mt apos) [] [] pos) (.xmeth mo mt []) := by
  refine ⟨fun pins s σ H Q I h => ?_⟩
  obtain ⟨F, μ, S, ρ, d, S', g, rr, ev, q⟩ := h
  unfold evE at ev
  obtain ⟨x, e1, ev⟩ := bind_some' ev
  obtain ⟨c, e2, ev⟩ := bind_some' ev
  obtain ⟨gg, e3, ev⟩ := bind_some' ev
  split at ev
  · rename_i hno
    obtain ⟨y, e4, ev⟩ := bind_some' ev
    unfold evEs at e4
    cases e4
    refine PySem.W.methodCall_KW (pl := pl) (thn (ho.run pins s σ H (fun v H1 => ∃ F1 μ1, Ex F F1 ∧ μ <+: μ1 ∧ Ag Z.W F1 μ1 x.2 H1 ∧ Rep Z.W F1 μ1 v x.1) I ⟨F, μ, S, ρ, x.1, x.2, g, rr, e1, fun v F1 μ1 H1 x1 p1 g1 r1 => ⟨F1, μ1, x1, p1, g1, r1⟩⟩) fun u s1 hh => ?_) ht
    obtain ⟨v, H1, I1, rx, F1, μ1, x1, p1, g1, r1⟩ := hh
    obtain ⟨a, C, dx, fs, vs, xs, rfl, h1, h2, h3, h4, h5⟩ := ins_rep g1 r1 e2
    obtain rfl : u = Value.ref a := rx
    obtain ⟨f, fd, ps, F0, hM, hb⟩ := M.ex c C gg h2 e3
    refine getmeth_ok I1 h1 (hc.cls c C h2) hM (look_zip_none h4 h3 (by rw [← h5]; exact hno)) ?_
    refine PySem.W.callWith_K0 (first := [.ref a]) I1.kIn hM.kp ?_
    refine run_fn (us := [.ref a]) (vs := [.ref a]) (dvs := []) (E := E0) F0 St.hr hb .nil passL I1 (.cons rfl .nil) (.inl ?_)
    exact ⟨F1, μ1, x.2, _, d, S', g1, .cons r1 .nil, ev, fun v F' μ' H' x3 p3 g3 r3 => q v F' μ' H' (x1.trans x3) (p1.trans p3) g3 r3⟩
  · cases ev
theorem xe_xmeth0 {mt : Str} {pl : Sem Bool} (tk : Takes X Wx) (St : Std Z X kk) (hc : ClsF Z X) (M : MthX X.prog X.w X.K X.mg X.base Z.W Z.C.meth Z.C.call Z.C.xcall kk mt) (ho : ME Z X o mo)
    (ht : eval (.Call (.Attribute o mt apos) [] [] pos) X.env = (do
      let ov ← eval o X.env
      standAt apos.atName
      let (f, first) ← holding [ov] (getMethod ov mt pl)
      callWith pos f first (backTo pos (starEach [] X.env)) (backToKw pos (keywordEach [] X.env))) := by rfl) :
    XE' Z Wx X (.Call (.Attribute o mt apos) [] [] pos) (.xmeth mo mt []) := by
  refine ⟨fun pins s σ H Q I h => ?_⟩
  obtain ⟨F, μ, S, ρ, x0, S', g, rr, ev, q⟩ := h
  unfold exE at ev
  obtain ⟨x, e1, ev⟩ := bind_some' ev
  obtain ⟨c, e2, ev⟩ := bind_some' ev
  obtain ⟨gg, e3, ev⟩ := bind_some' ev
  split at ev
  · rename_i hno
    have e4 : evEs Z.C [] ρ x.2 = some ([], x.2) := by unfold evEs; rfl
    rw [e4] at ev
    refine PySem.W.methodCall_KW (pl := pl) (thn (ho.run pins s σ H (fun v H1 => ∃ F1 μ1, Ex F F1 ∧ μ <+: μ1 ∧ Ag Z.W F1 μ1 x.2 H1 ∧ Rep Z.W F1 μ1 v x.1) I ⟨F, μ, S, ρ, x.1, x.2, g, rr, e1, fun v F1 μ1 H1 x1 p1 g1 r1 => ⟨F1, μ1, x1, p1, g1, r1⟩⟩) fun u s1 hh => ?_) ht
    obtain ⟨v, H1, I1, rx, F1, μ1, x1, p1, g1, r1⟩ := hh
    obtain ⟨a, C, dx, fs, vs, xs, rfl, h1, h2, h3, h4, h5⟩ := ins_rep g1 r1 e2
    obtain rfl : u = Value.ref a := rx
    obtain ⟨f, fd, ps, F0, hM, hb⟩ := M.ex c C gg h2 e3
    refine getmeth_ok I1 h1 (hc.cls c C h2) hM (look_zip_none h4 h3 (by rw [← h5]; exact hno)) ?_
    refine PySem.W.callWith_K0 (first := [.ref a]) I1.kIn hM.kp ?_
    exact run_fnSD (us := [.ref a]) (vs := [.ref a]) (dvs := []) (E := WE Wx σ) F0 St.hr hb .nil (passAt tk σ) I1 (.cons rfl .nil) (.inr ⟨F1, μ1, x.2, [x.1], x0, S', g1, .cons r1 .nil, ev, fun cls dd F' μ' H' x3 p3 g3 r3 => q cls dd F' μ' H' (x1.trans x3) (p1.trans p3) g3 r3⟩)
  · cases ev

/-! ### raise, try -/
theorem pmk_own0 {C : Addr} {bmB : List Value} {B newId initId : String} {x : Str} {p pos : Pos} (F : ExcBaseFacts B newId initId bmB) (q : PySem.W.excIn X.K C bmB newId = true) (gC : X.mg x = some (.ref C)) (kC : PySem.W.keepIn X.K (.ref C) = true) (r : Raises X (.ref C)) (hg : Gl X x)
    (hdb : (x == ("__debug__" : Str)) = false := by decide) : PMk X (.Call (.Name x p) [] [] pos) (fun _ H Q => Q (.ref C) none H) := by
  intro pins s σ H Q I h
  refine wpAny_Call_Name_kw (ld_glob I hg gC ?_ hdb)
  refine PySem.W.callWith_K0 I.kIn kC ?_
  show wpAny _ _ (call (.ref C) []) _ _ _
  obtain ⟨bm, N, nm, qn, bs, hdct, sn, sub, ab, col, dd, k0, k1, k2, k3, k5, mN, hC, hN, hni, T⟩ := exc_obj I.kIn q
  refine wpAny_call_exc_subT F T hC hN hni (fun h' e hm => ?_) (Nat.zero_le _)
  exact mk_of I hm r h (I.hok.gone hm.new)
/-- an own exception class without own __init__ -/
structure XCls0 (K : PySem.W.Frag) (C : Addr) : Prop where
  xc : PySem.W.excIn K C [.type "ValueError", .type "Exception", .type "BaseException", .type "object"] "ValueError.__new__" = true
  kp : PySem.W.keepIn K (.ref C) = true
  sb : PySem.W.subIn K (.ref C) (.type "BaseException") = some true
  ty : PySem.W.typeIn K (.ref C) = some (.type "type")
theorem xs_raise0 {cn x : Str} {C : Addr} {p2 : Pos} (tk : Takes X Wx) (St : Std Z X kk) (T : XCls0 Z.W.K C) (hx : Z.W.xa cn = some C) (gC : X.mg x = some (.ref C)) (hg : Gl X x := by rfl) (hdb : (x == ("__debug__" : Str)) = false := by decide) :
    XS' Z Wx X (.Raise (some (.Call (.Name x p) [] [] p2)) none pos) (.raise cn [] [] []) := by
  rw [← St.K] at T
  refine PS.imp (ps_raise St.calm tk (pmk_own0 PySem.F.excBase_ValueError T.xc gC T.kp (raises_own T.sb T.ty) hg hdb)) fun D σ H h => ?_
  obtain ⟨F, μ, S, ρ, x0, ρ', S', g, rr, ev, q⟩ := h
  unfold exS evEs at ev
  cases ev
  exact q (.ref C) none F μ σ H (Ex.refl F) (pre_refl μ) g rr ⟨C, rfl, hx, .inl ⟨rfl, rfl, rfl⟩⟩
theorem Rho.unset {ρ : Env} {i : Nat} (r : Rho Z F μ ρ σ) (hi : i ∉ Z.cs) : Rho Z F μ (ρ.set i none) (σ.set i none) := Rho.wipe r [i] fun j hj => by
  have e : j = i := by simpa using hj
  rw [e]; exact hi
theorem ms_try {x n cn : Str} {Cc : Addr} {k : Nat} {b₀ : Stmt} {body suite : List Stmt} {np pos' : Pos} {mb mh : List Sm} {Wout : WX} (hs : X.stack = X.env :: X.outer) (hf : X.env.frame = some X.env.locals) (hN : X.N.Nodup) (hK : X.K = Z.W.K) (hc : Names X x (.ref Cc)) (tk : Takes X Wout)
    (hx : ∀ c' C' b, Z.W.xa c' = some C' → Z.C.xsub c' cn = some b → PySem.W.exmOne Z.W.K (.ref C') (.ref Cc) = some b)
    (hb : ∀ (W : WX) (pn : List (Addr × Obj)) (xe : Value → Shared → Prop), Takes (X.tr pn xe) W → PassesOwn (model X.prog X.w) X.A X.env xe → MSs Z (X.tr pn xe) body mb ∧ XSs' Z W (X.tr pn xe) body mb)
    (hsu : ∀ (a : Addr) (pn : List (Addr × Obj)), MSs Z (X.suite a pn) (b₀ :: suite) mh) (hi : X.N[k]? = some n := by rfl) (hln : X.env.kindOf n = some .local := by rfl) (hic : k ∉ Z.cs := by first | exact List.not_mem_nil | decide) :
    MS Z X (.Try body [.ExceptHandler (some (.Name x np)) (some n) (b₀ :: suite) pos'] [] [] pos) (.tryx mb cn k mh) := by
  refine PS.imp (ps_try_asV (tb := fun W D σ H => rdSs Z mb D σ H ∨ ErS Z W (exSs Z.C mb) σ H) hs hf hN hi hln hc tk (fun W pn xe t p => PSs.or2 (hb W pn xe t p).1 (hb W pn xe t p).2) hsu) fun D σ H h => ?_
  obtain ⟨F, μ, S, ρ, o, g, rr, ev, q⟩ := h
  unfold evS at ev
  split at ev
  · rename_i o' eb
    cases ev
    exact .inl ⟨F, μ, S, ρ, _, g, rr, eb, q⟩
  · split at ev
    · rename_i c' fs vs ρ' S' ex
      split at ev
      · rename_i hsub
        obtain ⟨o', e1, e2⟩ := map_some' ev
        refine .inr ⟨F, μ, S, ρ, _, ρ', S', g, rr, ex, fun cls dd F' μ' σ' H' x1 p1 g1 r1 xr => ?_⟩
        obtain ⟨C, rfl, hxa, hfs⟩ := xr
        refine ⟨true, C, rfl, by rw [hK]; exact hx c' C true hxa hsub.1, fun _ a na => ?_, fun z => by cases z⟩
        obtain ⟨g2, ex2, e2'⟩ := g1.frz na (XcO C dd a) (by intro ps z; unfold XcO at z; cases z)
        have rx : Rep Z.W (upd F' a (XcO C dd a)) μ' (.ref a) (.exn c' fs vs) := by
          rcases hfs with ⟨rfl, rfl, rfl⟩ | ⟨dx, ws, rfl, h1, h2, h3⟩
          · exact .exn0 e2' hxa
          · exact .exn1 e2' (ex2 _ _ h1) hxa h2 (h3.mono ex2 (pre_refl μ'))
        refine ⟨_, μ', S', _, o', g2, (r1.mono ex2 (pre_refl μ')).set rx hic, e1, ?_⟩
        rw [← e2] at q
        cases o' with
        | nx ρ1 S1 => exact fun F2 μ2 σ2 H2 x2 p2 g2 r2 => q F2 μ2 _ H2 ((x1.trans ex2).trans x2) (p1.trans p2) g2 (Rho.unset r2 hic)
        | rt d S1 => exact fun v F2 μ2 H2 x2 p2 g2 r2 => q v F2 μ2 H2 ((x1.trans ex2).trans x2) (p1.trans p2) g2 r2
        | bk ρ1 S1 => exact fun F2 μ2 σ2 H2 x2 p2 g2 r2 => q F2 μ2 _ H2 ((x1.trans ex2).trans x2) (p1.trans p2) g2 (Rho.unset r2 hic)
        | ct ρ1 S1 => exact fun F2 μ2 σ2 H2 x2 p2 g2 r2 => q F2 μ2 _ H2 ((x1.trans ex2).trans x2) (p1.trans p2) g2 (Rho.unset r2 hic)
      · cases ev
    · cases ev
theorem Std.tr {pn : List (Addr × Obj)} {xe : Value → Shared → Prop} (St : Std Z X kk) : Std Z (X.tr pn xe) kk := ⟨St.K, St.hr, St.calm⟩
end

/-! ### a def that raises keeps its promise -/
section
variable {W : Wd} {F F' : Hp} {μ μ' : List Addr} {S S1 S' : Sto} {H H' : Hp} {x0 x : D} {cls : Value} {dd : Option Addr}
theorem XRep.of_bel {μ0 : List Addr} (p : μ0 <+: μ) (h : XRep W F μ cls dd x) (hb : x.bel μ0.length = true) : XRep W F μ0 cls dd x := by
  cases x <;> try (exact h.elim)
  unfold D.bel at hb
  obtain ⟨C, h1, h2, h3⟩ := h
  refine ⟨C, h1, h2, ?_⟩
  rcases h3 with h3 | ⟨dx, vs, q1, q2, q3, q4⟩
  · exact .inl h3
  · exact .inr ⟨dx, vs, q1, q2, q3, Reps.of_bel (Z := ⟨W, ⟨fun _ _ _ => none, fun _ _ _ => none, fun _ => none, fun _ _ => none, fun _ _ _ => none, fun _ _ => none⟩, [], fun _ => .par⟩) p q4 hb⟩
theorem finX_post {Z : Sd} {m : Mode} {E : XK} (g : Ag Z.W F μ S H) (e : finX m S x0 S1 = some (x, S')) (q : ∀ cls dd F' μ' H', Ex F F' → μ <+: μ' → Ag Z.W F' μ' S' H' → XRep Z.W F' μ' cls dd x → E cls dd H')
    (ex : Ex F F') (p : μ <+: μ') (g' : Ag Z.W F' μ' S1 H') (r : XRep Z.W F' μ' cls dd x0) : E cls dd H' := by
  cases m with
  | raw => cases e; exact q cls dd F' μ' H' ex p g' r
  | keep k fz =>
    unfold finX at e
    dsimp only at e
    by_cases hc : S1.take S.length = S ∧ x0.bel S.length = true
    · rw [if_pos hc] at e
      obtain ⟨hS, hb⟩ := hc
      injection e with e
      injection e with e1 e2
      subst e1 e2
      have hle : S.length ≤ S1.length := by
        have := congrArg List.length hS
        rw [List.length_take] at this
        omega
      have gc := g'.cut hle fun c hcm => by
        rw [hS] at hcm
        obtain ⟨i, hi⟩ := List.mem_iff_getElem?.mp hcm
        obtain ⟨a, _, _, q2⟩ := g.at hi
        have := q2.bel
        rw [g.len] at this
        exact this
      have hl : (μ'.take S.length).length = S.length := by rw [List.length_take, g'.len]; omega
      have pm : μ <+: μ'.take S.length := by
        have h1 := g.len
        obtain ⟨t, rfl⟩ := p
        rw [← h1, List.take_append_of_le_length (Nat.le_refl _), List.take_of_length_le (Nat.le_refl _)]
        exact pre_refl _
      exact q cls dd F' _ H' ex pm gc (r.of_bel (List.take_prefix _ _) (by rw [hl]; exact hb))
    · rw [if_neg hc] at e
      cases e
end
section
variable {Pr : Pr} {Z : Sd} {dd : Nat} {g : Str} {fn : Fn} {N ps : List Str} {vs : List V} {H : Hp} {Q : VK} {E : XK}
theorem body_er (hC : Z.C = ctxP Pr dd) (hfn : Pr.fn g = some fn) (hnp : fn.np = ps.length) (hns : fn.ns = N.length) (hcs : ∀ i ∈ Z.cs, ps.length ≤ i) (h : spE Z.W (callX Pr (dd + 1)) g vs H Q E) :
    ErS Z (fun cls d _ H => E cls d H) (exSs Z.C fn.body) (L2.start N vs) H := by
  obtain ⟨F, μ, S, args, d, S', G, rs, ev, q⟩ := h
  rw [callX_succ, hfn, Option.bind_some] at ev
  have hl := rs.length
  split at ev
  · rename_i ha
    rw [← hC] at ev
    have hst : L2.start N vs = vs.map some ++ List.replicate (fn.ns - fn.np) none := by
      unfold L2.start
      rw [hns, hl, ha]
    rw [hst]
    have R := rho_start (Z := Z) rs (fun i hi => by have := hcs i hi; omega) (n := fn.ns - fn.np)
    split at ev
    · rename_i x0 ρ1 S1 eb
      exact ⟨F, μ, S, _, x0, ρ1, S1, G, R, eb, fun cls d F' μ' σ' H' x' p' g' r' xr => finX_post (Z := Z) G ev q x' p' g' xr⟩
    · cases ev
  · cases ev
theorem spX_len (hfn : Pr.fn g = some fn) (hnp : fn.np = ps.length) {W : Wd} {n : Nat} (h : spX W (callF Pr n) (callX Pr n) g vs H Q E) : vs.length = ps.length := by
  rcases h with h | h
  · exact spC_len hfn hnp h
  · obtain ⟨F, μ, S, args, d, S', G, rs, ev, q⟩ := h
    cases n with
    | zero => cases ev
    | succ n =>
      rw [callX_succ, hfn, Option.bind_some] at ev
      split at ev
      · rename_i ha
        rw [rs.length, ha, hnp]
      · cases ev
end
section
variable {P : Program} {w : World} {K : PySem.W.Frag} {mg : Str → Option Value} {base : Heap} {x qual : Str} {params : Arguments} {body : List Stmt} {scope : Scope} {dvs : List V} {kws : List (Str × V)} {f : Addr} {fd : FuncData} {N ps : List Str}
variable {W : Wd} {pr : Pr} {d : Nat} {g : Str} {fn : Fn}
theorem fnokX0 : FnOk P w K mg base (L2.CX P w) 0 f fd ps (spX W (callF pr 0) (callX pr 0) g) :=
  ⟨fun vs H Q E h => (by rcases h with ⟨F, μ, S, args, d, S', G, rs, ev, q⟩ | ⟨F, μ, S, args, d, S', G, rs, ev, q⟩ <;> cases ev),
    fun A outer s H args us vs Q E hr e0 hb r h => by rcases h with ⟨F, μ, S, args, d, S', G, rs, ev, q⟩ | ⟨F, μ, S, args, d, S', G, rs, ev, q⟩ <;> cases ev⟩
theorem fnokX (F : FunD K x qual params body scope dvs kws f fd) (S : FnScope N ps scope) (hfn : pr.fn g = some fn) (hnp : fn.np = ps.length) (hns : fn.ns = N.length)
    (hb : ∀ (cdv : Value) (A : Around) (outer : List PySem.Env) (s : Shared) (H : Hp) (E : XK), Room d (A.deeper (envOfC qual scope s.heap.objs.size f cdv)) → MSs ⟨W, ctxP pr d, [], fun _ => .par⟩ (cxOf (L2.CX P w) P w K mg base N qual scope f cdv A outer s H E) body fn.body ∧
      XSs' ⟨W, ctxP pr d, [], fun _ => .par⟩ (fun cls d _ H => E cls d H) (cxOf (L2.CX P w) P w K mg base N qual scope f cdv A outer s H E) body fn.body) :
    FnOk P w K mg base (L2.CX P w) (d + 1) f fd ps (spX W (callF pr (d + 1)) (callX pr (d + 1)) g) :=
  F.ok S (fun vs H Q E h => spX_len hfn hnp h) fun cdv A outer s H vs Q E hr h => ⟨_, PSs.or2 (hb cdv A outer s H E hr).1 (hb cdv A outer s H E hr).2,
    h.elim (fun h => .inl (body_ok (Z := ⟨W, ctxP pr d, [], fun _ => .par⟩) rfl hfn hnp hns (fun i hi => by cases hi) h)) (fun h => .inr (body_er (Z := ⟨W, ctxP pr d, [], fun _ => .par⟩) rfl hfn hnp hns (fun i hi => by cases hi) h))⟩
theorem fnokCX {p : Str × Option Str} {Zs : Shared → Sd} (F : FunD K x qual params body scope dvs kws f fd) (hf : f = He.fAd K p) (S : FnScope N ps scope) (hfn : pr.fn g = some fn) (hnp : fn.np = ps.length) (hns : fn.ns = N.length) (hZ : ∀ s, (Zs s).W = W ∧ (Zs s).C = ctxP pr d ∧ ∀ i ∈ (Zs s).cs, ps.length ≤ i)
    (hb : ∀ (A : Around) (outer : List PySem.Env) (s : Shared) (H : Hp) (E : XK), Room d (A.deeper (envOfC qual scope s.heap.objs.size f (.ref (He.codeOf K p)))) → MSs (Zs s) (cxOf (L2.CX P w) P w K mg base N qual scope f (.ref (He.codeOf K p)) A outer s H E) body fn.body ∧
      XSs' (Zs s) (fun cls d _ H => E cls d H) (cxOf (L2.CX P w) P w K mg base N qual scope f (.ref (He.codeOf K p)) A outer s H E) body fn.body) :
    FnOk P w K mg base (L2.CX P w) (d + 1) f fd ps (spX W (callF pr (d + 1)) (callX pr (d + 1)) g) := by
  obtain ⟨oc, od, dV, kV, doc, pm, an, cdv, ct, osl, rfl, lk, hcd, _, _⟩ := F.ex
  obtain ⟨c, rfl⟩ := He.codeIn_ref hcd
  have hc : He.codeOf K p = c := He.codeOf_eq (by rw [← hf]; exact lk) rfl
  refine fn_of lk hcd S (fun vs H Q E h => spX_len hfn hnp h) fun A outer s H vs Q E hr h => ⟨fun D σ H => rdSs (Zs s) fn.body D σ H ∨ ErS (Zs s) (fun cls d _ H => E cls d H) (exSs (Zs s).C fn.body) σ H, ?_, ?_⟩
  · rw [← hc]
    have q := hb A outer s H E (by rw [hc]; exact hr)
    exact PSs.or2 q.1 q.2
  · obtain ⟨h1, h2, h3⟩ := hZ s
    rcases h with h | h
    · rw [← h1] at h
      exact .inl (body_ok h2 hfn hnp hns h3 h)
    · rw [← h1] at h
      exact .inr (body_er h2 hfn hnp hns h3 h)
end
end Fw

set_option Elab.async false
set_option linter.all false
set_option maxRecDepth 100000
/-! FwX: caught errors asked: isinstance, fields; lists of truth values: count, index. -/
namespace Fw
open PySem L2 PySem.Spec PyProof.Rows PySem.Calls
open Evl (Ex)
/-- what a caught error's class must say -/
structure XIs (K : PySem.W.Frag) (C : Addr) : Prop where
  cl : (PySem.W.clsIn K C).isSome = true
  ga : PySem.W.findIn K (.ref C) "__getattribute__" = some (some (.builtin "BaseException.__getattribute__"))
  gg : PySem.W.findIn K (.ref C) "__getattr__" = some none
  sb : PySem.W.subIn K (.ref C) (.type "BaseException") = some true
  hd : PySem.W.hasDictIn K C = true
  ca : PySem.W.findIn K (.ref C) "__class__" = some (some (.builtin "object.__class__"))
  cn : PySem.W.specialIn K (.builtin "object.__class__") "__get__" = some (some (.builtin "getset_descriptor.__get__"))
  ct : PySem.W.takesIn K (.builtin "object.__class__") = some true
  cm : PySem.W.mroIn K C (.type "object") = some true
section
variable {Z : Sd} {Wx : WX} {X : Cx} {e a b c o i l x : Expr} {rest es : List Expr} {m ma mb mc mo mi ml mx : E} {ms mks : List E} {pos apos cpos p p2 : Pos} {F : Hp} {μ : List Addr} {S : Sto} {H : Hp} {kk : Nat} {σ : L2.St}
/-- the object of a caught error -/
def XAt (H : Hp) (a C : Addr) (od : Option (Addr × List (Str × V))) : Prop := H a = some (XcO C (od.map (·.1)) a) ∧ ∀ dx fs, od = some (dx, fs) → H dx = some (.xd fs)
theorem XAt.inst {P : Program} {w : World} {h : Heap} {a C : Addr} {od : Option (Addr × List (Str × V))} (x : XAt H a C od) (hok : HOk P w H h) : ∃ (oe : Obj) (od' : Option Obj), PySem.W.InstAt h a oe C od' ∧ ∀ dx fs, od = some (dx, fs) → ∃ (o : Obj) (mA : Str → Option Value), od' = some o ∧ (∀ n, PySem.W.lookIn n o = some (mA n)) ∧ ∀ n, RelO (fs.lookup n) (mA n) := by
  obtain ⟨h1, h2⟩ := x
  have q : ObjOk P w H h a (.ext fun h => ∃ (oe : Obj) (vs : Array Value), h.get? a = some oe ∧ L2.Zc (.ref C) (od.map (·.1)) oe ∧ oe.data = .fields vs) := hok a _ h1
  obtain ⟨⟨oe, vs, he, hz, hd⟩, _⟩ := q
  cases od with
  | none => exact ⟨oe, none, ⟨he, hz.1, by unfold PySem.W.notCls; rw [hd] <;> rfl, by rw [hz.2]; trivial⟩, fun dx fs z => by cases z⟩
  | some d =>
    obtain ⟨dx, fs⟩ := d
    have hx : ObjOk P w H h dx (.xd fs) := hok dx _ (h2 dx fs rfl)
    obtain ⟨mA, hns, hr⟩ := hx
    obtain ⟨od, ho, hl⟩ := lookIn_ns hns
    refine ⟨oe, some od, ⟨he, hz.1, by unfold PySem.W.notCls; rw [hd] <;> rfl, by rw [hz.2]; exact ho⟩, fun dx' fs' z => ?_⟩
    cases z
    exact ⟨od, mA, rfl, hl, hr⟩
theorem exn_rd {v : V} {cn : Str} {fs : List Str} {xs : List D} (g : Ag Z.W F μ S H) (r : Rep Z.W F μ v (.exn cn fs xs)) : ∃ a C od, v = .ref a ∧ Z.W.xa cn = some C ∧ XAt H a C od ∧ ((fs = [] ∧ xs = []) ∨ ∃ dx vs, od = some (dx, fs.zip vs) ∧ fs.length = vs.length ∧ Reps Z.W F μ vs xs) := by
  cases r with
  | exn0 h k => exact ⟨_, _, none, rfl, k, ⟨g.ex _ _ h, fun dx fs z => by cases z⟩, .inl ⟨rfl, rfl⟩⟩
  | exn1 h h2 k hl rs => exact ⟨_, _, some (_, _), rfl, k, ⟨g.ex _ _ h, fun dx fs z => by cases z; exact g.ex _ _ h2⟩, .inr ⟨_, _, rfl, hl, rs⟩⟩
def rIsV (K : PySem.W.Frag) : List V → Hp → VK → Prop := fun xs H Q => ∃ (a C : Addr) (od : Option (Addr × List (Str × V))) (c : V) (cv : Value) (b : Bool), xs = [.ref a, c] ∧ XAt H a C od ∧ XIs K C ∧ (∀ u, RelV c u → u = cv) ∧ PySem.W.kitOne K (.ref C) cv = some b ∧ Q (.bl b) H
theorem call_isV : CallR X (.builtin "isinstance") (rIsV X.K) := by
  intro pins s σ H xs us Q I r h
  obtain ⟨a, C, od, c, cv, b, rfl, xa, T, hcv, e, q⟩ := h
  cases r with
  | cons rx rr =>
    cases rr with
    | cons rt rr =>
      cases rr
      cases rx
      have ec := hcv _ rt
      subst ec
      obtain ⟨oe, od', J, _⟩ := xa.inst I.hok
      exact PySem.W.kia_one (PySem.W.kitx_exc T.cl T.ga T.gg T.sb T.ca T.cn T.ct T.cm) I.kIn J e (fun z => nomatch z) fun tk => ⟨.bl b, H, I.kept (t' := tk) fun _ _ z => z, rfl, q⟩
theorem rd_isx {n : Str} {c : V} {cv : Value} (hK : X.K = Z.W.K) (hT : ∀ c C, Z.W.xa c = some C → XIs Z.W.K C) (hcv : ∀ u, RelV c u → u = cv) (hk : ∀ c' C' b, Z.W.xa c' = some C' → Z.C.xsub c' n = some b → PySem.W.kitOne Z.W.K (.ref C') cv = some b) {Q : VK} (h : rdE Z (.isx m n) σ H Q) :
    rdE Z m σ H fun v H1 => rIsV X.K [v, c] H1 Q := by
  obtain ⟨F, μ, S, ρ, d, S', g, rr, ev, q⟩ := h
  unfold evE at ev
  obtain ⟨y, e1, ev⟩ := bind_some' ev
  refine ⟨F, μ, S, ρ, y.1, y.2, g, rr, e1, fun v F1 μ1 H1 x1 p1 g1 r1 => ?_⟩
  split at ev
  · rename_i c' fs vs ey
    obtain ⟨b, e2, e3⟩ := map_some' ev
    cases e3
    rw [ey] at r1
    obtain ⟨a, C, od, rfl, hxa, xat, _⟩ := exn_rd g1 r1
    exact ⟨a, C, od, c, cv, b, rfl, xat, by rw [hK]; exact hT c' C hxa, hcv, by rw [hK]; exact hk c' C b hxa e2, q _ F1 μ1 H1 x1 p1 g1 (.bl b)⟩
  · cases ev
/-- isinstance(e, C), e a caught error, C an own class of errors -/
theorem me_isx {n : Str} {C : Addr} (St : Std Z X kk) (hm : X.mg "isinstance" = none) (hmT : X.mg n = some (.ref C)) (hT : ∀ c C, Z.W.xa c = some C → XIs Z.W.K C)
    (hk : ∀ c' C' b, Z.W.xa c' = some C' → Z.C.xsub c' n = some b → PySem.W.kitOne Z.W.K (.ref C') (.ref C) = some b) (he : ME Z X e m) (hgT : Gl X n := by rfl) (hg : Gl X "isinstance" := by rfl) (hdb : (n == ("__debug__" : Str)) = false := by decide)
    (hse : starEach [e, .Name n p2] X.env = (false, eval e X.env) :: starEach [.Name n p2] X.env := by rfl) (hse2 : starEach [.Name n p2] X.env = (false, eval (.Name n p2) X.env) :: starEach [] X.env := by rfl) (hpl : (backTo pos (starEach [.Name n p2] X.env)).any (·.1) = false := by rfl) :
    ME Z X (.Call (.Name "isinstance" p) [e, .Name n p2] [] pos) (.isx m n) :=
  PE.imp (pe_callB call_isV hg hm (by decide +kernel) (pa_cons he (pa_cons (pe_glob (v := .ref C) hgT hmT rfl hdb) pa_nil hse2) hse) (he := hse) (hpl := hpl)) fun σ H Q h => rd_isx (c := .ref C) (cv := .ref C) St.K hT (fun u hu => hu) hk h
/-- .. C a built-in class of errors -/
theorem me_isxB {n : Str} {B : String} (St : Std Z X kk) (hm : X.mg "isinstance" = none) (hmT : X.mg n = none) (hB : bootBuiltins n = some (.type B)) (hT : ∀ c C, Z.W.xa c = some C → XIs Z.W.K C)
    (hk : ∀ c' C' b, Z.W.xa c' = some C' → Z.C.xsub c' n = some b → PySem.W.kitOne Z.W.K (.ref C') (.type B) = some b) (he : ME Z X e m) (hgT : Gl X n := by rfl) (hg : Gl X "isinstance" := by rfl) (hdb : (n == ("__debug__" : Str)) = false := by decide) (hnn : n ≠ "__name__" := by decide)
    (hse : starEach [e, .Name n p2] X.env = (false, eval e X.env) :: starEach [.Name n p2] X.env := by rfl) (hse2 : starEach [.Name n p2] X.env = (false, eval (.Name n p2) X.env) :: starEach [] X.env := by rfl) (hpl : (backTo pos (starEach [.Name n p2] X.env)).any (·.1) = false := by rfl) :
    ME Z X (.Call (.Name "isinstance" p) [e, .Name n p2] [] pos) (.isx m n) :=
  PE.imp (pe_callB call_isV hg hm (by decide +kernel) (pa_cons he (pa_cons (pe_bltn (v := .ty B) hgT hmT hB rfl hnn hdb) pa_nil hse2) hse) (he := hse) (hpl := hpl)) fun σ H Q h => rd_isx (c := .ty B) (cv := .type B) St.K hT (fun u hu => hu) hk h

/-! ### a caught error's field -/
def tXfV (K : PySem.W.Frag) (n : Str) (te : TE) : TE := fun σ H Q => te σ H fun x H1 => ∃ (a C dx : Addr) (fs : List (Str × V)) (v : V), x = .ref a ∧ XAt H1 a C (some (dx, fs)) ∧ XIs K C ∧ PySem.W.findIn K (.ref C) n = some none ∧ fs.lookup n = some v ∧ Q v H1
theorem pe_xfV {te : TE} {n : Str} (he : PE X e te) (hb : attributeBase e n X.env (eval e X.env) = eval e X.env := by rfl) : PE X (.Attribute e n pos) (tXfV X.K n te) := by
  refine ⟨fun pins s σ H Q I h => ?_⟩
  refine attr_of hb (thn (he.run pins s σ H _ I h) fun u s1 hh => ?_)
  obtain ⟨x, H1, I1, rx, a, C, dx, fs, v, ex, xat, T, hno, l, q⟩ := hh
  subst ex
  obtain rfl : u = Value.ref a := rx
  obtain ⟨oe, od', J, hod⟩ := xat.inst I1.hok
  obtain ⟨od, mA, rfl, hlk, hr⟩ := hod dx fs rfl
  obtain ⟨u, hu, ru⟩ := RelO.some_of (v := v) (o := mA n) (by rw [← l]; exact hr n)
  exact HandSPX.exc_get I1.kIn J T.ga T.gg T.sb (PySem.W.findObj_own T.hd hno rfl (by rw [hlk, hu])) (handed_of ru) ⟨v, H1, I1.tok _, ru, q⟩
theorem me_fldx {n : Str} (St : Std Z X kk) (hT : ∀ c C, Z.W.xa c = some C → XIs Z.W.K C) (hno : ∀ c C, Z.W.xa c = some C → PySem.W.findIn Z.W.K (.ref C) n = some none) (he : ME Z X e m) (hb : attributeBase e n X.env (eval e X.env) = eval e X.env := by rfl) : ME Z X (.Attribute e n pos) (.fldx m n) := by
  refine PE.imp (pe_xfV he hb) fun σ H Q h => ?_
  obtain ⟨F, μ, S, ρ, d, S', g, rr, ev, q⟩ := h
  unfold evE at ev
  obtain ⟨y, e1, ev⟩ := bind_some' ev
  refine ⟨F, μ, S, ρ, y.1, y.2, g, rr, e1, fun v F1 μ1 H1 x1 p1 g1 r1 => ?_⟩
  split at ev
  · rename_i c' fs xs ey
    obtain ⟨d', e2, e3⟩ := map_some' ev
    cases e3
    rw [ey] at r1
    obtain ⟨a, C, od, rfl, hxa, xat, hfs⟩ := exn_rd g1 r1
    rcases hfs with ⟨rfl, rfl⟩ | ⟨dx, vs, rfl, hl, rs⟩
    · cases e2
    · obtain ⟨w, l1, l2⟩ := look_zip rs hl e2
      exact ⟨a, C, dx, _, w, rfl, xat, by rw [St.K]; exact hT c' C hxa, by rw [St.K]; exact hno c' C hxa, l1, q _ F1 μ1 H1 x1 p1 g1 l2⟩
  · cases ev

/-! ### a list of truth values: count, index -/
def rCntF (K : PySem.W.Frag) : V → List V → Hp → VK → Prop := fun x xs H Q => ∃ (a : Addr) (ys : List V) (y : V), x = V.ref a ∧ xs = [y] ∧ SqL K H a ys ∧ flatV y = true ∧ ys.all flatV = true ∧ Q (.int (ys.countP fun z => eqV z y : Nat)) H
theorem countP_U {y : V} {us : List Value} {ys : List V} (r : Vals ys us) (f : ys.all flatV = true) : us.countP (eqU y) = ys.countP fun z => eqV z y := by
  induction r with
  | nil => rfl
  | @cons v u vs us r1 r2 ih =>
    rw [List.all_cons, Bool.and_eq_true] at f
    rw [List.countP_cons, List.countP_cons, ih f.2, eqU_of r1 f.1]
theorem mt_cntF : MtR X "list.count" (rCntF X.K) := by
  intro pins s σ H x xs v us Q I rx rxs h
  obtain ⟨a, ys, y, rfl, rfl, hs, fy, fys, q⟩ := h
  cases rx
  obtain ⟨u, rfl, ru⟩ := rxs.one
  obtain ⟨its, rv, ⟨⟨cls, dd, data, sl⟩, n, ho, hc, hdn, hd⟩, hlen⟩ := I.list hs
  simp only at hc hd
  subst hc hd
  refine call_meets PySem.F.slot_list_count ⟨_, ho, rfl⟩ PySem.F.entry_list_count (PySem.F.args_list_count_2 _ _)
    (SeqAt.list_countAt a its.toArray n dd sl u (eqU y)) ⟨ho, fun z hz => mem_eqAt ru fy rv fys z (by simpa using hz), ?_⟩
  have ec : its.toArray.toList.countP (eqU y) = ys.countP fun z => eqV z y := countP_U rv fys
  refine ⟨.int (ys.countP fun z => eqV z y : Nat), H, I.tok _, ⟨s.toks, ?_⟩, q⟩
  show Value.int ((its.toArray.toList.countP (eqU y) : Nat) : Int) s.toks = Value.int ((ys.countP fun z => eqV z y : Nat) : Int) s.toks
  rw [ec]
theorem bl_flat : ∀ bs : List Bool, (bs.map V.bl).all flatV = true
  | [] => rfl
  | b :: bs => by rw [List.map_cons, List.all_cons, bl_flat bs]; rfl
theorem bl_count (b : Bool) : ∀ bs : List Bool, (bs.map V.bl).countP (fun z => eqV z (.bl b)) = (bs.filter fun y => y == b).length
  | [] => rfl
  | y :: bs => by
    rw [List.map_cons, List.countP_cons, bl_count b bs, List.filter_cons]
    show _ + (if (y == b) = true then 1 else 0) = _
    split <;> rfl
theorem idxB_at (b : Bool) : ∀ (bs : List Bool) (n : Nat), idxB b bs = some n → bs[n]? = some b ∧ ∀ m y, m < n → bs[m]? = some y → (y == b) = false
  | [], n, h => by cases h
  | y :: bs, n, h => by
    unfold idxB at h
    split at h
    · rename_i hy
      cases h
      exact ⟨by rw [beq_iff_eq.mp hy]; rfl, fun m y hm => by omega⟩
    · rename_i hy
      obtain ⟨k, e, rfl⟩ := map_some' h
      obtain ⟨h1, h2⟩ := idxB_at b bs k e
      refine ⟨by simpa using h1, fun m z hm hz => ?_⟩
      cases m with
      | zero =>
        have hz : y = z := by simpa using hz
        rw [← hz]
        simpa using hy
      | succ m => exact h2 m z (by omega) (by simpa using hz)
theorem me_cntl (St : Std Z X kk) (ho : ME Z X l ml) (ha : ME Z X x mx)
    (hbase : attributeBase l "count" X.env (eval l X.env) = eval l X.env := by rfl)
    (hfew : ((backTo cpos (starEach [x] X.env)).all (fun x => !x.1) && (backToKw cpos (keywordEach [] X.env)).all (fun x => x.1.isSome) && decide ([x].length + ([] : List Keyword).length + (if ([] : List Keyword).isEmpty then 0 else 1) < 30)) = true := by rfl)
    (hline : (apos.endLine == cpos.line) = true := by rfl) (hse : starEach [x] X.env = (false, eval x X.env) :: starEach [] X.env := by rfl) (hpl : (backTo cpos (starEach [] X.env)).any (·.1) = false := by rfl) :
    ME Z X (.Call (.Attribute l "count" apos) [x] [] cpos) (.cntl ml mx) := by
  refine PE.imp (pe_bm PySem.F.plainAttrs_list PySem.F.slot_list_count PySem.F.type_list_count mt_cntF ho (pa_cons ha pa_nil hse) hbase hfew hline hse hpl) fun σ H Q h => ?_
  obtain ⟨F, μ, S, ρ, d, S', g, rr, ev, q⟩ := h
  unfold evE at ev
  obtain ⟨xl, e1, ev⟩ := bind_some' ev
  obtain ⟨xs0, e0, ev⟩ := bind_some' ev
  obtain ⟨y, e2, ev⟩ := bind_some' ev
  obtain ⟨n, e3, ev⟩ := map_some' ev
  cases ev
  rw [St.K]
  refine ⟨F, μ, S, ρ, xl.1, xl.2, g, rr, e1, fun v F1 μ1 H1 x1 p1 g1 r1 => ?_⟩
  obtain ⟨a0, vs0, rfl, hH0, _⟩ := lsOf_rep g1 r1 e0
  refine ⟨.inl ⟨rfl, _, SqL.of hH0⟩, F1, μ1, xl.2, ρ, y.1, y.2, g1, rr.mono x1 p1, e2, fun u F2 μ2 H2 x2 p2 g2 r2 => ?_⟩
  unfold cntD at e3
  obtain ⟨xs, f1, e3⟩ := bind_some' e3
  obtain ⟨bs, f2, e3⟩ := bind_some' e3
  obtain ⟨a1, vs1, ea, hH1, rs1⟩ := lsOf_rep g2 (r1.mono x2 p2) f1
  have hvs := allBl_rep rs1 f2
  subst hvs
  split at e3
  · rename_i b eb
    cases e3
    rw [eb] at r2
    cases r2
    exact ⟨a1, _, .bl b, ea, rfl, SqL.of hH1, rfl, bl_flat bs, by rw [bl_count]; exact q _ F2 μ2 H2 (x1.trans x2) (p1.trans p2) g2 (.int _)⟩
  · cases e3
theorem me_idxl (St : Std Z X kk) (ho : ME Z X l ml) (ha : ME Z X x mx)
    (hbase : attributeBase l "index" X.env (eval l X.env) = eval l X.env := by rfl)
    (hfew : ((backTo cpos (starEach [x] X.env)).all (fun x => !x.1) && (backToKw cpos (keywordEach [] X.env)).all (fun x => x.1.isSome) && decide ([x].length + ([] : List Keyword).length + (if ([] : List Keyword).isEmpty then 0 else 1) < 30)) = true := by rfl)
    (hline : (apos.endLine == cpos.line) = true := by rfl) (hse : starEach [x] X.env = (false, eval x X.env) :: starEach [] X.env := by rfl) (hpl : (backTo cpos (starEach [] X.env)).any (·.1) = false := by rfl) :
    ME Z X (.Call (.Attribute l "index" apos) [x] [] cpos) (.idxl ml mx) := by
  refine PE.imp (pe_bm PySem.F.plainAttrs_list PySem.F.slot_list_index PySem.F.type_list_index mt_index ho (pa_cons ha pa_nil hse) hbase hfew hline hse hpl) fun σ H Q h => ?_
  obtain ⟨F, μ, S, ρ, d, S', g, rr, ev, q⟩ := h
  unfold evE at ev
  obtain ⟨xl, e1, ev⟩ := bind_some' ev
  obtain ⟨xs0, e0, ev⟩ := bind_some' ev
  obtain ⟨y, e2, ev⟩ := bind_some' ev
  obtain ⟨n, e3, ev⟩ := map_some' ev
  cases ev
  rw [St.K]
  refine ⟨F, μ, S, ρ, xl.1, xl.2, g, rr, e1, fun v F1 μ1 H1 x1 p1 g1 r1 => ?_⟩
  obtain ⟨a0, vs0, rfl, hH0, _⟩ := lsOf_rep g1 r1 e0
  refine ⟨.inl ⟨rfl, _, SqL.of hH0⟩, F1, μ1, xl.2, ρ, y.1, y.2, g1, rr.mono x1 p1, e2, fun u F2 μ2 H2 x2 p2 g2 r2 => ?_⟩
  unfold idxlD at e3
  obtain ⟨xs, f1, e3⟩ := bind_some' e3
  obtain ⟨bs, f2, e3⟩ := bind_some' e3
  obtain ⟨a1, vs1, ea, hH1, rs1⟩ := lsOf_rep g2 (r1.mono x2 p2) f1
  have hvs := allBl_rep rs1 f2
  subst hvs
  split at e3
  · rename_i b eb
    obtain ⟨j, e4, rfl⟩ := map_some' e3
    rw [eb] at r2
    cases r2
    obtain ⟨h1, h2⟩ := idxB_at b bs j e4
    refine ⟨a1, _, .bl b, j, .bl b, ea, rfl, SqL.of hH1, rfl, bl_flat bs, by rw [List.getElem?_map, h1]; rfl, by show (b == b) = true; simp, fun m z hm hz => ?_, q _ F2 μ2 H2 (x1.trans x2) (p1.trans p2) g2 (.int _)⟩
    rw [List.getElem?_map] at hz
    obtain ⟨y', h3, h4⟩ := map_some' hz
    subst h4
    exact h2 m y' hm h3
  · cases e3
end
end Fw
namespace Fw
open PySem L2
def xcls0B (K : PySem.W.Frag) (C : Addr) : Bool := PySem.W.excIn K C [.type "ValueError", .type "Exception", .type "BaseException", .type "object"] "ValueError.__new__" && (PySem.W.keepIn K (.ref C) && (decide (PySem.W.subIn K (.ref C) (.type "BaseException") = some true) && decide (PySem.W.typeIn K (.ref C) = some (.type "type"))))
theorem xcls0_ok {K : PySem.W.Frag} {C : Addr} (h : xcls0B K C = true) : XCls0 K C := by
  obtain ⟨h1, h⟩ := Bool.and_eq_true_iff.mp h
  obtain ⟨h2, h⟩ := Bool.and_eq_true_iff.mp h
  obtain ⟨h3, h4⟩ := Bool.and_eq_true_iff.mp h
  exact ⟨h1, h2, of_decide_eq_true h3, of_decide_eq_true h4⟩
def xisB (K : PySem.W.Frag) (C : Addr) : Bool := (PySem.W.clsIn K C).isSome && (decide (PySem.W.findIn K (.ref C) "__getattribute__" = some (some (.builtin "BaseException.__getattribute__"))) && (decide (PySem.W.findIn K (.ref C) "__getattr__" = some none) &&
  (decide (PySem.W.subIn K (.ref C) (.type "BaseException") = some true) && (PySem.W.hasDictIn K C && (decide (PySem.W.findIn K (.ref C) "__class__" = some (some (.builtin "object.__class__"))) && (decide (PySem.W.specialIn K (.builtin "object.__class__") "__get__" = some (some (.builtin "getset_descriptor.__get__"))) &&
  (decide (PySem.W.takesIn K (.builtin "object.__class__") = some true) && decide (PySem.W.mroIn K C (.type "object") = some true))))))))
theorem xis_ok {K : PySem.W.Frag} {C : Addr} (h : xisB K C = true) : XIs K C := by
  obtain ⟨h1, h⟩ := Bool.and_eq_true_iff.mp h
  obtain ⟨h2, h⟩ := Bool.and_eq_true_iff.mp h
  obtain ⟨h3, h⟩ := Bool.and_eq_true_iff.mp h
  obtain ⟨h4, h⟩ := Bool.and_eq_true_iff.mp h
  obtain ⟨h5, h⟩ := Bool.and_eq_true_iff.mp h
  obtain ⟨h6, h⟩ := Bool.and_eq_true_iff.mp h
  obtain ⟨h7, h⟩ := Bool.and_eq_true_iff.mp h
  obtain ⟨h8, h9⟩ := Bool.and_eq_true_iff.mp h
  exact ⟨h1, of_decide_eq_true h2, of_decide_eq_true h3, of_decide_eq_true h4, h5, of_decide_eq_true h6, of_decide_eq_true h7, of_decide_eq_true h8, of_decide_eq_true h9⟩
end Fw
namespace Fw
open PySem L2
theorem ms_raise {Z : Sd} {X : Cx} {st : Stmt} {c : Str} {fs : List Str} {as : List E} {ds : List D} : MS Z X st (.raise c fs as ds) := by
  refine PS.imp ps_never fun D σ H h => ?_
  obtain ⟨F, μ, S, ρ, o, g, rr, ev, q⟩ := h
  unfold evS at ev
  cases ev
end Fw

set_option Elab.async false
set_option linter.all false
set_option maxRecDepth 100000
/-! FwY: the evaluator by simp: what is raised, what is caught; further forms. -/
namespace Fw
open PySem
section
variable {C : Ctx} {ρ : Env} {S : Sto} {a b c e o i : E} {as bs cs ds : List E}
@[simp] theorem ev_xcal {g : Str} {ds : List D} : evE C (.xcal g as ds) ρ S = (evEs C as ρ S).bind fun x => C.call g (x.1 ++ ds) x.2 := by rw [evE]
@[simp] theorem ev_xcalk {g : Str} {ord : List (Nat ⊕ D)} : evE C (.xcalk g as ord) ρ S = (evEs C as ρ S).bind fun x => (ordD x.1 ord).bind fun vs => C.call g vs x.2 := by rw [evE]
@[simp] theorem ev_xmeth {m : Str} : evE C (.xmeth o m as) ρ S = (evE C o ρ S).bind fun x => (clsOf x.2 x.1).bind fun c => (C.meth c m).bind fun g => onB (.bl (fldD x.2 x.1 m).isNone) ((evEs C as ρ x.2).bind fun y => C.call g (x.1 :: y.1) y.2) none := by
  rw [evE]; congr 1; funext x; congr 1; funext c; congr 1; funext g
  cases (fldD x.2 x.1 m).isNone <;> rfl
def isxD (C : Ctx) (c : Str) : D → Option Bool
  | .exn c' _ _ => C.xsub c' c
  | _ => none
@[simp] theorem isxD_exn {c c' : Str} {fs : List Str} {vs : List D} : isxD C c (.exn c' fs vs) = C.xsub c' c := rfl
@[simp] theorem ev_isx {c : Str} : evE C (.isx e c) ρ S = (evE C e ρ S).bind fun x => (isxD C c x.1).map fun b => (.bl b, x.2) := by
  rw [evE]; congr 1; funext x
  cases x.1 <;> rfl
def fldxD (f : Str) : D → Option D
  | .exn _ fs vs => getFd f (fs.zip vs)
  | _ => none
@[simp] theorem fldxD_exn {f c' : Str} {fs : List Str} {vs : List D} : fldxD f (.exn c' fs vs) = getFd f (fs.zip vs) := rfl
@[simp] theorem ev_fldx {f : Str} : evE C (.fldx e f) ρ S = (evE C e ρ S).bind fun x => (fldxD f x.1).map fun b => (b, x.2) := by
  rw [evE]; congr 1; funext x
  cases x.1 <;> rfl
@[simp] theorem ev_cntl : evE C (.cntl a b) ρ S = (evE C a ρ S).bind fun x => (lsOf x.2 x.1).bind fun _ => (evE C b ρ x.2).bind fun y => (cntD y.2 x.1 y.1).map fun n => (.int n, y.2) := by rw [evE]
@[simp] theorem ev_idxl : evE C (.idxl a b) ρ S = (evE C a ρ S).bind fun x => (lsOf x.2 x.1).bind fun _ => (evE C b ρ x.2).bind fun y => (idxlD y.2 x.1 y.1).map fun n => (.int n, y.2) := by rw [evE]
@[simp] theorem ev_idxs : evE C (.idxs a b) ρ S = (evE C a ρ S).bind fun x => (evE C b ρ x.2).bind fun y => (idxsD x.1 y.1).map fun n => (.int n, y.2) := by rw [evE]
@[simp] theorem ev_dsp {ks : List Key} : evE C (.dsp ks as) ρ S = (evEs C as ρ S).bind fun x => if ks.length = x.1.length ∧ ks.length ≤ 15 ∧ nodK ks = true then some (.dct ks x.1, x.2) else none := by rw [evE]
@[simp] theorem ev_getd : evE C (.getd a b c) ρ S = (evE C a ρ S).bind fun x => if isDct x.2 x.1 = true then (evE C b ρ x.2).bind fun y => (evE C c ρ y.2).bind fun z => (getdD z.2 x.1 y.1 z.1).map fun v => (v, z.2) else none := by rw [evE]
@[simp] theorem ev_gsub {x : Str} {ks : List Key} {vs : List D} : evE C (.gsub x ks vs i) ρ S = (evE C i ρ S).bind fun y => (keyOf y.1).bind fun k => (getK k (ks.zip vs)).map fun v => (v, y.2) := by rw [evE]
@[simp] theorem ev_dcm {n : Nat} : evE C (.dcm e n) ρ S = (evE C e ρ S).bind fun x => (dcmD x.2 x.1).map fun d => (d, x.2) := by rw [evE]
@[simp] theorem ev_tcat : evE C (.tcat a b) ρ S = (evE C a ρ S).bind fun x => (evE C b ρ x.2).bind fun y => (tcatD x.1 y.1).map fun d => (d, y.2) := by rw [evE]
@[simp] theorem ev_ind {neg : Bool} : evE C (.ind neg a b) ρ S = (evE C a ρ S).bind fun x => (evE C b ρ x.2).bind fun y => (indD y.2 x.1 y.1).map fun k => (.bl (k != neg), y.2) := by rw [evE]
/-! ### what is raised -/
def orX {α β : Type} (o : Option α) (n : Option β) (k : α → Option β) : Option β := match o with
  | some x => k x
  | none => n
@[simp] theorem orX_some {α β : Type} {x : α} {n : Option β} {k : α → Option β} : orX (some x) n k = k x := rfl
@[simp] theorem orX_none {α β : Type} {n : Option β} {k : α → Option β} : orX none n k = n := rfl
theorem orX_congr {α β : Type} {o o' : Option α} {n : Option β} {k : α → Option β} (h : o = o') : orX o n k = orX o' n k := by rw [h]
def onX {β : Type} (o : Option (D × Sto)) (t f : Sto → Option β) (n : Option β) : Option β := match o with
  | some (.bl true, S1) => t S1
  | some (.bl false, S1) => f S1
  | some _ => none
  | none => n
@[simp] theorem onX_t {β : Type} {S1 : Sto} {t f : Sto → Option β} {n : Option β} : onX (some (.bl true, S1)) t f n = t S1 := rfl
@[simp] theorem onX_f {β : Type} {S1 : Sto} {t f : Sto → Option β} {n : Option β} : onX (some (.bl false, S1)) t f n = f S1 := rfl
@[simp] theorem onX_none {β : Type} {t f : Sto → Option β} {n : Option β} : onX none t f n = n := rfl
theorem onX_congr {β : Type} {o o' : Option (D × Sto)} {t f : Sto → Option β} {n : Option β} (h : o = o') : onX o t f n = onX o' t f n := by rw [h]
@[simp] theorem ex_xcal {g : Str} {ds : List D} : exE C (.xcal g as ds) ρ S = orX (evEs C as ρ S) (exEs C as ρ S) fun x => C.xcall g (x.1 ++ ds) x.2 := by
  rw [exE]
  cases evEs C as ρ S <;> rfl
@[simp] theorem ex_xcalk {g : Str} {ord : List (Nat ⊕ D)} : exE C (.xcalk g as ord) ρ S = (evEs C as ρ S).bind fun x => (ordD x.1 ord).bind fun vs => C.xcall g vs x.2 := by rw [exE]
@[simp] theorem ex_xmeth {m : Str} : exE C (.xmeth o m as) ρ S = (evE C o ρ S).bind fun x => (clsOf x.2 x.1).bind fun c => (C.meth c m).bind fun g => onB (.bl (fldD x.2 x.1 m).isNone) (orX (evEs C as ρ x.2) (exEs C as ρ x.2) fun y => C.xcall g (x.1 :: y.1) y.2) none := by
  rw [exE]; congr 1; funext x; congr 1; funext c; congr 1; funext g
  cases (fldD x.2 x.1 m).isNone
  · rfl
  · cases evEs C as ρ x.2 <;> rfl
@[simp] theorem ex_call {g : Str} {ds : List D} : exE C (.call g as ds) ρ S = exEs C as ρ S := by rw [exE]
@[simp] theorem ex_mk {fz : Bool} {x : Str} : exE C (.mk fz x as) ρ S = exEs C as ρ S := by rw [exE]
@[simp] theorem ex_tup : exE C (.tup as) ρ S = exEs C as ρ S := by rw [exE]
@[simp] theorem ex_fld {f : Str} : exE C (.fld o f) ρ S = exE C o ρ S := by rw [exE]
@[simp] theorem ex_not : exE C (.not a) ρ S = exE C a ρ S := by rw [exE]
@[simp] theorem ex_sub : exE C (.sub o i) ρ S = orX (evE C o ρ S) (exE C o ρ S) fun x => exE C i ρ x.2 := by
  rw [exE]
  cases evE C o ρ S <;> rfl
@[simp] theorem ex_ite : exE C (.ite c a b) ρ S = onX (evE C c ρ S) (exE C a ρ) (exE C b ρ) (exE C c ρ S) := by
  rw [exE]
  cases evE C c ρ S with
  | none => rfl
  | some x =>
    obtain ⟨d, S1⟩ := x
    cases d with
    | bl k => cases k <;> rfl
    | _ => rfl
@[simp] theorem ex_slot {n : Nat} : exE C (.slot n) ρ S = none := by rw [exE]; all_goals simp
@[simp] theorem ex_cst {d : D} : exE C (.cst d) ρ S = none := by rw [exE]; all_goals simp
@[simp] theorem exEs_nil : exEs C [] ρ S = none := by rw [exEs]
@[simp] theorem exEs_cons : exEs C (e :: as) ρ S = orX (evE C e ρ S) (exE C e ρ S) fun x => exEs C as ρ x.2 := by
  rw [exEs]
  cases evE C e ρ S <;> rfl
def seqX {β : Type} (o : Option Out) (k : Env → Sto → Option β) (n : Option β) : Option β := match o with
  | some (.nx ρ S) => k ρ S
  | some _ => none
  | none => n
@[simp] theorem seqX_nx {β : Type} {ρ : Env} {S : Sto} {k : Env → Sto → Option β} {n : Option β} : seqX (some (.nx ρ S)) k n = k ρ S := rfl
@[simp] theorem seqX_rt {β : Type} {d : D} {S : Sto} {k : Env → Sto → Option β} {n : Option β} : seqX (some (.rt d S)) k n = none := rfl
@[simp] theorem seqX_none {β : Type} {k : Env → Sto → Option β} {n : Option β} : seqX none k n = n := rfl
theorem seqX_congr {β : Type} {o o' : Option Out} {k : Env → Sto → Option β} {n : Option β} (h : o = o') : seqX o k n = seqX o' k n := by rw [h]
variable {t : T} {ss sa sb : List Sm}
@[simp] theorem xSs_nil : exSs C [] ρ S = none := by rw [exSs]
@[simp] theorem xSs_cons {s : Sm} : exSs C (s :: ss) ρ S = seqX (evS C s ρ S) (exSs C ss) (exS C s ρ S) := by
  rw [exSs]
  cases evS C s ρ S with
  | none => rfl
  | some o => cases o <;> rfl
@[simp] theorem xS_asg : exS C (.asg t e) ρ S = (exE C e ρ S).map fun x => (x.1, ρ, x.2) := by rw [exS]
@[simp] theorem xS_ex : exS C (.ex e) ρ S = (exE C e ρ S).map fun x => (x.1, ρ, x.2) := by rw [exS]
@[simp] theorem xS_ret : exS C (.ret e) ρ S = (exE C e ρ S).map fun x => (x.1, ρ, x.2) := by rw [exS]
@[simp] theorem xS_ite : exS C (.ite c sa sb) ρ S = onX (evE C c ρ S) (exSs C sa ρ) (exSs C sb ρ) ((exE C c ρ S).map fun x => (x.1, ρ, x.2)) := by
  rw [exS]
  cases evE C c ρ S with
  | none => rfl
  | some x =>
    obtain ⟨d, S1⟩ := x
    cases d with
    | bl k => cases k <;> rfl
    | _ => rfl
@[simp] theorem xS_whil : exS C (.whil c sa) ρ S = whileX (evE C c) (evSs C sa) (exSs C sa) ρ S := by rw [exS]
@[simp] theorem xS_for {k : SrcK} : exS C (.for_ t k as sa) ρ S = (evEs C as ρ S).bind fun x => (itemsD k x.1 x.2).bind fun xs => forX (holdD x.1 x.2) t (evSs C sa) (exSs C sa) xs ρ x.2 := by rw [exS]
@[simp] theorem xS_raise {x : Str} {fs : List Str} {ds : List D} : exS C (.raise x fs as ds) ρ S = (evEs C as ρ S).bind fun y => if fs.length = (y.1 ++ ds).length then some (.exn x fs (y.1 ++ ds).reverse, ρ, y.2) else none := by rw [exS]
@[simp] theorem es_raise {x : Str} {fs : List Str} {ds : List D} : evS C (.raise x fs as ds) ρ S = none := by rw [evS]
noncomputable def catchX (C : Ctx) (c : Str) (n : Nat) (h : List Sm) (o : Option Out) (r : Option (D × Env × Sto)) : Option Out := match o with
  | some o => some o
  | none => match r with
    | some (.exn c' fs vs, ρ', S') => if C.xsub c' c = some true ∧ n < ρ'.length then (evSs C h (ρ'.set n (some (.exn c' fs vs))) S').map (goneO n) else none
    | _ => none
theorem catchX_congr {x : Str} {n : Nat} {h : List Sm} {o o' : Option Out} {r r' : Option (D × Env × Sto)} (e : o = o') (e2 : r = r') : catchX C x n h o r = catchX C x n h o' r' := by rw [e, e2]
@[simp] theorem catchX_some {x : Str} {n : Nat} {h : List Sm} {o : Out} {r : Option (D × Env × Sto)} : catchX C x n h (some o) r = some o := rfl
@[simp] theorem catchX_none {x c' : Str} {n : Nat} {h : List Sm} {fs : List Str} {vs : List D} {ρ' : Env} {S' : Sto} : catchX C x n h none (some (.exn c' fs vs, ρ', S')) = if C.xsub c' x = some true ∧ n < ρ'.length then (evSs C h (ρ'.set n (some (.exn c' fs vs))) S').map (goneO n) else none := rfl
@[simp] theorem es_tryx {x : Str} {n : Nat} : evS C (.tryx sa x n sb) ρ S = catchX C x n sb (evSs C sa ρ S) (exSs C sa ρ S) := by
  rw [evS]
  unfold catchX
  cases evSs C sa ρ S with
  | some o => rfl
  | none =>
    all_goals (try dsimp only)
    all_goals (
      cases exSs C sa ρ S with
      | none => rfl
      | some y =>
        obtain ⟨d, ρ', S'⟩ := y
        cases d <;> rfl)
@[simp] theorem gone_nx {n : Nat} : goneO n (.nx ρ S) = .nx (ρ.set n none) S := rfl
@[simp] theorem gone_rt {n : Nat} {d : D} : goneO n (.rt d S) = .rt d S := rfl
end
@[simp] theorem ctx_xcall {P : Pr} {d : Nat} : (ctxP P d).xcall = callX P d := rfl
@[simp] theorem ctx_xsub {P : Pr} {d : Nat} : (ctxP P d).xsub = P.xsub := rfl
noncomputable def finXO (m : Mode) (S : Sto) (o : Option (D × Env × Sto)) : Option (D × Sto) := match o with
  | some (x, _, S') => finX m S x S'
  | none => none
@[simp] theorem finXO_some {m : Mode} {S S' : Sto} {x : D} {ρ : Env} : finXO m S (some (x, ρ, S')) = finX m S x S' := rfl
@[simp] theorem finXO_none {m : Mode} {S : Sto} : finXO m S none = none := rfl
theorem finXO_congr {m : Mode} {S : Sto} {o o' : Option (D × Env × Sto)} (h : o = o') : finXO m S o = finXO m S o' := by rw [h]
@[simp] theorem finX_raw {S S' : Sto} {x : D} : finX .raw S x S' = some (x, S') := rfl
@[simp] theorem finO_none {m : Mode} {S : Sto} : finO m S none = none := rfl
theorem callX_step {P : Pr} {g : Str} {f : Fn} (h : P.fn g = some f) {d : Nat} {as : List D} {S : Sto} (hl : as.length = f.np) : callX P (d + 1) g as S = finXO f.mode S (exSs (ctxP P d) f.body (as.map some ++ List.replicate (f.ns - f.np) none) S) := by
  rw [callX_succ, h, Option.bind_some, if_pos hl]
  cases exSs (ctxP P d) f.body (as.map some ++ List.replicate (f.ns - f.np) none) S with
  | none => rfl
  | some o => rfl
/-! ### is None -/
section
variable {S : Sto} {y : D}
@[simp] theorem isn_non : cmpD .isn S .non y = some true := rfl
@[simp] theorem isn_exn {c : Str} {fs : List Str} {vs : List D} : cmpD .isn S (.exn c fs vs) y = some false := rfl
@[simp] theorem isn_ins {c : Str} {fs : List Str} {vs : List D} : cmpD .isn S (.ins c fs vs) y = some false := rfl
@[simp] theorem isn_str {x : Str} : cmpD .isn S (.str x) y = some false := rfl
@[simp] theorem isn_int {x : Int} : cmpD .isn S (.int x) y = some false := rfl
@[simp] theorem isn_bl {x : Bool} : cmpD .isn S (.bl x) y = some false := rfl
@[simp] theorem isn_lst {x : List D} : cmpD .isn S (.lst x) y = some false := rfl
@[simp] theorem isn_tup {x : List D} : cmpD .isn S (.tup x) y = some false := rfl
@[simp] theorem notn_non : cmpD .notn S .non y = some false := rfl
@[simp] theorem notn_exn {c : Str} {fs : List Str} {vs : List D} : cmpD .notn S (.exn c fs vs) y = some true := rfl
@[simp] theorem notn_ins {c : Str} {fs : List Str} {vs : List D} : cmpD .notn S (.ins c fs vs) y = some true := rfl
@[simp] theorem notn_str {x : Str} : cmpD .notn S (.str x) y = some true := rfl
@[simp] theorem notn_int {x : Int} : cmpD .notn S (.int x) y = some true := rfl
@[simp] theorem notn_bl {x : Bool} : cmpD .notn S (.bl x) y = some true := rfl
@[simp] theorem notn_lst {x : List D} : cmpD .notn S (.lst x) y = some true := rfl
@[simp] theorem notn_tup {x : List D} : cmpD .notn S (.tup x) y = some true := rfl
end
/-! ### loops -/
def seqXL {β : Type} (o : Option Out) (k : Env → Sto → Option β) (n : Option β) : Option β := match o with
  | some (.nx ρ S) => k ρ S
  | some (.ct ρ S) => k ρ S
  | some _ => none
  | none => n
@[simp] theorem seqXL_nx {β : Type} {ρ : Env} {S : Sto} {k : Env → Sto → Option β} {n : Option β} : seqXL (some (.nx ρ S)) k n = k ρ S := rfl
@[simp] theorem seqXL_ct {β : Type} {ρ : Env} {S : Sto} {k : Env → Sto → Option β} {n : Option β} : seqXL (some (.ct ρ S)) k n = k ρ S := rfl
@[simp] theorem seqXL_none {β : Type} {k : Env → Sto → Option β} {n : Option β} : seqXL none k n = n := rfl
theorem forX_cons {P : Sto → Prop} {t : T} {b : Env → Sto → Option Out} {bx : Env → Sto → Option (D × Env × Sto)} {x : D} {xs : List D} {ρ : Env} {S : Sto} (h : P S) : forX P t b bx (x :: xs) ρ S = (setT t x ρ S).bind fun r => seqXL (b r.1 r.2) (forX P t b bx xs) (bx r.1 r.2) := by
  rw [forX, if_pos h]
  congr 1
theorem whileX_step {c : Env → Sto → Option (D × Sto)} {b : Env → Sto → Option Out} {bx : Env → Sto → Option (D × Env × Sto)} {ρ ρ' : Env} {S S1 S' : Sto} (h1 : c ρ S = some (.bl true, S1)) (h2 : b ρ S1 = some (.nx ρ' S')) : whileX c b bx ρ S = whileX c b bx ρ' S' := by
  apply Option.ext
  intro r
  rw [whileX_some, whileX_some]
  constructor
  · rintro ⟨n, h⟩
    cases n with
    | zero => cases h
    | succ n =>
      unfold whileXN at h
      rw [h1] at h
      simp only [h2] at h
      exact ⟨n, h⟩
  · rintro ⟨n, h⟩
    refine ⟨n + 1, ?_⟩
    unfold whileXN
    rw [h1]
    simp only [h2]
    exact h
theorem whileX_end {c : Env → Sto → Option (D × Sto)} {b : Env → Sto → Option Out} {bx : Env → Sto → Option (D × Env × Sto)} {ρ : Env} {S S1 : Sto} {r : D × Env × Sto} (h1 : c ρ S = some (.bl true, S1)) (h2 : b ρ S1 = none) (h3 : bx ρ S1 = some r) : whileX c b bx ρ S = some r := by
  rw [whileX_some]
  refine ⟨1, ?_⟩
  unfold whileXN
  rw [h1]
  simp only [h2]
  exact h3
end Fw

set_option Elab.async false
set_option linter.all false
set_option maxRecDepth 100000
/-! FwZ: displays of dicts, get, text.index, tuple + tuple, a written dict's item. -/
namespace Fw
open PySem L2 PySem.Spec PyProof.Rows PySem.Calls
open Evl (Ex)
theorem occ1 (a c : Nat) : Builtin.Str.occurrences (sl [a]) (sl [c]) 0 1 1 = if a = c then [0] else [] := by
  have hl : ({ cps := #[c] } : Str).length = 1 := rfl
  unfold Builtin.Str.occurrences
  by_cases h : a = c
  · simp [Std.Legacy.Range.forIn_eq_forIn_range', Std.Legacy.Range.size, List.range', Builtin.Str.subAt, sl, Id.run, hl, h]; all_goals rfl
  · simp [Std.Legacy.Range.forIn_eq_forIn_range', Std.Legacy.Range.size, List.range', Builtin.Str.subAt, sl, Id.run, hl, h]; all_goals rfl
theorem occ2 (a b c : Nat) : Builtin.Str.occurrences (sl [a, b]) (sl [c]) 0 2 1 = if a = c then [0] else if b = c then [1] else [] := by
  have hl : ({ cps := #[c] } : Str).length = 1 := rfl
  unfold Builtin.Str.occurrences
  by_cases h : a = c
  · simp [Std.Legacy.Range.forIn_eq_forIn_range', Std.Legacy.Range.size, List.range', Builtin.Str.subAt, sl, Id.run, hl, h]; all_goals rfl
  · by_cases h2 : b = c
    · simp [Std.Legacy.Range.forIn_eq_forIn_range', Std.Legacy.Range.size, List.range', Builtin.Str.subAt, sl, Id.run, hl, h, h2]; all_goals rfl
    · simp [Std.Legacy.Range.forIn_eq_forIn_range', Std.Legacy.Range.size, List.range', Builtin.Str.subAt, sl, Id.run, hl, h, h2]; all_goals rfl
theorem occ3 (a b e c : Nat) : Builtin.Str.occurrences (sl [a, b, e]) (sl [c]) 0 3 1 = if a = c then [0] else if b = c then [1] else if e = c then [2] else [] := by
  have hl : ({ cps := #[c] } : Str).length = 1 := rfl
  unfold Builtin.Str.occurrences
  by_cases h : a = c
  · simp [Std.Legacy.Range.forIn_eq_forIn_range', Std.Legacy.Range.size, List.range', Builtin.Str.subAt, sl, Id.run, hl, h]; all_goals rfl
  · by_cases h2 : b = c
    · simp [Std.Legacy.Range.forIn_eq_forIn_range', Std.Legacy.Range.size, List.range', Builtin.Str.subAt, sl, Id.run, hl, h, h2]; all_goals rfl
    · by_cases h3 : e = c
      · simp [Std.Legacy.Range.forIn_eq_forIn_range', Std.Legacy.Range.size, List.range', Builtin.Str.subAt, sl, Id.run, hl, h, h2, h3]; all_goals rfl
      · simp [Std.Legacy.Range.forIn_eq_forIn_range', Std.Legacy.Range.size, List.range', Builtin.Str.subAt, sl, Id.run, hl, h, h2, h3]; all_goals rfl
theorem occ_ok {l : List Nat} {c n : Nat} (h3 : l.length ≤ 3) (h : idxN c l = some n) : ∃ rest, Builtin.Str.occurrences (sl l) (sl [c]) 0 (sl l).length 1 = n :: rest := by
  rw [sl_len]
  match l, h3 with
  | [], _ => cases h
  | [a], _ =>
    rw [show ([a] : List Nat).length = 1 from rfl, occ1]
    simp only [idxN] at h
    split at h
    · rename_i e; cases h; rw [if_pos e]; exact ⟨_, rfl⟩
    · cases h
  | [a, b], _ =>
    rw [show ([a, b] : List Nat).length = 2 from rfl, occ2]
    simp only [idxN] at h
    split at h
    · rename_i e; cases h; rw [if_pos e]; exact ⟨_, rfl⟩
    · rename_i e1
      rw [if_neg e1]
      split at h
      · rename_i e; cases h; rw [if_pos e]; exact ⟨_, rfl⟩
      · cases h
  | [a, b, e], _ =>
    rw [show ([a, b, e] : List Nat).length = 3 from rfl, occ3]
    simp only [idxN] at h
    split at h
    · rename_i q; cases h; rw [if_pos q]; exact ⟨_, rfl⟩
    · rename_i q1
      rw [if_neg q1]
      split at h
      · rename_i q; cases h; rw [if_pos q]; exact ⟨_, rfl⟩
      · rename_i q2
        rw [if_neg q2]
        split at h
        · rename_i q; cases h; rw [if_pos q]; exact ⟨_, rfl⟩
        · cases h
  | a :: b :: c :: d :: r, h3 => simp at h3
section
variable {Z : Sd} {Wx : WX} {X : Cx} {e a b c o i l x f : Expr} {rest es : List Expr} {m ma mb mc mo mi ml mx mf : E} {ms mks : List E} {pos apos cpos p p2 : Pos} {F : Hp} {μ : List Addr} {S : Sto} {H : Hp} {kk : Nat} {σ : L2.St}
theorem me_idxs (St : Std Z X kk) (ho : ME Z X l ml) (ha : ME Z X x mx)
    (hbase : attributeBase l "index" X.env (eval l X.env) = eval l X.env := by rfl)
    (hfew : ((backTo cpos (starEach [x] X.env)).all (fun x => !x.1) && (backToKw cpos (keywordEach [] X.env)).all (fun x => x.1.isSome) && decide ([x].length + ([] : List Keyword).length + (if ([] : List Keyword).isEmpty then 0 else 1) < 30)) = true := by rfl)
    (hline : (apos.endLine == cpos.line) = true := by rfl) (hse : starEach [x] X.env = (false, eval x X.env) :: starEach [] X.env := by rfl) (hpl : (backTo cpos (starEach [] X.env)).any (·.1) = false := by rfl) :
    ME Z X (.Call (.Attribute l "index" apos) [x] [] cpos) (.idxs ml mx) := by
  refine PE.imp (pe_bm PySem.F.plainAttrs_str PySem.F.slot_str_index PySem.F.type_str_index mt_sindex ho (pa_cons ha pa_nil hse) hbase hfew hline hse hpl) fun σ H Q h => ?_
  obtain ⟨F, μ, S, ρ, d, S', g, rr, ev, q⟩ := h
  unfold evE at ev
  obtain ⟨xl, e1, ev⟩ := bind_some' ev
  obtain ⟨y, e2, ev⟩ := bind_some' ev
  obtain ⟨n, e3, ev⟩ := map_some' ev
  cases ev
  rw [St.K]
  unfold idxsD at e3
  split at e3
  · rename_i z w hx hy
    refine ⟨F, μ, S, ρ, xl.1, xl.2, g, rr, e1, fun v F1 μ1 H1 x1 p1 g1 r1 => ?_⟩
    refine ⟨chk_ty (T := .str) (S := xl.2) g1 r1 (by rw [hx]; rfl), F1, μ1, xl.2, ρ, y.1, y.2, g1, rr.mono x1 p1, e2, fun u F2 μ2 H2 x2 p2 g2 r2 => ?_⟩
    rw [hx] at r1
    rw [hy] at r2
    cases r1
    cases r2
    split at e3
    · rename_i cc hcc
      split at e3
      · rename_i hlen
        obtain ⟨k, e4, rfl⟩ := map_some' e3
        have hlen' : z.cps.toList.length ≤ 3 := by
          rw [Array.length_toList]; exact hlen
        obtain ⟨r, hr⟩ := occ_ok hlen' e4
        have hw : w = sl [cc] := by rw [sl_of w, hcc]
        rw [← sl_of z, ← hw] at hr
        exact ⟨z, w, k, r, rfl, rfl, hr, q _ F2 μ2 H2 (x1.trans x2) (p1.trans p2) g2 (.int _)⟩
      · cases e3
    · cases e3
  · cases e3
/-! ### get with a default -/
theorem valV_no {ks : List Key} {vs : List V} {xs : List D} (r : Reps Z.W F μ vs xs) {k : Key} (h : getK k (ks.zip xs) = none) : valV (ks.zip vs) k = none := by
  induction ks generalizing vs xs with
  | nil => rfl
  | cons q ks ih =>
    cases r with
    | nil => rfl
    | cons r1 r2 =>
      simp only [List.zip_cons_cons] at h ⊢
      by_cases e : q = k
      · unfold getK at h
        rw [List.find?_cons_of_pos (by simpa using e)] at h
        cases h
      · unfold getK at h
        rw [List.find?_cons_of_neg (by simpa using e)] at h
        rw [valV_neg e]
        exact ih r2 h
theorem dct_at {v : V} {d : D} (g : Ag Z.W F μ S H) (r : Rep Z.W F μ v d) (h : isDct S d = true) : ∃ a, v = .ref a ∧ IsD H a := by
  cases d <;> try (cases h; done)
  · cases r with
    | dct hd hl rs => exact ⟨_, rfl, .inl ⟨_, Evl.ex_rd g.ex hd⟩⟩
  · rename_i n
    have h : (match S[n]? with
      | some (.dct _) => true
      | _ => false) = true := h
    split at h
    · rename_i kvs e
      obtain ⟨a, rfl, _, _, vs, e2, rs⟩ := g.loc r e
      exact ⟨a, rfl, .inl ⟨_, .inl e2⟩⟩
    · cases h
theorem getd_rd {v w u : V} {d k x y : D} (g : Ag Z.W F μ S H) (rv : Rep Z.W F μ v d) (rw_ : Rep Z.W F μ w k) (ru : Rep Z.W F μ u x) (h : getdD S d k x = some y) : ∃ a o, v = .ref a ∧ DGet H a w o ∧ Rep Z.W F μ (o.getD u) y := by
  have tab : ∀ {a : Addr} {ks : List Key} {vs : List V} {xs : List D}, v = .ref a → Rd H a (.dK (ks.zip vs)) → ks.length = vs.length → Reps Z.W F μ vs xs → ((keyOf k).map fun k => (getK k (ks.zip xs)).getD x) = some y → ∃ a o, v = .ref a ∧ DGet H a w o ∧ Rep Z.W F μ (o.getD u) y := fun {a ks vs xs} ev hd hl rs hk => by
    obtain ⟨kk, e1, e2⟩ := map_some' hk
    have ek := keyOf_rep rw_ e1
    subst ek
    refine ⟨a, _, ev, .inl ⟨_, kk, hd, rfl, rfl⟩, ?_⟩
    cases hg : getK kk (ks.zip xs) with
    | none =>
      rw [hg] at e2
      rw [valV_no rs hg]
      subst e2
      exact ru
    | some d' =>
      rw [hg] at e2
      obtain ⟨v', h1, h2⟩ := valV_zip rs hl hg
      rw [h1]
      subst e2
      exact h2
  cases d <;> try (cases h; done)
  · cases rv with
    | dct hd hl rs => exact tab rfl (Evl.ex_rd g.ex hd) hl rs h
  · rename_i n
    have h : (match S[n]? with
      | some (.dct kvs) => (keyOf k).map fun k => (getK k kvs).getD x
      | _ => none) = some y := h
    split at h
    · rename_i kvs e
      obtain ⟨a, rfl, _, _, vs, e2, rs⟩ := g.loc rv e
      have ez : kvs = (kvs.map (·.1)).zip (kvs.map (·.2)) := by rw [List.zip_map']; simp
      rw [ez] at h
      exact tab rfl (.inl e2) (by rw [rs.length, List.length_map, List.length_map]) rs h
    · cases h
theorem me_getd (St : Std Z X kk) (ho : ME Z X o mo) (he : ME Z X e m) (hf : ME Z X f mf) (M : M2 X o "get" apos e f cpos := by exact ⟨rfl, rfl, rfl, rfl⟩) : ME Z X (.Call (.Attribute o "get" apos) [e, f] [] cpos) (.getd mo m mf) := by
  have hu : X.A.units + 1 < cLine := by have := St.hu; omega
  refine PE.imp (pe_dget2 hu ho he hf M) fun σ H Q h => ?_
  obtain ⟨F, μ, S, ρ, d, S', g, rr, ev, q⟩ := h
  unfold evE at ev
  obtain ⟨xl, e1, ev⟩ := bind_some' ev
  split at ev
  · rename_i hd
    obtain ⟨y, e2, ev⟩ := bind_some' ev
    obtain ⟨z, e3, ev⟩ := bind_some' ev
    obtain ⟨v0, e4, ev⟩ := map_some' ev
    cases ev
    refine ⟨F, μ, S, ρ, xl.1, xl.2, g, rr, e1, fun v F1 μ1 H1 x1 p1 g1 r1 => ?_⟩
    obtain ⟨a, rfl, hisd⟩ := dct_at g1 r1 hd
    refine ⟨a, rfl, hisd, F1, μ1, xl.2, ρ, y.1, y.2, g1, rr.mono x1 p1, e2, fun u F2 μ2 H2 x2 p2 g2 r2 => ?_⟩
    refine ⟨F2, μ2, y.2, ρ, z.1, z.2, g2, (rr.mono x1 p1).mono x2 p2, e3, fun w F3 μ3 H3 x3 p3 g3 r3 => ?_⟩
    obtain ⟨a', o', ea, hg, hr⟩ := getd_rd g3 (r1.mono (x2.trans x3) (p2.trans p3)) (r2.mono x3 p3) r3 e4
    cases ea
    exact ⟨o', hg, q _ F3 μ3 H3 ((x1.trans x2).trans x3) ((p1.trans p2).trans p3) g3 hr⟩
  · cases ev
/-! ### a dict displayed: texts to texts -/
inductive MDp : List (Option Expr) → List Expr → List Str → List Str → Prop where
  | nil : MDp [] [] [] []
  | cons {k v : Str} {j1 j2 : Nat} {p1 p2 : Pos} {ks : List (Option Expr)} {vs : List Expr} {kl vl : List Str} : MDp ks vs kl vl → MDp (some (.Constant (.str k) j1 p1) :: ks) (.Constant (.str v) j2 p2 :: vs) (k :: kl) (v :: vl)
theorem mdp_pps {keys : List (Option Expr)} {values : List Expr} {kl vl : List Str} (h : MDp keys values kl vl) : ∃ trs, PPs X pos keys values trs ∧ ∀ (σ : L2.St) (H : Hp) (Q : List (V × V) → Hp → Prop), Q ((kl.map V.str).zip (vl.map V.str)) H → tPairs trs σ H Q := by
  induction h with
  | nil => exact ⟨[], pps_nil, fun σ H Q q => q⟩
  | cons r ih =>
    obtain ⟨trs, h1, h2⟩ := ih
    exact ⟨_, pps_cons pe_str pe_str h1, fun σ H Q q => h2 σ H _ q⟩
theorem mdp_len {keys : List (Option Expr)} {values : List Expr} {kl vl : List Str} (h : MDp keys values kl vl) : keys.length = values.length ∧ kl.length = keys.length ∧ vl.length = values.length ∧ keys.all (·.isSome) = true := by
  induction h with
  | nil => exact ⟨rfl, rfl, rfl, rfl⟩
  | cons r ih => exact ⟨by simp [ih.1], by simp [ih.2.1], by simp [ih.2.2.1], by simp only [List.all_cons, ih.2.2.2]; rfl⟩
theorem merge_nod : ∀ (kvs acc : List (Key × V)), nodK (acc.map (·.1) ++ kvs.map (·.1)) = true → mergeK acc kvs = acc ++ kvs
  | [], acc, _ => by simp [mergeK]
  | kv :: kvs, acc, h => by
    have hno : (acc.any fun q => decide (q.1 = kv.1)) = false := by
      induction acc with
      | nil => rfl
      | cons a acc ih =>
        have h : (!((acc.map (·.1) ++ (kv :: kvs).map (·.1)).any fun q => decide (q = a.1)) && nodK (acc.map (·.1) ++ (kv :: kvs).map (·.1))) = true := h
        obtain ⟨h1, h2⟩ := Bool.and_eq_true_iff.mp h
        rw [List.any_cons, ih h2, Bool.or_false]
        simp only [List.map_cons, List.any_append, List.any_cons, Bool.not_eq_true', Bool.or_eq_false_iff, decide_eq_false_iff_not] at h1
        exact decide_eq_false fun e => h1.2.1 e.symm
    have e1 : mergeK acc (kv :: kvs) = mergeK (L2.putK acc kv.1 kv.2) kvs := rfl
    have e2 : L2.putK acc kv.1 kv.2 = acc ++ [kv] := by
      unfold L2.putK
      rw [hno]
      rfl
    rw [e1, e2, merge_nod kvs (acc ++ [kv]) (by simpa using h)]
    simp
theorem me_dsp {keys : List (Option Expr)} {values : List Expr} {kl vl : List Str} (h : MDp keys values kl vl) (h0 : keys ≠ [] := by intro z; cases z) : ME Z X (.Dict keys values pos) (.dsp (kl.map Sum.inr) (vl.map fun v => .cst (.str v))) := by
  obtain ⟨trs, h1, h2⟩ := mdp_pps (X := X) (pos := pos) h
  obtain ⟨l1, l2, l3, hall⟩ := mdp_len h
  refine ⟨fun pins s σ H Q I hh => ?_⟩
  obtain ⟨F, μ, S, ρ, d, S', g, rr, ev, q⟩ := hh
  unfold evE at ev
  obtain ⟨x, e1, ev⟩ := bind_some' ev
  split at ev
  · rename_i hc
    have hcs : ∀ (vl : List Str) (ρ : Env) (S : Sto), evEs Z.C (vl.map fun v => .cst (.str v)) ρ S = some (vl.map D.str, S) := fun vl ρ S => by
      induction vl with
      | nil => simp
      | cons v vl ih => simp [ih]
    rw [hcs] at e1
    cases e1
    cases ev
    obtain ⟨hl, h15, hnod⟩ := hc
    refine (pe_disp h1 hall l1 h0 (by rw [List.length_map] at h15; omega)).run pins s σ H Q I ?_
    intro pa np
    refine h2 σ _ _ ⟨upd_same, (kl.map Sum.inr).zip (vl.map V.str), ?_, ?_, ?_⟩
    · have hz : ∀ (kl : List Str) (ws : List V), (kl.map V.str).zip ws = ((kl.map (Sum.inr : Str → Key)).zip ws).map fun kv => (kV kv.1, kv.2) := fun kl => by
        induction kl with
        | nil => intro ws; rfl
        | cons k kl ih =>
          intro ws
          cases ws with
          | nil => rfl
          | cons w ws =>
            simp only [List.map_cons, List.zip_cons_cons]
            rw [ih ws]
            rfl
      exact hz kl _
    · rw [List.length_zip]; simp only [List.length_map] at h15 ⊢; omega
    · have em : mergeK [] ((kl.map (Sum.inr : Str → Key)).zip (vl.map V.str)) = (kl.map Sum.inr).zip (vl.map V.str) := by
        rw [merge_nod _ [] (by rw [List.map_nil, List.nil_append, List.map_fst_zip (by simp only [List.length_map]; omega)]; exact hnod), List.nil_append]
      have eu : upd (upd H pa (.dK [])) pa (.dK (mergeK [] ((kl.map (Sum.inr : Str → Key)).zip (vl.map V.str)))) = upd H pa (.dK ((kl.map Sum.inr).zip (vl.map V.str))) := by rw [upd_upd, em]
      rw [eu]
      obtain ⟨g2, ex2, e2⟩ := g.frz np (.dK ((kl.map Sum.inr).zip (vl.map V.str)))
      refine q _ _ μ _ ex2 (pre_refl μ) g2 (.dct (.inl e2) (by simp only [List.length_map]; omega) ?_)
      have reps : ∀ vl : List Str, Reps Z.W (upd F pa (.dK ((kl.map Sum.inr).zip (vl.map V.str)))) μ (vl.map V.str) (vl.map D.str) := fun vl => by
        generalize upd F pa (.dK ((kl.map Sum.inr).zip (vl.map V.str))) = F'
        induction vl with
        | nil => exact .nil
        | cons v vl ih => exact .cons (.str v) ih
      exact reps vl
  · cases ev
/-! ### tuple + tuple -/
theorem os_tcat : OpS Z (fun _ x y => tcatD x y) (rCatA Z.W.K) := by
  intro F μ S H v w x y d Q g rv rw_ e q
  have e : tcatD x y = some d := e
  unfold tcatD at e
  split at e
  · split at e
    · rename_i xs ys hz
      cases e
      cases rv with
      | @tup a vs _ h1 r1 =>
        cases rw_ with
        | @tup b ws _ h2 r2 =>
          refine ⟨a, b, vs, ws, rfl, rfl, Evl.ex_t g.ex h1, Evl.ex_t g.ex h2, by rw [r1.length, r2.length]; exact hz, fun e => ?_, fun _ e => ?_, fun _ _ p hp => ?_⟩
          · subst e
            cases r1
            exact q _ F H (Ex.refl F) g (.tup h2 r2)
          · subst e
            cases r2
            refine q _ F H (Ex.refl F) g (.tup h1 ?_)
            rw [List.append_nil]
            exact r1
          · obtain ⟨g', ex, eq⟩ := g.frz hp (.tup (vs ++ ws))
            exact q _ _ _ ex g' (.tup (.inl (.inl eq)) ((r1.append r2).mono ex (pre_refl μ)))
    · cases e
  · cases e
theorem me_tcat (St : Std Z X kk) (ha : ME Z X a ma) (hb : ME Z X b mb) : ME Z X (.BinOp a .Add b pos) (.tcat ma mb) := by
  refine PE.imp (pe_op op_catA ha hb) fun σ H Q h => ?_
  obtain ⟨F, μ, S, ρ, d, S', g, rr, ev, q⟩ := h
  unfold evE at ev
  rw [St.K]
  exact rd2 os_tcat g rr ev q
/-! ### an item of a written dict -/
theorem me_gsub {n : Str} {ks : List Key} {vs : List D} {pa : Addr} (St : Std Z X kk) (hm : X.mg n = some (.ref pa)) (hk : ∀ k d, getK k (ks.zip vs) = some d → ∃ z v, k = .inr z ∧ KDct Z.W.K X.w pa z v ∧ ∀ F μ, Rep Z.W F μ v d) (hi : ME Z X i mi) (hg : Gl X n := by rfl) (hdb : (n == ("__debug__" : Str)) = false := by decide) (hs : PlainIx i := by intro _ _; rfl) : ME Z X (.Subscript (.Name n p) i pos) (.gsub n ks vs mi) := by
  refine PE.imp (pe_ix ix_kdict (pe_glob (v := .ref pa) hg hm rfl hdb) hi hs) fun σ H Q h => ?_
  obtain ⟨F, μ, S, ρ, d, S', g, rr, ev, q⟩ := h
  unfold evE at ev
  obtain ⟨y, e1, ev⟩ := bind_some' ev
  obtain ⟨k, e2, ev⟩ := bind_some' ev
  obtain ⟨d', e3, ev⟩ := map_some' ev
  cases ev
  refine ⟨F, μ, S, ρ, y.1, y.2, g, rr, e1, fun w F1 μ1 H1 x1 p1 g1 r1 => ?_⟩
  have ek := keyOf_rep r1 e2
  subst ek
  obtain ⟨z, v, rfl, h1, h2⟩ := hk k _ e3
  exact ⟨pa, z, v, rfl, rfl, by rw [St.K]; exact h1, q v F1 μ1 H1 x1 p1 g1 (h2 F1 μ1)⟩
end
end Fw
namespace Fw
open PySem L2
theorem getK_mem {k : Key} {d : D} : ∀ {kvs : List (Str × Int)}, getK k ((kvs.map fun q => (.inr q.1 : Key)).zip (kvs.map fun q => D.int q.2)) = some d → ∃ q ∈ kvs, k = .inr q.1 ∧ d = .int q.2
  | [], h => by cases h
  | q :: kvs, h => by
    simp only [List.map_cons, List.zip_cons_cons] at h
    by_cases e : (.inr q.1 : Key) = k
    · unfold getK at h
      rw [List.find?_cons_of_pos (by simpa using e)] at h
      cases h
      exact ⟨q, List.mem_cons_self, e.symm, rfl⟩
    · unfold getK at h
      rw [List.find?_cons_of_neg (by simpa using e)] at h
      obtain ⟨q', h1, h2⟩ := getK_mem (kvs := kvs) h
      exact ⟨q', List.mem_cons_of_mem _ h1, h2⟩
theorem kd_int {W : Wd} {w : World} {a : Addr} {es : Array DictEntry} {n : Nat} (hd : KDict W.K w a es n) (kvs : List (Str × Int)) (hv : He.valsB W.K a (kvs.map fun q => (q.1, .int q.2)) = true) :
    ∀ k d, getK k ((kvs.map fun q => (.inr q.1 : Key)).zip (kvs.map fun q => D.int q.2)) = some d → ∃ z v, k = .inr z ∧ KDct W.K w a z v ∧ ∀ F μ, Rep W F μ v d := fun k d h => by
  obtain ⟨q, hq, rfl, rfl⟩ := getK_mem h
  obtain ⟨u, h1, h2⟩ := He.valsB_ok hv (q := (q.1, .int q.2)) (List.mem_map.mpr ⟨q, hq, rfl⟩)
  exact ⟨q.1, .int q.2, rfl, ⟨es, n, u, hd.1, hd.2, h1, h2⟩, fun F μ => .int q.2⟩
end Fw
namespace Fw
open PySem L2 PySem.Spec PyProof.Rows
open Evl (Ex)
theorem strs_dep : ∀ ss : List Str, PyData.depthAll (D.pys (ss.map D.str)) ≤ 10
  | [] => by simp [D.pys, PyData.depthAll]
  | s :: ss => by
    have ih := strs_dep ss
    rw [List.map_cons, D.pys, PyData.depthAll]
    simp [D.py, PyData.depth]
    omega
theorem allStr_map {xs : List D} : ∀ {ss : List Str}, allStr xs = some ss → xs = ss.map D.str := by
  induction xs with
  | nil => intro ss h; cases h; rfl
  | cons x xs ih =>
    intro ss h
    cases x <;> try (cases h; done)
    obtain ⟨ss', e1, rfl⟩ := map_some' (show (allStr xs).map (_ :: ·) = some ss from h)
    rw [ih e1]; rfl
theorem eqv_strs (d : D) : ∀ ss : List Str, ((D.pys (ss.map D.str)).any fun z => PyData.eqv z d.py) = ss.any fun y => match d with
    | .str x => decide (y = x)
    | _ => false
  | [] => by simp [D.pys]
  | s :: ss => by
    rw [List.map_cons, D.pys, List.any_cons, List.any_cons, eqv_strs d ss]
    congr 1
    cases d <;> simp [D.py, PyData.eqv]
    all_goals first | rfl | (rename_i x; by_cases h : s = x <;> simp [h])
section
variable {Z : Sd} {X : Cx} {a b : Expr} {ma mb : E} {pos : Pos} {F : Hp} {μ : List Addr} {S : Sto} {H : Hp} {kk : Nat} {σ : L2.St}
theorem ind_rd {v w : V} {x y : D} {r : Bool} (g : Ag Z.W F μ S H) (rv : Rep Z.W F μ v x) (rw_ : Rep Z.W F μ w y) (h : indD S x y = some r) : ∃ d ds, Dp Z.W.K H v d ∧ Dp Z.W.K H w (.list ds) ∧ SeqAt.shaped d = true ∧ SeqAt.shaped (.list ds) = true ∧ (ds.any fun z => PyData.eqv z d) = r := by
  unfold indD at h
  obtain ⟨xs, e1, h⟩ := bind_some' h
  obtain ⟨ss, e2, h⟩ := bind_some' h
  split at h
  · rename_i hc
    obtain ⟨h1, h2, h3⟩ := hc
    cases h
    obtain ⟨p, vs, rfl, hH, rs⟩ := lsOf_rep g rw_ e1
    obtain ⟨q1, q2⟩ := Rep.dp g.ex x v h1 rv
    obtain ⟨r1, r2⟩ := Reps.dp g.ex xs _ h2 rs
    have exs := allStr_map e2
    refine ⟨x.py, D.pys xs, q1, .lst (SqL.of hH) r1, ?_, ?_, by rw [exs]; exact eqv_strs x ss⟩
    · exact Bool.and_eq_true_iff.mpr ⟨q2, decide_eq_true (by omega)⟩
    · refine Bool.and_eq_true_iff.mpr ⟨by rw [PyData.canLay0]; exact r2, decide_eq_true ?_⟩
      have := strs_dep ss
      rw [← exs] at this
      rw [PyData.depth]
      omega
  · cases h
theorem os_ind {neg : Bool} : OpS Z (fun S x y => (indD S x y).map fun k => D.bl (k != neg)) (if neg then rNotInD Z.W.K else rInD Z.W.K) := by
  intro F μ S H v w x y d Q g rv rw_ e q
  obtain ⟨r, e1, rfl⟩ := map_some' e
  obtain ⟨d0, ds, h1, h2, h3, h4, h5⟩ := ind_rd g rv rw_ e1
  cases neg with
  | false => exact ⟨d0, ds, h1, h2, h3, h4, by rw [h5]; have := q _ F H (Ex.refl F) g (.bl _); simpa using this⟩
  | true => exact ⟨d0, ds, h1, h2, h3, h4, by rw [h5]; have := q _ F H (Ex.refl F) g (.bl _); simpa using this⟩
theorem map_bln {x : Option Bool} {neg : Bool} {d : D} {S S' : Sto} (h : x.map (fun k => (D.bl (k != neg), S)) = some (d, S')) : (x.map fun k => D.bl (k != neg)).map (fun d => (d, S)) = some (d, S') := by
  cases x with
  | none => cases h
  | some k => exact h
theorem me_ind (St : Std Z X kk) (ha : ME Z X a ma) (hb : ME Z X b mb) (hm : behindInMarks .In b = false := by rfl) : ME Z X (.Compare a [.In] [b] pos) (.ind false ma mb) := by
  refine PE.imp (pe_cmpR (op_inD (by have := St.hu; omega)) ha hb hm) fun σ H Q h => ?_
  obtain ⟨F, μ, S, ρ, d, S', g, rr, ev, q⟩ := h
  unfold evE at ev
  rw [St.K]
  refine rd2 (os_ind (neg := false)) g rr ?_ q
  obtain ⟨x, e1, ev⟩ := bind_some' ev
  obtain ⟨y, e2, ev⟩ := bind_some' ev
  rw [e1, Option.bind_some, e2, Option.bind_some]
  exact map_bln ev
theorem me_nind (St : Std Z X kk) (ha : ME Z X a ma) (hb : ME Z X b mb) (hm : behindInMarks .NotIn b = false := by rfl) : ME Z X (.Compare a [.NotIn] [b] pos) (.ind true ma mb) := by
  refine PE.imp (pe_cmpR (op_notInD (by have := St.hu; omega)) ha hb hm) fun σ H Q h => ?_
  obtain ⟨F, μ, S, ρ, d, S', g, rr, ev, q⟩ := h
  unfold evE at ev
  rw [St.K]
  refine rd2 (os_ind (neg := true)) g rr ?_ q
  obtain ⟨x, e1, ev⟩ := bind_some' ev
  obtain ⟨y, e2, ev⟩ := bind_some' ev
  rw [e1, Option.bind_some, e2, Option.bind_some]
  exact map_bln ev
theorem mt_ind (St : Std Z X kk) (ha : ME Z X a ma) (hb : ME Z X b mb) (hm : behindInMarks .In b = false := by rfl) : MT Z X (.Compare a [.In] [b] pos) (.ind false ma mb) := by
  refine PT.imp (pt_cmpR (op_inD (by have := St.hu; omega)) ha hb hm) fun σ H Q h => ?_
  obtain ⟨F, μ, S, ρ, k, S', g, rr, ev, q⟩ := h
  unfold evE at ev
  rw [St.K]
  refine rd2 (os_ind (neg := false)) g rr (d := .bl k) (S' := S') ?_ fun v F' μ' H' x p g' r' => ?_
  · obtain ⟨x, e1, ev⟩ := bind_some' ev
    obtain ⟨y, e2, ev⟩ := bind_some' ev
    rw [e1, Option.bind_some, e2, Option.bind_some]
    exact map_bln ev
  · cases r'
    exact ⟨k, rfl, q F' μ' H' x p g'⟩
theorem mt_nind (St : Std Z X kk) (ha : ME Z X a ma) (hb : ME Z X b mb) (hm : behindInMarks .NotIn b = false := by rfl) : MT Z X (.Compare a [.NotIn] [b] pos) (.ind true ma mb) := by
  refine PT.imp (pt_cmpR (op_notInD (by have := St.hu; omega)) ha hb hm) fun σ H Q h => ?_
  obtain ⟨F, μ, S, ρ, k, S', g, rr, ev, q⟩ := h
  unfold evE at ev
  rw [St.K]
  refine rd2 (os_ind (neg := true)) g rr (d := .bl k) (S' := S') ?_ fun v F' μ' H' x p g' r' => ?_
  · obtain ⟨x, e1, ev⟩ := bind_some' ev
    obtain ⟨y, e2, ev⟩ := bind_some' ev
    rw [e1, Option.bind_some, e2, Option.bind_some]
    exact map_bln ev
  · cases r'
    exact ⟨k, rfl, q F' μ' H' x p g'⟩
end
end Fw

set_option Elab.async false
set_option linter.all false
set_option maxRecDepth 100000
set_option maxHeartbeats 0
/-! ### the program in the small syntax -/
namespace K03
open PySem Fw
def f_look_word : Fn := ⟨1, 2, [(.ite (.or (.not (.isi (.slot 0) "str")) (.not (.chain .le .le (.cst (.int 1)) (.bi .len [(.slot 0)]) (.glob "MOST_SIGNS")))) [.never] []), (.ite (.not (.bi .all [(.comp false [1] (.cmp .isin (.slot 1) (.glob "LETTERS")) (.name 1) .str [(.slot 0)] [])])) [.never] [])], .raw⟩
def f_word_number : Fn := ⟨1, 4, [(.asg (.name 1) (.cst (.str ""))), (.asg (.name 2) (.bin .add (.slot 0) (.cst (.int 1)))), (.whil (.cmp .gt (.slot 2) (.cst (.int 0))) [(.asg (.tup [(.name 2), (.name 3)]) (.bi .divmod [(.bin .sub (.slot 2) (.cst (.int 1))), (.bi .len [(.glob "LETTERS")])])), (.asg (.name 1) (.bin .add (.sub (.glob "LETTERS") (.slot 3)) (.slot 1)))]), (.ret (.slot 1))], .raw⟩
def f_free_in : Fn := ⟨1, 5, [(.asg (.name 1) (.dict true)), (.asg (.name 2) (.lst true [(.slot 0)])), (.whil (.cmp .ne (.slot 2) (.lst false [])) [(.asg (.star false [(.name 3)] 4) (.bm .list .pop (.slot 2) [])), (.ite (.cmp .eq (.slot 3) (.cst (.str "name"))) [(.setsub (.slot 1) (.sub (.slot 4) (.cst (.int 0))) (.cst (.bl true)))] [(.ite (.cmp .ne (.slot 3) (.cst (.str "bound"))) [(.ex (.bm .list .extend (.slot 2) [(.slot 4)]))] [])])]), (.ret (.slot 1))], .keep 0 true⟩
def f_addresses_in : Fn := ⟨1, 6, [(.asg (.name 1) (.dict true)), (.asg (.name 2) (.lst true [(.tup [(.cst (.str "")), (.slot 0)])])), (.whil (.cmp .ne (.slot 2) (.lst false [])) [(.asg (.tup [(.name 3), (.star false [(.name 4)] 5)]) (.bm .list .pop (.slot 2) [])), (.setsub (.slot 1) (.slot 3) (.sub (.lst false [(.cst (.str "name")), (.slot 4)]) (.bi .int [(.cmp .isin (.slot 4) (.tup [(.cst (.str "fun")), (.cst (.str "put"))]))]))), (.ite (.cmp .eq (.slot 4) (.cst (.str "fun"))) [(.ex (.bm .list .append (.slot 2) [(.tup [(.bin .add (.slot 3) (.cst (.str "b"))), (.sub (.slot 5) (.cst (.int 0)))])]))] [(.ite (.cmp .eq (.slot 4) (.cst (.str "put"))) [(.ex (.bm .list .extend (.slot 2) [(.lst false [(.tup [(.bin .add (.slot 3) (.cst (.str "f"))), (.sub (.slot 5) (.cst (.int 0)))]), (.tup [(.bin .add (.slot 3) (.cst (.str "g"))), (.sub (.slot 5) (.cst (.int 1)))])])]))] [])])]), (.ret (.slot 1))], .keep 1 false⟩
def f_changed : Fn := ⟨3, 5, [(.asg (.star false [(.name 3)] 4) (.slot 0)), (.ite (.cmp .eq (.slot 3) (.cst (.str "fun"))) [(.ret (.tup [(.cst (.str "fun")), (.callp "changed" (.sub (.slot 4) (.cst (.int 0))) 1 [(.bin .add (.slot 2) (.cst (.int 1)))] [])]))] []), (.ite (.cmp .eq (.slot 3) (.cst (.str "put"))) [(.ret (.tup [(.cst (.str "put")), (.callp "changed" (.sub (.slot 4) (.cst (.int 0))) 1 [(.slot 2)] []), (.callp "changed" (.sub (.slot 4) (.cst (.int 1))) 1 [(.slot 2)] [])]))] []), (.ret (.callv 1 [(.slot 0), (.slot 2)]))], .raw⟩
def f_fresh_words : Fn := ⟨2, 5, [(.asg (.name 2) (.call "free_in" [(.slot 0)] [])), (.asg (.name 3) (.lst true [])), (.asg (.name 4) (.cst (.int 0))), (.whil (.cmp .lt (.bi .len [(.slot 3)]) (.slot 1)) [(.ite (.cmp .notin (.call "word_number" [(.slot 4)] []) (.slot 2)) [(.ex (.bm .list .append (.slot 3) [(.call "word_number" [(.slot 4)] [])]))] []), (.aug 4 .add (.cst (.int 1)))]), (.ret (.slot 3))], .keep 0 true⟩
def f_written : Fn := ⟨3, 7, [(.asg (.star false [(.name 3)] 4) (.slot 0)), (.ite (.cmp .eq (.slot 3) (.cst (.str "name"))) [(.ret (.sub (.slot 4) (.cst (.int 0))))] []), (.ite (.cmp .eq (.slot 3) (.cst (.str "bound"))) [(.ret (.sub (.slot 1) (.bin .sub (.bin .sub (.slot 2) (.cst (.int 1))) (.sub (.slot 4) (.cst (.int 0))))))] []), (.ite (.cmp .eq (.slot 3) (.cst (.str "fun"))) [(.ret (.fstr [(.cst (.str "[")), (.sub (.slot 1) (.slot 2)), (.cst (.str "] ")), (.call "written" [(.sub (.slot 4) (.cst (.int 0))), (.slot 1), (.bin .add (.slot 2) (.cst (.int 1)))] [])]))] []), (.asg (.name 5) (.comp true [6] (.call "written" [(.slot 6), (.slot 1), (.slot 2)] []) (.name 6) .lst [(.slot 4)] [])), (.ite (.cmp .eq (.sub (.sub (.slot 4) (.cst (.int 0))) (.cst (.int 0))) (.cst (.str "fun"))) [(.setsub (.slot 5) (.cst (.int 0)) (.fstr [(.cst (.str "(")), (.sub (.slot 5) (.cst (.int 0))), (.cst (.str ")"))]))] []), (.ite (.cmp .isin (.sub (.sub (.slot 4) (.cst (.int 1))) (.cst (.int 0))) (.tup [(.cst (.str "fun")), (.cst (.str "put"))])) [(.setsub (.slot 5) (.cst (.int 1)) (.fstr [(.cst (.str "(")), (.sub (.slot 5) (.cst (.int 1))), (.cst (.str ")"))]))] []), (.ret (.bm .str .join (.cst (.str " ")) [(.slot 5)]))], .keep 0 true⟩
def f_deepest : Fn := ⟨1, 2, [(.ret (.bi .max [(.comp false [1] (.bm .str .count (.slot 1) [(.cst (.str "b"))]) (.name 1) .keys [(.frzk (.call "addresses_in" [(.slot 0)] []))] [])]))], .raw⟩
def f_Termu_initu : Fn := ⟨2, 2, [(.setfld (.slot 0) "tree" (.slot 1))], .raw⟩
def f_Termu_equ : Fn := ⟨2, 2, [(.ret (.and (.isc (.slot 1) "Term") (.cmp .eq (.fld (.slot 0) "tree") (.fld (.slot 1) "tree"))))], .raw⟩
def f_Termu_stru : Fn := ⟨1, 1, [(.ret (.stro (.call "written" [(.fld (.slot 0) "tree"), (.call "fresh_words" [(.fld (.slot 0) "tree"), (.call "deepest" [(.fld (.slot 0) "tree")] [])] [])] [(.int 0)])))], .raw⟩
def f_name : Fn := ⟨1, 1, [(.ex (.call "look_word" [(.slot 0)] [])), (.ret (.mk true "Term" [(.tup [(.cst (.str "name")), (.slot 0)])]))], .raw⟩
def f_fun : Fn := ⟨2, 3, [(.ex (.call "look_word" [(.slot 0)] [])), (.ndef 2 "fun.leaf"), (.ret (.mk true "Term" [(.tup [(.cst (.str "fun")), (.callc "changed" (.fld (.slot 1) "tree") 2 "fun.leaf" [0] [(.int 0)])])]))], .raw⟩
def f_fun_leaf : Fn := ⟨3, 3, [(.ite (.cmp .eq (.slot 0) (.tup [(.cst (.str "name")), (.slot 2)])) [(.ret (.tup [(.cst (.str "bound")), (.slot 1)]))] []), (.ret (.slot 0))], .raw⟩
def f_put : Fn := ⟨2, 2, [(.ret (.mk true "Term" [(.tup [(.cst (.str "put")), (.fld (.slot 0) "tree"), (.fld (.slot 1) "tree")])]))], .raw⟩
def f_tree_at : Fn := ⟨2, 6, [(.ite (.not (.isi (.slot 1) "str")) [(.raise "NoAddress" [] [] [])] []), (.for_ (.name 2) .str [(.slot 1)] [(.asg (.star false [(.name 3)] 4) (.slot 0)), (.asg (.name 5) (.getd (.dsp [(.inr (Str.ofString "fun")), (.inr (Str.ofString "put"))] [(.cst (.str "b")), (.cst (.str "fg"))]) (.slot 3) (.cst (.str "")))), (.ite (.cmp .notin (.slot 2) (.slot 5)) [(.raise "NoAddress" [] [] [])] []), (.asg (.name 0) (.sub (.slot 4) (.idxs (.slot 5) (.slot 2))))]), (.ret (.slot 0))], .raw⟩
def f_kind_at : Fn := ⟨2, 3, [(.asg (.name 2) (.sub (.xcal "tree_at" [(.fld (.slot 0) "tree"), (.slot 1)] []) (.cst (.int 0)))), (.ite (.cmp .eq (.slot 2) (.cst (.str "bound"))) [(.ret (.cst (.str "name")))] []), (.ret (.slot 2))], .raw⟩
def f_part_at : Fn := ⟨2, 5, [(.asg (.name 2) (.xcal "tree_at" [(.fld (.slot 0) "tree"), (.slot 1)] [])), (.asg (.name 3) (.call "fresh_words" [(.fld (.slot 0) "tree"), (.bm .str .count (.slot 1) [(.cst (.str "b"))])] [])), (.ndef 4 "part_at.leaf"), (.ret (.mk true "Term" [(.callc "changed" (.slot 2) 4 "part_at.leaf" [3] [(.int 0)])]))], .raw⟩
def f_part_at_leaf : Fn := ⟨3, 3, [(.ite (.and (.cmp .eq (.sub (.slot 0) (.cst (.int 0))) (.cst (.str "bound"))) (.cmp .ge (.sub (.slot 0) (.cst (.int 1))) (.slot 1))) [(.ret (.tup [(.cst (.str "name")), (.sub (.slot 2) (.bin .sub (.bin .sub (.bi .len [(.slot 2)]) (.cst (.int 1))) (.bin .sub (.sub (.slot 0) (.cst (.int 1))) (.slot 1))))]))] []), (.ret (.slot 0))], .raw⟩
def f__law_mixed : Fn := ⟨2, 3, [(.asg (.name 2) (.bin .add (.bin .add (.bin .mul (.bin .add (.bin .mod (.slot 0) (.bin .add (.bin .pow (.cst (.int 10)) (.cst (.int 18))) (.cst (.int 9)))) (.bin .mul (.cst (.int 7)) (.slot 1))) (.cst (.int 739108512309184756019283746561))) (.bin .mul (.cst (.int 7919)) (.slot 1))) (.cst (.int 1)))), (.asg (.name 2) (.bin .mod (.bin .mul (.slot 2) (.slot 2)) (.bin .add (.bin .pow (.cst (.int 10)) (.cst (.int 60))) (.cst (.int 7))))), (.ret (.bin .mod (.bin .mul (.bin .add (.slot 2) (.cst (.int 40503))) (.bin .add (.slot 2) (.cst (.int 57)))) (.bin .add (.bin .pow (.cst (.int 10)) (.cst (.int 60))) (.cst (.int 7)))))], .raw⟩
def f__law_purse : Fn := ⟨2, 2, [(.ite (.cmp .ge (.slot 0) (.bin .pow (.cst (.int 10)) (.cst (.int 18)))) [(.ret (.lst true [(.bin .mod (.bin .sub (.slot 0) (.bin .pow (.cst (.int 10)) (.cst (.int 18)))) (.bin .pow (.bin .pow (.cst (.int 10)) (.cst (.int 60))) (.cst (.int 10)))), (.cst (.int 0)), (.slot 1)]))] []), (.ret (.lst true [(.call "_law_mixed" [(.slot 0), (.slot 1)] []), (.cst (.int 0)), (.bin .add (.bin .mod (.slot 0) (.bin .add (.bin .pow (.cst (.int 10)) (.cst (.int 18))) (.cst (.int 9)))) (.slot 1))]))], .raw⟩
def f__law_take : Fn := ⟨2, 3, [(.ite (.cmp .lt (.sub (.slot 0) (.cst (.int 0))) (.slot 1)) [(.setsub (.slot 0) (.cst (.int 1)) (.bin .add (.sub (.slot 0) (.cst (.int 1))) (.cst (.int 1)))), (.setsub (.slot 0) (.cst (.int 0)) (.bin .add (.sub (.slot 0) (.cst (.int 0))) (.bin .mul (.slot 1) (.call "_law_mixed" [(.sub (.slot 0) (.cst (.int 2))), (.bin .add (.bin .mul (.cst (.int 11)) (.sub (.slot 0) (.cst (.int 1)))) (.cst (.int 5)))] []))))] []), (.asg (.name 2) (.bin .mod (.sub (.slot 0) (.cst (.int 0))) (.slot 1))), (.setsub (.slot 0) (.cst (.int 0)) (.bin .fdiv (.sub (.slot 0) (.cst (.int 0))) (.slot 1))), (.ret (.slot 2))], .raw⟩
def f__law_at : Fn := ⟨2, 2, [(.ite (.cmp .lt (.slot 1) (.bi .len [(.slot 0)])) [(.ret (.sub (.slot 0) (.slot 1)))] []), (.ret (.bin .add (.bin .mul (.cst (.int 3)) (.slot 1)) (.cst (.int 1))))], .raw⟩
def f__law_free : Fn := ⟨1, 1, [(.ite (.cmp .eq (.sub (.slot 0) (.cst (.int 0))) (.cst (.str "n"))) [(.ret (.lst false [(.sub (.slot 0) (.cst (.int 1)))]))] []), (.ite (.cmp .eq (.sub (.slot 0) (.cst (.int 0))) (.cst (.str "l"))) [(.ret (.call "_law_free" [(.sub (.slot 0) (.cst (.int 1)))] []))] []), (.ite (.cmp .eq (.sub (.slot 0) (.cst (.int 0))) (.cst (.str "p"))) [(.ret (.bin .add (.call "_law_free" [(.sub (.slot 0) (.cst (.int 1)))] []) (.call "_law_free" [(.sub (.slot 0) (.cst (.int 2)))] [])))] []), (.ret (.lst false []))], .raw⟩
def f__law_words : Fn := ⟨2, 7, [(.asg (.name 2) (.cst (.str "abcdefghijklmnopqrstuvwxyz"))), (.asg (.name 3) (.bi .list [(.slot 2)])), (.for_ (.name 4) .str [(.slot 2)] [(.asg (.name 3) (.bin .add (.slot 3) (.comp false [5] (.bin .add (.slot 4) (.slot 5)) (.name 5) .str [(.slot 2)] [])))]), (.ret (.slice (.comp false [6] (.slot 6) (.name 6) .lst [(.slot 3)] [(.cmp .notin (.slot 6) (.slot 0))]) [] [(.slot 1)]))], .raw⟩
def f__law_written : Fn := ⟨3, 5, [(.ite (.cmp .eq (.sub (.slot 0) (.cst (.int 0))) (.cst (.str "n"))) [(.ret (.sub (.slot 0) (.cst (.int 1))))] []), (.ite (.cmp .eq (.sub (.slot 0) (.cst (.int 0))) (.cst (.str "v"))) [(.ret (.sub (.slot 1) (.bin .sub (.bin .sub (.slot 2) (.cst (.int 1))) (.sub (.slot 0) (.cst (.int 1))))))] []), (.ite (.cmp .eq (.sub (.slot 0) (.cst (.int 0))) (.cst (.str "l"))) [(.ret (.bin .add (.bin .add (.bin .add (.cst (.str "[")) (.sub (.slot 1) (.slot 2))) (.cst (.str "] "))) (.call "_law_written" [(.sub (.slot 0) (.cst (.int 1))), (.slot 1), (.bin .add (.slot 2) (.cst (.int 1)))] [])))] []), (.asg (.name 3) (.call "_law_written" [(.sub (.slot 0) (.cst (.int 1))), (.slot 1), (.slot 2)] [])), (.asg (.name 4) (.call "_law_written" [(.sub (.slot 0) (.cst (.int 2))), (.slot 1), (.slot 2)] [])), (.asg (.name 3) (.sub (.lst false [(.slot 3), (.bin .add (.bin .add (.cst (.str "(")) (.slot 3)) (.cst (.str ")")))]) (.bi .int [(.cmp .eq (.sub (.sub (.slot 0) (.cst (.int 1))) (.cst (.int 0))) (.cst (.str "l")))]))), (.ret (.bin .add (.bin .add (.slot 3) (.cst (.str " "))) (.sub (.lst false [(.slot 4), (.bin .add (.bin .add (.cst (.str "(")) (.slot 4)) (.cst (.str ")")))]) (.bi .int [(.cmp .isin (.sub (.sub (.slot 0) (.cst (.int 2))) (.cst (.int 0))) (.lst false [(.cst (.str "l")), (.cst (.str "p"))]))]))))], .raw⟩
def f__law_text : Fn := ⟨1, 1, [(.ret (.call "_law_written" [(.slot 0), (.call "_law_words" [(.call "_law_free" [(.slot 0)] []), (.cst (.int 90))] []), (.cst (.int 0))] []))], .raw⟩
def f__law_leaf : Fn := ⟨3, 3, [(.ite (.and (.cmp .ne (.slot 2) (.lst false [])) (.or (.cmp .eq (.slot 1) (.cst (.int 0))) (.cmp .eq (.call "_law_take" [(.slot 0), (.cst (.int 6))] []) (.cst (.int 0))))) [(.ret (.lst false [(.cst (.str "n")), (.sub (.slot 2) (.call "_law_take" [(.slot 0), (.bi .len [(.slot 2)])] []))]))] []), (.ite (.cmp .eq (.slot 1) (.cst (.int 0))) [(.ret (.lst false [(.cst (.str "l")), (.lst false [(.cst (.str "v")), (.cst (.int 0))])]))] []), (.ret (.lst false [(.cst (.str "v")), (.call "_law_take" [(.slot 0), (.slot 1)] [])]))], .raw⟩
def f__law_drawn : Fn := ⟨4, 6, [(.asg (.name 4) (.call "_law_take" [(.slot 0), (.cst (.int 8))] [])), (.ite (.or (.cmp .eq (.slot 1) (.cst (.int 0))) (.cmp .eq (.slot 4) (.cst (.int 0)))) [(.ret (.call "_law_leaf" [(.slot 0), (.slot 2), (.slot 3)] []))] []), (.ite (.cmp .lt (.slot 4) (.cst (.int 4))) [(.ret (.lst false [(.cst (.str "l")), (.call "_law_drawn" [(.slot 0), (.bin .sub (.slot 1) (.cst (.int 1))), (.bin .add (.slot 2) (.cst (.int 1))), (.slot 3)] [])]))] []), (.asg (.name 5) (.call "_law_drawn" [(.slot 0), (.bin .sub (.slot 1) (.cst (.int 1))), (.slot 2), (.slot 3)] [])), (.ret (.lst false [(.cst (.str "p")), (.slot 5), (.call "_law_drawn" [(.slot 0), (.bin .sub (.slot 1) (.cst (.int 1))), (.slot 2), (.slot 3)] [])]))], .raw⟩
def f__law_lively : Fn := ⟨2, 5, [(.asg (.name 2) (.bin .add (.cst (.int 1)) (.call "_law_take" [(.slot 0), (.cst (.int 3))] []))), (.asg (.name 3) (.lst false [(.cst (.str "l")), (.call "_law_drawn" [(.slot 0), (.slot 2), (.cst (.int 1)), (.slot 1)] [])])), (.asg (.name 4) (.lst false [(.cst (.str "p")), (.slot 3), (.call "_law_drawn" [(.slot 0), (.bin .add (.cst (.int 1)) (.call "_law_take" [(.slot 0), (.cst (.int 3))] [])), (.cst (.int 0)), (.slot 1)] [])])), (.ite (.cmp .eq (.call "_law_take" [(.slot 0), (.cst (.int 2))] []) (.cst (.int 0))) [(.asg (.name 4) (.lst false [(.cst (.str "p")), (.slot 4), (.call "_law_drawn" [(.slot 0), (.cst (.int 2)), (.cst (.int 0)), (.slot 1)] [])]))] []), (.ite (.cmp .eq (.call "_law_take" [(.slot 0), (.cst (.int 3))] []) (.cst (.int 0))) [(.asg (.name 4) (.lst false [(.cst (.str "p")), (.lst false [(.cst (.str "l")), (.lst false [(.cst (.str "p")), (.lst false [(.cst (.str "v")), (.cst (.int 0))]), (.lst false [(.cst (.str "p")), (.lst false [(.cst (.str "v")), (.cst (.int 0))]), (.call "_law_drawn" [(.slot 0), (.cst (.int 2)), (.cst (.int 1)), (.slot 1)] [])])])]), (.sub (.slot 4) (.cst (.int 1)))]))] []), (.ret (.slot 4))], .raw⟩
def f__law_used : Fn := ⟨2, 2, [(.ite (.cmp .eq (.sub (.slot 0) (.cst (.int 0))) (.cst (.str "l"))) [(.ret (.call "_law_used" [(.sub (.slot 0) (.cst (.int 1))), (.bin .add (.slot 1) (.cst (.int 1)))] []))] []), (.ite (.cmp .eq (.sub (.slot 0) (.cst (.int 0))) (.cst (.str "p"))) [(.ret (.bin .add (.call "_law_used" [(.sub (.slot 0) (.cst (.int 1))), (.slot 1)] []) (.call "_law_used" [(.sub (.slot 0) (.cst (.int 2))), (.slot 1)] [])))] []), (.ite (.or (.cmp .eq (.sub (.slot 0) (.cst (.int 0))) (.cst (.str "n"))) (.cmp .lt (.sub (.slot 0) (.cst (.int 1))) (.slot 1))) [(.ret (.lst false []))] []), (.ret (.lst false [(.bin .sub (.sub (.slot 0) (.cst (.int 1))) (.slot 1))]))], .raw⟩
def f__law_binder : Fn := ⟨3, 6, [(.asg (.name 3) (.bin .add (.call "_law_free" [(.slot 1)] []) (.comp false [4] (.sub (.slot 2) (.bin .sub (.bin .sub (.cst (.int 0)) (.cst (.int 1))) (.slot 4))) (.name 4) .lst [(.call "_law_used" [(.slot 1), (.cst (.int 1))] [])] []))), (.asg (.name 5) (.sub (.lst false [(.cst (.str "x")), (.cst (.str "y")), (.cst (.str "a")), (.cst (.str "b")), (.cst (.str "ab")), (.cst (.str "abcdefgh")), (.cst (.str "q"))]) (.call "_law_take" [(.slot 0), (.cst (.int 7))] []))), (.ite (.cmp .isin (.slot 5) (.slot 3)) [(.asg (.name 5) (.sub (.call "_law_words" [(.slot 3), (.cst (.int 1))] []) (.cst (.int 0))))] []), (.ret (.slot 5))], .raw⟩
def f__law_named : Fn := ⟨3, 5, [(.ite (.cmp .eq (.sub (.slot 1) (.cst (.int 0))) (.cst (.str "n"))) [(.ret (.slot 1))] []), (.ite (.cmp .eq (.sub (.slot 1) (.cst (.int 0))) (.cst (.str "v"))) [(.ret (.lst false [(.cst (.str "n")), (.sub (.slot 2) (.bin .sub (.bin .sub (.cst (.int 0)) (.cst (.int 1))) (.sub (.slot 1) (.cst (.int 1)))))]))] []), (.ite (.cmp .eq (.sub (.slot 1) (.cst (.int 0))) (.cst (.str "p"))) [(.asg (.name 3) (.call "_law_named" [(.slot 0), (.sub (.slot 1) (.cst (.int 1))), (.slot 2)] [])), (.ret (.lst false [(.cst (.str "p")), (.slot 3), (.call "_law_named" [(.slot 0), (.sub (.slot 1) (.cst (.int 2))), (.slot 2)] [])]))] []), (.asg (.name 4) (.call "_law_binder" [(.slot 0), (.sub (.slot 1) (.cst (.int 1))), (.slot 2)] [])), (.ret (.lst false [(.cst (.str "l")), (.slot 4), (.call "_law_named" [(.slot 0), (.sub (.slot 1) (.cst (.int 1))), (.bin .add (.slot 2) (.lst false [(.slot 4)]))] [])]))], .raw⟩
def f__law_made : Fn := ⟨1, 1, [(.ite (.cmp .eq (.sub (.slot 0) (.cst (.int 0))) (.cst (.str "n"))) [(.ret (.call "name" [(.sub (.slot 0) (.cst (.int 1)))] []))] []), (.ite (.cmp .eq (.sub (.slot 0) (.cst (.int 0))) (.cst (.str "p"))) [(.ret (.call "put" [(.call "_law_made" [(.sub (.slot 0) (.cst (.int 1)))] []), (.call "_law_made" [(.sub (.slot 0) (.cst (.int 2)))] [])] []))] []), (.ret (.call "fun" [(.sub (.slot 0) (.cst (.int 1))), (.call "_law_made" [(.sub (.slot 0) (.cst (.int 2)))] [])] []))], .raw⟩
def f__law_named_text : Fn := ⟨1, 3, [(.ite (.cmp .eq (.sub (.slot 0) (.cst (.int 0))) (.cst (.str "n"))) [(.ret (.sub (.slot 0) (.cst (.int 1))))] []), (.ite (.cmp .eq (.sub (.slot 0) (.cst (.int 0))) (.cst (.str "l"))) [(.ret (.bin .add (.bin .add (.bin .add (.cst (.str "[")) (.sub (.slot 0) (.cst (.int 1)))) (.cst (.str "] "))) (.call "_law_named_text" [(.sub (.slot 0) (.cst (.int 2)))] [])))] []), (.asg (.name 1) (.call "_law_named_text" [(.sub (.slot 0) (.cst (.int 1)))] [])), (.asg (.name 2) (.call "_law_named_text" [(.sub (.slot 0) (.cst (.int 2)))] [])), (.asg (.name 1) (.sub (.lst false [(.slot 1), (.bin .add (.bin .add (.cst (.str "(")) (.slot 1)) (.cst (.str ")")))]) (.bi .int [(.cmp .eq (.sub (.sub (.slot 0) (.cst (.int 1))) (.cst (.int 0))) (.cst (.str "l")))]))), (.ret (.bin .add (.bin .add (.slot 1) (.cst (.str " "))) (.sub (.lst false [(.slot 2), (.bin .add (.bin .add (.cst (.str "(")) (.slot 2)) (.cst (.str ")")))]) (.bi .int [(.cmp .isin (.sub (.sub (.slot 0) (.cst (.int 2))) (.cst (.int 0))) (.lst false [(.cst (.str "l")), (.cst (.str "p"))]))]))))], .raw⟩
def f__law_class : Fn := ⟨1, 3, [(.asg (.name 1) (.lst false [(.isx (.slot 0) "NoAddress"), (.isx (.slot 0) "NoBack"), (.isx (.slot 0) "NoKnot")])), (.asg (.name 1) (.bin .add (.slot 1) (.lst false [(.isx (.slot 0) "NoLine"), (.isx (.slot 0) "NoMeeting"), (.isx (.slot 0) "NoName")]))), (.asg (.name 1) (.bin .add (.slot 1) (.lst false [(.isx (.slot 0) "NoNumber"), (.isx (.slot 0) "NoRedex"), (.isx (.slot 0) "NoText")]))), (.asg (.name 1) (.bin .add (.slot 1) (.lst false [(.isx (.slot 0) "NoWord"), (.isx (.slot 0) "NotDone"), (.isx (.slot 0) "TooLong")]))), (.ite (.or (.not (.isx (.slot 0) "SpinError")) (.or (.not (.isx (.slot 0) "ValueError")) (.cmp .ne (.cntl (.slot 1) (.cst (.bl true))) (.cst (.int 1))))) [(.ret (.cst (.str "")))] []), (.asg (.name 2) (.lst false [(.cst (.str "NoAddress")), (.cst (.str "NoBack")), (.cst (.str "NoKnot")), (.cst (.str "NoLine")), (.cst (.str "NoMeeting")), (.cst (.str "NoName")), (.cst (.str "NoNumber")), (.cst (.str "NoRedex")), (.cst (.str "NoText"))])), (.ret (.sub (.bin .add (.slot 2) (.lst false [(.cst (.str "NoWord")), (.cst (.str "NotDone")), (.cst (.str "TooLong"))])) (.idxl (.slot 1) (.cst (.bl true)))))], .raw⟩
def f__law_opened : Fn := ⟨4, 4, [(.ite (.cmp .eq (.sub (.slot 0) (.cst (.int 0))) (.cst (.str "l"))) [(.ret (.lst false [(.cst (.str "l")), (.call "_law_opened" [(.sub (.slot 0) (.cst (.int 1))), (.slot 1), (.bin .add (.slot 2) (.cst (.int 1))), (.slot 3)] [])]))] []), (.ite (.cmp .eq (.sub (.slot 0) (.cst (.int 0))) (.cst (.str "p"))) [(.ret (.lst false [(.cst (.str "p")), (.call "_law_opened" [(.sub (.slot 0) (.cst (.int 1))), (.slot 1), (.slot 2), (.slot 3)] []), (.call "_law_opened" [(.sub (.slot 0) (.cst (.int 2))), (.slot 1), (.slot 2), (.slot 3)] [])]))] []), (.ite (.and (.cmp .eq (.sub (.slot 0) (.cst (.int 0))) (.cst (.str "v"))) (.cmp .ge (.sub (.slot 0) (.cst (.int 1))) (.slot 2))) [(.ret (.lst false [(.cst (.str "n")), (.sub (.slot 1) (.bin .sub (.bin .sub (.slot 3) (.cst (.int 1))) (.bin .sub (.sub (.slot 0) (.cst (.int 1))) (.slot 2))))]))] []), (.ret (.slot 0))], .raw⟩
def f__law_part : Fn := ⟨2, 3, [(.for_ (.name 2) .str [(.slot 1)] [(.asg (.name 0) (.sub (.slot 0) (.bin .add (.cst (.int 1)) (.bi .int [(.cmp .eq (.slot 2) (.cst (.str "g")))]))))]), (.ret (.slot 0))], .raw⟩
def f__law_all : Fn := ⟨2, 2, [(.ite (.cmp .eq (.sub (.slot 0) (.cst (.int 0))) (.cst (.str "l"))) [(.ret (.bin .add (.lst false [(.slot 1)]) (.call "_law_all" [(.sub (.slot 0) (.cst (.int 1))), (.bin .add (.slot 1) (.cst (.str "b")))] [])))] []), (.ite (.cmp .eq (.sub (.slot 0) (.cst (.int 0))) (.cst (.str "p"))) [(.ret (.bin .add (.bin .add (.lst false [(.slot 1)]) (.call "_law_all" [(.sub (.slot 0) (.cst (.int 1))), (.bin .add (.slot 1) (.cst (.str "f")))] [])) (.call "_law_all" [(.sub (.slot 0) (.cst (.int 2))), (.bin .add (.slot 1) (.cst (.str "g")))] [])))] []), (.ret (.lst false [(.slot 1)]))], .raw⟩
def f__law_caught : Fn := ⟨3, 5, [(.asg (.name 3) (.cst .non)), (.tryx [(.ite (.cmp .eq (.slot 2) (.cst (.int 0))) [(.ex (.xcal "kind_at" [(.slot 0), (.slot 1)] []))] [(.ex (.xcal "part_at" [(.slot 0), (.slot 1)] []))])] "SpinError" 4 [(.asg (.name 3) (.slot 4))]), (.ret (.and (.cmp .notn (.slot 3) (.cst .non)) (.cmp .eq (.call "_law_class" [(.slot 3)] []) (.cst (.str "NoAddress")))))], .raw⟩
def f_law : Fn := ⟨1, 14, [(.for_ (.name 1) .lst [(.bin .add (.slice (.slot 0) [] [(.cst (.int 5))]) (.lst false [(.call "_law_at" [(.slot 0), (.cst (.int 4))] [])]))] [(.asg (.name 2) (.call "_law_purse" [(.slot 1), (.cst (.int 3))] [])), (.asg (.name 3) (.call "_law_drawn" [(.slot 2), (.call "_law_take" [(.slot 2), (.cst (.int 6))] []), (.cst (.int 0)), (.sub (.lst false [(.lst false []), (.lst false [(.cst (.str "a")), (.cst (.str "b")), (.cst (.str "x"))])]) (.call "_law_take" [(.slot 2), (.cst (.int 2))] []))] [])), (.asg (.name 4) (.call "_law_made" [(.call "_law_named" [(.slot 2), (.slot 3), (.lst false [])] [])] [])), (.asg (.name 5) (.call "_law_words" [(.call "_law_free" [(.slot 3)] []), (.cst (.int 90))] [])), (.asg (.name 6) (.call "_law_all" [(.slot 3), (.cst (.str ""))] [])), (.for_ (.name 7) .lst [(.slot 6)] [(.asg (.name 8) (.call "_law_part" [(.slot 3), (.slot 7)] [])), (.asg (.name 9) (.sub (.dsp [(.inr (Str.ofString "l")), (.inr (Str.ofString "p")), (.inr (Str.ofString "v")), (.inr (Str.ofString "n"))] [(.cst (.str "fun")), (.cst (.str "put")), (.cst (.str "name")), (.cst (.str "name"))]) (.sub (.slot 8) (.cst (.int 0))))), (.asg (.name 10) (.call "_law_text" [(.call "_law_opened" [(.slot 8), (.slot 5), (.cst (.int 0)), (.bm .str .count (.slot 7) [(.cst (.str "b"))])] [])] [])), (.ite (.or (.cmp .ne (.xcal "kind_at" [(.slot 4), (.slot 7)] []) (.slot 9)) (.cmp .ne (.stro (.xcalk "part_at" [(.slot 7), (.slot 4)] [.inl 1, .inl 0])) (.slot 10))) [(.ret (.cst (.bl false)))] []), (.ite (.or (.cmp .ne (.xcalk "kind_at" [(.slot 7), (.slot 4)] [.inl 1, .inl 0]) (.slot 9)) (.eqo true (.xcal "part_at" [(.slot 4), (.slot 7)] []) (.xcal "part_at" [(.slot 4), (.slot 7)] []))) [(.ret (.cst (.bl false)))] [])]), (.asg (.name 7) (.sub (.slot 6) (.call "_law_take" [(.slot 2), (.bi .len [(.slot 6)])] []))), (.asg (.name 11) (.call "_law_take" [(.slot 2), (.bin .add (.bi .len [(.slot 7)]) (.cst (.int 1)))] [])), (.asg (.name 12) (.bin .add (.bin .add (.slice (.slot 7) [] [(.slot 11)]) (.sub (.lst false [(.cst (.str "b")), (.cst (.str "f")), (.cst (.str "g")), (.cst (.str "a")), (.cst (.str "B")), (.cst (.str " "))]) (.call "_law_take" [(.slot 2), (.cst (.int 6))] []))) (.slice (.slot 7) [(.slot 11)] []))), (.for_ (.name 13) .lst [(.lst false [(.slot 12), (.bin .add (.slot 7) (.cst (.str "bbbbbbb"))), (.sub (.lst false [(.cst .non), (.cst (.int 0)), (.tup [(.cst (.str "b"))]), (.lst false [(.cst (.str "f"))]), (.cst (.bl true))]) (.call "_law_take" [(.slot 2), (.cst (.int 5))] []))])] [(.ite (.and (.ind true (.slot 13) (.slot 6)) (.not (.and (.call "_law_caught" [(.slot 4), (.slot 13), (.cst (.int 0))] []) (.call "_law_caught" [(.slot 4), (.slot 13), (.cst (.int 1))] [])))) [(.ret (.cst (.bl false)))] [])]), (.ite (.cmp .ne (.stro (.slot 4)) (.call "_law_text" [(.slot 3)] [])) [(.ret (.cst (.bl false)))] [])]), (.ret (.cst (.bl true)))], .keep 0 true⟩
def tab : List (Str × Fn) := [((Str.ofString "look_word"), f_look_word), ((Str.ofString "word_number"), f_word_number), ((Str.ofString "free_in"), f_free_in), ((Str.ofString "addresses_in"), f_addresses_in), ((Str.ofString "changed"), f_changed), ((Str.ofString "fresh_words"), f_fresh_words), ((Str.ofString "written"), f_written), ((Str.ofString "deepest"), f_deepest), ((Str.ofString "Term.__init__"), f_Termu_initu), ((Str.ofString "Term.__eq__"), f_Termu_equ), ((Str.ofString "Term.__str__"), f_Termu_stru), ((Str.ofString "name"), f_name), ((Str.ofString "fun"), f_fun), ((Str.ofString "fun.leaf"), f_fun_leaf), ((Str.ofString "put"), f_put), ((Str.ofString "tree_at"), f_tree_at), ((Str.ofString "kind_at"), f_kind_at), ((Str.ofString "part_at"), f_part_at), ((Str.ofString "part_at.leaf"), f_part_at_leaf), ((Str.ofString "_law_mixed"), f__law_mixed), ((Str.ofString "_law_purse"), f__law_purse), ((Str.ofString "_law_take"), f__law_take), ((Str.ofString "_law_at"), f__law_at), ((Str.ofString "_law_free"), f__law_free), ((Str.ofString "_law_words"), f__law_words), ((Str.ofString "_law_written"), f__law_written), ((Str.ofString "_law_text"), f__law_text), ((Str.ofString "_law_leaf"), f__law_leaf), ((Str.ofString "_law_drawn"), f__law_drawn), ((Str.ofString "_law_lively"), f__law_lively), ((Str.ofString "_law_used"), f__law_used), ((Str.ofString "_law_binder"), f__law_binder), ((Str.ofString "_law_named"), f__law_named), ((Str.ofString "_law_made"), f__law_made), ((Str.ofString "_law_named_text"), f__law_named_text), ((Str.ofString "_law_class"), f__law_class), ((Str.ofString "_law_opened"), f__law_opened), ((Str.ofString "_law_part"), f__law_part), ((Str.ofString "_law_all"), f__law_all), ((Str.ofString "_law_caught"), f__law_caught), ((Str.ofString "law"), f_law)]
def gtab : List (Str × D) := [((Str.ofString "LETTERS"), .str (Str.ofString "abcdefghijklmnopqrstuvwxyz")), ((Str.ofString "MOST_SIGNS"), .int 8)]
def mtab : List ((Str × Str) × Str) := [(((Str.ofString "Term"), (Str.ofString "__init__")), (Str.ofString "Term.__init__")), (((Str.ofString "Term"), (Str.ofString "__eq__")), (Str.ofString "Term.__eq__")), (((Str.ofString "Term"), (Str.ofString "__len__")), (Str.ofString "Term.__len__")), (((Str.ofString "Term"), (Str.ofString "__str__")), (Str.ofString "Term.__str__")), (((Str.ofString "Term"), (Str.ofString "free")), (Str.ofString "Term.free")), (((Str.ofString "Term"), (Str.ofString "is_closed")), (Str.ofString "Term.is_closed"))]
def xtab : List ((Str × Str) × Bool) := [(((Str.ofString "NoAddress"), (Str.ofString "NoAddress")), true), (((Str.ofString "NoAddress"), (Str.ofString "NoBack")), false), (((Str.ofString "NoAddress"), (Str.ofString "NoKnot")), false), (((Str.ofString "NoAddress"), (Str.ofString "NoLine")), false), (((Str.ofString "NoAddress"), (Str.ofString "NoMeeting")), false), (((Str.ofString "NoAddress"), (Str.ofString "NoName")), false), (((Str.ofString "NoAddress"), (Str.ofString "NoNumber")), false), (((Str.ofString "NoAddress"), (Str.ofString "NoRedex")), false), (((Str.ofString "NoAddress"), (Str.ofString "NoText")), false), (((Str.ofString "NoAddress"), (Str.ofString "NoWord")), false), (((Str.ofString "NoAddress"), (Str.ofString "NotDone")), false), (((Str.ofString "NoAddress"), (Str.ofString "SpinError")), true), (((Str.ofString "NoAddress"), (Str.ofString "TooLong")), false), (((Str.ofString "NoAddress"), (Str.ofString "ValueError")), true)]
def pr : Pr := ⟨fun g => tab.lookup g, fun x => gtab.lookup x, fun c m => mtab.lookup (c, m), fun c n => xtab.lookup (c, n)⟩
/-! ### facts for the plain layer -/
section
@[simp] theorem lt_0 : D.str (Str.ofString "") = D.str (sl []) := rfl
@[simp] theorem lt_1 : D.str (Str.ofString " ") = D.str (sl [32]) := rfl
@[simp] theorem lt_2 : D.str (Str.ofString "(") = D.str (sl [40]) := rfl
@[simp] theorem lt_3 : D.str (Str.ofString ")") = D.str (sl [41]) := rfl
@[simp] theorem lt_4 : D.str (Str.ofString "B") = D.str (sl [66]) := rfl
@[simp] theorem lt_5 : D.str (Str.ofString "NoAddress") = D.str (sl [78, 111, 65, 100, 100, 114, 101, 115, 115]) := rfl
@[simp] theorem lt_6 : D.str (Str.ofString "NoBack") = D.str (sl [78, 111, 66, 97, 99, 107]) := rfl
@[simp] theorem lt_7 : D.str (Str.ofString "NoKnot") = D.str (sl [78, 111, 75, 110, 111, 116]) := rfl
@[simp] theorem lt_8 : D.str (Str.ofString "NoLine") = D.str (sl [78, 111, 76, 105, 110, 101]) := rfl
@[simp] theorem lt_9 : D.str (Str.ofString "NoMeeting") = D.str (sl [78, 111, 77, 101, 101, 116, 105, 110, 103]) := rfl
@[simp] theorem lt_10 : D.str (Str.ofString "NoName") = D.str (sl [78, 111, 78, 97, 109, 101]) := rfl
@[simp] theorem lt_11 : D.str (Str.ofString "NoNumber") = D.str (sl [78, 111, 78, 117, 109, 98, 101, 114]) := rfl
@[simp] theorem lt_12 : D.str (Str.ofString "NoRedex") = D.str (sl [78, 111, 82, 101, 100, 101, 120]) := rfl
@[simp] theorem lt_13 : D.str (Str.ofString "NoText") = D.str (sl [78, 111, 84, 101, 120, 116]) := rfl
@[simp] theorem lt_14 : D.str (Str.ofString "NoWord") = D.str (sl [78, 111, 87, 111, 114, 100]) := rfl
@[simp] theorem lt_15 : D.str (Str.ofString "NotDone") = D.str (sl [78, 111, 116, 68, 111, 110, 101]) := rfl
@[simp] theorem lt_16 : D.str (Str.ofString "TooLong") = D.str (sl [84, 111, 111, 76, 111, 110, 103]) := rfl
@[simp] theorem lt_17 : D.str (Str.ofString "[") = D.str (sl [91]) := rfl
@[simp] theorem lt_18 : D.str (Str.ofString "] ") = D.str (sl [93, 32]) := rfl
@[simp] theorem lt_19 : D.str (Str.ofString "a") = D.str (sl [97]) := rfl
@[simp] theorem lt_20 : D.str (Str.ofString "ab") = D.str (sl [97, 98]) := rfl
@[simp] theorem lt_21 : D.str (Str.ofString "abcdefgh") = D.str (sl [97, 98, 99, 100, 101, 102, 103, 104]) := rfl
@[simp] theorem lt_22 : D.str (Str.ofString "abcdefghijklmnopqrstuvwxyz") = D.str (sl [97, 98, 99, 100, 101, 102, 103, 104, 105, 106, 107, 108, 109, 110, 111, 112, 113, 114, 115, 116, 117, 118, 119, 120, 121, 122]) := rfl
@[simp] theorem lt_23 : D.str (Str.ofString "b") = D.str (sl [98]) := rfl
@[simp] theorem lt_24 : D.str (Str.ofString "bbbbbbb") = D.str (sl [98, 98, 98, 98, 98, 98, 98]) := rfl
@[simp] theorem lt_25 : D.str (Str.ofString "bound") = D.str (sl [98, 111, 117, 110, 100]) := rfl
@[simp] theorem lt_26 : D.str (Str.ofString "f") = D.str (sl [102]) := rfl
@[simp] theorem lt_27 : D.str (Str.ofString "fg") = D.str (sl [102, 103]) := rfl
@[simp] theorem lt_28 : D.str (Str.ofString "fun") = D.str (sl [102, 117, 110]) := rfl
@[simp] theorem lt_29 : D.str (Str.ofString "g") = D.str (sl [103]) := rfl
@[simp] theorem lt_30 : D.str (Str.ofString "l") = D.str (sl [108]) := rfl
@[simp] theorem lt_31 : D.str (Str.ofString "n") = D.str (sl [110]) := rfl
@[simp] theorem lt_32 : D.str (Str.ofString "name") = D.str (sl [110, 97, 109, 101]) := rfl
@[simp] theorem lt_33 : D.str (Str.ofString "p") = D.str (sl [112]) := rfl
@[simp] theorem lt_34 : D.str (Str.ofString "put") = D.str (sl [112, 117, 116]) := rfl
@[simp] theorem lt_35 : D.str (Str.ofString "q") = D.str (sl [113]) := rfl
@[simp] theorem lt_36 : D.str (Str.ofString "v") = D.str (sl [118]) := rfl
@[simp] theorem lt_37 : D.str (Str.ofString "x") = D.str (sl [120]) := rfl
@[simp] theorem lt_38 : D.str (Str.ofString "y") = D.str (sl [121]) := rfl
theorem pf_look_word : pr.fn (Str.ofString "look_word") = some f_look_word := by rfl
theorem pf_word_number : pr.fn (Str.ofString "word_number") = some f_word_number := by rfl
theorem pf_free_in : pr.fn (Str.ofString "free_in") = some f_free_in := by rfl
theorem pf_addresses_in : pr.fn (Str.ofString "addresses_in") = some f_addresses_in := by rfl
theorem pf_changed : pr.fn (Str.ofString "changed") = some f_changed := by rfl
theorem pf_fresh_words : pr.fn (Str.ofString "fresh_words") = some f_fresh_words := by rfl
theorem pf_written : pr.fn (Str.ofString "written") = some f_written := by rfl
theorem pf_deepest : pr.fn (Str.ofString "deepest") = some f_deepest := by rfl
theorem pf_Termu_initu : pr.fn (Str.ofString "Term.__init__") = some f_Termu_initu := by rfl
theorem pf_Termu_equ : pr.fn (Str.ofString "Term.__eq__") = some f_Termu_equ := by rfl
theorem pf_Termu_stru : pr.fn (Str.ofString "Term.__str__") = some f_Termu_stru := by rfl
theorem pf_name : pr.fn (Str.ofString "name") = some f_name := by rfl
theorem pf_fun : pr.fn (Str.ofString "fun") = some f_fun := by rfl
theorem pf_fun_leaf : pr.fn (Str.ofString "fun.leaf") = some f_fun_leaf := by rfl
theorem pf_put : pr.fn (Str.ofString "put") = some f_put := by rfl
theorem pf_tree_at : pr.fn (Str.ofString "tree_at") = some f_tree_at := by rfl
theorem pf_kind_at : pr.fn (Str.ofString "kind_at") = some f_kind_at := by rfl
theorem pf_part_at : pr.fn (Str.ofString "part_at") = some f_part_at := by rfl
theorem pf_part_at_leaf : pr.fn (Str.ofString "part_at.leaf") = some f_part_at_leaf := by rfl
theorem pf__law_mixed : pr.fn (Str.ofString "_law_mixed") = some f__law_mixed := by rfl
theorem pf__law_purse : pr.fn (Str.ofString "_law_purse") = some f__law_purse := by rfl
theorem pf__law_take : pr.fn (Str.ofString "_law_take") = some f__law_take := by rfl
theorem pf__law_at : pr.fn (Str.ofString "_law_at") = some f__law_at := by rfl
theorem pf__law_free : pr.fn (Str.ofString "_law_free") = some f__law_free := by rfl
theorem pf__law_words : pr.fn (Str.ofString "_law_words") = some f__law_words := by rfl
theorem pf__law_written : pr.fn (Str.ofString "_law_written") = some f__law_written := by rfl
theorem pf__law_text : pr.fn (Str.ofString "_law_text") = some f__law_text := by rfl
theorem pf__law_leaf : pr.fn (Str.ofString "_law_leaf") = some f__law_leaf := by rfl
theorem pf__law_drawn : pr.fn (Str.ofString "_law_drawn") = some f__law_drawn := by rfl
theorem pf__law_lively : pr.fn (Str.ofString "_law_lively") = some f__law_lively := by rfl
theorem pf__law_used : pr.fn (Str.ofString "_law_used") = some f__law_used := by rfl
theorem pf__law_binder : pr.fn (Str.ofString "_law_binder") = some f__law_binder := by rfl
theorem pf__law_named : pr.fn (Str.ofString "_law_named") = some f__law_named := by rfl
theorem pf__law_made : pr.fn (Str.ofString "_law_made") = some f__law_made := by rfl
theorem pf__law_named_text : pr.fn (Str.ofString "_law_named_text") = some f__law_named_text := by rfl
theorem pf__law_class : pr.fn (Str.ofString "_law_class") = some f__law_class := by rfl
theorem pf__law_opened : pr.fn (Str.ofString "_law_opened") = some f__law_opened := by rfl
theorem pf__law_part : pr.fn (Str.ofString "_law_part") = some f__law_part := by rfl
theorem pf__law_all : pr.fn (Str.ofString "_law_all") = some f__law_all := by rfl
theorem pf__law_caught : pr.fn (Str.ofString "_law_caught") = some f__law_caught := by rfl
theorem pf_law : pr.fn (Str.ofString "law") = some f_law := by rfl
theorem pg_LETTERS : pr.glob (Str.ofString "LETTERS") = some (.str (sl [97, 98, 99, 100, 101, 102, 103, 104, 105, 106, 107, 108, 109, 110, 111, 112, 113, 114, 115, 116, 117, 118, 119, 120, 121, 122])) := by rfl
theorem pg_MOST_SIGNS : pr.glob (Str.ofString "MOST_SIGNS") = some (.int 8) := by rfl
theorem pm_Term_uinitu : pr.meth (Str.ofString "Term") (Str.ofString "__init__") = some (Str.ofString "Term.__init__") := by rfl
theorem pm_Term_uequ : pr.meth (Str.ofString "Term") (Str.ofString "__eq__") = some (Str.ofString "Term.__eq__") := by rfl
theorem pm_Term_ustru : pr.meth (Str.ofString "Term") (Str.ofString "__str__") = some (Str.ofString "Term.__str__") := by rfl
theorem pn_Term_tree : pr.meth (Str.ofString "Term") (Str.ofString "tree") = none := by rfl
theorem px_NoAddress_NoAddress : pr.xsub (Str.ofString "NoAddress") (Str.ofString "NoAddress") = some true := by rfl
theorem px_NoAddress_NoBack : pr.xsub (Str.ofString "NoAddress") (Str.ofString "NoBack") = some false := by rfl
theorem px_NoAddress_NoKnot : pr.xsub (Str.ofString "NoAddress") (Str.ofString "NoKnot") = some false := by rfl
theorem px_NoAddress_NoLine : pr.xsub (Str.ofString "NoAddress") (Str.ofString "NoLine") = some false := by rfl
theorem px_NoAddress_NoMeeting : pr.xsub (Str.ofString "NoAddress") (Str.ofString "NoMeeting") = some false := by rfl
theorem px_NoAddress_NoName : pr.xsub (Str.ofString "NoAddress") (Str.ofString "NoName") = some false := by rfl
theorem px_NoAddress_NoNumber : pr.xsub (Str.ofString "NoAddress") (Str.ofString "NoNumber") = some false := by rfl
theorem px_NoAddress_NoRedex : pr.xsub (Str.ofString "NoAddress") (Str.ofString "NoRedex") = some false := by rfl
theorem px_NoAddress_NoText : pr.xsub (Str.ofString "NoAddress") (Str.ofString "NoText") = some false := by rfl
theorem px_NoAddress_NoWord : pr.xsub (Str.ofString "NoAddress") (Str.ofString "NoWord") = some false := by rfl
theorem px_NoAddress_NotDone : pr.xsub (Str.ofString "NoAddress") (Str.ofString "NotDone") = some false := by rfl
theorem px_NoAddress_SpinError : pr.xsub (Str.ofString "NoAddress") (Str.ofString "SpinError") = some true := by rfl
theorem px_NoAddress_TooLong : pr.xsub (Str.ofString "NoAddress") (Str.ofString "TooLong") = some false := by rfl
theorem px_NoAddress_ValueError : pr.xsub (Str.ofString "NoAddress") (Str.ofString "ValueError") = some true := by rfl
end
end K03
/-! ### the row -/
namespace K03
open PySem PySem.Spec PyProof.Rows L2 NdefX LamX Fw
abbrev prg : Program := PySem.Challenge.pw_fanweave_k03_parts_of_terms
def top (i : Nat) : Stmt := prg.main.body.getD i (.Pass ⟨0, 0, 0, 0⟩)
def cls (i j : Nat) : Stmt := (C8.clsBody (top i)).getD j (.Pass ⟨0, 0, 0, 0⟩)
def sn_fun_leaf : Stmt := (defBody (top 28)).getD 1 (.Pass ⟨0, 0, 0, 0⟩)
def st_fun_leaf : NS := ⟨"leaf", (("fun" : Str) ++ (".<locals>." : Str)) ++ ("leaf" : Str), defArgs sn_fun_leaf, defBody sn_fun_leaf, defScope sn_fun_leaf, ["word"]⟩
def sn_part_at_leaf : Stmt := (defBody (top 32)).getD 2 (.Pass ⟨0, 0, 0, 0⟩)
def st_part_at_leaf : NS := ⟨"leaf", (("part_at" : Str) ++ (".<locals>." : Str)) ++ ("leaf" : Str), defArgs sn_part_at_leaf, defBody sn_part_at_leaf, defScope sn_part_at_leaf, ["words"]⟩
def dd_look_word : He.DefD := ⟨("look_word", none), "look_word", "look_word", defArgs (top 18), defBody (top 18), defScope (top 18), [], []⟩
def dd_word_number : He.DefD := ⟨("word_number", none), "word_number", "word_number", defArgs (top 19), defBody (top 19), defScope (top 19), [], []⟩
def dd_free_in : He.DefD := ⟨("free_in", none), "free_in", "free_in", defArgs (top 20), defBody (top 20), defScope (top 20), [], []⟩
def dd_addresses_in : He.DefD := ⟨("addresses_in", none), "addresses_in", "addresses_in", defArgs (top 21), defBody (top 21), defScope (top 21), [], []⟩
def dd_changed : He.DefD := ⟨("changed", none), "changed", "changed", defArgs (top 22), defBody (top 22), defScope (top 22), [.int 0], []⟩
def dd_fresh_words : He.DefD := ⟨("fresh_words", none), "fresh_words", "fresh_words", defArgs (top 23), defBody (top 23), defScope (top 23), [], []⟩
def dd_written : He.DefD := ⟨("written", none), "written", "written", defArgs (top 24), defBody (top 24), defScope (top 24), [.int 0], []⟩
def dd_deepest : He.DefD := ⟨("deepest", none), "deepest", "deepest", defArgs (top 25), defBody (top 25), defScope (top 25), [], []⟩
def dd_Termu_initu : He.DefD := ⟨("Term", some "__init__"), "__init__", "Term.__init__", defArgs (cls 26 0), defBody (cls 26 0), defScope (cls 26 0), [], []⟩
def dd_Termu_equ : He.DefD := ⟨("Term", some "__eq__"), "__eq__", "Term.__eq__", defArgs (cls 26 1), defBody (cls 26 1), defScope (cls 26 1), [], []⟩
def dd_Termu_stru : He.DefD := ⟨("Term", some "__str__"), "__str__", "Term.__str__", defArgs (cls 26 3), defBody (cls 26 3), defScope (cls 26 3), [], []⟩
def dd_name : He.DefD := ⟨("name", none), "name", "name", defArgs (top 27), defBody (top 27), defScope (top 27), [], []⟩
def dd_fun : He.DefD := ⟨("fun", none), "fun", "fun", defArgs (top 28), defBody (top 28), defScope (top 28), [], []⟩
def dd_put : He.DefD := ⟨("put", none), "put", "put", defArgs (top 29), defBody (top 29), defScope (top 29), [], []⟩
def dd_tree_at : He.DefD := ⟨("tree_at", none), "tree_at", "tree_at", defArgs (top 30), defBody (top 30), defScope (top 30), [], []⟩
def dd_kind_at : He.DefD := ⟨("kind_at", none), "kind_at", "kind_at", defArgs (top 31), defBody (top 31), defScope (top 31), [], []⟩
def dd_part_at : He.DefD := ⟨("part_at", none), "part_at", "part_at", defArgs (top 32), defBody (top 32), defScope (top 32), [], []⟩
def dd__law_mixed : He.DefD := ⟨("_law_mixed", none), "_law_mixed", "_law_mixed", defArgs (top 34), defBody (top 34), defScope (top 34), [], []⟩
def dd__law_purse : He.DefD := ⟨("_law_purse", none), "_law_purse", "_law_purse", defArgs (top 35), defBody (top 35), defScope (top 35), [], []⟩
def dd__law_take : He.DefD := ⟨("_law_take", none), "_law_take", "_law_take", defArgs (top 36), defBody (top 36), defScope (top 36), [], []⟩
def dd__law_at : He.DefD := ⟨("_law_at", none), "_law_at", "_law_at", defArgs (top 37), defBody (top 37), defScope (top 37), [], []⟩
def dd__law_free : He.DefD := ⟨("_law_free", none), "_law_free", "_law_free", defArgs (top 38), defBody (top 38), defScope (top 38), [], []⟩
def dd__law_words : He.DefD := ⟨("_law_words", none), "_law_words", "_law_words", defArgs (top 39), defBody (top 39), defScope (top 39), [], []⟩
def dd__law_written : He.DefD := ⟨("_law_written", none), "_law_written", "_law_written", defArgs (top 40), defBody (top 40), defScope (top 40), [], []⟩
def dd__law_text : He.DefD := ⟨("_law_text", none), "_law_text", "_law_text", defArgs (top 41), defBody (top 41), defScope (top 41), [], []⟩
def dd__law_leaf : He.DefD := ⟨("_law_leaf", none), "_law_leaf", "_law_leaf", defArgs (top 42), defBody (top 42), defScope (top 42), [], []⟩
def dd__law_drawn : He.DefD := ⟨("_law_drawn", none), "_law_drawn", "_law_drawn", defArgs (top 43), defBody (top 43), defScope (top 43), [], []⟩
def dd__law_lively : He.DefD := ⟨("_law_lively", none), "_law_lively", "_law_lively", defArgs (top 44), defBody (top 44), defScope (top 44), [], []⟩
def dd__law_used : He.DefD := ⟨("_law_used", none), "_law_used", "_law_used", defArgs (top 45), defBody (top 45), defScope (top 45), [], []⟩
def dd__law_binder : He.DefD := ⟨("_law_binder", none), "_law_binder", "_law_binder", defArgs (top 46), defBody (top 46), defScope (top 46), [], []⟩
def dd__law_named : He.DefD := ⟨("_law_named", none), "_law_named", "_law_named", defArgs (top 47), defBody (top 47), defScope (top 47), [], []⟩
def dd__law_made : He.DefD := ⟨("_law_made", none), "_law_made", "_law_made", defArgs (top 48), defBody (top 48), defScope (top 48), [], []⟩
def dd__law_named_text : He.DefD := ⟨("_law_named_text", none), "_law_named_text", "_law_named_text", defArgs (top 49), defBody (top 49), defScope (top 49), [], []⟩
def dd__law_class : He.DefD := ⟨("_law_class", none), "_law_class", "_law_class", defArgs (top 50), defBody (top 50), defScope (top 50), [], []⟩
def dd__law_opened : He.DefD := ⟨("_law_opened", none), "_law_opened", "_law_opened", defArgs (top 51), defBody (top 51), defScope (top 51), [], []⟩
def dd__law_part : He.DefD := ⟨("_law_part", none), "_law_part", "_law_part", defArgs (top 52), defBody (top 52), defScope (top 52), [], []⟩
def dd__law_all : He.DefD := ⟨("_law_all", none), "_law_all", "_law_all", defArgs (top 53), defBody (top 53), defScope (top 53), [], []⟩
def dd__law_caught : He.DefD := ⟨("_law_caught", none), "_law_caught", "_law_caught", defArgs (top 54), defBody (top 54), defScope (top 54), [], []⟩
def dd_law : He.DefD := ⟨("law", none), "law", "law", defArgs (top 55), defBody (top 55), defScope (top 55), [], []⟩
structure Gf (w : World) (K : PySem.W.Frag) (mg : Str → Option Value) (W : Wd) : Prop where
  ca : ∀ c C, W.ca c = some C → (c = "Term" ∧ C = He.ga K "Term")
  ca_Term : W.ca "Term" = some (He.ga K "Term")
  cls : ∀ c C, W.ca c = some C → Cls K C
  q : ∀ c C, W.ca c = some C → ClsQ K C
  n_tree : ∀ c C, W.ca c = some C → (pr.meth c "tree").isNone = true → NoAttr K C "tree"
  k_LETTERS : ∃ t, mg "LETTERS" = some (.str "abcdefghijklmnopqrstuvwxyz" t)
  k_MOST_SIGNS : ∃ t, mg "MOST_SIGNS" = some (.int 8 t)
  b_ValueError : mg "ValueError" = none
  b_all : mg "all" = none
  b_divmod : mg "divmod" = none
  b_int : mg "int" = none
  b_isinstance : mg "isinstance" = none
  b_len : mg "len" = none
  b_list : mg "list" = none
  b_max : mg "max" = none
  b_str : mg "str" = none
  gx_NoAddress : mg "NoAddress" = some (.ref (He.ga K "NoAddress"))
  gx_NoBack : mg "NoBack" = some (.ref (He.ga K "NoBack"))
  gx_NoKnot : mg "NoKnot" = some (.ref (He.ga K "NoKnot"))
  gx_NoLine : mg "NoLine" = some (.ref (He.ga K "NoLine"))
  gx_NoMeeting : mg "NoMeeting" = some (.ref (He.ga K "NoMeeting"))
  gx_NoName : mg "NoName" = some (.ref (He.ga K "NoName"))
  gx_NoNumber : mg "NoNumber" = some (.ref (He.ga K "NoNumber"))
  gx_NoRedex : mg "NoRedex" = some (.ref (He.ga K "NoRedex"))
  gx_NoText : mg "NoText" = some (.ref (He.ga K "NoText"))
  gx_NoWord : mg "NoWord" = some (.ref (He.ga K "NoWord"))
  gx_NotDone : mg "NotDone" = some (.ref (He.ga K "NotDone"))
  gx_SpinError : mg "SpinError" = some (.ref (He.ga K "SpinError"))
  gx_TooLong : mg "TooLong" = some (.ref (He.ga K "TooLong"))
  xa_NoAddress : W.xa "NoAddress" = some (He.ga K "NoAddress")
  x0_NoAddress : XCls0 W.K (He.ga K "NoAddress")
  xT : ∀ c C, W.xa c = some C → XIs W.K C
  xk_NoAddress : ∀ c C b, W.xa c = some C → pr.xsub c "NoAddress" = some b → PySem.W.kitOne W.K (.ref C) (.ref (He.ga K "NoAddress")) = some b
  xk_NoBack : ∀ c C b, W.xa c = some C → pr.xsub c "NoBack" = some b → PySem.W.kitOne W.K (.ref C) (.ref (He.ga K "NoBack")) = some b
  xk_NoKnot : ∀ c C b, W.xa c = some C → pr.xsub c "NoKnot" = some b → PySem.W.kitOne W.K (.ref C) (.ref (He.ga K "NoKnot")) = some b
  xk_NoLine : ∀ c C b, W.xa c = some C → pr.xsub c "NoLine" = some b → PySem.W.kitOne W.K (.ref C) (.ref (He.ga K "NoLine")) = some b
  xk_NoMeeting : ∀ c C b, W.xa c = some C → pr.xsub c "NoMeeting" = some b → PySem.W.kitOne W.K (.ref C) (.ref (He.ga K "NoMeeting")) = some b
  xk_NoName : ∀ c C b, W.xa c = some C → pr.xsub c "NoName" = some b → PySem.W.kitOne W.K (.ref C) (.ref (He.ga K "NoName")) = some b
  xk_NoNumber : ∀ c C b, W.xa c = some C → pr.xsub c "NoNumber" = some b → PySem.W.kitOne W.K (.ref C) (.ref (He.ga K "NoNumber")) = some b
  xk_NoRedex : ∀ c C b, W.xa c = some C → pr.xsub c "NoRedex" = some b → PySem.W.kitOne W.K (.ref C) (.ref (He.ga K "NoRedex")) = some b
  xk_NoText : ∀ c C b, W.xa c = some C → pr.xsub c "NoText" = some b → PySem.W.kitOne W.K (.ref C) (.ref (He.ga K "NoText")) = some b
  xk_NoWord : ∀ c C b, W.xa c = some C → pr.xsub c "NoWord" = some b → PySem.W.kitOne W.K (.ref C) (.ref (He.ga K "NoWord")) = some b
  xk_NotDone : ∀ c C b, W.xa c = some C → pr.xsub c "NotDone" = some b → PySem.W.kitOne W.K (.ref C) (.ref (He.ga K "NotDone")) = some b
  xk_SpinError : ∀ c C b, W.xa c = some C → pr.xsub c "SpinError" = some b → PySem.W.kitOne W.K (.ref C) (.ref (He.ga K "SpinError")) = some b
  xk_TooLong : ∀ c C b, W.xa c = some C → pr.xsub c "TooLong" = some b → PySem.W.kitOne W.K (.ref C) (.ref (He.ga K "TooLong")) = some b
  xk_ValueError : ∀ c C b, W.xa c = some C → pr.xsub c "ValueError" = some b → PySem.W.kitOne W.K (.ref C) (.type "ValueError") = some b
  xe_SpinError : ∀ c C b, W.xa c = some C → pr.xsub c "SpinError" = some b → PySem.W.exmOne W.K (.ref C) (.ref (He.ga K "SpinError")) = some b
  g_look_word : mg "look_word" = some (.ref (He.fAd K ("look_word", none)))
  g_word_number : mg "word_number" = some (.ref (He.fAd K ("word_number", none)))
  g_free_in : mg "free_in" = some (.ref (He.fAd K ("free_in", none)))
  g_addresses_in : mg "addresses_in" = some (.ref (He.fAd K ("addresses_in", none)))
  g_changed : mg "changed" = some (.ref (He.fAd K ("changed", none)))
  g_fresh_words : mg "fresh_words" = some (.ref (He.fAd K ("fresh_words", none)))
  g_written : mg "written" = some (.ref (He.fAd K ("written", none)))
  g_deepest : mg "deepest" = some (.ref (He.fAd K ("deepest", none)))
  g_name : mg "name" = some (.ref (He.fAd K ("name", none)))
  g_fun : mg "fun" = some (.ref (He.fAd K ("fun", none)))
  g_put : mg "put" = some (.ref (He.fAd K ("put", none)))
  g_tree_at : mg "tree_at" = some (.ref (He.fAd K ("tree_at", none)))
  g_kind_at : mg "kind_at" = some (.ref (He.fAd K ("kind_at", none)))
  g_part_at : mg "part_at" = some (.ref (He.fAd K ("part_at", none)))
  g__law_mixed : mg "_law_mixed" = some (.ref (He.fAd K ("_law_mixed", none)))
  g__law_purse : mg "_law_purse" = some (.ref (He.fAd K ("_law_purse", none)))
  g__law_take : mg "_law_take" = some (.ref (He.fAd K ("_law_take", none)))
  g__law_at : mg "_law_at" = some (.ref (He.fAd K ("_law_at", none)))
  g__law_free : mg "_law_free" = some (.ref (He.fAd K ("_law_free", none)))
  g__law_words : mg "_law_words" = some (.ref (He.fAd K ("_law_words", none)))
  g__law_written : mg "_law_written" = some (.ref (He.fAd K ("_law_written", none)))
  g__law_text : mg "_law_text" = some (.ref (He.fAd K ("_law_text", none)))
  g__law_leaf : mg "_law_leaf" = some (.ref (He.fAd K ("_law_leaf", none)))
  g__law_drawn : mg "_law_drawn" = some (.ref (He.fAd K ("_law_drawn", none)))
  g__law_lively : mg "_law_lively" = some (.ref (He.fAd K ("_law_lively", none)))
  g__law_used : mg "_law_used" = some (.ref (He.fAd K ("_law_used", none)))
  g__law_binder : mg "_law_binder" = some (.ref (He.fAd K ("_law_binder", none)))
  g__law_named : mg "_law_named" = some (.ref (He.fAd K ("_law_named", none)))
  g__law_made : mg "_law_made" = some (.ref (He.fAd K ("_law_made", none)))
  g__law_named_text : mg "_law_named_text" = some (.ref (He.fAd K ("_law_named_text", none)))
  g__law_class : mg "_law_class" = some (.ref (He.fAd K ("_law_class", none)))
  g__law_opened : mg "_law_opened" = some (.ref (He.fAd K ("_law_opened", none)))
  g__law_part : mg "_law_part" = some (.ref (He.fAd K ("_law_part", none)))
  g__law_all : mg "_law_all" = some (.ref (He.fAd K ("_law_all", none)))
  g__law_caught : mg "_law_caught" = some (.ref (He.fAd K ("_law_caught", none)))
  g_law : mg "law" = some (.ref (He.fAd K ("law", none)))
  mk_Term : Mk K (He.ga K "Term") (He.ma K (He.ga K "Term") "__init__")
  gc_Term : mg "Term" = some (.ref (He.ga K "Term"))
  me_Term_uequ : Meth K (He.ga K "Term") "__eq__" (He.ma K (He.ga K "Term") "__eq__")
  me_Term_ustru : Meth K (He.ga K "Term") "__str__" (He.ma K (He.ga K "Term") "__str__")
  nf_fun_leaf : W.nf "fun.leaf" = some st_fun_leaf
  nf_part_at_leaf : W.nf "part_at.leaf" = some st_part_at_leaf
  nf : ∀ lf st, W.nf lf = some st → (lf = "fun.leaf" ∧ st = st_fun_leaf) ∨ (lf = "part_at.leaf" ∧ st = st_part_at_leaf)
structure Cf (P : Program) (w : World) (K : PySem.W.Frag) (mg : Str → Option Value) (base : Heap) (W : Wd) (d : Nat) : Prop where
  h0 : d = 0 → ∀ g as S, callF pr (d - 1) g as S = none
  c__law_all_2 : Cal P w K mg base W (callF pr d) d "_law_all" "_law_all" []
  c__law_at_2 : Cal P w K mg base W (callF pr d) d "_law_at" "_law_at" []
  c__law_binder_3 : Cal P w K mg base W (callF pr d) d "_law_binder" "_law_binder" []
  c__law_caught_3 : Cal P w K mg base W (callF pr d) d "_law_caught" "_law_caught" []
  c__law_class_1 : Cal P w K mg base W (callF pr d) d "_law_class" "_law_class" []
  c__law_drawn_4 : Cal P w K mg base W (callF pr d) d "_law_drawn" "_law_drawn" []
  c__law_free_1 : Cal P w K mg base W (callF pr d) d "_law_free" "_law_free" []
  c__law_leaf_3 : Cal P w K mg base W (callF pr d) d "_law_leaf" "_law_leaf" []
  c__law_made_1 : Cal P w K mg base W (callF pr d) d "_law_made" "_law_made" []
  c__law_mixed_2 : Cal P w K mg base W (callF pr d) d "_law_mixed" "_law_mixed" []
  c__law_named_3 : Cal P w K mg base W (callF pr d) d "_law_named" "_law_named" []
  c__law_named_text_1 : Cal P w K mg base W (callF pr d) d "_law_named_text" "_law_named_text" []
  c__law_opened_4 : Cal P w K mg base W (callF pr d) d "_law_opened" "_law_opened" []
  c__law_part_2 : Cal P w K mg base W (callF pr d) d "_law_part" "_law_part" []
  c__law_purse_2 : Cal P w K mg base W (callF pr d) d "_law_purse" "_law_purse" []
  c__law_take_2 : Cal P w K mg base W (callF pr d) d "_law_take" "_law_take" []
  c__law_text_1 : Cal P w K mg base W (callF pr d) d "_law_text" "_law_text" []
  c__law_used_2 : Cal P w K mg base W (callF pr d) d "_law_used" "_law_used" []
  c__law_words_2 : Cal P w K mg base W (callF pr d) d "_law_words" "_law_words" []
  c__law_written_3 : Cal P w K mg base W (callF pr d) d "_law_written" "_law_written" []
  c_addresses_in_1 : Cal P w K mg base W (callF pr d) d "addresses_in" "addresses_in" []
  c_deepest_1 : Cal P w K mg base W (callF pr d) d "deepest" "deepest" []
  c_free_in_1 : Cal P w K mg base W (callF pr d) d "free_in" "free_in" []
  c_fresh_words_2 : Cal P w K mg base W (callF pr d) d "fresh_words" "fresh_words" []
  c_fun_2 : Cal P w K mg base W (callF pr d) d "fun" "fun" []
  c_look_word_1 : Cal P w K mg base W (callF pr d) d "look_word" "look_word" []
  c_name_1 : Cal P w K mg base W (callF pr d) d "name" "name" []
  c_put_2 : Cal P w K mg base W (callF pr d) d "put" "put" []
  c_word_number_1 : Cal P w K mg base W (callF pr d) d "word_number" "word_number" []
  c_written_2 : Cal P w K mg base W (callF pr d) d "written" "written" [(.int 0)]
  c_written_3 : Cal P w K mg base W (callF pr d) d "written" "written" []
  c_changed_2 : CalF P w K mg base W (callF pr d) d "changed" "changed" [(.int 0)]
  c_changed_3 : CalF P w K mg base W (callF pr d) d "changed" "changed" []
  i_Term : Mkr P w K mg base W (callF pr (d - 1)) (d - 1) "Term"
  c_kind_at_2 : CalX P w K mg base W (callF pr d) (callX pr d) d "kind_at" "kind_at" []
  c_part_at_2 : CalX P w K mg base W (callF pr d) (callX pr d) d "part_at" "part_at" []
  c_tree_at_2 : CalX P w K mg base W (callF pr d) (callX pr d) d "tree_at" "tree_at" []
  k_kind_at_0_address_term : CalNX P w K mg base W (callF pr d) (callX pr d) d "kind_at" "kind_at" 0 ["address", "term"] [.inl 1, .inl 0]
  k_part_at_0_address_term : CalNX P w K mg base W (callF pr d) (callX pr d) d "part_at" "part_at" 0 ["address", "term"] [.inl 1, .inl 0]
  s_str : Mth P w K mg base W pr.meth (callF pr (d - 1)) (d - 1) "__str__"
  s_eq : Mth P w K mg base W pr.meth (callF pr (d - 1)) (d - 1) "__eq__"
  lf : LfOk P w K mg base W (callF pr d) d
end K03

set_option Elab.async false
set_option linter.all false
set_option maxRecDepth 100000
set_option exponentiation.threshold 1000000
namespace K03
open PySem Fw
/-! ### the law's numbers -/
def M18 : Int := 10 ^ 18 + 9
def M60 : Int := 10 ^ 60 + 7
def mixN (c k : Int) : Int := (c % M18 + 7 * k) * 739108512309184756019283746561 + 7919 * k + 1
def mixed (c k : Int) : Int := ((mixN c k * mixN c k) % M60 + 40503) * ((mixN c k * mixN c k) % M60 + 57) % M60
theorem mixed_nn (c k : Int) : 0 ≤ mixed c k := Int.emod_nonneg _ (by decide)
theorem mixed_lt (c k : Int) : mixed c k < M60 := Int.emod_lt_of_pos _ (by decide)
theorem c_mixed {d : Nat} {S : Sto} {c k : Int} (hk : 0 ≤ k) (hk2 : k < 10 ^ 1000) : callF pr (d + 1) "_law_mixed" [.int c, .int k] S = some (.int (mixed c k), S) := by
  have h1 : 0 ≤ c % M18 := Int.emod_nonneg _ (by decide)
  have h2 : c % M18 < M18 := Int.emod_lt_of_pos _ (by decide)
  have m1 : mulI (.int 7) (.int k) = some (.int (7 * k)) := mulI_ok (by decide) (small hk hk2 (by decide))
  have b1 : 0 ≤ c % M18 + 7 * k := by omega
  have b2 : c % M18 + 7 * k < 10 ^ 1002 := by unfold M18 at *; omega
  have m2 : mulI (.int (c % M18 + 7 * k)) (.int 739108512309184756019283746561) = some (.int ((c % M18 + 7 * k) * 739108512309184756019283746561)) := mulI_ok (small b1 b2 (by decide)) (by decide)
  have m3 : mulI (.int 7919) (.int k) = some (.int (7919 * k)) := mulI_ok (by decide) (small hk hk2 (by decide))
  have b3 : 0 ≤ mixN c k := by unfold mixN; omega
  have b4 : mixN c k < 10 ^ 1040 := by unfold mixN; omega
  have m4 : mulI (.int (mixN c k)) (.int (mixN c k)) = some (.int (mixN c k * mixN c k)) := mulI_ok (small b3 b4 (by decide)) (small b3 b4 (by decide))
  have n1 : 0 ≤ (mixN c k * mixN c k) % M60 := Int.emod_nonneg _ (by decide)
  have n2 : (mixN c k * mixN c k) % M60 < M60 := Int.emod_lt_of_pos _ (by decide)
  have n3 : (mixN c k * mixN c k) % M60 < 10 ^ 61 := Int.lt_trans n2 (by decide)
  have m5 : mulI (.int ((mixN c k * mixN c k) % M60 + 40503)) (.int ((mixN c k * mixN c k) % M60 + 57)) = some (.int (((mixN c k * mixN c k) % M60 + 40503) * ((mixN c k * mixN c k) % M60 + 57))) := by
    generalize (mixN c k * mixN c k) % M60 = r at n1 n3
    exact mulI_ok (small (B := 62) (by omega) (by omega) (by decide)) (small (B := 62) (by omega) (by omega) (by decide))
  have e1 : (10 : Int) ^ 18 + 9 = M18 := rfl
  have e2 : (10 : Int) ^ 60 + 7 = M60 := rfl
  have e3 : (c % M18 + 7 * k) * 739108512309184756019283746561 + 7919 * k + 1 = mixN c k := rfl
  have d1 : ∀ i, modI (.int i) (.int M18) = some (.int (i % M18)) := fun i => modI_ok (by decide)
  have d2 : ∀ i, modI (.int i) (.int M60) = some (.int (i % M60)) := fun i => modI_ok (by decide)
  rw [callF_step pf__law_mixed rfl]
  simp [f__law_mixed, pow_18, pow_60, e1, e2, d1, d2, m1, m2, m3, e3, m4, m5, mixed, -Option.map_map, -Int.reducePow, -Int.reduceAdd]
/-! ### the purse -/
structure Pu (S : Sto) (p : Nat) (B : Nat) : Prop where
  ex : ∃ a b c : Int, S[p]? = some (.lst [.int a, .int b, .int c]) ∧ 0 ≤ a ∧ a < 10 ^ 600 ∧ 0 ≤ b ∧ b ≤ B ∧ 0 ≤ c ∧ c < 10 ^ 20
def UpdS (S : Sto) (p : Nat) (S' : Sto) : Prop := ∃ x, S' = S.set p x
theorem UpdS.trans {S S1 S2 : Sto} {p : Nat} (h : UpdS S p S1) (h2 : UpdS S1 p S2) : UpdS S p S2 := by
  obtain ⟨x, rfl⟩ := h
  obtain ⟨y, rfl⟩ := h2
  exact ⟨y, by rw [List.set_set]⟩
theorem c_take {d : Nat} {S : Sto} {p B : Nat} {n : Int} (h : Pu S p B) (hB : B < 10 ^ 100) (hn : 0 < n) (hn2 : n < 10 ^ 6) :
    ∃ g S', callF pr (d + 2) "_law_take" [.loc p, .int n] S = some (.int g, S') ∧ 0 ≤ g ∧ g < n ∧ UpdS S p S' ∧ Pu S' p (B + 1) := by
  obtain ⟨a, b, c, hp, a0, a1, b0, b1, c0, c1⟩ := h.ex
  have hlt : p < S.length := (List.getElem?_eq_some_iff.mp hp).1
  have hg : ∀ c, (S.set p c)[p]? = some c := fun c => List.getElem?_set_self hlt
  have hb : b < 10 ^ 100 := by
    have h1 : (B : Int) < ((10 ^ 100 : Nat) : Int) := Int.ofNat_lt.mpr hB
    have h2 : ((10 ^ 100 : Nat) : Int) = 10 ^ 100 := by decide +kernel
    omega
  have dn : ∀ i, modI (.int i) (.int n) = some (.int (i % n)) := fun i => modI_ok hn
  have nn : n.natAbs < 2 ^ 8999 := by
    have h1 : n.natAbs < 10 ^ 6 := by omega
    exact Nat.lt_of_lt_of_le h1 (by decide)
  have fn : ∀ i, fdivI (.int i) (.int n) = some (.int (i / n)) := fun i => fdivI_ok hn nn
  have nn2 : n.natAbs < 2 ^ 400000 := Nat.lt_of_lt_of_le nn (Nat.pow_le_pow_right (by decide) (by decide))
  by_cases han : a < n
  · have m1 : mulI (.int 11) (.int (b + 1)) = some (.int (11 * (b + 1))) := mulI_ok (by decide) (small (B := 101) (by omega) (by omega) (by decide))
    have hm := c_mixed (d := d) (S := S.set p (.lst [.int a, .int (b + 1), .int c])) (c := c) (k := 11 * (b + 1) + 5) (by omega) (by omega)
    have x0 := mixed_nn c (11 * (b + 1) + 5)
    have x1 := mixed_lt c (11 * (b + 1) + 5)
    generalize mixed c (11 * (b + 1) + 5) = x at hm x0 x1
    have x2 : x < 10 ^ 61 := Int.lt_trans x1 (by decide)
    have m2 : mulI (.int n) (.int x) = some (.int (n * x)) := mulI_ok nn2 (small x0 x2 (by decide))
    refine ⟨(a + n * x) % n, S.set p (.lst [.int ((a + n * x) / n), .int (b + 1), .int c]), ?_, Int.emod_nonneg _ (by omega), Int.emod_lt_of_pos _ hn, ⟨_, rfl⟩, ⟨⟨(a + n * x) / n, b + 1, c, by simp [hlt], ?_, ?_, by omega, by push_cast; omega, c0, c1⟩⟩⟩
    · rw [callF_step pf__law_take rfl]
      simp [f__law_take, hp, hg, han, m1, hm, m2, dn, fn, -Option.map_map]
    · have : 0 ≤ n * x := Int.mul_nonneg (by omega) x0
      exact Int.ediv_nonneg (by omega) (by omega)
    · have h3 : (a + n * x) / n = x := by
        rw [Int.add_mul_ediv_left _ _ (by omega), Int.ediv_eq_zero_of_lt a0 han]
        omega
      rw [h3]
      exact Int.lt_trans x2 (by decide)
  · refine ⟨a % n, S.set p (.lst [.int (a / n), .int b, .int c]), ?_, Int.emod_nonneg _ (by omega), Int.emod_lt_of_pos _ hn, ⟨_, rfl⟩, ⟨⟨a / n, b, c, by simp [hlt], Int.ediv_nonneg a0 (by omega), ?_, b0, by push_cast; omega, c0, c1⟩⟩⟩
    · rw [callF_step pf__law_take rfl]
      simp [f__law_take, hp, hg, han, dn, fn, -Option.map_map]
    · have : a / n ≤ a := Int.ediv_le_self _ a0
      omega
/-! ### trees -/
inductive Tr where
  | nm (w : List Nat) | bd (n : Nat) | fn (b : Tr) | ap (f g : Tr)
/-- as the law has them -/
def Ld : Tr → D
  | .nm w => .lst [.str (sl [110]), .str (sl w)]
  | .bd n => .lst [.str (sl [118]), .int n]
  | .fn b => .lst [.str (sl [108]), Ld b]
  | .ap f g => .lst [.str (sl [112]), Ld f, Ld g]
/-- as the program has them -/
def Pd : Tr → D
  | .nm w => .tup [.str (sl [110, 97, 109, 101]), .str (sl w)]
  | .bd n => .tup [.str (sl [98, 111, 117, 110, 100]), .int n]
  | .fn b => .tup [.str (sl [102, 117, 110]), Pd b]
  | .ap f g => .tup [.str (sl [112, 117, 116]), Pd f, Pd g]
def Tr.sz : Tr → Nat
  | .nm _ => 1
  | .bd _ => 1
  | .fn b => b.sz + 1
  | .ap f g => f.sz + g.sz + 1
def Tr.ht : Tr → Nat
  | .nm _ => 1
  | .bd _ => 1
  | .fn b => b.ht + 1
  | .ap f g => max f.ht g.ht + 1
/-- how many functions stand within one another -/
def Tr.dp : Tr → Nat
  | .nm _ => 0
  | .bd _ => 0
  | .fn b => b.dp + 1
  | .ap f g => max f.dp g.dp
/-- names among fr, bound ones below n -/
def Tr.wf (fr : List (List Nat)) : Nat → Tr → Prop
  | _, .nm w => w ∈ fr
  | n, .bd k => k < n
  | n, .fn b => Tr.wf fr (n + 1) b
  | n, .ap f g => Tr.wf fr n f ∧ Tr.wf fr n g
theorem ht_pos (t : Tr) : 0 < t.ht := by cases t <;> simp [Tr.ht]
theorem sz_pos (t : Tr) : 0 < t.sz := by cases t <;> simp [Tr.sz]
theorem dp_lt (t : Tr) : t.dp < t.ht := by
  induction t with
  | nm w => simp [Tr.dp, Tr.ht]
  | bd n => simp [Tr.dp, Tr.ht]
  | fn b ih => simp [Tr.dp, Tr.ht]; omega
  | ap f g ih1 ih2 => simp [Tr.dp, Tr.ht]; omega
/-- a word -/
def okW (w : List Nat) : Prop := w ≠ [] ∧ w.length ≤ 8 ∧ ∀ c ∈ w, 97 ≤ c ∧ c ≤ 122
theorem okW_okL {w : List Nat} (h : okW w) : okL w = true := by
  unfold okL
  rw [List.all_eq_true]
  intro c hc
  have := h.2.2 c hc
  simp; omega
/-- the law's lists of free names -/
def frD (fr : List (List Nat)) : List D := fr.map fun w => .str (sl w)
theorem frD_data {fr : List (List Nat)} (h : ∀ w ∈ fr, okW w) : D.datas (frD fr) = true := by
  induction fr with
  | nil => simp [frD]
  | cons w fr ih =>
    have := ih fun w hw => h w (List.mem_cons_of_mem _ hw)
    simp only [frD, List.map_cons, datas_cons, data_str]
    rw [okW_okL (h w List.mem_cons_self)]
    exact this
theorem set_self {α : Type} {l : List α} {p : Nat} {c : α} (h : l[p]? = some c) : l.set p c = l := by
  apply List.ext_getElem?
  intro j
  by_cases e : p = j
  · subst e
    rw [List.getElem?_set_self (List.getElem?_eq_some_iff.mp h).1, h]
  · rw [List.getElem?_set_ne e]
/-- what a maker of trees does -/
structure Mk (fr : List (List Nat)) (n : Nat) (H Z : Nat) (S : Sto) (p B : Nat) (r : Option (D × Sto)) : Prop where
  ex : ∃ t S', r = some (Ld t, S') ∧ Tr.wf fr n t ∧ t.ht ≤ H ∧ t.sz ≤ Z ∧ UpdS S p S' ∧ Pu S' p B
theorem c_leaf {d : Nat} {S : Sto} {p B dep : Nat} {fr : List (List Nat)} (h : Pu S p B) (hB : B < 10 ^ 99) (hd : dep < 10 ^ 5) (hfr : ∀ w ∈ fr, okW w) (hl : fr.length < 1000) :
    Mk fr dep 2 2 S p (B + 2) (callF pr (d + 3) "_law_leaf" [.loc p, .int dep, .lst (frD fr)] S) := by
  have hdat : ∀ S : Sto, eqD S (.lst (frD fr)) (.lst []) = some (frD fr).isEmpty := fun S => eqD_nil (frD_data hfr)
  have hlen : (frD fr).length = fr.length := by simp [frD]
  rw [callF_step pf__law_leaf rfl]
  have wf0 : Tr.wf fr 0 (.fn (.bd 0)) := by simp [Tr.wf]
  -- ['v', take(purse, depth)]
  have bound : ∀ S1, Pu S1 p (B + 1) → UpdS S p S1 → dep ≠ 0 → ∃ g S', callF pr (d + 2) "_law_take" [.loc p, .int dep] S1 = some (.int g, S') ∧ 0 ≤ g ∧ g < dep ∧ UpdS S p S' ∧ Pu S' p (B + 2) := fun S1 h1 u1 h0 => by
    obtain ⟨g, S', e, g0, g1, u, hp⟩ := c_take (d := d) h1 (n := dep) (by omega) (by omega) (by omega)
    exact ⟨g, S', e, g0, g1, u1.trans u, hp⟩
  have pick : ∀ S1, Pu S1 p (B + 1) → UpdS S p S1 → fr ≠ [] → ∃ (g : Nat) (w : List Nat) (S' : Sto), callF pr (d + 2) "_law_take" [.loc p, .int fr.length] S1 = some (.int g, S') ∧ (frD fr)[g]? = some (.str (sl w)) ∧ w ∈ fr ∧ UpdS S p S' ∧ Pu S' p (B + 2) := fun S1 h1 u1 h0 => by
    have hpos : 0 < fr.length := List.length_pos_iff.mpr h0
    obtain ⟨g, S', e, g0, g1, u, hp⟩ := c_take (d := d) h1 (n := fr.length) (by omega) (by omega) (by omega)
    obtain ⟨k, rfl⟩ := Int.eq_ofNat_of_zero_le g0
    have hk : k < fr.length := by omega
    exact ⟨k, fr[k], S', e, by simp [frD, hk], List.getElem_mem hk, u1.trans u, hp⟩
  have pu1 : Pu S p (B + 1) := ⟨by obtain ⟨a, b, c, h1, h2, h3, h4, h5, h6⟩ := h.ex; exact ⟨a, b, c, h1, h2, h3, h4, by push_cast; omega, h6⟩⟩
  have pu2 : Pu S p (B + 2) := ⟨by obtain ⟨a, b, c, h1, h2, h3, h4, h5, h6⟩ := h.ex; exact ⟨a, b, c, h1, h2, h3, h4, by push_cast; omega, h6⟩⟩
  have refl : UpdS S p S := by
    obtain ⟨a, b, c, h1, _⟩ := h.ex
    exact ⟨_, (set_self h1).symm⟩
  by_cases hf : fr = []
  · have he : (frD fr).isEmpty = true := by rw [hf]; rfl
    by_cases h0 : dep = 0
    · subst h0
      exact ⟨⟨.fn (.bd 0), S, by simp [f__law_leaf, hdat, he, Ld, mkLst, -Option.map_map], wf0, by simp [Tr.ht], by simp [Tr.sz], refl, pu2⟩⟩
    · obtain ⟨g, S', e, g0, g1, u, hp⟩ := bound S pu1 refl h0
      obtain ⟨k, rfl⟩ := Int.eq_ofNat_of_zero_le g0
      exact ⟨⟨.bd k, S', by simp [f__law_leaf, hdat, he, Ld, mkLst, h0, e, -Option.map_map], by simp only [Tr.wf]; omega, by simp [Tr.ht], by simp [Tr.sz], u, hp⟩⟩
  · have he : (frD fr).isEmpty = false := by cases fr with | nil => exact absurd rfl hf | cons => rfl
    by_cases h0 : dep = 0
    · obtain ⟨g, w, S', e, hg, hw, u, hp⟩ := pick S pu1 refl hf
      subst h0
      exact ⟨⟨.nm w, S', by simp [f__law_leaf, hdat, he, Ld, mkLst, biD, lenD, hlen, e, at_nat, hg, -Option.map_map], by simp only [Tr.wf]; exact hw, by simp [Tr.ht], by simp [Tr.sz], u, hp⟩⟩
    · obtain ⟨g6, S1, e6, g0, g1, u1, hp1⟩ := c_take (d := d) h (n := 6) (by omega) (by omega) (by omega)
      by_cases h6 : g6 = 0
      · obtain ⟨g, w, S', e, hg, hw, u, hp⟩ := pick S1 hp1 u1 hf
        subst h6
        exact ⟨⟨.nm w, S', by simp [f__law_leaf, hdat, he, Ld, mkLst, biD, lenD, hlen, h0, e6, e, at_nat, hg, -Option.map_map], by simp only [Tr.wf]; exact hw, by simp [Tr.ht], by simp [Tr.sz], u, hp⟩⟩
      · obtain ⟨g, S', e, k0, k1, u, hp⟩ := bound S1 hp1 u1 h0
        obtain ⟨k, rfl⟩ := Int.eq_ofNat_of_zero_le k0
        exact ⟨⟨.bd k, S', by simp [f__law_leaf, hdat, he, Ld, mkLst, h0, e6, h6, e, -Option.map_map], by simp only [Tr.wf]; omega, by simp [Tr.ht], by simp [Tr.sz], u, hp⟩⟩
theorem Pu.mono {S : Sto} {p B B' : Nat} (h : Pu S p B) (hB : B ≤ B') : Pu S p B' := by
  obtain ⟨a, b, c, h1, h2, h3, h4, h5, h6⟩ := h.ex
  exact ⟨⟨a, b, c, h1, h2, h3, h4, by omega, h6⟩⟩
theorem Mk.mono {fr : List (List Nat)} {n H Z H' Z' : Nat} {S : Sto} {p B B' : Nat} {r : Option (D × Sto)} (h : Mk fr n H Z S p B r) (h1 : H ≤ H') (h2 : Z ≤ Z') (h3 : B ≤ B') : Mk fr n H' Z' S p B' r := by
  obtain ⟨t, S', e, w, a, b, u, q⟩ := h.ex
  exact ⟨⟨t, S', e, w, by omega, by omega, u, q.mono h3⟩⟩
def Tk : Nat → Nat
  | 0 => 3
  | k + 1 => 1 + 2 * Tk k
def Zk : Nat → Nat
  | 0 => 2
  | k + 1 => 2 * Zk k + 1
theorem tk_ge (k : Nat) : 3 ≤ Tk k := by
  induction k with
  | zero => simp [Tk]
  | succ k ih => simp [Tk]; omega
theorem zk_ge (k : Nat) : 2 ≤ Zk k := by
  induction k with
  | zero => simp [Zk]
  | succ k ih => simp [Zk]; omega
theorem c_drawn {fr : List (List Nat)} (hfr : ∀ w ∈ fr, okW w) (hl : fr.length < 1000) : ∀ (deep : Nat) {d : Nat} {S : Sto} {p B dep : Nat}, Pu S p B → B + Tk deep < 10 ^ 99 → dep + deep < 10 ^ 5 →
    Mk fr dep (deep + 2) (Zk deep) S p (B + Tk deep) (callF pr (d + deep + 4) "_law_drawn" [.loc p, .int deep, .int dep, .lst (frD fr)] S)
  | deep, d, S, p, B, dep, h, hB, hd => by
    have h3 := tk_ge deep
    have z2 := zk_ge deep
    obtain ⟨way, S1, e1, w0, w1, u1, h1⟩ := c_take (d := d + deep + 1) h (n := 8) (by omega) (by omega) (by omega)
    have leaf := c_leaf (d := d + deep) (dep := dep) h1 (by omega) (by omega) hfr hl
    rw [callF_step pf__law_drawn rfl]
    have leafy : deep = 0 ∨ way = 0 → Mk fr dep (deep + 2) (Zk deep) S p (B + Tk deep) (finO f__law_drawn.mode S (evSs (ctxP pr (d + deep + 3)) f__law_drawn.body ([D.loc p, D.int deep, D.int dep, D.lst (frD fr)].map some ++ List.replicate (f__law_drawn.ns - f__law_drawn.np) none) S)) := fun hz => by
      obtain ⟨t, S2, e2, wf, a, b, u2, q⟩ := leaf.ex
      refine ⟨⟨t, S2, ?_, wf, by omega, by omega, u1.trans u2, q.mono (by omega)⟩⟩
      rcases hz with hz | hz
      · subst hz
        simp [f__law_drawn, e1, e2, -Option.map_map]
      · subst hz
        by_cases h0 : deep = 0
        · subst h0
          simp [f__law_drawn, e1, e2, -Option.map_map]
        · simp [f__law_drawn, e1, e2, h0, -Option.map_map]
    cases deep with
    | zero => exact leafy (.inl rfl)
    | succ k =>
      by_cases hw : way = 0
      · exact leafy (.inr hw)
      · have en : ((k : Int) + 1 - 1) = k := by omega
        have hk0 : ((k : Int) + 1 = 0) ↔ False := ⟨fun h => by omega, False.elim⟩
        have zk := zk_ge k
        have tk := tk_ge k
        by_cases h4 : way < 4
        · have ih := c_drawn hfr hl k (d := d) (S := S1) (p := p) (B := B + 1) (dep := dep + 1) h1 (by simp only [Tk] at hB; omega) (by omega)
          obtain ⟨t, S2, e2, wf, a, b, u2, q⟩ := ih.ex
          refine ⟨⟨.fn t, S2, ?_, wf, by simp only [Tr.ht]; omega, by simp only [Tr.sz, Zk]; omega, u1.trans u2, q.mono (by simp only [Tk]; omega)⟩⟩
          rw [show d + k + 4 = d + (k + 1) + 3 by omega] at e2
          push_cast at e2 ⊢
          simp [f__law_drawn, e1, hw, h4, en, hk0, e2, Ld, mkLst, -Option.map_map]
        · have ih := c_drawn hfr hl k (d := d) (S := S1) (p := p) (B := B + 1) (dep := dep) h1 (by simp only [Tk] at hB; omega) (by omega)
          obtain ⟨t, S2, e2, wf, a, b, u2, q⟩ := ih.ex
          have ih2 := c_drawn hfr hl k (d := d) (S := S2) (p := p) (B := B + 1 + Tk k) (dep := dep) q (by simp only [Tk] at hB; omega) (by omega)
          obtain ⟨t2, S3, e3, wf2, a2, b2, u3, q2⟩ := ih2.ex
          refine ⟨⟨.ap t t2, S3, ?_, ⟨wf, wf2⟩, by simp only [Tr.ht]; omega, by simp only [Tr.sz, Zk]; omega, (u1.trans u2).trans u3, q2.mono (by simp only [Tk]; omega)⟩⟩
          rw [show d + k + 4 = d + (k + 1) + 3 by omega] at e2 e3
          push_cast at e2 e3 ⊢
          simp [f__law_drawn, e1, hw, h4, en, hk0, e2, e3, Ld, mkLst, -Option.map_map]
end K03

set_option Elab.async false
set_option linter.all false
set_option maxRecDepth 100000
set_option exponentiation.threshold 1000000
namespace K03
open PySem Fw
/-! ### the law's terms -/
theorem wf_mono {fr fr' : List (List Nat)} (h : ∀ w ∈ fr, w ∈ fr') : ∀ {t : Tr} {n : Nat}, Tr.wf fr n t → Tr.wf fr' n t
  | .nm w, n, q => h w q
  | .bd k, n, q => q
  | .fn b, n, q => wf_mono h (t := b) (n := n + 1) q
  | .ap f g, n, q => ⟨wf_mono h (t := f) q.1, wf_mono h (t := g) q.2⟩
theorem wf_up {fr : List (List Nat)} : ∀ {t : Tr} {n m : Nat}, n ≤ m → Tr.wf fr n t → Tr.wf fr m t
  | .nm w, n, m, _, q => q
  | .bd k, n, m, hm, q => Nat.lt_of_lt_of_le (show k < n from q) hm
  | .fn b, n, m, hm, q => wf_up (t := b) (Nat.succ_le_succ hm) q
  | .ap f g, n, m, hm, q => ⟨wf_up (t := f) hm q.1, wf_up (t := g) hm q.2⟩
def ALL : List (List Nat) := [[97], [98], [120]]
theorem all_ok : ∀ w ∈ ALL, okW w := by
  intro w hw
  simp only [ALL, List.mem_cons, List.not_mem_nil, or_false] at hw
  rcases hw with rfl | rfl | rfl <;> exact ⟨by simp, by simp, by simp⟩
theorem items_rng1 {j : Int} {S : Sto} (h0 : 0 ≤ j) (h1 : j < 1000000) : itemsD .rng1 [.int j] S = some ((List.range j.toNat).map fun i => D.int (i : Nat)) := by
  simp only [itemsD]
  rw [if_pos ⟨Int.le_trans (by decide) h0, Int.lt_trans h1 (by decide)⟩]
theorem UpdS.refl {S : Sto} {p B : Nat} (h : Pu S p B) : UpdS S p S := by
  obtain ⟨a, b, c, h1, _⟩ := h.ex
  exact ⟨_, (set_self h1).symm⟩
theorem c_purse {d : Nat} {S : Sto} {c k : Int} (hk : 0 ≤ k) (hk2 : k < 1000) :
    ∃ x, callF pr (d + 2) "_law_purse" [.int c, .int k] S = some (.loc S.length, S ++ [x]) ∧ Pu (S ++ [x]) S.length 0 := by
  have d1 : ∀ i, modI (.int i) (.int M18) = some (.int (i % M18)) := fun i => modI_ok (by decide)
  have d2 : ∀ i, modI (.int i) (.int ((10 ^ 60) ^ 10)) = some (.int (i % ((10 ^ 60) ^ 10))) := fun i => modI_ok (by decide)
  have e1 : (10 : Int) ^ 18 + 9 = M18 := rfl
  have hm := c_mixed (d := d) (S := S) (c := c) (k := k) hk (by omega)
  have x0 := mixed_nn c k
  have x1 := mixed_lt c k
  generalize mixed c k = x at hm x0 x1
  have x2 : x < 10 ^ 600 := Int.lt_trans x1 (by decide +kernel)
  have hc : (10 : Int) ^ 18 ≤ c ∨ c < 10 ^ 18 := by omega
  by_cases h : (10 : Int) ^ 18 ≤ c
  · refine ⟨.lst [.int ((c - 10 ^ 18) % ((10 ^ 60) ^ 10)), .int 0, .int k], ?_, ⟨⟨(c - 10 ^ 18) % ((10 ^ 60) ^ 10), 0, k, by simp, Int.emod_nonneg _ (by decide +kernel), Int.lt_of_lt_of_le (Int.emod_lt_of_pos _ (by decide +kernel)) (by decide +kernel), by omega, by omega, hk, by omega⟩⟩⟩
    rw [callF_step pf__law_purse rfl]
    simp [f__law_purse, pow_18, pow_60, pow_60_10, h, d2, mkLst, -Option.map_map, -Int.reducePow, -Int.reduceAdd]
  · have h0 : 0 ≤ c % M18 := Int.emod_nonneg _ (by decide)
    have h1 : c % M18 < M18 := Int.emod_lt_of_pos _ (by decide)
    refine ⟨.lst [.int x, .int 0, .int (c % M18 + k)], ?_, ⟨⟨x, 0, c % M18 + k, by simp, x0, x2, by omega, by omega, by omega, by unfold M18 at *; omega⟩⟩⟩
    rw [callF_step pf__law_purse rfl]
    simp [f__law_purse, pow_18, pow_60, pow_60_10, h, e1, d1, hm, mkLst, -Option.map_map, -Int.reducePow, -Int.reduceAdd]
theorem c_at {d : Nat} {S : Sto} {ns : List Int} {k : Nat} (hk : k < 1000) : ∃ c, callF pr (d + 1) "_law_at" [.scr ns, .int k] S = some (.int c, S) := by
  rw [callF_step pf__law_at rfl]
  by_cases h : k < ns.length
  · refine ⟨ns[k], ?_⟩
    simp [f__law_at, biD, lenD, h, at_nat, -Option.map_map]
  · refine ⟨3 * k + 1, ?_⟩
    have m : mulI (.int 3) (.int k) = some (.int (3 * (k : Int))) := mulI_ok (by decide) (small (B := 4) (by omega) (by omega) (by decide))
    simp [f__law_at, biD, lenD, h, m, -Option.map_map]
/-! ### what the law does with a term -/
def Tr.isFn : Tr → Bool
  | .fn _ => true
  | _ => false
def Tr.isAp : Tr → Bool
  | .ap _ _ => true
  | _ => false
def Ltag : Tr → List Nat
  | .nm _ => [110]
  | .bd _ => [118]
  | .fn _ => [108]
  | .ap _ _ => [112]
theorem sub_Ld (t : Tr) (S : Sto) : subD S (Ld t) (.int 0) = some (.str (sl (Ltag t))) := by cases t <;> simp [Ld, Ltag]
theorem Ltag_l (t : Tr) : decide (Ltag t = [108]) = t.isFn := by cases t <;> simp [Ltag, Tr.isFn]
theorem Ltag_p (t : Tr) : decide (Ltag t = [112]) = t.isAp := by cases t <;> simp [Ltag, Tr.isAp]
theorem frD_app (a b : List (List Nat)) : frD a ++ frD b = frD (a ++ b) := by simp [frD]
theorem frD_len (a : List (List Nat)) : (frD a).length = a.length := by simp [frD]
/-- free names, in order -/
def frs : Tr → List (List Nat)
  | .nm w => [w]
  | .bd _ => []
  | .fn b => frs b
  | .ap f g => frs f ++ frs g
theorem frs_len : ∀ (t : Tr), (frs t).length ≤ t.sz
  | .nm _ => by simp [frs, Tr.sz]
  | .bd _ => by simp [frs]
  | .fn b => by have := frs_len b; simp only [frs, Tr.sz]; omega
  | .ap f g => by have := frs_len f; have := frs_len g; simp only [frs, Tr.sz, List.length_append]; omega
theorem c_free : ∀ (t : Tr) {d : Nat} {S : Sto}, t.ht ≤ d → t.sz ≤ 16000000 → callF pr d "_law_free" [Ld t] S = some (.lst (frD (frs t)), S)
  | t, d, S, hd, hz => by
    have hp := ht_pos t
    obtain ⟨e, rfl⟩ : ∃ e, d = e + 1 := ⟨d - 1, by omega⟩
    rw [callF_step pf__law_free rfl]
    match t, hd, hz with
    | .nm w, hd, hz => simp [f__law_free, Ld, frs, frD, mkLst, -Option.map_map]
    | .bd w, hd, hz => simp [f__law_free, Ld, frs, frD, mkLst, -Option.map_map]
    | .fn b, hd, hz =>
      simp only [Tr.ht, Tr.sz] at hd hz
      have ih := c_free b (d := e) (S := S) (by omega) (by omega)
      simp [f__law_free, Ld, frs, ih, -Option.map_map]
    | .ap f g, hd, hz =>
      simp only [Tr.ht, Tr.sz] at hd hz
      have l1 := frs_len f
      have l2 := frs_len g
      have ih1 := c_free f (d := e) (S := S) (by omega) (by omega)
      have ih2 := c_free g (d := e) (S := S) (by omega) (by omega)
      have q : addI S (.lst (frD (frs f))) (.lst (frD (frs g))) = some (.lst (frD (frs f ++ frs g))) := by
        rw [addI_lst rfl rfl (by simp [frD]; omega), frD_app]
      simp [f__law_free, Ld, frs, ih1, ih2, q, -Option.map_map]
/-- the law's text -/
def wr (ws : List (List Nat)) : Nat → Tr → List Nat
  | _, .nm w => w
  | k, .bd n => ws.getD (k - 1 - n) []
  | k, .fn b => [91] ++ ws.getD k [] ++ [93, 32] ++ wr ws (k + 1) b
  | k, .ap f g => (if f.isFn then [40] ++ wr ws k f ++ [41] else wr ws k f) ++ [32] ++ (if g.isFn || g.isAp then [40] ++ wr ws k g ++ [41] else wr ws k g)
theorem wr_len {ws : List (List Nat)} (hw : ∀ w ∈ ws, w.length ≤ 8) : ∀ (t : Tr) {k : Nat} {fr : List (List Nat)}, (∀ w ∈ fr, okW w) → Tr.wf fr k t → (wr ws k t).length ≤ 16 * t.sz
  | .nm w, k, fr, hf, wf => by have := (hf w wf).2.1; simp only [wr, Tr.sz]; omega
  | .bd n, k, fr, hf, wf => by
    simp only [wr, Tr.sz]
    rw [List.getD_eq_getElem?_getD]
    cases h : ws[k - 1 - n]? with
    | none => simp
    | some w => have := hw w (List.mem_of_getElem? h); simp; omega
  | .fn b, k, fr, hf, wf => by
    have := wr_len hw b hf wf
    simp only [wr, Tr.sz]
    rw [List.getD_eq_getElem?_getD]
    cases h : ws[k]? with
    | none => simp; omega
    | some w => have := hw w (List.mem_of_getElem? h); simp; omega
  | .ap f g, k, fr, hf, wf => by
    have h1 := wr_len hw f hf wf.1
    have h2 := wr_len hw g hf wf.2
    have := sz_pos f
    have := sz_pos g
    simp only [wr, Tr.sz, List.length_append]
    split <;> split <;> simp <;> omega
end K03

set_option Elab.async false
set_option linter.all false
set_option maxRecDepth 100000
set_option exponentiation.threshold 1000000
namespace K03
open PySem Fw
/-! ### membership, strings as lists of signs -/
theorem in_str {S : Sto} {c : Nat} {l : List Nat} : inD S (.str (sl [c])) (.str (sl l)) = some (l.contains c) := rfl
theorem flatIn_frD (w : List Nat) : ∀ fr : List (List Nat), flatIn (.str (sl w)) (frD fr) = some (decide (w ∈ fr))
  | [] => rfl
  | v :: fr => by
    have h : flatIn (.str (sl w)) (frD (v :: fr)) = (match scalE (.str (sl w)) (.str (sl v)), flatIn (.str (sl w)) (frD fr) with
      | some r, some q => some (r || q)
      | _, _ => none) := rfl
    have h2 : scalE (.str (sl w)) (.str (sl v)) = some (decide (sl w = sl v)) := rfl
    rw [h, flatIn_frD w fr, h2]
    simp only [sl_inj]
    simp [List.mem_cons]
theorem in_frD {S : Sto} {w : List Nat} {fr : List (List Nat)} : inD S (.str (sl w)) (.lst (frD fr)) = some (decide (w ∈ fr)) := by
  have h : inD S (.str (sl w)) (.lst (frD fr)) = if (D.str (sl w)).flat then flatIn (.str (sl w)) (frD fr) else none := rfl
  rw [h, flatIn_frD]; rfl
def AB : List Nat := [97, 98, 99, 100, 101, 102, 103, 104, 105, 106, 107, 108, 109, 110, 111, 112, 113, 114, 115, 116, 117, 118, 119, 120, 121, 122]
/-- the signs of a text, each a text -/
def chs (l : List Nat) : List (List Nat) := l.map fun c => [c]
theorem items_str {S : Sto} {l : List Nat} : itemsD .str [.str (sl l)] S = some (frD (chs l)) := by
  have h : itemsD .str [.str (sl l)] S = some ((sl l).cps.toList.map fun c => D.str ⟨#[c]⟩) := rfl
  rw [h, sl_cps]
  rw [frD, chs, List.map_map]
  rfl
theorem bi_list {S : Sto} {l : List Nat} (h : l.length ≤ 16777216) : biD .list [.str (sl l)] S = some (.lst (frD (chs l))) := by
  have e : biD .list [.str (sl l)] S = if (sl l).length ≤ sizeLine then some (.lst ((sl l).cps.toList.map fun c => D.str ⟨#[c]⟩)) else none := rfl
  rw [e, sl_len, sizeLine_eq, if_pos h, sl_cps]
  rw [frD, chs, List.map_map]
  rfl
theorem frD_cons (w : List Nat) (ws : List (List Nat)) : frD (w :: ws) = .str (sl w) :: frD ws := rfl
theorem cutL_frD {ws : List (List Nat)} {k : Nat} : cutL (frD ws) none (some (k : Int)) = frD (ws.take k) := by
  unfold cutL
  rw [HT.sIx_nat]
  have h0 : HT.sIx (frD ws).length 0 none = 0 := rfl
  rw [h0]
  simp only [List.drop_zero, Nat.sub_zero, frD, List.length_map]
  rw [← List.map_take]
  by_cases h : k ≤ ws.length
  · rw [Nat.min_eq_left h]
  · rw [Nat.min_eq_right (by omega), List.take_of_length_le (Nat.le_refl _), List.take_of_length_le (by omega)]
/-! ### the law's words -/
def W2 : List (List Nat) := chs AB ++ AB.flatMap fun a => AB.map fun b => [a, b]
def wordsM (fr : List (List Nat)) (k : Nat) : List (List Nat) := (W2.filter fun w => decide (w ∉ fr)).take k
def wordsL (fr : List (List Nat)) : List (List Nat) := wordsM fr 90
theorem comp_two {C : Fw.Ctx} {P : Sto → Prop} {S : Sto} (hP : P S) {c : Nat} {a0 a1 a2 a3 a6 : Option D} : ∀ (l : List Nat) (a5 : Option D), compL P (evE C (.bin .add (.slot 4) (.slot 5))) (evCs C []) (.name 5) (frD (chs l)) [a0, a1, a2, a3, some (.str (sl [c])), a5, a6] S = some (frD (l.map fun b => [c, b]), S)
  | [], a5 => compL_nil hP
  | b :: l, a5 => by
    have ih := comp_two (C := C) (P := P) hP (c := c) (a0 := a0) (a1 := a1) (a2 := a2) (a3 := a3) (a6 := a6) l a5
    have s : addI S (.str (sl [c])) (.str (sl [b])) = some (.str (sl [c, b])) := addI_str (by simp)
    rw [show frD (chs (b :: l)) = .str (sl [b]) :: frD (chs l) from rfl, compL_cons hP]
    simp [s, ih, frD_cons, -Option.map_map]
theorem loop_two {C : Fw.Ctx} {P : Sto → Prop} {S : Sto} (hP : P S) {F : Option D} {k : Option D} {a6 : Option D} : ∀ (l : List Nat) (W : List (List Nat)) (a4 a5 : Option D), W.length + 26 * l.length < 10000 → ∃ a4', forL P (.name 4) (evSs C [(.asg (.name 3) (.bin .add (.slot 3) (.comp false [5] (.bin .add (.slot 4) (.slot 5)) (.name 5) .str [(.slot 2)] [])))]) (frD (chs l)) [F, k, some (.str (sl AB)), some (.lst (frD W)), a4, none, a6] S = some (.nx [F, k, some (.str (sl AB)), some (.lst (frD (W ++ l.flatMap fun a => AB.map fun b => [a, b]))), a4', none, a6] S)
  | [], W, a4, a5, h => ⟨a4, by rw [show frD (chs []) = [] from rfl, forL_nil hP]; simp⟩
  | c :: l, W, a4, a5, h => by
    simp only [List.length_cons] at h
    have hl : (AB.map fun b => [c, b]).length = 26 := by simp [AB]
    obtain ⟨a4', ih⟩ := loop_two (C := C) (P := P) hP (F := F) (k := k) (a6 := a6) l (W ++ AB.map fun b => [c, b]) (some (.str (sl [c]))) none (by rw [List.length_append, hl]; omega)
    refine ⟨a4', ?_⟩
    rw [show frD (chs (c :: l)) = .str (sl [c]) :: frD (chs l) from rfl, forL_cons hP]
    have hc := comp_two (C := C) (P := holdD [.str (sl AB)] S) (S := S) hold_str (c := c) (a0 := F) (a1 := k) (a2 := some (.str (sl AB))) (a3 := some (.lst (frD W))) (a6 := a6) AB none
    have hlen : (frD (AB.map fun b => [c, b])).length ≤ 16777216 := by rw [frD_len, hl]; omega
    have hm : mkLst false (frD (AB.map fun b => [c, b])) S = some (.lst (frD (AB.map fun b => [c, b])), S) := by
      unfold mkLst
      rw [sizeLine_eq, if_pos hlen]; rfl
    have s : addI S (.lst (frD W)) (.lst (frD (AB.map fun b => [c, b]))) = some (.lst (frD (W ++ AB.map fun b => [c, b]))) := by
      rw [addI_lst rfl rfl (by rw [frD_len, frD_len, hl]; omega), frD_app]
    simp [items_str, hc, hm, s, -Option.map_map, -List.map_map]
    rw [ih]
    simp
theorem comp_filter {C : Fw.Ctx} {P : Sto → Prop} {S : Sto} (hP : P S) {fr : List (List Nat)} {a1 a2 a3 a4 a5 : Option D} : ∀ (l : List (List Nat)) (a6 : Option D), compL P (evE C (.slot 6)) (evCs C [(.cmp .notin (.slot 6) (.slot 0))]) (.name 6) (frD l) [some (.lst (frD fr)), a1, a2, a3, a4, a5, a6] S = some (frD (l.filter fun w => decide (w ∉ fr)), S)
  | [], a6 => compL_nil hP
  | w :: l, a6 => by
    have ih := comp_filter (C := C) (P := P) hP (fr := fr) (a1 := a1) (a2 := a2) (a3 := a3) (a4 := a4) (a5 := a5) l a6
    rw [frD_cons, compL_cons hP]
    by_cases h : w ∈ fr
    · simp [in_frD, h, ih, -Option.map_map]
    · simp [in_frD, h, ih, frD_cons, -Option.map_map]
theorem c_wordsM {d k : Nat} {S : Sto} {fr : List (List Nat)} : callF pr (d + 1) "_law_words" [.lst (frD fr), .int (k : Nat)] S = some (.lst (frD (wordsM fr k)), S) := by
  have e0 : AB = [97, 98, 99, 100, 101, 102, 103, 104, 105, 106, 107, 108, 109, 110, 111, 112, 113, 114, 115, 116, 117, 118, 119, 120, 121, 122] := rfl
  obtain ⟨a4, hl⟩ := loop_two (C := ctxP pr d) (P := holdD [.str (sl AB)] S) (S := S) hold_str (F := some (.lst (frD fr))) (k := some (.int (k : Nat))) (a6 := none) AB (chs AB) none none (by simp [AB, chs])
  have hb : biD .list [.str (sl AB)] S = some (.lst (frD (chs AB))) := bi_list (by simp [AB])
  have hi : itemsD .lst [.lst (frD W2)] S = some (frD W2) := rfl
  have hc := comp_filter (C := ctxP pr d) (P := holdD [.lst (frD W2)] S) (S := S) hold_lst (fr := fr) (a1 := some (.int (k : Nat))) (a2 := some (.str (sl AB))) (a3 := some (.lst (frD W2))) (a4 := a4) (a5 := none) W2 none
  have hlen : (frD (W2.filter fun w => decide (w ∉ fr))).length ≤ 16777216 := by
    rw [frD_len]
    exact Nat.le_trans (List.length_filter_le _ _) (by decide)
  have hm : mkLst false (frD (W2.filter fun w => decide (w ∉ fr))) S = some (.lst (frD (W2.filter fun w => decide (w ∉ fr))), S) := by
    unfold mkLst
    rw [sizeLine_eq, if_pos hlen]; rfl
  have hs : sliceD S (.lst (frD (W2.filter fun w => decide (w ∉ fr)))) none (some (k : Int)) = some (.lst (frD (wordsM fr k))) := by
    have : sliceD S (.lst (frD (W2.filter fun w => decide (w ∉ fr)))) none (some (k : Int)) = some (.lst (cutL (frD (W2.filter fun w => decide (w ∉ fr))) none (some ((k : Nat) : Int)))) := rfl
    rw [this, cutL_frD]; rfl
  rw [callF_step pf__law_words rfl]
  rw [show (chs AB ++ AB.flatMap fun a => AB.map fun b => [a, b]) = W2 from rfl] at hl
  simp only [f__law_words, lt_22, ← e0]
  generalize AB = A at *
  generalize W2 = V at *
  generalize (V.filter fun w => decide (w ∉ fr)) = U at *
  simp [items_str, hb, hl, hi, hc, hm, hs, allInt, -Option.map_map, -List.map_map]
theorem c_words {d : Nat} {S : Sto} {fr : List (List Nat)} : callF pr (d + 1) "_law_words" [.lst (frD fr), .int 90] S = some (.lst (frD (wordsL fr)), S) := c_wordsM (k := 90)
theorem in_lp {S : Sto} (t : Tr) : inD S (.str (sl (Ltag t))) (.lst [.str (sl [108]), .str (sl [112])]) = some (t.isFn || t.isAp) := by
  have := in_frD (S := S) (w := Ltag t) (fr := [[108], [112]])
  rw [show frD [[108], [112]] = [.str (sl [108]), .str (sl [112])] from rfl] at this
  rw [this]
  cases t <;> simp [Ltag, Tr.isFn, Tr.isAp]
theorem frD_at {ws : List (List Nat)} {j : Nat} (h : j < ws.length) : (frD ws)[j]? = some (.str (sl (ws.getD j []))) := by
  simp [frD, List.getD_eq_getElem?_getD, h]
theorem c_wr {fr ws : List (List Nat)} (hfr : ∀ w ∈ fr, okW w) (hw : ∀ w ∈ ws, w.length ≤ 8) : ∀ (t : Tr) {d k : Nat} {S : Sto}, t.ht ≤ d → Tr.wf fr k t → k + t.dp ≤ ws.length → t.sz ≤ 100000 →
    callF pr d "_law_written" [Ld t, .lst (frD ws), .int k] S = some (.str (sl (wr ws k t)), S)
  | t, d, k, S, hd, wf, hk, hz => by
    have hp := ht_pos t
    have hlen := wr_len hw t hfr wf
    obtain ⟨e, rfl⟩ : ∃ e, d = e + 1 := ⟨d - 1, by omega⟩
    rw [callF_step pf__law_written rfl]
    match t, hd, wf, hk, hz, hlen with
    | .nm w, hd, wf, hk, hz, hlen => simp [f__law_written, Ld, wr, -Option.map_map]
    | .bd n, hd, wf, hk, hz, hlen =>
      have h1 : ((k : Int) - 1 - n) = ((k - 1 - n : Nat) : Int) := by have : n < k := wf; omega
      have h2 := frD_at (ws := ws) (j := k - 1 - n) (by simp only [Tr.dp] at hk; have : n < k := wf; omega)
      simp [f__law_written, Ld, wr, h1, at_nat, h2, -Option.map_map]
    | .fn b, hd, wf, hk, hz, hlen =>
      simp only [Tr.ht, Tr.sz, Tr.dp] at hd hz hk
      have hb := wr_len hw b hfr (show Tr.wf fr (k + 1) b from wf)
      have h2 := frD_at (ws := ws) (j := k) (by omega)
      have ih := c_wr hfr hw b (d := e) (k := k + 1) (S := S) (by omega) wf (by omega) (by omega)
      push_cast at ih
      simp only [wr, List.length_append, List.length_cons, List.length_nil] at hlen
      simp only [Tr.sz] at hlen
      generalize hv : wr ws (k + 1) b = v at *
      rw [wr, hv]
      generalize ws.getD k [] = w at *
      simp (disch := (simp only [List.length_append, List.length_cons, List.length_nil]; omega)) [f__law_written, Ld, at_nat, h2, ih, addI_str, -Option.map_map]
    | .ap f g, hd, wf, hk, hz, hlen =>
      simp only [Tr.ht, Tr.sz, Tr.dp] at hd hz hk
      have hf := wr_len hw f hfr wf.1
      have hg := wr_len hw g hfr wf.2
      have ih1 := c_wr hfr hw f (d := e) (k := k) (S := S) (by omega) wf.1 (by omega) (by omega)
      have ih2 := c_wr hfr hw g (d := e) (k := k) (S := S) (by omega) wf.2 (by omega) (by omega)
      rw [wr]
      generalize wr ws k f = x at *
      generalize wr ws k g = y at *
      have s1 : addI S (.str (sl [40])) (.str (sl x)) = some (.str (sl (40 :: x))) := addI_str (by simp only [List.length_cons, List.length_nil]; omega)
      cases hf2 : f.isFn <;> cases hg2 : g.isFn || g.isAp <;>
      simp (disch := (simp only [List.length_append, List.length_cons, List.length_nil]; omega)) [f__law_written, Ld, ih1, ih2, sub_Ld, Ltag_l, in_lp, hf2, hg2, addI_str, biD, mkLst, -Option.map_map]
theorem w2_ok : ∀ w ∈ W2, okW w := by
  have h : W2.all (fun w => decide (w ≠ [] ∧ w.length ≤ 8 ∧ ∀ c ∈ w, 97 ≤ c ∧ c ≤ 122)) = true := by decide +kernel
  intro w hw
  have := List.all_eq_true.mp h w hw
  simp only [decide_eq_true_eq] at this
  exact this
def key : List Nat → Nat
  | [a] => a - 97
  | [a, b] => (a - 96) * 26 + (b - 97)
  | _ => 0
theorem w2_key : W2.map key = List.range 702 := by decide +kernel
theorem w2_nodup : W2.Nodup := by
  have h : (W2.map key).Pairwise (· ≠ ·) := by rw [w2_key]; exact List.nodup_range
  rw [List.pairwise_map] at h
  exact h.imp fun q e => q (by rw [e])
/-! ### the words do -/
theorem w2_free : (W2.filter fun w => decide (w ∉ ALL)).length = 699 := by decide +kernel
theorem wordsL_len {fr : List (List Nat)} (h : ∀ w ∈ fr, w ∈ ALL) : (wordsL fr).length = 90 := by
  have h1 : (W2.filter fun w => decide (w ∉ ALL)).length ≤ (W2.filter fun w => decide (w ∉ fr)).length := by
    have : (W2.filter fun w => decide (w ∉ ALL)) = (W2.filter fun w => decide (w ∉ fr)).filter fun w => decide (w ∉ ALL) := by
      rw [List.filter_filter]
      apply List.filter_congr
      intro w _
      by_cases hw : w ∈ ALL
      · simp [hw]
      · have : w ∉ fr := fun q => hw (h w q)
        simp [hw, this]
    rw [this]
    exact List.length_filter_le _ _
  rw [w2_free] at h1
  simp only [wordsL, wordsM, List.length_take]
  omega
theorem wordsL_ok {fr : List (List Nat)} : ∀ w ∈ wordsL fr, okW w := fun w hw => w2_ok w (List.mem_filter.mp (List.mem_of_mem_take hw)).1
theorem wordsL_not {fr : List (List Nat)} : ∀ w ∈ wordsL fr, w ∉ fr := fun w hw => by
  have := (List.mem_filter.mp (List.mem_of_mem_take hw)).2
  simpa using this
theorem wordsL_nodup {fr : List (List Nat)} : (wordsL fr).Nodup := (w2_nodup.filter _).sublist (List.take_sublist _ _)
theorem frs_in {fr : List (List Nat)} : ∀ {t : Tr} {k : Nat}, Tr.wf fr k t → ∀ w ∈ frs t, w ∈ fr
  | .nm w, k, wf, v, hv => by
    simp only [frs, List.mem_singleton] at hv
    subst hv
    exact wf
  | .bd n, k, wf, v, hv => by simp [frs] at hv
  | .fn b, k, wf, v, hv => frs_in (t := b) (k := k + 1) wf v hv
  | .ap f g, k, wf, v, hv => by
    simp only [frs, List.mem_append] at hv
    rcases hv with hv | hv
    · exact frs_in wf.1 v hv
    · exact frs_in wf.2 v hv
/-- the text of a term -/
def txt (t : Tr) : List Nat := wr (wordsL (frs t)) 0 t
theorem c_text {t : Tr} {d : Nat} {S : Sto} (hd : t.ht + 1 ≤ d) (hd2 : 2 ≤ d) (wf : Tr.wf ALL 0 t) (hz : t.sz ≤ 100000) (hh : t.ht ≤ 80) : callF pr d "_law_text" [Ld t] S = some (.str (sl (txt t)), S) := by
  obtain ⟨e, rfl⟩ : ∃ e, d = e + 1 + 1 := ⟨d - 2, by omega⟩
  have hl := wordsL_len (frs_in wf)
  have hdp := dp_lt t
  have e1 := c_free t (d := e + 1) (S := S) (by omega) (by omega)
  have e2 := c_words (d := e) (S := S) (fr := frs t)
  have e3 := c_wr (fr := ALL) (ws := wordsL (frs t)) all_ok (fun w hw => (wordsL_ok w hw).2.1) t (d := e + 1) (k := 0) (S := S) (by omega) wf (by omega) hz
  rw [callF_step pf__law_text rfl]
  rw [show ((0 : Nat) : Int) = 0 from rfl] at e3
  simp [f__law_text, e1, e2, e3, txt, -Option.map_map]
end K03

set_option Elab.async false
set_option linter.all false
set_option maxRecDepth 100000
set_option exponentiation.threshold 1000000
namespace K03
open PySem Fw
theorem aug_int {S : Sto} {x y : Int} : augD .add S (.int x) (.int y) = some (.int (x + y)) := rfl
theorem pgL : pr.glob (Str.ofString "LETTERS") = some (.str (sl AB)) := by rfl
theorem ab_in {c : Nat} : AB.contains c = decide (97 ≤ c ∧ c ≤ 122) := by
  by_cases h : 97 ≤ c ∧ c ≤ 122
  · have : ∀ c, c < 123 → 97 ≤ c → AB.contains c = true := by decide +kernel
    rw [this c (by omega) h.1]; simp [h]
  · simp only [h, decide_false]
    simp only [AB, List.contains_cons, List.contains_nil, Bool.or_false]
    simp only [Bool.or_eq_false_iff, beq_eq_false_iff_ne]
    omega
/-! ### terms of the program -/
def Tm (t : Tr) : D := .ins "Term" ["tree"] [Pd t]
theorem Pd_bel (n : Nat) : ∀ t : Tr, (Pd t).bel n = true
  | .nm w => by simp [Pd, D.bel, D.bels]
  | .bd w => by simp [Pd, D.bel, D.bels]
  | .fn b => by simp [Pd, D.bel, D.bels, Pd_bel n b]
  | .ap f g => by simp [Pd, D.bel, D.bels, Pd_bel n f, Pd_bel n g]
theorem Tm_tree (t : Tr) (S : Sto) : fldD S (Tm t) "tree" = some (Pd t) := by rfl
theorem Tm_cls (t : Tr) (S : Sto) : clsOf S (Tm t) = some "Term" := rfl
theorem mk_term {d : Nat} {S : Sto} {t : Tr} : mkObj (ctxP pr (d + 2)) true "Term" [Pd t] S = some (Tm t, S) := by
  have e1 : callF pr (d + 1) "Term.__init__" [.loc S.length, Pd t] (S ++ [.obj "Term" []]) = some (.non, S ++ [.obj "Term" [("tree", Pd t)]]) := by
    rw [callF_step pf_Termu_initu rfl]
    have hset : setfldD (ctxP pr d) (S ++ [.obj "Term" []]) (.loc S.length) "tree" (Pd t) = some (S ++ [.obj "Term" [("tree", Pd t)]]) := by
      have hg : (S ++ [Cell.obj "Term" []])[S.length]? = some (.obj "Term" []) := by simp
      have h : setfldD (ctxP pr d) (S ++ [.obj "Term" []]) (.loc S.length) "tree" (Pd t) = (match (S ++ [Cell.obj "Term" []])[S.length]? with
        | some (.obj c fs) => if fs.length < 1000 ∧ (pr.meth c "tree").isNone = true then some ((S ++ [Cell.obj "Term" []]).set S.length (.obj c (putFd "tree" (Pd t) fs))) else none
        | _ => none) := rfl
      rw [h, hg]
      simp only
      rw [if_pos ⟨by simp, by rw [pn_Term_tree]; rfl⟩]
      simp [putFd]
    simp [f_Termu_initu, hset, -Option.map_map, -fld_loc, -cls_loc]
  unfold mkObj
  rw [show ("Term" : Str) ++ (".__init__" : Str) = "Term.__init__" from rfl, ctx_init, show d + 2 - 1 = d + 1 by omega, e1]
  simp [Pd_bel, Tm]
theorem isi_str (S : Sto) (x : Str) : isinD S "str" (.str x) = some true := by rfl
theorem all_letters {C : Fw.Ctx} (hC : C.glob = pr.glob) {P : Sto → Prop} {S : Sto} (hP : P S) {a0 : Option D} : ∀ (l : List Nat) (a1 : Option D), (∀ c ∈ l, 97 ≤ c ∧ c ≤ 122) → compL P (evE C (.cmp .isin (.slot 1) (.glob "LETTERS"))) (evCs C []) (.name 1) (frD (chs l)) [a0, a1] S = some (l.map fun _ => .bl true, S)
  | [], a1, h => compL_nil hP
  | c :: l, a1, h => by
    have ih := all_letters (C := C) hC hP (a0 := a0) l a1 (fun c hc => h c (List.mem_cons_of_mem _ hc))
    have hc := h c List.mem_cons_self
    have hin : ∀ S, inD S (.str (sl [c])) (.str (sl AB)) = some true := fun S => by
      rw [in_str, ab_in]; simp [hc]
    rw [show frD (chs (c :: l)) = .str (sl [c]) :: frD (chs l) from rfl, compL_cons hP]
    simp [hC, pgL, hin, ih, -Option.map_map]
theorem all_true : ∀ l : List Nat, allBl (l.map fun _ => .bl true) = some (l.map fun _ => true)
  | [] => rfl
  | c :: l => by
    show (allBl (l.map fun _ => .bl true)).map (true :: ·) = _
    rw [all_true l]; rfl
theorem c_look {d : Nat} {S : Sto} {w : List Nat} (hw : okW w) : callF pr (d + 1) "look_word" [.str (sl w)] S = some (.non, S) := by
  obtain ⟨h1, h2, h3⟩ := hw
  have h0 : 0 < w.length := List.length_pos_iff.mpr h1
  have hl : ∀ S, lenD S (.str (sl w)) = some (w.length : Int) := fun S => by
    have : lenD S (.str (sl w)) = if (sl w).length ≤ sizeLine then some ((sl w).length : Int) else none := rfl
    rw [this, sl_len, sizeLine_eq, if_pos (by omega)]
  have hc := all_letters (C := ctxP pr d) rfl (P := holdD [.str (sl w)] S) (S := S) hold_str (a0 := some (.str (sl w))) w none h3
  have ha : biD .all [.lst (w.map fun _ => .bl true)] S = some (.bl true) := by
    have : biD .all [.lst (w.map fun _ => .bl true)] S = (allBl (w.map fun _ => .bl true)).map fun bs => .bl (bs.all id) := rfl
    rw [this, all_true]
    simp
  have hm : mkLst false (w.map fun _ => .bl true) S = some (.lst (w.map fun _ => .bl true), S) := by
    unfold mkLst
    rw [sizeLine_eq, if_pos (by rw [List.length_map]; omega)]; rfl
  have i1 : ((1 : Int) ≤ w.length) ↔ True := ⟨fun _ => trivial, fun _ => by omega⟩
  have i2 : ((w.length : Int) ≤ 8) ↔ True := ⟨fun _ => trivial, fun _ => by omega⟩
  have hb : ∀ S, biD .len [.str (sl w)] S = some (.int w.length) := fun S => by
    have : biD .len [.str (sl w)] S = (lenD S (.str (sl w))).map D.int := rfl
    rw [this, hl]; rfl
  rw [callF_step pf_look_word rfl]
  simp [f_look_word, isi_str, hb, pg_MOST_SIGNS, i1, i2, items_str, hc, hm, ha, -Option.map_map, -List.map_map]
theorem c_name {d : Nat} {S : Sto} {w : List Nat} (hw : okW w) : callF pr (d + 3) "name" [.str (sl w)] S = some (Tm (.nm w), S) := by
  have e1 := c_look (d := d + 1) (S := S) hw
  have e2 := mk_term (d := d) (S := S) (t := .nm w)
  rw [Pd] at e2
  rw [callF_step pf_name rfl]
  simp [f_name, e1, e2, -Option.map_map]
theorem c_put {d : Nat} {S : Sto} {f g : Tr} : callF pr (d + 3) "put" [Tm f, Tm g] S = some (Tm (.ap f g), S) := by
  have e2 := mk_term (d := d) (S := S) (t := .ap f g)
  rw [Pd] at e2
  rw [callF_step pf_put rfl]
  simp [f_put, Tm_tree, Tm_cls, pn_Term_tree, e2, -Option.map_map]
/-! ### a word bound -/
def chg (w : List Nat) : Nat → Tr → Tr
  | j, .nm v => if v = w then .bd j else .nm v
  | _, .bd n => .bd n
  | j, .fn b => .fn (chg w (j + 1) b)
  | j, .ap f g => .ap (chg w j f) (chg w j g)
theorem eq_nm {S : Sto} {v w : List Nat} (hv : okW v) (hw : okW w) : eqD S (.tup [.str (sl [110, 97, 109, 101]), .str (sl v)]) (.tup [.str (sl [110, 97, 109, 101]), .str (sl w)]) = some (decide (v = w)) := by
  have e : eqD S (.tup [.str (sl [110, 97, 109, 101]), .str (sl v)]) (.tup [.str (sl [110, 97, 109, 101]), .str (sl w)]) = if (D.tup [.str (sl [110, 97, 109, 101]), .str (sl v)]).data && (D.tup [.str (sl [110, 97, 109, 101]), .str (sl w)]).data && decide (min (D.tup [.str (sl [110, 97, 109, 101]), .str (sl v)]).py.depth (D.tup [.str (sl [110, 97, 109, 101]), .str (sl w)]).py.depth ≤ 150) then some (PyData.eqv (D.tup [.str (sl [110, 97, 109, 101]), .str (sl v)]).py (D.tup [.str (sl [110, 97, 109, 101]), .str (sl w)]).py) else none := rfl
  rw [e]
  have n : okL [110, 97, 109, 101] = true := by decide
  simp [D.py, D.pys, PyData.depth, PyData.depthAll, PyData.eqv, PyData.eqvAll, okW_okL hv, okW_okL hw, n, sl_inj]
  rw [Bool.eq_iff_iff]; simp [sl_inj]
theorem eq_bd {S : Sto} {n : Int} {w : List Nat} (hw : okW w) : eqD S (.tup [.str (sl [98, 111, 117, 110, 100]), .int n]) (.tup [.str (sl [110, 97, 109, 101]), .str (sl w)]) = some false := by
  have e : eqD S (.tup [.str (sl [98, 111, 117, 110, 100]), .int n]) (.tup [.str (sl [110, 97, 109, 101]), .str (sl w)]) = if (D.tup [.str (sl [98, 111, 117, 110, 100]), .int n]).data && (D.tup [.str (sl [110, 97, 109, 101]), .str (sl w)]).data && decide (min (D.tup [.str (sl [98, 111, 117, 110, 100]), .int n]).py.depth (D.tup [.str (sl [110, 97, 109, 101]), .str (sl w)]).py.depth ≤ 150) then some (PyData.eqv (D.tup [.str (sl [98, 111, 117, 110, 100]), .int n]).py (D.tup [.str (sl [110, 97, 109, 101]), .str (sl w)]).py) else none := rfl
  rw [e]
  have n1 : okL [110, 97, 109, 101] = true := by decide
  have n2 : okL [98, 111, 117, 110, 100] = true := by decide
  simp [D.py, D.pys, PyData.depth, PyData.depthAll, PyData.eqv, PyData.eqvAll, okW_okL hw, n1, n2, sl_inj]
theorem c_leafs {d j : Nat} {S : Sto} {w : List Nat} (hw : okW w) : ∀ t : Tr, (∀ v ∈ frs t, okW v) → t.isFn = false → t.isAp = false → callF pr (d + 1) "fun.leaf" [Pd t, .int j, .str (sl w)] S = some (Pd (chg w j t), S)
  | .nm v, hf, h1, h2 => by
    rw [callF_step pf_fun_leaf rfl]
    by_cases h : v = w
    · subst h
      simp [f_fun_leaf, Pd, chg, eq_nm hw hw, -Option.map_map]
    · simp [f_fun_leaf, Pd, chg, eq_nm (hf v (by simp [frs])) hw, h, -Option.map_map]
  | .bd n, hf, h1, h2 => by
    rw [callF_step pf_fun_leaf rfl]
    simp [f_fun_leaf, Pd, chg, eq_bd hw, -Option.map_map]
  | .fn b, hf, h1, h2 => by simp [Tr.isFn] at h1
  | .ap f g, hf, h1, h2 => by simp [Tr.isAp] at h2
theorem c_changed {S : Sto} {w : List Nat} (hw : okW w) : ∀ (t : Tr) {d j : Nat}, t.ht + 1 ≤ d → (∀ v ∈ frs t, okW v) → callF pr d "changed" [Pd t, .clo "fun.leaf" [.str (sl w)], .int j] S = some (Pd (chg w j t), S)
  | t, d, j, hd, hf => by
    have hp := ht_pos t
    obtain ⟨e, rfl⟩ : ∃ e, d = e + 1 + 1 := ⟨d - 2, by omega⟩
    rw [callF_step pf_changed rfl]
    match t, hd, hf with
    | .nm v, hd, hf =>
      have e1 := c_leafs (d := e) (j := j) (S := S) hw (.nm v) hf rfl rfl
      have hc : ∀ as, evE (ctxP pr (e + 1)) (.callv 1 as) [some (Pd (.nm v)), some (.clo "fun.leaf" [.str (sl w)]), some (.int j), some (.str (sl [110, 97, 109, 101])), some (.lst [.str (sl v)])] S = _ := fun as => ev_callv (lf := "fun.leaf") (ws := [.str (sl w)]) (by rfl)
      simp only [Pd] at hc e1
      simp [f_changed, Pd, hc, e1, -Option.map_map]
    | .bd n, hd, hf =>
      have e1 := c_leafs (d := e) (j := j) (S := S) hw (.bd n) hf rfl rfl
      have hc : ∀ as, evE (ctxP pr (e + 1)) (.callv 1 as) [some (Pd (.bd n)), some (.clo "fun.leaf" [.str (sl w)]), some (.int j), some (.str (sl [98, 111, 117, 110, 100])), some (.lst [.int n])] S = _ := fun as => ev_callv (lf := "fun.leaf") (ws := [.str (sl w)]) (by rfl)
      simp only [Pd] at hc e1
      simp [f_changed, Pd, hc, e1, -Option.map_map]
    | .fn b, hd, hf =>
      simp only [Tr.ht] at hd
      have ih := c_changed (S := S) hw b (d := e + 1) (j := j + 1) (by omega) hf
      push_cast at ih
      simp [f_changed, Pd, chg, ih, -Option.map_map]
    | .ap f g, hd, hf =>
      simp only [Tr.ht] at hd
      have ih1 := c_changed (S := S) hw f (d := e + 1) (j := j) (by omega) (fun v hv => hf v (by simp [frs, hv]))
      have ih2 := c_changed (S := S) hw g (d := e + 1) (j := j) (by omega) (fun v hv => hf v (by simp [frs, hv]))
      simp [f_changed, Pd, chg, ih1, ih2, -Option.map_map]
theorem c_fun {d : Nat} {S : Sto} {w : List Nat} {t : Tr} (hw : okW w) (hd : t.ht + 4 ≤ d) (hf : ∀ v ∈ frs t, okW v) : callF pr d "fun" [.str (sl w), Tm t] S = some (Tm (.fn (chg w 0 t)), S) := by
  obtain ⟨e, rfl⟩ : ∃ e, d = e + 3 := ⟨d - 3, by omega⟩
  have e1 := c_look (d := e + 1) (S := S) hw
  have e2 := c_changed (S := S) hw t (d := e + 2) (j := 0) (by omega) hf
  have e3 := mk_term (d := e) (S := S) (t := .fn (chg w 0 t))
  rw [Pd] at e3
  rw [show ((0 : Nat) : Int) = 0 from rfl] at e2
  rw [callF_step pf_fun rfl]
  simp [f_fun, e1, e2, e3, Tm_tree, Tm_cls, pn_Term_tree, -Option.map_map]
end K03

set_option Elab.async false
set_option linter.all false
set_option maxRecDepth 100000
set_option exponentiation.threshold 1000000
namespace K03
open PySem Fw
theorem wf_self : ∀ {fr : List (List Nat)} {t : Tr} {k : Nat}, Tr.wf fr k t → Tr.wf (frs t) k t
  | fr, .nm w, k, h => by simp [Tr.wf, frs]
  | fr, .bd n, k, h => h
  | fr, .fn b, k, h => wf_self (t := b) (k := k + 1) h
  | fr, .ap f g, k, h => ⟨wf_mono (fun w hw => by simp [frs, hw]) (wf_self h.1), wf_mono (fun w hw => by simp [frs, hw]) (wf_self h.2)⟩
theorem fin_ins {S S' : Sto} {d : D} (h1 : S'.take S.length = S) (h2 : ∀ n, d ≠ .loc n) (h3 : d.bel S.length = true) : fin (.keep 0 true) S d S' = some (d, S) := by
  have hf : frzD S.length S' d = d := by
    cases d <;> first | rfl | exact absurd rfl (h2 _)
  unfold fin
  simp [hf, h1, h3]
/-! ### the redexes -/
def Ptag : Tr → List Nat
  | .nm _ => [110, 97, 109, 101]
  | .bd _ => [98, 111, 117, 110, 100]
  | .fn _ => [102, 117, 110]
  | .ap _ _ => [112, 117, 116]
theorem sub_Pd (t : Tr) (S : Sto) : subD S (Pd t) (.int 0) = some (.str (sl (Ptag t))) := by cases t <;> simp [Pd, Ptag]
theorem Ptag_l (t : Tr) : decide (Ptag t = [102, 117, 110]) = t.isFn := by cases t <;> simp [Ptag, Tr.isFn]
theorem Ptag_p (t : Tr) : decide (Ptag t = [112, 117, 116]) = t.isAp := by cases t <;> simp [Ptag, Tr.isAp]
theorem Pd_data : ∀ t : Tr, (∀ v ∈ frs t, okW v) → (Pd t).data = true
  | .nm w, h => by
    have n : okL [110, 97, 109, 101] = true := by decide
    simp [Pd, n, okW_okL (h w (by simp [frs]))]
  | .bd n, h => by
    have n : okL [98, 111, 117, 110, 100] = true := by decide
    simp [Pd, n]
  | .fn b, h => by
    have n : okL [102, 117, 110] = true := by decide
    simp [Pd, n, Pd_data b h]
  | .ap f g, h => by
    have n : okL [112, 117, 116] = true := by decide
    simp [Pd, n, Pd_data f (fun v hv => h v (by simp [frs, hv])), Pd_data g (fun v hv => h v (by simp [frs, hv]))]
def prD (q : List Nat × Tr) : D := .tup [.str (sl q.1), Pd q.2]
def prs (l : List (List Nat × Tr)) : List D := l.reverse.map prD
theorem prs_cons (q : List Nat × Tr) (l : List (List Nat × Tr)) : prs (q :: l) = prs l ++ [prD q] := by simp [prs]
theorem prs_len (l : List (List Nat × Tr)) : (prs l).length = l.length := by simp [prs]
structure Okq (q : List Nat × Tr) : Prop where
  l : okL q.1 = true
  n : q.1.length + q.2.ht ≤ 100000
  v : ∀ v ∈ frs q.2, okW v
theorem prs_data : ∀ l : List (List Nat × Tr), (∀ q ∈ l, Okq q) → D.datas (prs l) = true
  | [], h => by simp [prs]
  | q :: l, h => by
    have := h q List.mem_cons_self
    rw [prs_cons, datas_app, prs_data l (fun q hq => h q (List.mem_cons_of_mem _ hq))]
    simp [prD, this.l, Pd_data _ this.v]
def szs : List (List Nat × Tr) → Nat
  | [] => 0
  | q :: l => q.2.sz + szs l
theorem szs_len (l : List (List Nat × Tr)) : l.length ≤ szs l := by
  induction l with
  | nil => simp [szs]
  | cons q l ih => have := sz_pos q.2; simp only [szs, List.length_cons]; omega
theorem okL_app {a b : List Nat} : okL (a ++ b) = (okL a && okL b) := by simp [okL]
section
variable {S : Sto} {c0 c1 : Cell} {xs ys : List D} {x y : D}
theorem c2_get0 : (S ++ [c0, c1])[S.length]? = some c0 := by rw [List.getElem?_append_right (Nat.le_refl _), Nat.sub_self]; rfl
theorem c2_get1 : (S ++ [c0, c1])[S.length + 1]? = some c1 := by rw [List.getElem?_append_right (by omega), show S.length + 1 - S.length = 1 by omega]; rfl
theorem c2_set0 {c : Cell} : (S ++ [c0, c1]).set S.length c = S ++ [c, c1] := by rw [List.set_append_right _ _ (Nat.le_refl _), Nat.sub_self]; rfl
theorem c2_set1 {c : Cell} : (S ++ [c0, c1]).set (S.length + 1) c = S ++ [c0, c] := by rw [List.set_append_right _ _ (by omega), show S.length + 1 - S.length = 1 by omega]; rfl
theorem c2_chk0 : chkTy .list (S ++ [.lst xs, c1]) (.loc S.length) = true := by unfold chkTy; simp only [c2_get0]
theorem c2_chk1 : chkTy .list (S ++ [c0, .lst xs]) (.loc (S.length + 1)) = true := by unfold chkTy; simp only [c2_get1]
theorem c2_pop : bmD .pop (.loc (S.length + 1)) [] (S ++ [c0, .lst (xs ++ [x])]) = some (x, S ++ [c0, .lst xs]) := by
  unfold bmD
  simp only [c2_get1, c2_set1]
  simp
theorem c2_app0 (h : xs.length < 16777216) : bmD .append (.loc S.length) [y] (S ++ [.lst xs, c1]) = some (.non, S ++ [.lst (xs ++ [y]), c1]) := by
  unfold bmD
  simp only [c2_get0, c2_set0, sizeLine_eq]
  rw [if_pos h]
theorem c2_app1 (h : xs.length < 16777216) : bmD .append (.loc (S.length + 1)) [y] (S ++ [c0, .lst xs]) = some (.non, S ++ [c0, .lst (xs ++ [y])]) := by
  unfold bmD
  simp only [c2_get1, c2_set1, sizeLine_eq]
  rw [if_pos h]
theorem c2_ext1 (h : xs.length + ys.length ≤ 16777216) : bmD .extend (.loc (S.length + 1)) [.lst ys] (S ++ [c0, .lst xs]) = some (.non, S ++ [c0, .lst (xs ++ ys)]) := by
  unfold bmD
  simp only [c2_get1, c2_set1, sizeLine_eq, lsOf]
  rw [if_pos h]
end
theorem frD_bel (n : Nat) : ∀ l : List (List Nat), D.bels n (frD l) = true
  | [] => rfl
  | w :: l => by
    show (true && D.bels n (frD l)) = true
    rw [frD_bel n l]; rfl
theorem fin_keep1 {S : Sto} {c0 c1 : Cell} (h : c0.bel (S.length + 1) = true) : fin (.keep 1 false) S (.loc S.length) (S ++ [c0, c1]) = some (.loc S.length, S ++ [c0]) := by
  unfold fin
  have ht : (S ++ [c0, c1]).take (S.length + 1) = S ++ [c0] := by
    rw [List.take_append, List.take_of_length_le (by omega), show S.length + 1 - S.length = 1 by omega]; rfl
  simp only [ht]
  simp [D.bel, h]
/-! ### the words by number -/
def wn (n : Nat) : List Nat := if n < 26 then [97 + n] else [97 + (n / 26 - 1), 97 + n % 26]
theorem w2_wn : ∀ n < 702, W2[n]? = some (wn n) := by decide +kernel
theorem ab_at : ∀ k < 26, AB[k]? = some (97 + k) := by decide +kernel
theorem sub_L {S : Sto} {k : Nat} (h : k < 26) : subD S (.str (sl AB)) (.int (k : Int)) = some (.str (sl [97 + k])) := by
  have e : subD S (.str (sl AB)) (.int (k : Int)) = if (sl AB).length ≤ sizeLine then (atS (sl AB) k).map D.str else none := rfl
  rw [e, sl_len, sizeLine_eq, if_pos (by decide)]
  unfold atS
  rw [sl_cps, at_nat, ab_at k h]
  rfl
noncomputable def wnL (d : Nat) : Fw.Env → Sto → Option Out := whileL (evE (ctxP pr d) (.cmp .gt (.slot 2) (.cst (.int 0)))) (evSs (ctxP pr d) [(.asg (.tup [(.name 2), (.name 3)]) (.bi .divmod [(.bin .sub (.slot 2) (.cst (.int 1))), (.bi .len [(.glob "LETTERS")])])), (.asg (.name 1) (.bin .add (.sub (.glob "LETTERS") (.slot 3)) (.slot 1)))])
theorem wn_turn {d m : Nat} {S : Sto} {x0 : D} {a3 : Option D} {w : List Nat} (hw : w.length ≤ 8) : wnL d [some x0, some (.str (sl w)), some (.int ((m : Int) + 1)), a3] S = wnL d [some x0, some (.str (sl ((97 + m % 26) :: w))), some (.int ((m / 26 : Nat) : Int)), some (.int ((m % 26 : Nat) : Int))] S := by
  have hl : ∀ S, biD .len [.str (sl AB)] S = some (.int 26) := fun S => rfl
  have hs : ∀ S, subD S (.str (sl AB)) (.int ((m % 26 : Nat) : Int)) = some (.str (sl [97 + m % 26])) := fun S => sub_L (Nat.mod_lt _ (by decide))
  have hd : ∀ S, biD .divmod [.int (m : Int), .int 26] S = some (.tup [.int ((m / 26 : Nat) : Int), .int ((m % 26 : Nat) : Int)]) := fun S => by
    have e : biD .divmod [.int (m : Int), .int 26] S = if (0 : Int) < 26 ∧ (26 : Int) < 1073741824 then some (.tup [.int ((m : Int) / 26), .int ((m : Int) % 26)]) else none := rfl
    rw [e, if_pos (by decide)]
    rfl
  have ha : ∀ S, addI S (.str (sl [97 + m % 26])) (.str (sl w)) = some (.str (sl ((97 + m % 26) :: w))) := fun S => addI_str (by simp only [List.length_cons, List.length_nil]; omega)
  have h0 : (0 : Int) < (m : Int) + 1 := by omega
  have h1 : (m : Int) + 1 - 1 = (m : Int) := by omega
  generalize m % 26 = r at *
  generalize m / 26 = q at *
  conv => lhs; unfold wnL; rw [whileL_step]
  simp only [ev_cmp, ev_slot, ev_cst, slot_at, List.getElem?_cons_succ, List.getElem?_cons_zero, obs, oms, cmp_gt, h0, decide_true, onB_t, evSs_cons, es_asg, ev_bi, evEs_cons, evEs_nil, ev_bin, bin_sub, subI_int, h1, ev_glob, ctx_glob, pgL, hl, hd]
  simp [pgL, hs, ha, wnL, -Option.map_map]
theorem wn_stop {d : Nat} {S : Sto} {x0 w : D} {a3 : Option D} : wnL d [some x0, some w, some (.int 0), a3] S = some (.nx [some x0, some w, some (.int 0), a3] S) := by
  unfold wnL
  rw [whileL_step]
  simp
theorem c_wnum {d n : Nat} {S : Sto} (hn : n < 702) : callF pr (d + 1) "word_number" [.int (n : Int)] S = some (.str (sl (wn n)), S) := by
  have e : ∃ b, wnL d [some (.int (n : Int)), some (.str (sl [])), some (.int ((n : Int) + 1)), none] S = some (.nx [some (.int (n : Int)), some (.str (sl (wn n))), some (.int 0), b] S) := by
    rw [wn_turn (by simp)]
    unfold wn
    by_cases h : n < 26
    · rw [if_pos h, Nat.div_eq_of_lt h, Nat.mod_eq_of_lt h]
      exact ⟨_, wn_stop⟩
    · rw [if_neg h]
      obtain ⟨q, hq⟩ : ∃ q, n / 26 = q + 1 := ⟨n / 26 - 1, by omega⟩
      have hq2 : q < 26 := by omega
      rw [hq, show ((q + 1 : Nat) : Int) = (q : Int) + 1 from rfl, wn_turn (by simp), Nat.div_eq_of_lt hq2, Nat.mod_eq_of_lt hq2, Nat.add_sub_cancel]
      exact ⟨_, wn_stop⟩
  obtain ⟨b, e⟩ := e
  unfold wnL at e
  rw [callF_step pf_word_number rfl]
  simp [f_word_number, -Option.map_map]
  rw [e]
  simp
/-! ### how often a sign stands in a text -/
theorem cnt_is (c : Nat) (l : List Nat) : PyProof.Rows.cnt c l = (l.count c : Nat) := by
  induction l with
  | nil => rfl
  | cons x l ih =>
    rw [PyProof.Rows.cnt_cons, ih, List.count_cons]
    by_cases h : x = c <;> simp [h] <;> omega
theorem count_b (a : List Nat) : Txt.count (sl a) (sl [98]) = ((a.count 98 : Nat) : Int) := by
  have := PyProof.Rows.count_cnt (sl a) 98
  rw [sl_cps, cnt_is] at this
  exact this
/-! ### dicts in a store -/
def addK (k : Fw.Key) (ks : List Fw.Key) : List Fw.Key := if (ks.any fun q => decide (q = k)) = true then ks else ks ++ [k]
theorem mem_addK {k k' : Fw.Key} {ks : List Fw.Key} : k' ∈ addK k ks ↔ (k' ∈ ks ∨ k' = k) := by
  have hm : ((ks.any fun q => decide (q = k)) = true) ↔ k ∈ ks := by
    simp only [List.any_eq_true, decide_eq_true_eq, exists_eq_right]
  unfold addK
  split
  · rename_i h
    have h := hm.mp h
    constructor
    · exact .inl
    · rintro (h' | rfl)
      · exact h'
      · exact h
  · simp
theorem putK_keys {k : Fw.Key} {v : D} {kvs : List (Fw.Key × D)} : (putK k v kvs).map (·.1) = addK k (kvs.map (·.1)) := by
  unfold putK addK
  rw [List.any_map, show ((fun q => decide (q = k)) ∘ fun x : Fw.Key × D => x.1) = fun kv => decide (kv.1 = k) from rfl]
  by_cases h : (kvs.any fun kv => decide (kv.1 = k)) = true
  · rw [if_pos h, if_pos h, List.map_map]
    apply List.map_congr_left
    intro p hp
    show (if p.1 = k then (p.1, v) else p).1 = p.1
    split <;> rfl
  · rw [if_neg h, if_neg h, List.map_append]
    rfl
theorem putK_len {k : Fw.Key} {v : D} {kvs : List (Fw.Key × D)} : (putK k v kvs).length ≤ kvs.length + 1 := by
  unfold putK
  split <;> simp
def VB (kvs : List (Fw.Key × D)) : Prop := ∀ p ∈ kvs, ∀ n, p.2.bel n = true
theorem VB.put {k : Fw.Key} {v : D} {kvs : List (Fw.Key × D)} (h : VB kvs) (hv : ∀ n, v.bel n = true) : VB (putK k v kvs) := by
  unfold putK
  intro p hp n
  split at hp
  · rw [List.mem_map] at hp
    obtain ⟨q, hq, rfl⟩ := hp
    split
    · exact hv n
    · exact h q hq n
  · rcases List.mem_append.mp hp with hp | hp
    · exact h p hp n
    · simp only [List.mem_singleton] at hp
      subst hp
      exact hv n
theorem VB.nil : VB [] := fun p hp => by cases hp
section
variable {S : Sto} {c0 c1 : Cell} {kvs : List (Fw.Key × D)} {x : List Nat} {y : D}
theorem c2_put0 (h : kvs.length < 16777216) : setsubD (S ++ [.dct kvs, c1]) (.loc S.length) (.str (sl x)) y = some (S ++ [.dct (putK (.inr (sl x)) y kvs), c1]) := by
  unfold setsubD
  simp only [c2_get0, c2_set0, sizeLine_eq, keyOf, obs]
  rw [if_pos h]
theorem fin_dct (h : VB kvs) : fin (.keep 0 true) S (.loc S.length) (S ++ [.dct kvs, c1]) = some (.dct (kvs.map (·.1)) (kvs.map (·.2)), S) := by
  have hf : frzD (S.length + 0) (S ++ [.dct kvs, c1]) (.loc S.length) = .dct (kvs.map (·.1)) (kvs.map (·.2)) := by
    unfold frzD
    simp only [Nat.add_zero, Nat.le_refl, if_true, c2_get0]
  have hb : (D.dct (kvs.map (·.1)) (kvs.map (·.2))).bel (S.length + 0) = true := by
    unfold D.bel
    rw [bels_all, List.all_map, List.all_eq_true]
    intro p hp
    exact h p hp _
  have ht : (S ++ [Cell.dct kvs, c1]).take (S.length + 0) = S := by rw [Nat.add_zero, List.take_left']; rfl
  unfold fin
  simp only [if_true]
  rw [hf, ht, if_pos ⟨by rw [Nat.add_zero] at ht; exact ht, hb, by simp⟩]
theorem fin_keepD (h : VB kvs) : fin (.keep 1 false) S (.loc S.length) (S ++ [.dct kvs, c1]) = some (.loc S.length, S ++ [.dct kvs]) := fin_keep1 (by
  unfold Cell.bel
  simp only
  rw [List.all_eq_true]
  intro p hp
  exact h p hp _)
end
end K03

set_option Elab.async false
set_option linter.all false
set_option maxRecDepth 100000
set_option exponentiation.threshold 1000000
namespace K03
open PySem Fw
/-! ### free_in -/
def sk (l : List Tr) : List D := l.reverse.map Pd
theorem sk_cons (t : Tr) (l : List Tr) : sk (t :: l) = sk l ++ [Pd t] := by simp [sk]
theorem sk_len (l : List Tr) : (sk l).length = l.length := by simp [sk]
theorem sk_data : ∀ l : List Tr, (∀ t ∈ l, ∀ v ∈ frs t, okW v) → D.datas (sk l) = true
  | [], h => by simp [sk]
  | t :: l, h => by
    rw [sk_cons, datas_app, sk_data l (fun q hq => h q (List.mem_cons_of_mem _ hq))]
    simp [Pd_data _ (h t List.mem_cons_self)]
def szt : List Tr → Nat
  | [] => 0
  | t :: l => t.sz + szt l
theorem szt_len (l : List Tr) : l.length ≤ szt l := by
  induction l with
  | nil => simp [szt]
  | cons q l ih => have := sz_pos q; simp only [szt, List.length_cons]; omega
noncomputable def frL (d : Nat) : Fw.Env → Sto → Option Out := whileL (evE (ctxP pr d) (.cmp .ne (.slot 2) (.lst false []))) (evSs (ctxP pr d) [(.asg (.star false [(.name 3)] 4) (.bm .list .pop (.slot 2) [])), (.ite (.cmp .eq (.slot 3) (.cst (.str "name"))) [(.setsub (.slot 1) (.sub (.slot 4) (.cst (.int 0))) (.cst (.bl true)))] [(.ite (.cmp .ne (.slot 3) (.cst (.str "bound"))) [(.ex (.bm .list .extend (.slot 2) [(.slot 4)]))] [])])])
theorem addK_nodup {k : Fw.Key} {ks : List Fw.Key} (h : ks.Nodup) : (addK k ks).Nodup := by
  unfold addK
  split
  · exact h
  · rename_i hk
    rw [List.nodup_append]
    refine ⟨h, by simp, fun a ha b hb => ?_⟩
    simp only [List.mem_singleton] at hb
    subst hb
    rintro rfl
    exact hk (List.any_eq_true.mpr ⟨a, ha, decide_eq_true rfl⟩)
theorem free_loop {d : Nat} {S : Sto} {x0 : D} : ∀ (n : Nat) (l : List Tr) (kvs : List (Fw.Key × D)) (a3 a4 : Option D), szt l ≤ n → kvs.length + szt l ≤ 1000000 → (∀ t ∈ l, ∀ v ∈ frs t, okW v) → VB kvs →
    ∃ a3' a4' kvs', frL d [some x0, some (.loc S.length), some (.loc (S.length + 1)), a3, a4] (S ++ [.dct kvs, .lst (sk l)]) = some (.nx [some x0, some (.loc S.length), some (.loc (S.length + 1)), a3', a4'] (S ++ [.dct kvs', .lst []])) ∧ VB kvs' ∧ kvs'.length ≤ kvs.length + szt l ∧ ((kvs.map (·.1)).Nodup → (kvs'.map (·.1)).Nodup) ∧ ∀ k, k ∈ kvs'.map (·.1) ↔ (k ∈ kvs.map (·.1) ∨ ∃ t ∈ l, ∃ w ∈ frs t, k = .inr (sl w))
  | n, [], kvs, a3, a4, hn, ha, hq, hv => by
    refine ⟨a3, a4, kvs, ?_, hv, by omega, id, fun k => by simp⟩
    have he : eqD (S ++ [.dct kvs, .lst []]) (.loc (S.length + 1)) (.lst []) = some true := by
      rw [eqD_loc (xs := []) (by simp)]; exact eqD_nil (by simp)
    unfold frL
    rw [whileL_step]
    simp [sk, he, mkLst, -Option.map_map]
  | 0, q :: l, kvs, a3, a4, hn, ha, hq, hv => by have := sz_pos q; simp only [szt] at hn; omega
  | n + 1, t :: l, kvs, a3, a4, hn, ha, hq, hv => by
    have hqt := hq t List.mem_cons_self
    simp only [szt] at hn ha
    have hl := szt_len l
    have hz := sz_pos t
    have he : eqD (S ++ [.dct kvs, .lst (sk l ++ [Pd t])]) (.loc (S.length + 1)) (.lst []) = some false := by
      rw [eqD_loc c2_get1, eqD_nil (by rw [← sk_cons]; exact sk_data _ hq)]
      simp
    have hpop := c2_pop (S := S) (c0 := .dct kvs) (xs := sk l) (x := Pd t)
    have hck := c2_chk1 (S := S) (c0 := .dct kvs) (xs := sk l ++ [Pd t])
    have hck2 := c2_chk1 (S := S) (c0 := .dct kvs) (xs := sk l)
    have hl' : ∀ t ∈ l, ∀ v ∈ frs t, okW v := fun q h => hq q (List.mem_cons_of_mem _ h)
    rw [sk_cons]
    cases t with
    | nm w =>
      have hlen := putK_len (k := .inr (sl w)) (v := .bl true) (kvs := kvs)
      obtain ⟨a3', a4', kvs', ih, hv', hn', hnd, hk⟩ := free_loop (d := d) (S := S) (x0 := x0) n l (putK (.inr (sl w)) (.bl true) kvs) (some (.str (sl [110, 97, 109, 101]))) (some (.lst [.str (sl w)])) (by simp only [Tr.sz] at hn; omega) (by simp only [Tr.sz] at ha; omega) hl' (hv.put fun _ => by unfold D.bel; rfl)
      refine ⟨a3', a4', kvs', ?_, hv', by simp only [szt, Tr.sz] at hn' ⊢; omega, fun h => hnd (by rw [putK_keys]; exact addK_nodup h), fun k => ?_⟩
      · have hp := c2_put0 (S := S) (c1 := .lst (sk l)) (kvs := kvs) (x := w) (y := .bl true) (by omega)
        rw [← ih]
        simp only [Pd] at he hpop hck ⊢
        conv => lhs; unfold frL; rw [whileL_step]
        simp [he, mkLst, hck, hpop, hp, frL, -Option.map_map]
      · rw [hk, putK_keys, mem_addK]
        simp only [List.mem_cons, exists_eq_or_imp, frs, List.not_mem_nil, or_false, exists_eq_left]
        exact ⟨fun h => h.elim (fun h => h.elim .inl fun h => .inr (.inl h)) fun h => .inr (.inr h), fun h => h.elim (fun h => .inl (.inl h)) fun h => h.elim (fun h => .inl (.inr h)) .inr⟩
    | bd w =>
      obtain ⟨a3', a4', kvs', ih, hv', hn', hnd, hk⟩ := free_loop (d := d) (S := S) (x0 := x0) n l kvs (some (.str (sl [98, 111, 117, 110, 100]))) (some (.lst [.int w])) (by simp only [Tr.sz] at hn; omega) (by simp only [Tr.sz] at ha; omega) hl' hv
      refine ⟨a3', a4', kvs', ?_, hv', by simp only [szt, Tr.sz] at hn' ⊢; omega, hnd, fun k => ?_⟩
      · rw [← ih]
        simp only [Pd] at he hpop hck ⊢
        conv => lhs; unfold frL; rw [whileL_step]
        simp [he, mkLst, hck, hpop, frL, -Option.map_map]
      · rw [hk]
        simp only [List.mem_cons, exists_eq_or_imp, frs, List.not_mem_nil, false_and, exists_false, false_or]
    | fn b =>
      simp only [Tr.sz] at hn ha
      obtain ⟨a3', a4', kvs', ih, hv', hn', hnd, hk⟩ := free_loop (d := d) (S := S) (x0 := x0) n (b :: l) kvs (some (.str (sl [102, 117, 110]))) (some (.lst [Pd b])) (by simp only [szt]; omega) (by simp only [szt]; omega) (fun q h => by
        rcases List.mem_cons.mp h with rfl | h
        · exact hqt
        · exact hl' q h) hv
      refine ⟨a3', a4', kvs', ?_, hv', by simp only [szt, Tr.sz] at hn' ⊢; omega, hnd, fun k => ?_⟩
      · have e2 := c2_ext1 (S := S) (c0 := .dct kvs) (xs := sk l) (ys := [Pd b]) (by rw [sk_len]; simp; omega)
        rw [← ih, sk_cons]
        rw [Pd] at he hpop hck ⊢
        conv => lhs; unfold frL; rw [whileL_step]
        simp [he, mkLst, hck, hck2, hpop, e2, frL, -Option.map_map]
      · rw [hk]
        simp only [List.mem_cons, exists_eq_or_imp, frs]
    | ap f g =>
      simp only [Tr.sz] at hn ha
      obtain ⟨a3', a4', kvs', ih, hv', hn', hnd, hk⟩ := free_loop (d := d) (S := S) (x0 := x0) n (g :: f :: l) kvs (some (.str (sl [112, 117, 116]))) (some (.lst [Pd f, Pd g])) (by simp only [szt]; omega) (by simp only [szt]; omega) (fun q h => by
        rcases List.mem_cons.mp h with rfl | h
        · exact fun v hv => hqt v (by simp [frs, hv])
        · rcases List.mem_cons.mp h with rfl | h
          · exact fun v hv => hqt v (by simp [frs, hv])
          · exact hl' q h) hv
      refine ⟨a3', a4', kvs', ?_, hv', by simp only [szt, Tr.sz] at hn' ⊢; omega, hnd, fun k => ?_⟩
      · have e2 := c2_ext1 (S := S) (c0 := .dct kvs) (xs := sk l) (ys := [Pd f, Pd g]) (by rw [sk_len]; simp; omega)
        rw [← ih, sk_cons, sk_cons]
        rw [Pd] at he hpop hck ⊢
        conv => lhs; unfold frL; rw [whileL_step]
        simp [he, mkLst, hck, hck2, hpop, e2, frL, -Option.map_map]
      · rw [hk]
        simp only [List.mem_cons, exists_eq_or_imp, frs, List.mem_append]
        constructor
        · rintro (h | ⟨w, h, e⟩ | ⟨w, h, e⟩ | h)
          · exact .inl h
          · exact .inr (.inl ⟨w, .inr h, e⟩)
          · exact .inr (.inl ⟨w, .inl h, e⟩)
          · exact .inr (.inr h)
        · rintro (h | ⟨w, h | h, e⟩ | h)
          · exact .inl h
          · exact .inr (.inr (.inl ⟨w, h, e⟩))
          · exact .inr (.inl ⟨w, h, e⟩)
          · exact .inr (.inr (.inr h))
theorem c_freein2 {d : Nat} {S : Sto} {t : Tr} (hz : t.sz ≤ 100000) (hv : ∀ v ∈ frs t, okW v) : ∃ ks vs, callF pr (d + 1) "free_in" [Pd t] S = some (.dct ks vs, S) ∧ (∀ w, (ks.any fun q => decide (q = .inr (sl w))) = decide (w ∈ frs t)) ∧ ks.length ≤ t.sz ∧ ks.Nodup ∧ ∀ k ∈ ks, ∃ w ∈ frs t, k = .inr (sl w) := by
  obtain ⟨a3, a4, kvs, e, hb, hn, hnd, hk⟩ := free_loop (d := d) (S := S) (x0 := Pd t) (szt [t]) [t] [] none none (Nat.le_refl _) (by simp only [szt, List.length_nil]; omega) (fun q h => by
    simp only [List.mem_singleton] at h
    subst h
    exact hv) VB.nil
  refine ⟨kvs.map (·.1), kvs.map (·.2), ?_, fun w => ?_, ?_, hnd List.nodup_nil, fun k h => ?_⟩
  · have hfin := fin_dct (S := S) (c1 := .lst []) hb
    unfold frL at e
    rw [callF_step pf_free_in rfl]
    simp [f_free_in, mkLst, -Option.map_map]
    simp [sk] at e
    rw [e]
    simp only [finO_rt, seqO_nx, obs, oms]
    simp [-List.map_map]
    exact hfin
  · rw [Bool.eq_iff_iff]
    simp only [List.any_eq_true, decide_eq_true_eq, exists_eq_right]
    rw [hk]
    simp only [List.map_nil, List.not_mem_nil, false_or, List.mem_singleton, exists_eq_left, Sum.inr.injEq, sl_inj]
    exact ⟨fun ⟨v, h, e⟩ => e ▸ h, fun h => ⟨w, h, rfl⟩⟩
  · rw [List.length_map]
    simp only [szt, List.length_nil] at hn
    omega
  · have := (hk k).mp h
    simpa using this
theorem c_freein {d : Nat} {S : Sto} {t : Tr} (hz : t.sz ≤ 100000) (hv : ∀ v ∈ frs t, okW v) : ∃ ks vs, callF pr (d + 1) "free_in" [Pd t] S = some (.dct ks vs, S) ∧ ∀ w, (ks.any fun q => decide (q = .inr (sl w))) = decide (w ∈ frs t) := by
  obtain ⟨ks, vs, e, h, _, _, _⟩ := c_freein2 (d := d) (S := S) hz hv
  exact ⟨ks, vs, e, h⟩
end K03

set_option Elab.async false
set_option linter.all false
set_option maxRecDepth 100000
set_option exponentiation.threshold 1000000
namespace K03
open PySem Fw
/-! ### addresses_in, deepest -/
def ads : Tr → List Nat → List (List Nat)
  | .nm _, a => [a]
  | .bd _, a => [a]
  | .fn b, a => a :: ads b (a ++ [98])
  | .ap f g, a => a :: (ads f (a ++ [102]) ++ ads g (a ++ [103]))
theorem ads_le : ∀ (t : Tr) (a v : List Nat), v ∈ ads t a → v.count 98 ≤ a.count 98 + t.dp
  | .nm _, a, v, h => by simp only [ads, List.mem_singleton] at h; subst h; omega
  | .bd _, a, v, h => by simp only [ads, List.mem_singleton] at h; subst h; omega
  | .fn b, a, v, h => by
    simp only [ads, List.mem_cons] at h
    rcases h with rfl | h
    · omega
    · have := ads_le b _ v h
      simp only [List.count_append, List.count_singleton_self, Tr.dp] at this ⊢
      omega
  | .ap f g, a, v, h => by
    simp only [ads, List.mem_cons, List.mem_append] at h
    simp only [Tr.dp]
    rcases h with rfl | h | h
    · omega
    · have := ads_le f _ v h
      simp only [List.count_append] at this
      have e : List.count 98 [102] = 0 := rfl
      omega
    · have := ads_le g _ v h
      simp only [List.count_append] at this
      have e : List.count 98 [103] = 0 := rfl
      omega
theorem ads_ex : ∀ (t : Tr) (a : List Nat), ∃ v ∈ ads t a, v.count 98 = a.count 98 + t.dp
  | .nm _, a => ⟨a, by simp [ads], rfl⟩
  | .bd _, a => ⟨a, by simp [ads], rfl⟩
  | .fn b, a => by
    obtain ⟨v, h, e⟩ := ads_ex b (a ++ [98])
    refine ⟨v, by simp [ads, h], ?_⟩
    simp only [List.count_append, List.count_singleton_self, Tr.dp] at e ⊢
    omega
  | .ap f g, a => by
    simp only [Tr.dp]
    by_cases h : f.dp ≤ g.dp
    · obtain ⟨v, h1, e⟩ := ads_ex g (a ++ [103])
      refine ⟨v, by simp [ads, h1], ?_⟩
      simp only [List.count_append] at e
      have e2 : List.count 98 [103] = 0 := rfl
      omega
    · obtain ⟨v, h1, e⟩ := ads_ex f (a ++ [102])
      refine ⟨v, by simp [ads, h1], ?_⟩
      simp only [List.count_append] at e
      have e2 : List.count 98 [102] = 0 := rfl
      omega
noncomputable def adL (d : Nat) : Fw.Env → Sto → Option Out := whileL (evE (ctxP pr d) (.cmp .ne (.slot 2) (.lst false []))) (evSs (ctxP pr d) [(.asg (.tup [(.name 3), (.star false [(.name 4)] 5)]) (.bm .list .pop (.slot 2) [])), (.setsub (.slot 1) (.slot 3) (.sub (.lst false [(.cst (.str "name")), (.slot 4)]) (.bi .int [(.cmp .isin (.slot 4) (.tup [(.cst (.str "fun")), (.cst (.str "put"))]))]))), (.ite (.cmp .eq (.slot 4) (.cst (.str "fun"))) [(.ex (.bm .list .append (.slot 2) [(.tup [(.bin .add (.slot 3) (.cst (.str "b"))), (.sub (.slot 5) (.cst (.int 0)))])]))] [(.ite (.cmp .eq (.slot 4) (.cst (.str "put"))) [(.ex (.bm .list .extend (.slot 2) [(.lst false [(.tup [(.bin .add (.slot 3) (.cst (.str "f"))), (.sub (.slot 5) (.cst (.int 0)))]), (.tup [(.bin .add (.slot 3) (.cst (.str "g"))), (.sub (.slot 5) (.cst (.int 1)))])])]))] [])])])
theorem in_fp {S : Sto} (t : Tr) : inD S (.str (sl (Ptag t))) (.tup [.str (sl [102, 117, 110]), .str (sl [112, 117, 116])]) = some (t.isFn || t.isAp) := by
  have h : inD S (.str (sl (Ptag t))) (.tup (frD [[102, 117, 110], [112, 117, 116]])) = if (D.str (sl (Ptag t))).flat then flatIn (.str (sl (Ptag t))) (frD [[102, 117, 110], [112, 117, 116]]) else none := by
    cases t <;> rfl
  rw [show [D.str (sl [102, 117, 110]), .str (sl [112, 117, 116])] = frD [[102, 117, 110], [112, 117, 116]] from rfl, h, flatIn_frD]
  cases t <;> simp [D.flat, Ptag, Tr.isFn, Tr.isAp]
theorem adr_loop {d : Nat} {S : Sto} {x0 : D} : ∀ (n : Nat) (l : List (List Nat × Tr)) (kvs : List (Fw.Key × D)) (a3 a4 a5 : Option D), szs l ≤ n → kvs.length + szs l ≤ 1000000 → (∀ q ∈ l, Okq q) → VB kvs →
    ∃ a3' a4' a5' kvs', adL d [some x0, some (.loc S.length), some (.loc (S.length + 1)), a3, a4, a5] (S ++ [.dct kvs, .lst (prs l)]) = some (.nx [some x0, some (.loc S.length), some (.loc (S.length + 1)), a3', a4', a5'] (S ++ [.dct kvs', .lst []])) ∧ VB kvs' ∧ kvs'.length ≤ kvs.length + szs l ∧ ((kvs.map (·.1)).Nodup → (kvs'.map (·.1)).Nodup) ∧ ∀ k, k ∈ kvs'.map (·.1) ↔ (k ∈ kvs.map (·.1) ∨ ∃ q ∈ l, ∃ w ∈ ads q.2 q.1, k = .inr (sl w))
  | n, [], kvs, a3, a4, a5, hn, ha, hq, hv => by
    refine ⟨a3, a4, a5, kvs, ?_, hv, by omega, id, fun k => by simp⟩
    have he : eqD (S ++ [.dct kvs, .lst []]) (.loc (S.length + 1)) (.lst []) = some true := by
      rw [eqD_loc (xs := []) (by simp)]; exact eqD_nil (by simp)
    unfold adL
    rw [whileL_step]
    simp [prs, he, mkLst, -Option.map_map]
  | 0, q :: l, kvs, a3, a4, a5, hn, ha, hq, hv => by have := sz_pos q.2; simp only [szs] at hn; omega
  | n + 1, (a, t) :: l, kvs, a3, a4, a5, hn, ha, hq, hv => by
    have hq0 := hq (a, t) List.mem_cons_self
    obtain ⟨q1, q2, q3⟩ := hq0
    simp only at q1 q2 q3
    simp only [szs] at hn ha
    have hl := szs_len l
    have hz := sz_pos t
    have hl' : ∀ q ∈ l, Okq q := fun q h => hq q (List.mem_cons_of_mem _ h)
    have he : eqD (S ++ [.dct kvs, .lst (prs l ++ [prD (a, t)])]) (.loc (S.length + 1)) (.lst []) = some false := by
      rw [eqD_loc c2_get1, eqD_nil (by rw [← prs_cons]; exact prs_data _ hq)]
      simp
    have hpop := c2_pop (S := S) (c0 := .dct kvs) (xs := prs l) (x := prD (a, t))
    have hck := c2_chk1 (S := S) (c0 := .dct kvs) (xs := prs l ++ [prD (a, t)])
    have hin : ∀ S, inD S (.str (sl (Ptag t))) (.tup [.str (sl [102, 117, 110]), .str (sl [112, 117, 116])]) = some (t.isFn || t.isAp) := fun S => in_fp t
    have hp : ∀ y, setsubD (S ++ [.dct kvs, .lst (prs l)]) (.loc S.length) (.str (sl a)) y = some (S ++ [.dct (putK (.inr (sl a)) y kvs), .lst (prs l)]) := fun y => c2_put0 (by omega)
    have hlen := fun v => putK_len (k := .inr (sl a)) (v := v) (kvs := kvs)
    rw [prs_cons]
    cases t with
    | nm w =>
      have hlen := hlen (.str (sl [110, 97, 109, 101]))
      obtain ⟨a3', a4', a5', kvs', ih, hv', hn', hnd, hk⟩ := adr_loop (d := d) (S := S) (x0 := x0) n l (putK (.inr (sl a)) (.str (sl [110, 97, 109, 101])) kvs) (some (.str (sl a))) (some (.str (sl [110, 97, 109, 101]))) (some (.lst [.str (sl w)])) (by simp only [Tr.sz] at hn; omega) (by simp only [Tr.sz] at ha; omega) hl' (hv.put fun _ => by unfold D.bel; rfl)
      refine ⟨a3', a4', a5', kvs', ?_, hv', by simp only [szs, Tr.sz]; omega, fun h => hnd (by rw [putK_keys]; exact addK_nodup h), fun k => ?_⟩
      · rw [← ih]
        simp only [prD, Pd, Ptag, Tr.isFn, Tr.isAp] at he hpop hck hin ⊢
        conv => lhs; unfold adL; rw [whileL_step]
        simp [he, mkLst, hck, hpop, hin, hp, biD, adL, -Option.map_map]
      · rw [hk, putK_keys, mem_addK]
        simp only [List.mem_cons, exists_eq_or_imp, ads, List.not_mem_nil, or_false, exists_eq_left]
        exact or_assoc
    | bd w =>
      have hlen := hlen (.str (sl [110, 97, 109, 101]))
      obtain ⟨a3', a4', a5', kvs', ih, hv', hn', hnd, hk⟩ := adr_loop (d := d) (S := S) (x0 := x0) n l (putK (.inr (sl a)) (.str (sl [110, 97, 109, 101])) kvs) (some (.str (sl a))) (some (.str (sl [98, 111, 117, 110, 100]))) (some (.lst [.int w])) (by simp only [Tr.sz] at hn; omega) (by simp only [Tr.sz] at ha; omega) hl' (hv.put fun _ => by unfold D.bel; rfl)
      refine ⟨a3', a4', a5', kvs', ?_, hv', by simp only [szs, Tr.sz]; omega, fun h => hnd (by rw [putK_keys]; exact addK_nodup h), fun k => ?_⟩
      · rw [← ih]
        simp only [prD, Pd, Ptag, Tr.isFn, Tr.isAp] at he hpop hck hin ⊢
        conv => lhs; unfold adL; rw [whileL_step]
        simp [he, mkLst, hck, hpop, hin, hp, biD, adL, -Option.map_map]
      · rw [hk, putK_keys, mem_addK]
        simp only [List.mem_cons, exists_eq_or_imp, ads, List.not_mem_nil, or_false, exists_eq_left]
        exact or_assoc
    | fn b =>
      have hlen := hlen (.str (sl [102, 117, 110]))
      simp only [Tr.sz, Tr.ht] at hn ha q2
      obtain ⟨a3', a4', a5', kvs', ih, hv', hn', hnd, hk⟩ := adr_loop (d := d) (S := S) (x0 := x0) n ((a ++ [98], b) :: l) (putK (.inr (sl a)) (.str (sl [102, 117, 110])) kvs) (some (.str (sl a))) (some (.str (sl [102, 117, 110]))) (some (.lst [Pd b])) (by simp only [szs]; omega) (by simp only [szs]; omega) (fun q h => by
        rcases List.mem_cons.mp h with rfl | h
        · exact ⟨by rw [okL_app, q1]; rfl, by simp only [List.length_append, List.length_cons, List.length_nil]; omega, q3⟩
        · exact hl' q h) (hv.put fun _ => by unfold D.bel; rfl)
      refine ⟨a3', a4', a5', kvs', ?_, hv', by simp only [szs, Tr.sz] at hn' ⊢; omega, fun h => hnd (by rw [putK_keys]; exact addK_nodup h), fun k => ?_⟩
      · have s1 : ∀ S, addI S (.str (sl a)) (.str (sl [98])) = some (.str (sl (a ++ [98]))) := fun S => addI_str (by simp; omega)
        have hck2 := c2_chk1 (S := S) (c0 := .dct (putK (.inr (sl a)) (.str (sl [102, 117, 110])) kvs)) (xs := prs l)
        have e2 := c2_app1 (S := S) (c0 := .dct (putK (.inr (sl a)) (.str (sl [102, 117, 110])) kvs)) (xs := prs l) (y := prD (a ++ [98], b)) (by rw [prs_len]; omega)
        rw [← ih, prs_cons]
        simp only [prD, Ptag, Tr.isFn, Tr.isAp] at he hpop hck hin e2 ⊢
        rw [show Pd (.fn b) = .tup [.str (sl [102, 117, 110]), Pd b] from rfl] at he hpop hck ⊢
        conv => lhs; unfold adL; rw [whileL_step]
        simp [he, mkLst, hck, hck2, hpop, hin, hp, s1, e2, biD, adL, -Option.map_map]
      · rw [hk, putK_keys, mem_addK]
        simp only [List.mem_cons, exists_eq_or_imp, ads]
        simp only [or_assoc]
    | ap f g =>
      have hlen := hlen (.str (sl [112, 117, 116]))
      simp only [Tr.sz, Tr.ht] at hn ha q2
      obtain ⟨a3', a4', a5', kvs', ih, hv', hn', hnd, hk⟩ := adr_loop (d := d) (S := S) (x0 := x0) n ((a ++ [103], g) :: (a ++ [102], f) :: l) (putK (.inr (sl a)) (.str (sl [112, 117, 116])) kvs) (some (.str (sl a))) (some (.str (sl [112, 117, 116]))) (some (.lst [Pd f, Pd g])) (by simp only [szs]; omega) (by simp only [szs]; omega) (fun q h => by
        rcases List.mem_cons.mp h with rfl | h
        · exact ⟨by rw [okL_app, q1]; rfl, by simp only [List.length_append, List.length_cons, List.length_nil]; omega, fun v hv => q3 v (by simp [frs, hv])⟩
        · rcases List.mem_cons.mp h with rfl | h
          · exact ⟨by rw [okL_app, q1]; rfl, by simp only [List.length_append, List.length_cons, List.length_nil]; omega, fun v hv => q3 v (by simp [frs, hv])⟩
          · exact hl' q h) (hv.put fun _ => by unfold D.bel; rfl)
      refine ⟨a3', a4', a5', kvs', ?_, hv', by simp only [szs, Tr.sz] at hn' ⊢; omega, fun h => hnd (by rw [putK_keys]; exact addK_nodup h), fun k => ?_⟩
      · have s1 : ∀ S, addI S (.str (sl a)) (.str (sl [102])) = some (.str (sl (a ++ [102]))) := fun S => addI_str (by simp; omega)
        have s2 : ∀ S, addI S (.str (sl a)) (.str (sl [103])) = some (.str (sl (a ++ [103]))) := fun S => addI_str (by simp; omega)
        have hck2 := c2_chk1 (S := S) (c0 := .dct (putK (.inr (sl a)) (.str (sl [112, 117, 116])) kvs)) (xs := prs l)
        have e2 := c2_ext1 (S := S) (c0 := .dct (putK (.inr (sl a)) (.str (sl [112, 117, 116])) kvs)) (xs := prs l) (ys := [prD (a ++ [102], f), prD (a ++ [103], g)]) (by rw [prs_len]; simp; omega)
        rw [← ih, prs_cons, prs_cons]
        simp only [prD, Ptag, Tr.isFn, Tr.isAp, List.append_assoc, List.cons_append, List.nil_append] at he hpop hck hin e2 ⊢
        rw [show Pd (.ap f g) = .tup [.str (sl [112, 117, 116]), Pd f, Pd g] from rfl] at he hpop hck ⊢
        conv => lhs; unfold adL; rw [whileL_step]
        simp [he, mkLst, hck, hck2, hpop, hin, hp, s1, s2, e2, biD, adL, -Option.map_map]
      · rw [hk, putK_keys, mem_addK]
        simp only [List.mem_cons, exists_eq_or_imp, ads, List.mem_append]
        constructor
        · rintro ((h | h) | ⟨w, h, e⟩ | ⟨w, h, e⟩ | h)
          · exact .inl h
          · exact .inr (.inl (.inl h))
          · exact .inr (.inl (.inr ⟨w, .inr h, e⟩))
          · exact .inr (.inl (.inr ⟨w, .inl h, e⟩))
          · exact .inr (.inr h)
        · rintro (h | (h | ⟨w, h | h, e⟩) | h)
          · exact .inl (.inl h)
          · exact .inl (.inr h)
          · exact .inr (.inr (.inl ⟨w, h, e⟩))
          · exact .inr (.inl ⟨w, h, e⟩)
          · exact .inr (.inr (.inr h))
theorem c_adr2 {d : Nat} {S : Sto} {t : Tr} (hz : t.sz ≤ 100000) (hh : t.ht ≤ 1000) (hv : ∀ v ∈ frs t, okW v) : ∃ kvs, callF pr (d + 1) "addresses_in" [Pd t] S = some (.loc S.length, S ++ [.dct kvs]) ∧ kvs.length ≤ 100000 ∧ (kvs.map (·.1)).Nodup ∧ ∀ k, k ∈ kvs.map (·.1) ↔ ∃ w ∈ ads t [], k = .inr (sl w) := by
  obtain ⟨a3, a4, a5, kvs, e, hb, hn, hnd, hk⟩ := adr_loop (d := d) (S := S) (x0 := Pd t) (szs [([], t)]) [([], t)] [] none none none (Nat.le_refl _) (by simp only [szs, List.length_nil]; omega) (fun q h => by
    simp only [List.mem_singleton] at h
    subst h
    exact ⟨rfl, by simp only [List.length_nil]; omega, hv⟩) VB.nil
  refine ⟨kvs, ?_, by simp only [szs, List.length_nil] at hn; omega, hnd List.nodup_nil, fun k => ?_⟩
  · have hfin := fin_keepD (S := S) (c1 := .lst []) hb
    unfold adL at e
    rw [callF_step pf_addresses_in rfl]
    simp [f_addresses_in, mkLst, -Option.map_map]
    simp [prs, prD] at e
    rw [e]
    simp
    exact hfin
  · rw [hk]
    simp only [List.map_nil, List.not_mem_nil, false_or, List.mem_singleton, exists_eq_left]
theorem c_adr {d : Nat} {S : Sto} {t : Tr} (hz : t.sz ≤ 100000) (hh : t.ht ≤ 1000) (hv : ∀ v ∈ frs t, okW v) : ∃ kvs, callF pr (d + 1) "addresses_in" [Pd t] S = some (.loc S.length, S ++ [.dct kvs]) ∧ kvs.length ≤ 100000 ∧ ∀ k, k ∈ kvs.map (·.1) ↔ ∃ w ∈ ads t [], k = .inr (sl w) := by
  obtain ⟨kvs, e, h, _, k⟩ := c_adr2 (d := d) (S := S) hz hh hv
  exact ⟨kvs, e, h, k⟩
theorem keys_lst {P : List Nat → Prop} : ∀ ks : List Fw.Key, (∀ k ∈ ks, ∃ a, P a ∧ k = .inr (sl a)) → ∃ as : List (List Nat), ks = as.map (fun a => .inr (sl a)) ∧ ∀ a ∈ as, P a
  | [], _ => ⟨[], rfl, fun a h => by cases h⟩
  | k :: ks, h => by
    obtain ⟨as, e, ha⟩ := keys_lst ks fun k hk => h k (List.mem_cons_of_mem _ hk)
    obtain ⟨a, h1, h2⟩ := h k List.mem_cons_self
    refine ⟨a :: as, by rw [e, h2]; rfl, fun b hb => ?_⟩
    rcases List.mem_cons.mp hb with rfl | hb
    · exact h1
    · exact ha b hb
theorem allInt_map : ∀ l : List Int, allInt (l.map D.int) = some l
  | [] => rfl
  | x :: l => by
    show (allInt (l.map D.int)).map (x :: ·) = _
    rw [allInt_map l]; rfl
theorem maxI_eq {M : Int} : ∀ (l : List Int) (n : Int), (∀ x ∈ n :: l, x ≤ M) → M ∈ n :: l → maxI n l = M
  | [], n, h1, h2 => by simp only [List.mem_singleton] at h2; rw [h2]; rfl
  | x :: l, n, h1, h2 => by
    show maxI (if x > n then x else n) l = M
    have hn := h1 n List.mem_cons_self
    have hx := h1 x (by simp)
    have hl : ∀ y ∈ l, y ≤ M := fun y hy => h1 y (by simp [hy])
    have hm : M = n ∨ M = x ∨ M ∈ l := by simpa using h2
    split
    · refine maxI_eq l x (fun y hy => ?_) ?_
      · rcases List.mem_cons.mp hy with rfl | hy
        · exact hx
        · exact hl y hy
      · rcases hm with h | h | h
        · omega
        · exact h ▸ List.mem_cons_self
        · exact List.mem_cons_of_mem _ h
    · refine maxI_eq l n (fun y hy => ?_) ?_
      · rcases List.mem_cons.mp hy with rfl | hy
        · exact hn
        · exact hl y hy
      · rcases hm with h | h | h
        · exact h ▸ List.mem_cons_self
        · have : M = n := by omega
          exact this ▸ List.mem_cons_self
        · exact List.mem_cons_of_mem _ h
theorem hold_fk {ks : List Fw.Key} {S S' : Sto} : holdD [.fkeys ks] S S' := fun n h => by simp at h
theorem comp_cnt {C : Fw.Ctx} {P : Sto → Prop} {S : Sto} (hP : P S) {a0 : Option D} : ∀ (l : List (List Nat)) (a1 : Option D), compL P (evE C (.bm .str .count (.slot 1) [(.cst (.str (sl [98])))])) (evCs C []) (.name 1) (frD l) [a0, a1] S = some ((l.map fun a => ((a.count 98 : Nat) : Int)).map D.int, S)
  | [], a1 => compL_nil hP
  | a :: l, a1 => by
    have ih := comp_cnt (C := C) (P := P) hP (a0 := a0) l (some (.str (sl a)))
    have hc : ∀ S, bmD .count (.str (sl a)) [.str (sl [98])] S = some (.int ((a.count 98 : Nat) : Int), S) := fun S => by
      rw [← count_b]; rfl
    have ht : ∀ S, chkTy .str S (.str (sl a)) = true := fun S => rfl
    have ih' := comp_cnt (C := C) (P := P) hP (a0 := a0) l a1
    rw [frD_cons, compL_cons hP]
    simp [ht, hc, ih', -Option.map_map, -List.map_map]
theorem c_deep {d : Nat} {S : Sto} {t : Tr} (hz : t.sz ≤ 100000) (hh : t.ht ≤ 1000) (hv : ∀ v ∈ frs t, okW v) : callF pr (d + 2) "deepest" [Pd t] S = some (.int (t.dp : Nat), S) := by
  obtain ⟨kvs, e1, hlen, hk⟩ := c_adr (d := d) (S := S) hz hh hv
  obtain ⟨as, eas, has⟩ := keys_lst (P := fun a => a ∈ ads t []) (kvs.map (·.1)) fun k h => (hk k).mp h
  have hall : ∀ a ∈ ads t [], a ∈ as := fun a ha => by
    have := (hk (.inr (sl a))).mpr ⟨a, ha, rfl⟩
    rw [eas, List.mem_map] at this
    obtain ⟨b, hb, e⟩ := this
    have e : sl b = sl a := Sum.inr.inj e
    rw [sl_inj] at e
    exact e ▸ hb
  have e2 : frzkD S (.loc S.length, S ++ [.dct kvs]) = some (.fkeys (as.map fun a => .inr (sl a)), S) := by
    unfold frzkD
    simp [← eas]
  have e3 : itemsD .keys [.fkeys (as.map fun a => .inr (sl a))] S = some (frD as) := by
    have : itemsD .keys [.fkeys (as.map fun a => .inr (sl a))] S = some ((as.map fun a => .inr (sl a)).map keyD) := rfl
    rw [this, List.map_map]; rfl
  have e4 := comp_cnt (C := ctxP pr (d + 1)) (P := holdD [.fkeys (as.map fun a => .inr (sl a))] S) (S := S) hold_fk (a0 := some (Pd t)) as none
  have hl : as.length = kvs.length := by
    have := congrArg List.length eas
    rw [List.length_map, List.length_map] at this
    exact this.symm
  have e5 : mkLst false ((as.map fun a => ((a.count 98 : Nat) : Int)).map D.int) S = some (.lst ((as.map fun a => ((a.count 98 : Nat) : Int)).map D.int), S) := by
    unfold mkLst
    rw [sizeLine_eq, if_pos (by rw [List.length_map, List.length_map]; omega)]; rfl
  have e6 : biD .max [.lst ((as.map fun a => ((a.count 98 : Nat) : Int)).map D.int)] S = some (.int (t.dp : Nat)) := by
    have h : biD .max [.lst ((as.map fun a => ((a.count 98 : Nat) : Int)).map D.int)] S = ((allInt ((as.map fun a => ((a.count 98 : Nat) : Int)).map D.int)).bind fun ns => match ns with
      | [] => none
      | n :: r => some (maxI n r)).map D.int := rfl
    rw [h, allInt_map, obs]
    obtain ⟨v, hv1, hv2⟩ := ads_ex t []
    have hva := hall v hv1
    simp only [List.count_nil, Nat.zero_add] at hv2
    have hmem : ((t.dp : Nat) : Int) ∈ as.map fun a => ((a.count 98 : Nat) : Int) := by
      rw [List.mem_map]
      exact ⟨v, hva, by rw [hv2]⟩
    have hle : ∀ x ∈ as.map fun a => ((a.count 98 : Nat) : Int), x ≤ ((t.dp : Nat) : Int) := fun x hx => by
      rw [List.mem_map] at hx
      obtain ⟨a, ha, rfl⟩ := hx
      have := ads_le t [] a (has a ha)
      simp only [List.count_nil, Nat.zero_add] at this
      omega
    generalize as.map (fun a => ((a.count 98 : Nat) : Int)) = L at *
    cases L with
    | nil => cases hmem
    | cons n r => simp only [oms]; rw [maxI_eq r n hle hmem]
  rw [callF_step pf_deepest rfl]
  simp [f_deepest, ev_frzk, e1, e2, e3, e4, e5, e6, -Option.map_map, -List.map_map]
end K03

set_option Elab.async false
set_option linter.all false
set_option maxRecDepth 100000
set_option exponentiation.threshold 1000000
namespace K03
open PySem Fw
/-! ### fresh_words -/
section
variable {S : Sto} {c0 : Cell} {xs ys : List D} {x y : D}
theorem c1_get : (S ++ [c0])[S.length]? = some c0 := by simp
theorem c1_set {c : Cell} : (S ++ [c0]).set S.length c = S ++ [c] := by rw [List.set_append_right _ _ (Nat.le_refl _), Nat.sub_self]; rfl
theorem c1_chk : chkTy .list (S ++ [.lst xs]) (.loc S.length) = true := by unfold chkTy; simp only [c1_get]
theorem c1_app (h : xs.length < 16777216) : bmD .append (.loc S.length) [y] (S ++ [.lst xs]) = some (.non, S ++ [.lst (xs ++ [y])]) := by
  unfold bmD
  simp only [c1_get, c1_set, sizeLine_eq]
  rw [if_pos h]
theorem c1_len : biD .len [.loc S.length] (S ++ [.lst xs]) = some (.int xs.length) := by
  unfold biD lenD
  simp only [c1_get]
  rfl
theorem fin_lst (h : D.bels S.length xs = true) : fin (.keep 0 true) S (.loc S.length) (S ++ [.lst xs]) = some (.lst xs, S) := by
  have hf : frzD (S.length + 0) (S ++ [.lst xs]) (.loc S.length) = .lst xs := by
    unfold frzD
    simp only [Nat.add_zero, Nat.le_refl, if_true, c1_get]
  have hb : (D.lst xs).bel (S.length + 0) = true := by
    unfold D.bel
    exact h
  have ht : (S ++ [Cell.lst xs]).take (S.length + 0) = S := by rw [Nat.add_zero, List.take_left']; rfl
  unfold fin
  simp only [if_true]
  rw [hf, ht, if_pos ⟨by rw [Nat.add_zero] at ht; exact ht, hb, by simp⟩]
end
def fw (fr : List (List Nat)) (n : Nat) : List (List Nat) := (W2.take n).filter fun w => decide (w ∉ fr)
theorem w2_len : W2.length = 702 := by decide +kernel
theorem fw_succ {fr : List (List Nat)} {n : Nat} (h : n < 702) : fw fr (n + 1) = fw fr n ++ (if wn n ∈ fr then [] else [wn n]) := by
  unfold fw
  have e : W2.take (n + 1) = W2.take n ++ [wn n] := by
    rw [List.take_succ, w2_wn n h]; rfl
  rw [e, List.filter_append]
  congr 1
  by_cases hw : wn n ∈ fr <;> simp [hw]
theorem fw_take {fr : List (List Nat)} {n : Nat} : (W2.filter fun w => decide (w ∉ fr)).take (fw fr n).length = fw fr n := by
  have e : (W2.filter fun w => decide (w ∉ fr)) = fw fr n ++ (W2.drop n).filter fun w => decide (w ∉ fr) := by
    unfold fw
    rw [← List.filter_append, List.take_append_drop]
  rw [e, List.take_left']
  rfl
theorem in_dct {S : Sto} {w : List Nat} {ks : List Fw.Key} {vs : List D} {b : Bool} (h : (ks.any fun q => decide (q = .inr (sl w))) = b) : inD S (.str (sl w)) (.dct ks vs) = some b := by
  have e : inD S (.str (sl w)) (.dct ks vs) = some (ks.any fun q => decide (q = .inr (sl w))) := rfl
  rw [e, h]
noncomputable def fhL (d : Nat) : Fw.Env → Sto → Option Out := whileL (evE (ctxP pr d) (.cmp .lt (.bi .len [(.slot 3)]) (.slot 1))) (evSs (ctxP pr d) [(.ite (.cmp .notin (.call "word_number" [(.slot 4)] []) (.slot 2)) [(.ex (.bm .list .append (.slot 3) [(.call "word_number" [(.slot 4)] [])]))] []), (.aug 4 .add (.cst (.int 1)))])
theorem fresh_loop {d many : Nat} {S : Sto} {x0 : D} {ks : List Fw.Key} {vs : List D} {fr : List (List Nat)} (hk : ∀ w, (ks.any fun q => decide (q = .inr (sl w))) = decide (w ∈ fr)) (hm : many ≤ (W2.filter fun w => decide (w ∉ fr)).length) : ∀ (m n : Nat), n + m = 702 → (fw fr n).length ≤ many →
    ∃ x, fhL (d + 1) [some x0, some (.int (many : Int)), some (.dct ks vs), some (.loc S.length), some (.int (n : Int))] (S ++ [.lst (frD (fw fr n))]) = some (.nx [some x0, some (.int (many : Int)), some (.dct ks vs), some (.loc S.length), x] (S ++ [.lst (frD ((W2.filter fun w => decide (w ∉ fr)).take many))])) := by
  intro m
  induction m with
  | zero =>
    intro n hn hl
    have hn : n = 702 := by omega
    have hfw : fw fr n = W2.filter fun w => decide (w ∉ fr) := by
      unfold fw
      rw [List.take_of_length_le (by rw [w2_len]; omega)]
    have he : (fw fr n).length = many := by rw [hfw] at hl ⊢; omega
    refine ⟨some (.int (n : Int)), ?_⟩
    have hlt : ((((fw fr n).length : Nat) : Int) < (many : Int)) ↔ False := ⟨fun h => by omega, False.elim⟩
    have hb : biD .len [.loc S.length] (S ++ [.lst (frD (fw fr n))]) = some (.int (fw fr n).length) := by rw [c1_len, frD_len]
    have ht := fw_take (fr := fr) (n := n)
    rw [he] at ht
    rw [ht]
    unfold fhL
    rw [whileL_step]
    simp only [ev_cmp, ev_bi, evEs_cons, evEs_nil, ev_slot, slot_at, List.getElem?_cons_succ, List.getElem?_cons_zero, obs, oms, hb, cmp_lt, hlt, decide_false, onB_f]
  | succ m ih =>
    intro n hn hl
    have hb : biD .len [.loc S.length] (S ++ [.lst (frD (fw fr n))]) = some (.int (fw fr n).length) := by rw [c1_len, frD_len]
    by_cases he : (fw fr n).length = many
    · refine ⟨some (.int (n : Int)), ?_⟩
      have hlt : ((((fw fr n).length : Nat) : Int) < (many : Int)) ↔ False := ⟨fun h => by omega, False.elim⟩
      have ht := fw_take (fr := fr) (n := n)
      rw [he] at ht
      rw [ht]
      unfold fhL
      rw [whileL_step]
      simp only [ev_cmp, ev_bi, evEs_cons, evEs_nil, ev_slot, slot_at, List.getElem?_cons_succ, List.getElem?_cons_zero, obs, oms, hb, cmp_lt, hlt, decide_false, onB_f]
    · have hlt : ((((fw fr n).length : Nat) : Int) < (many : Int)) ↔ True := ⟨fun _ => trivial, fun _ => by omega⟩
      have hn7 : n < 702 := by omega
      have hsz : (fw fr n).length ≤ 702 := by
        unfold fw
        refine Nat.le_trans (List.length_filter_le _ _) ?_
        rw [List.length_take]; omega
      have e1 : ∀ S, callF pr (d + 1) "word_number" [.int (n : Int)] S = some (.str (sl (wn n)), S) := fun S => c_wnum hn7
      have e2 : ∀ S, inD S (.str (sl (wn n))) (.dct ks vs) = some (decide (wn n ∈ fr)) := fun S => in_dct (hk _)
      have hck := c1_chk (S := S) (xs := frD (fw fr n))
      have happ := c1_app (S := S) (xs := frD (fw fr n)) (y := .str (sl (wn n))) (by rw [frD_len]; omega)
      have hs := fw_succ (fr := fr) hn7
      have hl2 : (fw fr (n + 1)).length ≤ many := by
        rw [hs, List.length_append]
        split <;> simp <;> omega
      obtain ⟨x, ih⟩ := ih (n + 1) (by omega) hl2
      refine ⟨x, ?_⟩
      rw [← ih]
      have hau : ∀ S, augD .add S (.int (n : Int)) (.int 1) = some (.int ((n + 1 : Nat) : Int)) := fun S => rfl
      rw [hs]
      conv => lhs; unfold fhL; rw [whileL_step]
      by_cases hw : wn n ∈ fr
      · simp only [if_pos hw, List.append_nil]
        simp [hb, hlt, e1, e2, hw, hau, fhL, -Option.map_map]
      · simp only [if_neg hw]
        rw [show frD (fw fr n ++ [wn n]) = frD (fw fr n) ++ [.str (sl (wn n))] by simp [frD]]
        simp [hb, hlt, e1, e2, hw, hau, hck, happ, fhL, -Option.map_map]
/-- the first words that are not free -/
def fresh (fr : List (List Nat)) (many : Nat) : List (List Nat) := (W2.filter fun w => decide (w ∉ fr)).take many
theorem c_fresh {d many : Nat} {S : Sto} {t : Tr} (hz : t.sz ≤ 100000) (hv : ∀ v ∈ frs t, okW v) (hm : many ≤ (W2.filter fun w => decide (w ∉ frs t)).length) : callF pr (d + 2) "fresh_words" [Pd t, .int (many : Int)] S = some (.lst (frD (fresh (frs t) many)), S) := by
  obtain ⟨ks, vs, e1, hk⟩ := c_freein (d := d) (S := S) hz hv
  obtain ⟨x, e⟩ := fresh_loop (d := d) (S := S) (x0 := Pd t) (vs := vs) hk hm 702 0 (by omega) (by simp [fw])
  have hfin := fin_lst (S := S) (xs := frD (fresh (frs t) many)) (frD_bel _ _)
  unfold fhL at e
  rw [show fw (frs t) 0 = [] from rfl] at e
  rw [callF_step pf_fresh_words rfl]
  simp [f_fresh_words, e1, mkLst, -Option.map_map]
  simp [frD] at e
  rw [e]
  simp
  unfold fresh at hfin ⊢
  simpa [frD] using hfin
/-! ### written -/
def fsD (S : Sto) (xs : List D) : Option (D × Sto) := (txtL xs).bind fun y => if y.length ≤ sizeLine then some (.str y, S) else none
theorem ev_fs {C : Fw.Ctx} {as : List E} {ρ : Fw.Env} {S : Sto} : evE C (.fstr as) ρ S = (evEs C as ρ S).bind fun x => fsD x.2 x.1 := by rw [ev_fstr]; rfl
theorem fs3 {S : Sto} {a b c : List Nat} (h : a.length + b.length + c.length ≤ 16777216) : fsD S [.str (sl a), .str (sl b), .str (sl c)] = some (.str (sl (a ++ (b ++ c))), S) := by
  unfold fsD
  have e : txtL [.str (sl a), .str (sl b), .str (sl c)] = some (sl a ++ (sl b ++ (sl c ++ sl []))) := rfl
  rw [e, obs]
  simp only [sl_app, List.append_nil, sl_len, sizeLine_eq, List.length_append]
  rw [if_pos (by omega)]
theorem fs4 {S : Sto} {a b c d : List Nat} (h : a.length + b.length + c.length + d.length ≤ 16777216) : fsD S [.str (sl a), .str (sl b), .str (sl c), .str (sl d)] = some (.str (sl (a ++ (b ++ (c ++ d)))), S) := by
  unfold fsD
  have e : txtL [.str (sl a), .str (sl b), .str (sl c), .str (sl d)] = some (sl a ++ (sl b ++ (sl c ++ (sl d ++ sl [])))) := rfl
  rw [e, obs]
  simp only [sl_app, List.append_nil, sl_len, sizeLine_eq, List.length_append]
  rw [if_pos (by omega)]
theorem join2 (x y : List Nat) : Txt.join (sl [32]) [sl x, sl y] = sl (x ++ (32 :: y)) := by
  show (⟨x.toArray ++ #[32] ++ y.toArray⟩ : Str) = ⟨(x ++ (32 :: y)).toArray⟩
  simp
theorem c1_join {S : Sto} {x y : List Nat} (h : x.length + y.length ≤ 10000000) : bmD .join (.str (sl [32])) [.loc S.length] (S ++ [.lst [.str (sl x), .str (sl y)]]) = some (.str (sl (x ++ (32 :: y))), S ++ [.lst [.str (sl x), .str (sl y)]]) := by
  unfold bmD
  have e : lsOf (S ++ [.lst [.str (sl x), .str (sl y)]]) (.loc S.length) = some [.str (sl x), .str (sl y)] := by
    unfold lsOf
    simp only [c1_get]
  simp only [e, obs]
  rw [show allStr [D.str (sl x), .str (sl y)] = some [sl x, sl y] from rfl, obs, join2]
  simp only [List.map_cons, List.map_nil, List.sum_cons, List.sum_nil, sl_len, List.length_cons, List.length_nil]
  rw [if_pos (by omega)]
theorem c1_at0 {S : Sto} {x y : D} : subD (S ++ [.lst [x, y]]) (.loc S.length) (.int 0) = some x := by
  rw [sub_loc, c1_get]; rfl
theorem c1_at1 {S : Sto} {x y : D} : subD (S ++ [.lst [x, y]]) (.loc S.length) (.int 1) = some y := by
  rw [sub_loc, c1_get]; rfl
theorem c1_put0 {S : Sto} {x y z : D} : setsubD (S ++ [.lst [x, y]]) (.loc S.length) (.int 0) z = some (S ++ [.lst [z, y]]) := by
  rw [ssub_loc, c1_get]
  simp
theorem c1_put1 {S : Sto} {x y z : D} : setsubD (S ++ [.lst [x, y]]) (.loc S.length) (.int 1) z = some (S ++ [.lst [x, z]]) := by
  rw [ssub_loc, c1_get]
  simp
theorem wr_take {ws : List (List Nat)} {m : Nat} {fr : List (List Nat)} : ∀ (t : Tr) {k : Nat}, Tr.wf fr k t → k + t.dp ≤ m → wr (ws.take m) k t = wr ws k t
  | .nm w, k, wf, h => rfl
  | .bd n, k, wf, h => by
    simp only [Tr.dp] at h
    have : n < k := wf
    simp only [wr, List.getD_eq_getElem?_getD]
    rw [List.getElem?_take_of_lt (by omega)]
  | .fn b, k, wf, h => by
    simp only [Tr.dp] at h
    simp only [wr, List.getD_eq_getElem?_getD]
    rw [List.getElem?_take_of_lt (by omega), wr_take b (show Tr.wf fr (k + 1) b from wf) (by omega)]
  | .ap f g, k, wf, h => by
    simp only [Tr.dp] at h
    simp only [wr]
    rw [wr_take f wf.1 (by omega), wr_take g wf.2 (by omega)]
theorem c_written {fr ws : List (List Nat)} (hfr : ∀ w ∈ fr, okW w) (hw : ∀ w ∈ ws, w.length ≤ 8) : ∀ (t : Tr) {d k : Nat} {S : Sto}, t.ht ≤ d → Tr.wf fr k t → k + t.dp ≤ ws.length → t.sz ≤ 100000 →
    callF pr d "written" [Pd t, .lst (frD ws), .int k] S = some (.str (sl (wr ws k t)), S)
  | t, d, k, S, hd, wf, hk, hz => by
    have hp := ht_pos t
    have hlen := wr_len hw t hfr wf
    obtain ⟨e, rfl⟩ : ∃ e, d = e + 1 := ⟨d - 1, by omega⟩
    have hfin : ∀ (x : List Nat) (S' : Sto), S'.take S.length = S → fin (.keep 0 true) S (.str (sl x)) S' = some (.str (sl x), S) := fun x S' h => fin_ins h (fun _ z => by cases z) (by unfold D.bel; rfl)
    have hfin0 := fun x => hfin x S (by simp)
    have hfin1 := fun x c => hfin x (S ++ [c]) (by simp)
    rw [callF_step pf_written rfl]
    match t, hd, wf, hk, hz, hlen with
    | .nm w, hd, wf, hk, hz, hlen => simp [f_written, Pd, wr, hfin0, -Option.map_map]
    | .bd n, hd, wf, hk, hz, hlen =>
      have h1 : ((k : Int) - 1 - n) = ((k - 1 - n : Nat) : Int) := by have : n < k := wf; omega
      have h2 := frD_at (ws := ws) (j := k - 1 - n) (by simp only [Tr.dp] at hk; have : n < k := wf; omega)
      simp [f_written, Pd, wr, h1, at_nat, h2, hfin0, -Option.map_map]
    | .fn b, hd, wf, hk, hz, hlen =>
      simp only [Tr.ht, Tr.sz, Tr.dp] at hd hz hk
      have hb := wr_len hw b hfr (show Tr.wf fr (k + 1) b from wf)
      have h2 := frD_at (ws := ws) (j := k) (by omega)
      have ih := c_written hfr hw b (d := e) (k := k + 1) (S := S) (by omega) wf (by omega) (by omega)
      push_cast at ih
      simp only [wr, List.length_append, List.length_cons, List.length_nil] at hlen
      simp only [Tr.sz] at hlen
      generalize hv : wr ws (k + 1) b = v at *
      rw [wr, hv]
      generalize ws.getD k [] = w at *
      have hf4 := fs4 (S := S) (a := [91]) (b := w) (c := [93, 32]) (d := v) (by simp only [List.length_cons, List.length_nil]; omega)
      rw [show Pd (.fn b) = .tup [.str (sl [102, 117, 110]), Pd b] from rfl]
      simp [f_written, ev_fs, -ev_fstr, at_nat, h2, ih, hf4, hfin0, -Option.map_map]
    | .ap f g, hd, wf, hk, hz, hlen =>
      simp only [Tr.ht, Tr.sz, Tr.dp] at hd hz hk
      have hf := wr_len hw f hfr wf.1
      have hg := wr_len hw g hfr wf.2
      have ih1 := c_written hfr hw f (d := e) (k := k) (S := S) (by omega) wf.1 (by omega) (by omega)
      have ih2 := c_written hfr hw g (d := e) (k := k) (S := S) (by omega) wf.2 (by omega) (by omega)
      rw [wr]
      generalize wr ws k f = x at *
      generalize wr ws k g = y at *
      have hi : itemsD .lst [.lst [Pd f, Pd g]] S = some [Pd f, Pd g] := rfl
      have hc : ∀ (a3 a4 a5 a6 : Option D), compL (holdD [.lst [Pd f, Pd g]] S) (evE (ctxP pr e) (.call "written" [(.slot 6), (.slot 1), (.slot 2)] [])) (evCs (ctxP pr e) []) (.name 6) [Pd f, Pd g] [some (Pd (.ap f g)), some (.lst (frD ws)), some (.int k), a3, a4, a5, a6] S = some ([.str (sl x), .str (sl y)], S) := fun a3 a4 a5 a6 => by
        have h0 := compL_nil (P := holdD [.lst [Pd f, Pd g]] S) (S := S) (elt := evE (ctxP pr e) (.call "written" [(.slot 6), (.slot 1), (.slot 2)] [])) (cs := evCs (ctxP pr e) []) (t := .name 6) (ρ := [some (Pd (.ap f g)), some (.lst (frD ws)), some (.int k), a3, a4, a5, a6]) hold_lst
        have h1 : compL (holdD [.lst [Pd f, Pd g]] S) (evE (ctxP pr e) (.call "written" [(.slot 6), (.slot 1), (.slot 2)] [])) (evCs (ctxP pr e) []) (.name 6) [Pd g] [some (Pd (.ap f g)), some (.lst (frD ws)), some (.int k), a3, a4, a5, a6] S = some ([.str (sl y)], S) := by
          rw [compL_cons hold_lst]
          simp [ih2, h0, -Option.map_map]
        rw [compL_cons hold_lst]
        simp [ih1, h1, -Option.map_map]
      have hin : ∀ S, inD S (.str (sl (Ptag g))) (.tup [.str (sl [102, 117, 110]), .str (sl [112, 117, 116])]) = some (g.isFn || g.isAp) := fun S => in_fp g
      have hP : Pd (.ap f g) = .tup [.str (sl [112, 117, 116]), Pd f, Pd g] := rfl
      rw [hP] at hc ⊢
      have hx : x.length + y.length ≤ 5000000 := by omega
      have hm : mkLst true [.str (sl x), .str (sl y)] S = some (.loc S.length, S ++ [.lst [.str (sl x), .str (sl y)]]) := by simp [mkLst]
      have t1 := fun S' : Sto => fs3 (S := S') (a := [40]) (b := x) (c := [41]) (by simp only [List.length_cons, List.length_nil]; omega)
      have t2 := fun S' : Sto => fs3 (S := S') (a := [40]) (b := y) (c := [41]) (by simp only [List.length_cons, List.length_nil]; omega)
      have j1 := c1_join (S := S) (x := x) (y := y) (by omega)
      have j2 := c1_join (S := S) (x := 40 :: (x ++ [41])) (y := y) (by simp only [List.length_cons, List.length_nil, List.length_append]; omega)
      have j3 := c1_join (S := S) (x := x) (y := 40 :: (y ++ [41])) (by simp only [List.length_cons, List.length_nil, List.length_append]; omega)
      have j4 := c1_join (S := S) (x := 40 :: (x ++ [41])) (y := 40 :: (y ++ [41])) (by simp only [List.length_cons, List.length_nil, List.length_append]; omega)
      have ck : ∀ S a, chkTy .str S (.str (sl a)) = true := fun S a => rfl
      cases hf2 : f.isFn <;> cases hg2 : g.isFn || g.isAp <;>
      simp [f_written, ev_fs, -ev_fstr, hi, hc, hm, sub_Pd, Ptag_l, hin, hf2, hg2, c1_at0, c1_at1, c1_put0, c1_put1, t1, t2, j1, j2, j3, j4, ck, hfin1, -sub_loc, -ssub_loc, -Option.map_map]
/-! ### str(term) -/
theorem c_str {d : Nat} {S : Sto} {t : Tr} (wf : Tr.wf ALL 0 t) (hz : t.sz ≤ 100000) (hh : t.ht ≤ 80) (hd : t.ht + 4 ≤ d) : callF pr d "Term.__str__" [Tm t] S = some (.str (sl (txt t)), S) := by
  obtain ⟨e, rfl⟩ : ∃ e, d = e + 3 := ⟨d - 3, by omega⟩
  have hv : ∀ v ∈ frs t, okW v := fun v h => all_ok v (frs_in wf v h)
  have hdp := dp_lt t
  have h90 := wordsL_len (frs_in wf)
  have hm : t.dp ≤ (W2.filter fun w => decide (w ∉ frs t)).length := by
    unfold wordsL wordsM at h90
    rw [List.length_take] at h90
    omega
  have e1 := c_deep (d := e) (S := S) hz (by omega) hv
  have e2 := c_fresh (d := e) (many := t.dp) (S := S) hz hv hm
  have hfl : (fresh (frs t) t.dp).length = t.dp := by unfold fresh; rw [List.length_take]; omega
  have e3 := c_written (fr := frs t) (ws := fresh (frs t) t.dp) hv (fun w hw => (w2_ok w (List.mem_filter.mp (List.mem_of_mem_take hw)).1).2.1) t (d := e + 2) (k := 0) (S := S) (by omega) (wf_self wf) (by omega) hz
  have ew : wr (fresh (frs t) t.dp) 0 t = txt t := by
    unfold txt
    have h1 : fresh (frs t) t.dp = (wordsL (frs t)).take t.dp := by
      unfold fresh wordsL wordsM
      rw [List.take_take, Nat.min_eq_left (by omega)]
    rw [h1, wr_take t wf (by omega)]
  rw [ew] at e3
  rw [show ((0 : Nat) : Int) = 0 from rfl] at e3
  rw [callF_step pf_Termu_stru rfl]
  simp [f_Termu_stru, ev_stro, Tm_tree, Tm_cls, pn_Term_tree, e1, e2, e3, -Option.map_map]
end K03

set_option Elab.async false
set_option linter.all false
set_option maxRecDepth 100000
set_option exponentiation.threshold 1000000
namespace K03
open PySem Fw
/-! ### names that reach out -/
def usd : Nat → Tr → List Nat
  | _, .nm _ => []
  | j, .bd n => if n < j then [] else [n - j]
  | j, .fn b => usd (j + 1) b
  | j, .ap f g => usd j f ++ usd j g
def nsD (l : List Nat) : List D := l.map fun n => .int (n : Nat)
theorem nsD_len (l : List Nat) : (nsD l).length = l.length := by simp [nsD]
theorem usd_len : ∀ (t : Tr) (j : Nat), (usd j t).length ≤ t.sz
  | .nm _, j => by simp [usd]
  | .bd n, j => by simp only [usd, Tr.sz]; split <;> simp
  | .fn b, j => by have := usd_len b (j + 1); simp only [usd, Tr.sz]; omega
  | .ap f g, j => by have := usd_len f j; have := usd_len g j; simp only [usd, Tr.sz, List.length_append]; omega
theorem usd_lt {fr : List (List Nat)} {m : Nat} : ∀ (t : Tr) (j : Nat), Tr.wf fr (m + j) t → ∀ n ∈ usd j t, n < m
  | .nm _, j, wf, n, h => by simp [usd] at h
  | .bd k, j, wf, n, h => by
    have : k < m + j := wf
    simp only [usd] at h
    split at h
    · cases h
    · simp only [List.mem_singleton] at h; omega
  | .fn b, j, wf, n, h => usd_lt b (j + 1) (show Tr.wf fr (m + j + 1) b from wf) n h
  | .ap f g, j, wf, n, h => by
    simp only [usd, List.mem_append] at h
    rcases h with h | h
    · exact usd_lt f j wf.1 n h
    · exact usd_lt g j wf.2 n h
theorem c_used : ∀ (t : Tr) {d j : Nat} {S : Sto}, t.ht ≤ d → t.sz ≤ 16000000 → callF pr d "_law_used" [Ld t, .int (j : Nat)] S = some (.lst (nsD (usd j t)), S)
  | t, d, j, S, hd, hz => by
    have hp := ht_pos t
    obtain ⟨e, rfl⟩ : ∃ e, d = e + 1 := ⟨d - 1, by omega⟩
    rw [callF_step pf__law_used rfl]
    match t, hd, hz with
    | .nm w, hd, hz => simp [f__law_used, Ld, usd, nsD, mkLst, -Option.map_map]
    | .bd n, hd, hz =>
      by_cases h : n < j
      · simp [f__law_used, Ld, usd, nsD, h, mkLst, -Option.map_map]
      · have e1 : ((n : Int) - (j : Int)) = ((n - j : Nat) : Int) := by omega
        simp [f__law_used, Ld, usd, nsD, h, mkLst, e1, -Option.map_map]
    | .fn b, hd, hz =>
      simp only [Tr.ht, Tr.sz] at hd hz
      have ih := c_used b (d := e) (j := j + 1) (S := S) (by omega) (by omega)
      push_cast at ih
      simp [f__law_used, Ld, usd, ih, -Option.map_map]
    | .ap f g, hd, hz =>
      simp only [Tr.ht, Tr.sz] at hd hz
      have l1 := usd_len f j
      have l2 := usd_len g j
      have ih1 := c_used f (d := e) (j := j) (S := S) (by omega) (by omega)
      have ih2 := c_used g (d := e) (j := j) (S := S) (by omega) (by omega)
      have q : addI S (.lst (nsD (usd j f))) (.lst (nsD (usd j g))) = some (.lst (nsD (usd j f ++ usd j g))) := by
        rw [addI_lst rfl rfl (by rw [nsD_len, nsD_len]; omega)]
        simp [nsD]
      simp [f__law_used, Ld, usd, ih1, ih2, q, -Option.map_map]
/-- names outside by their words -/
def opw (rs : List (List Nat)) : Nat → Tr → Tr
  | _, .nm w => .nm w
  | j, .bd n => if n < j then .bd n else .nm (rs.getD (n - j) [])
  | j, .fn b => .fn (opw rs (j + 1) b)
  | j, .ap f g => .ap (opw rs j f) (opw rs j g)
theorem opw_id {rs fr : List (List Nat)} : ∀ (t : Tr) {j : Nat}, Tr.wf fr j t → opw rs j t = t
  | .nm _, j, h => rfl
  | .bd n, j, h => by simp only [opw]; rw [if_pos (show n < j from h)]
  | .fn b, j, h => by simp only [opw]; rw [opw_id b (show Tr.wf fr (j + 1) b from h)]
  | .ap f g, j, h => by simp only [opw]; rw [opw_id f h.1, opw_id g h.2]
theorem chg_opw {w : List Nat} {rs : List (List Nat)} : ∀ (t : Tr) {j : Nat}, w ∉ frs t → (∀ n ∈ usd (j + 1) t, rs.getD n [] ≠ w) → chg w j (opw (w :: rs) j t) = opw rs (j + 1) t
  | .nm v, j, h1, h2 => by
    simp only [frs, List.mem_singleton] at h1
    simp only [opw, chg]
    rw [if_neg (fun e => h1 e.symm)]
  | .bd n, j, h1, h2 => by
    simp only [opw]
    by_cases a : n < j
    · rw [if_pos a, if_pos (by omega)]; rfl
    · rw [if_neg a]
      by_cases b : n = j
      · subst b
        rw [if_pos (by omega), Nat.sub_self]
        show chg w n (.nm w) = _
        simp [chg]
      · rw [if_neg (by omega)]
        obtain ⟨m, hm⟩ : ∃ m, n - j = m + 1 := ⟨n - j - 1, by omega⟩
        have hm2 : n - (j + 1) = m := by omega
        rw [hm, hm2, List.getD_cons_succ]
        have := h2 m (by simp only [usd]; rw [if_neg (by omega), hm2]; exact List.mem_singleton.mpr rfl)
        simp only [chg]
        rw [if_neg this]
  | .fn b, j, h1, h2 => by
    simp only [opw, chg]
    rw [chg_opw b h1 h2]
  | .ap f g, j, h1, h2 => by
    simp only [frs, List.mem_append, not_or] at h1
    simp only [usd, List.mem_append] at h2
    simp only [opw, chg]
    rw [chg_opw f h1.1 fun n h => h2 n (.inl h), chg_opw g h1.2 fun n h => h2 n (.inr h)]
/-! ### a word that is free nowhere -/
theorem ne_len {x : List Nat} : ∀ {F : List (List Nat)}, F.Nodup → F.length ≤ (F.filter fun w => decide (w ≠ x)).length + 1
  | [], _ => by simp
  | a :: F, h => by
    rw [List.nodup_cons] at h
    by_cases e : a = x
    · subst e
      have : (F.filter fun w => decide (w ≠ a)) = F := List.filter_eq_self.mpr fun w hw => by
        simp only [decide_eq_true_eq]
        rintro rfl
        exact h.1 hw
      rw [List.filter_cons_of_neg (by simp), this]
      simp
    · rw [List.filter_cons_of_pos (by simp [e])]
      have := ne_len (x := x) h.2
      simp only [List.length_cons]
      omega
theorem fil_len {W : List (List Nat)} (nd : W.Nodup) : ∀ l : List (List Nat), W.length ≤ (W.filter fun w => decide (w ∉ l)).length + l.length
  | [] => by
    rw [List.filter_eq_self.mpr (fun w _ => by simp)]
    simp
  | x :: l => by
    have ih := fil_len nd l
    have e : (W.filter fun w => decide (w ∉ x :: l)) = (W.filter fun w => decide (w ∉ l)).filter fun w => decide (w ≠ x) := by
      rw [List.filter_filter]
      apply List.filter_congr
      intro w _
      by_cases h1 : w = x <;> by_cases h2 : w ∈ l <;> simp [h1, h2]
    have := ne_len (x := x) (nd.filter fun w => decide (w ∉ l))
    rw [e]
    simp only [List.length_cons]
    omega
theorem atR {rs : List (List Nat)} {n : Nat} (h : n < rs.length) : L2.atI (frD rs.reverse) (-1 - (n : Int)) = some (.str (sl (rs.getD n []))) := by
  unfold L2.atI L2.ixN
  rw [if_neg (by omega)]
  have hl : (frD rs.reverse).length = rs.length := by rw [frD_len, List.length_reverse]
  rw [hl]
  rw [if_pos (by omega)]
  have e : ((rs.length : Int) + (-1 - (n : Int))).toNat = rs.length - 1 - n := by omega
  have e2 : (-1 - (n : Int) + (rs.length : Int)).toNat = rs.length - 1 - n := by omega
  simp only [Option.bind_some, e, e2]
  have : (frD rs.reverse)[rs.length - 1 - n]? = some (.str (sl (rs.getD n []))) := by
    simp only [frD, List.getElem?_map]
    rw [List.getElem?_reverse (by omega), show rs.length - 1 - (rs.length - 1 - n) = n by omega, List.getD_eq_getElem?_getD, List.getElem?_eq_getElem h]
    rfl
  exact this
theorem comp_bar {C : Fw.Ctx} {P : Sto → Prop} {S : Sto} (hP : P S) {rs : List (List Nat)} {a0 a1 a3 a5 : Option D} : ∀ (l : List Nat) (a4 : Option D), (∀ n ∈ l, n < rs.length) → compL P (evE C (.sub (.slot 2) (.bin .sub (.bin .sub (.cst (.int 0)) (.cst (.int 1))) (.slot 4)))) (evCs C []) (.name 4) (nsD l) [a0, a1, some (.lst (frD rs.reverse)), a3, a4, a5] S = some (frD (l.map fun n => rs.getD n []), S)
  | [], a4, h => compL_nil hP
  | n :: l, a4, h => by
    have ih := comp_bar (C := C) (P := P) hP (rs := rs) (a0 := a0) (a1 := a1) (a3 := a3) (a5 := a5) l a4 fun n hn => h n (List.mem_cons_of_mem _ hn)
    have hs : ∀ S, subD S (.lst (frD rs.reverse)) (.int (-1 - (n : Int))) = some (.str (sl (rs.getD n []))) := fun S => atR (h n List.mem_cons_self)
    rw [show nsD (n :: l) = .int (n : Nat) :: nsD l from rfl, compL_cons hP]
    simp only [evCs_nil, ev_sub, ev_slot, slot_at, ev_bin, ev_cst, st_name, List.length_cons, List.length_nil, Nat.zero_add, Nat.reduceAdd, Nat.reduceLT, if_true, List.set_cons_succ, List.set_cons_zero, obs, oms, onB_t, List.getElem?_cons_succ, List.getElem?_cons_zero, bin_sub, subI_int, ih]
    rw [show ((0 : Int) - 1 - (n : Int)) = -1 - (n : Int) by omega, hs]
    simp only [oms, obs, ih]
    rfl
def L7 : List (List Nat) := [[120], [121], [97], [98], [97, 98], [97, 98, 99, 100, 101, 102, 103, 104], [113]]
theorem l7_ok : ∀ w ∈ L7, okW w := by
  intro w hw
  simp only [L7, List.mem_cons, List.not_mem_nil, or_false] at hw
  rcases hw with rfl | rfl | rfl | rfl | rfl | rfl | rfl <;> exact ⟨by simp, by simp, by simp⟩
theorem c_binder {d : Nat} {S : Sto} {p B : Nat} {fr rs : List (List Nat)} {b : Tr} (h : Pu S p B) (hB : B < 10 ^ 99) (hfr : ∀ w ∈ fr, okW w) (wf : Tr.wf fr (rs.length + 1) b) (hd : b.ht + 3 ≤ d) (hz : b.sz ≤ 300) :
    ∃ w S', callF pr d "_law_binder" [.loc p, Ld b, .lst (frD rs.reverse)] S = some (.str (sl w), S') ∧ okW w ∧ w ∉ frs b ∧ (∀ n ∈ usd 1 b, rs.getD n [] ≠ w) ∧ UpdS S p S' ∧ Pu S' p (B + 1) := by
  obtain ⟨e, rfl⟩ : ∃ e, d = e + 3 := ⟨d - 3, by omega⟩
  have e1 := c_free b (d := e + 2) (S := S) (by omega) (by omega)
  have e2 := c_used b (d := e + 2) (j := 1) (S := S) (by omega) (by omega)
  have ul := usd_len b 1
  have fl := frs_len b
  have e3 := comp_bar (C := ctxP pr (e + 2)) (P := holdD [.lst (nsD (usd 1 b))] S) (S := S) hold_lst (rs := rs) (a0 := some (.loc p)) (a1 := some (Ld b)) (a3 := none) (a5 := none) (usd 1 b) none (usd_lt b 1 wf)
  have hi : itemsD .lst [.lst (nsD (usd 1 b))] S = some (nsD (usd 1 b)) := rfl
  generalize hbar : (usd 1 b).map (fun n => rs.getD n []) = bar at *
  have bl : bar.length ≤ 300 := by rw [← hbar, List.length_map]; omega
  have hm : ((frD bar).length ≤ 16777216) ↔ True := ⟨fun _ => trivial, fun _ => by rw [frD_len]; omega⟩
  have e4 : addI S (.lst (frD (frs b))) (.lst (frD bar)) = some (.lst (frD (frs b ++ bar))) := by
    rw [addI_lst rfl rfl (by rw [frD_len, frD_len]; omega), frD_app]
  obtain ⟨g, S1, e5, g0, g1, u1, h1⟩ := c_take (d := e) h (n := 7) (by omega) (by omega) (by omega)
  obtain ⟨k, rfl⟩ := Int.eq_ofNat_of_zero_le g0
  have hk : k < 7 := by omega
  have e6 : ∀ S, subD S (.lst [.str (sl [120]), .str (sl [121]), .str (sl [97]), .str (sl [98]), .str (sl [97, 98]), .str (sl [97, 98, 99, 100, 101, 102, 103, 104]), .str (sl [113])]) (.int (k : Nat)) = some (.str (sl (L7.getD k []))) := fun S => by
    show L2.atI (frD L7) (k : Nat) = _
    rw [at_nat, frD_at (by exact hk)]
  have hw0 : okW (L7.getD k []) := l7_ok _ (by
    rw [List.getD_eq_getElem?_getD, List.getElem?_eq_getElem (show k < L7.length from hk)]
    exact List.getElem_mem _)
  generalize L7.getD k [] = w0 at *
  have out : ∀ w, w ∉ frs b ++ bar → w ∉ frs b ∧ ∀ n ∈ usd 1 b, rs.getD n [] ≠ w := fun w hw => by
    simp only [List.mem_append, not_or] at hw
    refine ⟨hw.1, fun n hn e => hw.2 ?_⟩
    rw [← hbar, List.mem_map]
    exact ⟨n, hn, e⟩
  have e7 : inD S1 (.str (sl w0)) (.lst (frD (frs b ++ bar))) = some (decide (w0 ∈ frs b ++ bar)) := in_frD
  have e2 : callF pr (e + 2) "_law_used" [Ld b, .int 1] S = some (.lst (nsD (usd 1 b)), S) := e2
  rw [callF_step pf__law_binder rfl]
  by_cases hin : w0 ∈ frs b ++ bar
  · have fl2 := fil_len w2_nodup (frs b ++ bar)
    rw [w2_len, List.length_append] at fl2
    cases hF : W2.filter (fun w => decide (w ∉ frs b ++ bar)) with
    | nil => rw [hF] at fl2; simp only [List.length_nil] at fl2; omega
    | cons w1 rest =>
      have hm1 : w1 ∈ W2.filter (fun w => decide (w ∉ frs b ++ bar)) := by rw [hF]; exact List.mem_cons_self
      obtain ⟨q1, q2⟩ := List.mem_filter.mp hm1
      simp only [decide_eq_true_eq] at q2
      have e8 := c_wordsM (d := e + 1) (k := 1) (S := S1) (fr := frs b ++ bar)
      have e9 : wordsM (frs b ++ bar) 1 = [w1] := by unfold wordsM; rw [hF]; rfl
      rw [e9] at e8
      refine ⟨w1, S1, ?_, w2_ok _ q1, (out w1 q2).1, (out w1 q2).2, u1, h1⟩
      have e8 : callF pr (e + 2) "_law_words" [.lst (frD (frs b ++ bar)), .int 1] S1 = some (.lst [.str (sl w1)], S1) := e8
      simp [f__law_binder, e1, e2, hi, e3, hm, e4, e5, mkLst, e6, e7, hin, e8, -Option.map_map, -List.map_map]
  · refine ⟨w0, S1, ?_, hw0, (out w0 hin).1, (out w0 hin).2, u1, h1⟩
    simp [f__law_binder, e1, e2, hi, e3, hm, e4, e5, mkLst, e6, e7, hin, -Option.map_map, -List.map_map]
/-! ### a term by words -/
inductive Nm where
  | nm (w : List Nat) | lm (w : List Nat) (b : Nm) | ap (f g : Nm)
def Nd : Nm → D
  | .nm w => .lst [.str (sl [110]), .str (sl w)]
  | .lm w b => .lst [.str (sl [108]), .str (sl w), Nd b]
  | .ap f g => .lst [.str (sl [112]), Nd f, Nd g]
def Den : Nm → Tr
  | .nm w => .nm w
  | .lm w b => .fn (chg w 0 (Den b))
  | .ap f g => .ap (Den f) (Den g)
def Nm.ok : Nm → Prop
  | .nm w => okW w
  | .lm w b => okW w ∧ b.ok
  | .ap f g => f.ok ∧ g.ok
def Nm.ht : Nm → Nat
  | .nm _ => 1
  | .lm _ b => b.ht + 1
  | .ap f g => max f.ht g.ht + 1
theorem ht_chg {w : List Nat} : ∀ (t : Tr) {j : Nat}, (chg w j t).ht = t.ht
  | .nm v, j => by simp only [chg]; split <;> rfl
  | .bd n, j => rfl
  | .fn b, j => by simp only [chg, Tr.ht, ht_chg b]
  | .ap f g, j => by simp only [chg, Tr.ht, ht_chg f, ht_chg g]
theorem ht_den : ∀ n : Nm, (Den n).ht = n.ht
  | .nm w => rfl
  | .lm w b => by simp only [Den, Tr.ht, ht_chg, Nm.ht, ht_den b]
  | .ap f g => by simp only [Den, Tr.ht, Nm.ht, ht_den f, ht_den g]
theorem frs_chg {w : List Nat} : ∀ (t : Tr) {j : Nat}, ∀ v ∈ frs (chg w j t), v ∈ frs t
  | .nm u, j, v, h => by
    simp only [chg] at h
    split at h
    · simp [frs] at h
    · exact h
  | .bd n, j, v, h => h
  | .fn b, j, v, h => frs_chg b v h
  | .ap f g, j, v, h => by
    simp only [chg, frs, List.mem_append] at h ⊢
    exact h.elim (fun h => .inl (frs_chg f v h)) fun h => .inr (frs_chg g v h)
theorem den_ok : ∀ n : Nm, n.ok → ∀ v ∈ frs (Den n), okW v
  | .nm w, h, v, hv => by simp only [Den, frs, List.mem_singleton] at hv; subst hv; exact h
  | .lm w b, h, v, hv => den_ok b h.2 v (frs_chg _ v hv)
  | .ap f g, h, v, hv => by
    simp only [Den, frs, List.mem_append] at hv
    exact hv.elim (den_ok f h.1 v) (den_ok g h.2 v)
theorem c_named {fr : List (List Nat)} (hfr : ∀ w ∈ fr, okW w) : ∀ (t : Tr) {d : Nat} {rs : List (List Nat)} {S : Sto} {p B : Nat}, Pu S p B → B + t.sz < 10 ^ 99 → Tr.wf fr rs.length t → (∀ w ∈ rs, okW w) → t.ht + 4 ≤ d → t.sz ≤ 300 → rs.length + t.ht ≤ 1000 →
    ∃ n S', callF pr d "_law_named" [.loc p, Ld t, .lst (frD rs.reverse)] S = some (Nd n, S') ∧ Den n = opw rs 0 t ∧ n.ok ∧ n.ht = t.ht ∧ UpdS S p S' ∧ Pu S' p (B + t.sz)
  | t, d, rs, S, p, B, h, hB, wf, hrs, hd, hz, hr => by
    obtain ⟨e, rfl⟩ : ∃ e, d = e + 1 := ⟨d - 1, by omega⟩
    have hrok : ∀ n, n < rs.length → okW (rs.getD n []) := fun n hn => hrs _ (by
      rw [List.getD_eq_getElem?_getD, List.getElem?_eq_getElem hn]
      exact List.getElem_mem _)
    rw [callF_step pf__law_named rfl]
    match t, wf, hd, hz, hr, hB with
    | .nm w, wf, hd, hz, hr, hB => exact ⟨.nm w, S, by simp [f__law_named, Ld, Nd, -Option.map_map], rfl, hfr w wf, rfl, UpdS.refl h, h.mono (by omega)⟩
    | .bd n, wf, hd, hz, hr, hB =>
      have hn : n < rs.length := wf
      have hs : ∀ S, subD S (.lst (frD rs.reverse)) (.int (-1 - (n : Int))) = some (.str (sl (rs.getD n []))) := fun S => atR hn
      have hi : (0 : Int) - 1 - (n : Int) = -1 - (n : Int) := by omega
      refine ⟨.nm (rs.getD n []), S, ?_, by simp [Den, opw], hrok n hn, rfl, UpdS.refl h, h.mono (by omega)⟩
      simp [f__law_named, Ld, Nd, mkLst, hs, -Option.map_map]
    | .fn b, wf, hd, hz, hr, hB =>
      simp only [Tr.ht, Tr.sz] at hd hz hr hB
      obtain ⟨w, S1, e1, hw, hw1, hw2, u1, h1⟩ := c_binder (d := e) h (by omega) hfr (show Tr.wf fr (rs.length + 1) b from wf) (by omega) (by omega)
      obtain ⟨n, S2, e2, q1, q2, q3, u2, h2⟩ := c_named hfr b (d := e) (rs := w :: rs) (S := S1) h1 (by omega) (show Tr.wf fr (rs.length + 1) b from wf) (fun v hv => by
        rcases List.mem_cons.mp hv with rfl | hv
        · exact hw
        · exact hrs v hv) (by omega) (by omega) (by simp only [List.length_cons]; omega)
      have ha : addI S1 (.lst (frD rs.reverse)) (.lst [.str (sl w)]) = some (.lst (frD (w :: rs).reverse)) := by
        rw [addI_lst rfl rfl (by rw [frD_len, List.length_reverse]; simp only [List.length_cons, List.length_nil]; omega), List.reverse_cons]
        simp [frD]
      refine ⟨.lm w n, S2, ?_, ?_, ⟨hw, q2⟩, by simp only [Nm.ht, Tr.ht, q3], u1.trans u2, h2.mono (by simp only [Tr.sz]; omega)⟩
      · simp [f__law_named, Ld, Nd, mkLst, e1, ha, -Option.map_map, -List.reverse_cons]
        simp [e2, -Option.map_map, -List.reverse_cons]
      · simp only [Den, opw, q1]
        rw [chg_opw b hw1 hw2]
    | .ap f g, wf, hd, hz, hr, hB =>
      simp only [Tr.ht, Tr.sz] at hd hz hr hB
      obtain ⟨n1, S1, e1, q1, q2, q3, u1, h1⟩ := c_named hfr f (d := e) (rs := rs) (S := S) h (by omega) wf.1 hrs (by omega) (by omega) (by omega)
      obtain ⟨n2, S2, e2, r1, r2, r3, u2, h2⟩ := c_named hfr g (d := e) (rs := rs) (S := S1) h1 (by omega) wf.2 hrs (by omega) (by omega) (by omega)
      refine ⟨.ap n1 n2, S2, ?_, by simp only [Den, opw, q1, r1], ⟨q2, r2⟩, by simp only [Nm.ht, Tr.ht, q3, r3], u1.trans u2, h2.mono (by simp only [Tr.sz]; omega)⟩
      simp [f__law_named, Ld, Nd, mkLst, e1, e2, -Option.map_map]
theorem c_mk : ∀ (n : Nm) {d : Nat} {S : Sto}, n.ok → n.ht + 5 ≤ d → callF pr d "_law_made" [Nd n] S = some (Tm (Den n), S)
  | n, d, S, hn, hd => by
    obtain ⟨e, rfl⟩ : ∃ e, d = e + 3 + 1 := ⟨d - 4, by omega⟩
    rw [callF_step pf__law_made rfl]
    match n, hn, hd with
    | .nm w, hn, hd =>
      have e1 := c_name (d := e) (S := S) (show okW w from hn)
      simp [f__law_made, Nd, Den, e1, -Option.map_map]
    | .lm w b, hn, hd =>
      simp only [Nm.ht] at hd
      have e1 := c_mk b (d := e + 3) (S := S) hn.2 (by omega)
      have e2 := c_fun (d := e + 3) (S := S) (t := Den b) hn.1 (by rw [ht_den]; omega) (den_ok b hn.2)
      simp [f__law_made, Nd, Den, e1, e2, -Option.map_map]
    | .ap f g, hn, hd =>
      simp only [Nm.ht] at hd
      have e1 := c_mk f (d := e + 3) (S := S) hn.1 (by omega)
      have e2 := c_mk g (d := e + 3) (S := S) hn.2 (by omega)
      have e3 := c_put (d := e) (S := S) (f := Den f) (g := Den g)
      simp [f__law_made, Nd, Den, e1, e2, e3, -Option.map_map]
end K03

set_option Elab.async false
set_option linter.all false
set_option maxRecDepth 100000
set_option exponentiation.threshold 1000000
namespace K03
open PySem Fw
/-! ### the part at an address -/
def stp : Tr → Nat → Option Tr
  | .fn b, c => if c = 98 then some b else none
  | .ap f g, c => if c = 102 then some f else if c = 103 then some g else none
  | _, _ => none
def tat : Tr → List Nat → Option Tr
  | t, [] => some t
  | t, c :: l => (stp t c).bind fun u => tat u l
def Psg : Tr → List Nat
  | .fn _ => [98]
  | .ap _ _ => [102, 103]
  | _ => []
def Pps : Tr → List D
  | .nm w => [.str (sl w)]
  | .bd n => [.int n]
  | .fn b => [Pd b]
  | .ap f g => [Pd f, Pd g]
theorem getd_sg (t : Tr) (S : Sto) : getdD S (.dct [.inr (Str.ofString "fun"), .inr (Str.ofString "put")] [.str (sl [98]), .str (sl [102, 103])]) (.str (sl (Ptag t))) (.str (sl [])) = some (.str (sl (Psg t))) := by
  cases t <;> rfl
theorem set_star {t : Tr} {a0 a1 a2 a3 a4 a5 : Option D} {S : Sto} : setT (.star false [(.name 3)] 4) (Pd t) [a0, a1, a2, a3, a4, a5] S = some ([a0, a1, a2, some (.str (sl (Ptag t))), some (.lst (Pps t)), a5], S) := by
  cases t <;> rfl
def TB : List Sm := match f_tree_at.body with
  | [_, .for_ _ _ _ b, _] => b
  | _ => []
theorem nodk2 : nodK [(.inr (Str.ofString "fun") : Fw.Key), .inr (Str.ofString "put")] = true := rfl
theorem at_some {d c : Nat} {S : Sto} {t u : Tr} {a1 a3 a4 a5 : Option D} (h : stp t c = some u) : ∃ b3 b4 b5, evSs (ctxP pr d) TB [some (Pd t), a1, some (.str (sl [c])), a3, a4, a5] S = some (.nx [some (Pd u), a1, some (.str (sl [c])), b3, b4, b5] S) := by
  cases t with
  | nm w => cases h
  | bd n => cases h
  | fn b =>
    simp only [stp] at h
    split at h
    · rename_i hc
      cases h
      subst hc
      have g := getd_sg (.fn u) S
      have hin : inD S (.str (sl [98])) (.str (sl [98])) = some true := in_str
      have hx : idxsD (.str (sl [98])) (.str (sl [98])) = some 0 := rfl
      simp only [Ptag, Psg] at g
      refine ⟨some (.str (sl (Ptag (.fn u)))), some (.lst (Pps (.fn u))), some (.str (sl (Psg (.fn u)))), ?_⟩
      simp [TB, f_tree_at, set_star, Ptag, Pps, Psg, g, nodk2, hin, hx, isDct, -Option.map_map]
    · cases h
  | ap f g =>
    simp only [stp] at h
    have gg := getd_sg (.ap f g) S
    simp only [Ptag, Psg] at gg
    split at h
    · rename_i hc
      cases h
      subst hc
      have hin : inD S (.str (sl [102])) (.str (sl [102, 103])) = some true := in_str
      have hx : idxsD (.str (sl [102, 103])) (.str (sl [102])) = some 0 := rfl
      refine ⟨some (.str (sl (Ptag (.ap u g)))), some (.lst (Pps (.ap u g))), some (.str (sl (Psg (.ap u g)))), ?_⟩
      simp [TB, f_tree_at, set_star, Ptag, Pps, Psg, gg, nodk2, hin, hx, isDct, -Option.map_map]
    · split at h
      · rename_i hc
        cases h
        subst hc
        have hin : inD S (.str (sl [103])) (.str (sl [102, 103])) = some true := in_str
        have hx : idxsD (.str (sl [102, 103])) (.str (sl [103])) = some 1 := rfl
        refine ⟨some (.str (sl (Ptag (.ap f u)))), some (.lst (Pps (.ap f u))), some (.str (sl (Psg (.ap f u)))), ?_⟩
        simp [TB, f_tree_at, set_star, Ptag, Pps, Psg, gg, nodk2, hin, hx, isDct, -Option.map_map]
      · cases h
theorem psg_in {t : Tr} {c : Nat} (h : stp t c = none) : (Psg t).contains c = false := by
  cases t with
  | nm w => rfl
  | bd n => rfl
  | fn b =>
    simp only [stp] at h
    split at h
    · cases h
    · rename_i hc
      simp [Psg, hc]
  | ap f g =>
    simp only [stp] at h
    split at h
    · cases h
    · split at h
      · cases h
      · rename_i h1 h2
        simp [Psg, h1, h2]
theorem at_none {d c : Nat} {S : Sto} {t : Tr} {a1 a3 a4 a5 : Option D} (h : stp t c = none) : evSs (ctxP pr d) TB [some (Pd t), a1, some (.str (sl [c])), a3, a4, a5] S = none ∧ ∃ ρ, exSs (ctxP pr d) TB [some (Pd t), a1, some (.str (sl [c])), a3, a4, a5] S = some (.exn "NoAddress" [] [], ρ, S) := by
  have g := getd_sg t S
  have hin : inD S (.str (sl [c])) (.str (sl (Psg t))) = some false := by rw [in_str, psg_in h]
  constructor
  · simp [TB, f_tree_at, set_star, g, nodk2, hin, isDct, -Option.map_map]
  · refine ⟨[some (Pd t), a1, some (.str (sl [c])), some (.str (sl (Ptag t))), some (.lst (Pps t)), some (.str (sl (Psg t)))], ?_⟩
    simp [TB, f_tree_at, set_star, g, nodk2, hin, isDct, -Option.map_map]
theorem at_loop {d : Nat} {P : Sto → Prop} {S : Sto} (hP : P S) {a1 : Option D} : ∀ (l : List Nat) (t u : Tr) (a2 a3 a4 a5 : Option D), tat t l = some u → ∃ b2 b3 b4 b5, forL P (.name 2) (evSs (ctxP pr d) TB) (frD (chs l)) [some (Pd t), a1, a2, a3, a4, a5] S = some (.nx [some (Pd u), a1, b2, b3, b4, b5] S)
  | [], t, u, a2, a3, a4, a5, h => by cases h; exact ⟨_, _, _, _, forL_nil hP⟩
  | c :: l, t, u, a2, a3, a4, a5, h => by
    obtain ⟨v, h1, h2⟩ := Option.bind_eq_some_iff.mp (show (stp t c).bind (fun u => tat u l) = some u from h)
    obtain ⟨b3, b4, b5, e1⟩ := at_some (d := d) (S := S) (a1 := a1) (a3 := a3) (a4 := a4) (a5 := a5) h1
    obtain ⟨c2, c3, c4, c5, e2⟩ := at_loop hP (a1 := a1) l v u (some (.str (sl [c]))) b3 b4 b5 h2
    refine ⟨c2, c3, c4, c5, ?_⟩
    rw [show frD (chs (c :: l)) = .str (sl [c]) :: frD (chs l) from rfl, forL_cons hP]
    have es : setT (.name 2) (.str (sl [c])) [some (Pd t), a1, a2, a3, a4, a5] S = some ([some (Pd t), a1, some (.str (sl [c])), a3, a4, a5], S) := rfl
    rw [es, obs]
    simp only [e1, seqL_nx]
    exact e2
theorem at_loopX {d : Nat} {P : Sto → Prop} {S : Sto} (hP : P S) {a1 : Option D} : ∀ (l : List Nat) (t : Tr) (a2 a3 a4 a5 : Option D), tat t l = none → forL P (.name 2) (evSs (ctxP pr d) TB) (frD (chs l)) [some (Pd t), a1, a2, a3, a4, a5] S = none ∧ ∃ ρ, forX P (.name 2) (evSs (ctxP pr d) TB) (exSs (ctxP pr d) TB) (frD (chs l)) [some (Pd t), a1, a2, a3, a4, a5] S = some (.exn "NoAddress" [] [], ρ, S)
  | [], t, a2, a3, a4, a5, h => by cases h
  | c :: l, t, a2, a3, a4, a5, h => by
    have es : setT (.name 2) (.str (sl [c])) [some (Pd t), a1, a2, a3, a4, a5] S = some ([some (Pd t), a1, some (.str (sl [c])), a3, a4, a5], S) := rfl
    rw [show frD (chs (c :: l)) = .str (sl [c]) :: frD (chs l) from rfl, forL_cons hP, forX_cons hP, es, obs, obs]
    cases h1 : stp t c with
    | none =>
      obtain ⟨e1, ρ, e2⟩ := at_none (d := d) (S := S) (a1 := a1) (a3 := a3) (a4 := a4) (a5 := a5) h1
      simp only [e1, e2, seqXL_none]
      exact ⟨rfl, ρ, rfl⟩
    | some v =>
      obtain ⟨b3, b4, b5, e1⟩ := at_some (d := d) (S := S) (a1 := a1) (a3 := a3) (a4 := a4) (a5 := a5) h1
      have h2 : tat v l = none := by
        have : (stp t c).bind (fun u => tat u l) = none := h
        rw [h1] at this
        exact this
      simp only [e1, seqL_nx, seqXL_nx]
      exact at_loopX hP l v (some (.str (sl [c]))) b3 b4 b5 h2
def notS (x : D) : Prop := ∀ S, isinD S "str" x = some false
def TBf : Sm := .for_ (.name 2) .str [(.slot 1)] TB
theorem tb_for : f_tree_at.body = [(.ite (.not (.isi (.slot 1) "str")) [(.raise "NoAddress" [] [] [])] []), TBf, (.ret (.slot 0))] := rfl
theorem c_tat {d : Nat} {S : Sto} {t u : Tr} {l : List Nat} (h : tat t l = some u) : callF pr (d + 1) "tree_at" [Pd t, .str (sl l)] S = some (Pd u, S) := by
  obtain ⟨b2, b3, b4, b5, e1⟩ := at_loop (d := d) (P := holdD [.str (sl l)] S) (S := S) hold_str (a1 := some (.str (sl l))) l t u none none none none h
  rw [callF_step pf_tree_at rfl, tb_for]
  simp [f_tree_at, TBf, isi_str, items_str, e1, -Option.map_map]
theorem c_tat_bad {d : Nat} {S : Sto} {t : Tr} {l : List Nat} (h : tat t l = none) : callF pr (d + 1) "tree_at" [Pd t, .str (sl l)] S = none ∧ callX pr (d + 1) "tree_at" [Pd t, .str (sl l)] S = some (.exn "NoAddress" [] [], S) := by
  obtain ⟨e1, ρ, e2⟩ := at_loopX (d := d) (P := holdD [.str (sl l)] S) (S := S) hold_str (a1 := some (.str (sl l))) l t none none none none h
  rw [callF_step pf_tree_at rfl, callX_step pf_tree_at rfl, tb_for]
  constructor
  · simp [f_tree_at, TBf, isi_str, items_str, e1, -Option.map_map]
  · simp [f_tree_at, TBf, isi_str, items_str, e1, e2, -Option.map_map]
theorem c_tat_odd {d : Nat} {S : Sto} {t : Tr} {x : D} (h : notS x) : callF pr (d + 1) "tree_at" [Pd t, x] S = none ∧ callX pr (d + 1) "tree_at" [Pd t, x] S = some (.exn "NoAddress" [] [], S) := by
  rw [callF_step pf_tree_at rfl, callX_step pf_tree_at rfl, tb_for]
  constructor
  · simp [f_tree_at, TBf, h S, -Option.map_map]
  · simp [f_tree_at, TBf, h S, -Option.map_map]
theorem cut_hi {l : List Nat} {i : Nat} : L2.cutS (sl l) (some (i : Int)) none = sl (l.drop i) := by
  unfold L2.cutS
  rw [HT.sIx_nat, HT.sIx_none, sl_len, sl_cps]
  show sl _ = _
  rw [sl_inj]
  by_cases h : i ≤ l.length
  · rw [Nat.min_eq_left h, List.take_of_length_le (by rw [List.length_drop]; omega)]
  · rw [Nat.min_eq_right (by omega), List.drop_of_length_le (l := l) (i := i) (by omega), List.drop_of_length_le (Nat.le_refl _)]
    simp
theorem slice_hi {S : Sto} {l : List Nat} {i : Nat} (h : l.length ≤ 10000) : sliceD S (.str (sl l)) (some (i : Int)) none = some (.str (sl (l.drop i))) := by
  show (if (sl l).length ≤ sizeLine then some (D.str (L2.cutS (sl l) (some (i : Int)) none)) else none) = _
  rw [sl_len, sizeLine_eq, if_pos (by omega), cut_hi]
theorem slice_1 {S : Sto} {c : Nat} {l : List Nat} (h : l.length ≤ 1000) : sliceD S (.str (sl (c :: l))) (some 1) none = some (.str (sl l)) := by
  have := slice_hi (S := S) (l := c :: l) (i := 1) (by rw [List.length_cons]; omega)
  exact this
theorem sub_c0 {S : Sto} {c : Nat} {l : List Nat} (h : l.length ≤ 1000) : subD S (.str (sl (c :: l))) (.int 0) = some (.str (sl [c])) := by
  have e : subD S (.str (sl (c :: l))) (.int ((0 : Nat) : Int)) = if (sl (c :: l)).length ≤ sizeLine then (atS (sl (c :: l)) ((0 : Nat) : Int)).map D.str else none := rfl
  rw [show (0 : Int) = ((0 : Nat) : Int) from rfl, e, sl_len, sizeLine_eq, if_pos (by rw [List.length_cons]; omega)]
  unfold atS
  rw [sl_cps, at_nat]
  rfl
theorem stp_fn {b u : Tr} {c : Nat} (h : stp (.fn b) c = some u) : c = 98 ∧ u = b := by
  simp only [stp] at h
  split at h
  · rename_i hc; cases h; exact ⟨hc, rfl⟩
  · cases h
theorem stp_ap {f g u : Tr} {c : Nat} (h : stp (.ap f g) c = some u) : (c = 102 ∧ u = f) ∨ (c = 103 ∧ u = g) := by
  simp only [stp] at h
  split at h
  · rename_i hc; cases h; exact .inl ⟨hc, rfl⟩
  · split at h
    · rename_i hc; cases h; exact .inr ⟨hc, rfl⟩
    · cases h
theorem add_l {S : Sto} {xs ys : List D} (h : xs.length + ys.length ≤ 100) : addI S (.lst xs) (.lst ys) = some (.lst (xs ++ ys)) := addI_lst rfl rfl (by omega)
/-! ### the class's name -/
theorem c_class_NoAddress {d : Nat} {S : Sto} : callF pr (d + 1) "_law_class" [.exn "NoAddress" [] []] S = some (.str (sl [78, 111, 65, 100, 100, 114, 101, 115, 115]), S) := by
  rw [callF_step pf__law_class rfl]
  have ha : ∀ (xs ys : List D), xs.length + ys.length ≤ 100 → addI S (.lst xs) (.lst ys) = some (.lst (xs ++ ys)) := fun xs ys h => addI_lst rfl rfl (by omega)
  have hc : cntD S (.lst [.bl true, .bl false, .bl false, .bl false, .bl false, .bl false, .bl false, .bl false, .bl false, .bl false, .bl false, .bl false]) (.bl true) = some 1 := rfl
  have hi : idxlD S (.lst [.bl true, .bl false, .bl false, .bl false, .bl false, .bl false, .bl false, .bl false, .bl false, .bl false, .bl false, .bl false]) (.bl true) = some 0 := rfl
  simp [f__law_class, px_NoAddress_NoAddress, px_NoAddress_NoBack, px_NoAddress_NoKnot, px_NoAddress_NoLine, px_NoAddress_NoMeeting, px_NoAddress_NoName, px_NoAddress_NoNumber, px_NoAddress_NoRedex, px_NoAddress_NoText, px_NoAddress_NoWord, px_NoAddress_NotDone, px_NoAddress_SpinError, px_NoAddress_TooLong, px_NoAddress_ValueError, mkLst, ha, hc, hi, lsOf, -Option.map_map]
/-! ### the places -/
def pls : Tr → List Nat → List (List Nat × List Nat)
  | .fn b, a => (a, [102, 117, 110]) :: pls b (a ++ [98])
  | .ap f g, a => (a, [112, 117, 116]) :: (pls f (a ++ [102]) ++ pls g (a ++ [103]))
  | _, a => [(a, [110, 97, 109, 101])]
def plD (l : List (List Nat × List Nat)) : List D := l.map fun q => .tup [.str (sl q.1), .str (sl q.2)]
theorem plD_len (l : List (List Nat × List Nat)) : (plD l).length = l.length := by simp [plD]
theorem plD_app (a b : List (List Nat × List Nat)) : plD a ++ plD b = plD (a ++ b) := by simp [plD]
theorem pls_len : ∀ (t : Tr) (a : List Nat), (pls t a).length = t.sz
  | .nm _, a => rfl
  | .bd _, a => rfl
  | .fn b, a => by simp only [pls, List.length_cons, pls_len b, Tr.sz]
  | .ap f g, a => by simp only [pls, List.length_cons, List.length_append, pls_len f, pls_len g, Tr.sz]
/-! ### which addresses -/
theorem in_pls : ∀ (t : Tr) (a l : List Nat), l ∈ (pls t a).map (·.1) ↔ ∃ r, l = a ++ r ∧ (tat t r).isSome = true
  | .nm w, a, l => by
    constructor
    · intro h
      simp [pls] at h
      exact ⟨[], by simpa using h, rfl⟩
    · rintro ⟨r, rfl, h⟩
      cases r with
      | nil => simp [pls]
      | cons c r => cases h
  | .bd w, a, l => by
    constructor
    · intro h
      simp [pls] at h
      exact ⟨[], by simpa using h, rfl⟩
    · rintro ⟨r, rfl, h⟩
      cases r with
      | nil => simp [pls]
      | cons c r => cases h
  | .fn b, a, l => by
    simp only [pls, List.map_cons, List.mem_cons, in_pls b (a ++ [98]) l]
    constructor
    · rintro (rfl | ⟨r, rfl, h⟩)
      · exact ⟨[], by simp, rfl⟩
      · exact ⟨98 :: r, by simp, h⟩
    · rintro ⟨r, rfl, h⟩
      cases r with
      | nil => exact .inl (by simp)
      | cons c r =>
        refine .inr ⟨r, ?_, ?_⟩
        · have : c = 98 := by
            cases hs : stp (.fn b) c with
            | none =>
              have : tat (.fn b) (c :: r) = none := by show (stp (.fn b) c).bind _ = none; rw [hs]; rfl
              rw [this] at h; cases h
            | some u => exact (stp_fn hs).1
          simp [this]
        · cases hs : stp (.fn b) c with
          | none =>
            have : tat (.fn b) (c :: r) = none := by show (stp (.fn b) c).bind _ = none; rw [hs]; rfl
            rw [this] at h; cases h
          | some u =>
            have e : tat (.fn b) (c :: r) = tat u r := by show (stp (.fn b) c).bind _ = _; rw [hs]; rfl
            rw [e, (stp_fn hs).2] at h
            exact h
  | .ap f g, a, l => by
    simp only [pls, List.map_cons, List.mem_cons, List.map_append, List.mem_append, in_pls f (a ++ [102]) l, in_pls g (a ++ [103]) l]
    constructor
    · rintro (rfl | ⟨r, rfl, h⟩ | ⟨r, rfl, h⟩)
      · exact ⟨[], by simp, rfl⟩
      · exact ⟨102 :: r, by simp, h⟩
      · exact ⟨103 :: r, by simp, h⟩
    · rintro ⟨r, rfl, h⟩
      cases r with
      | nil => exact .inl (by simp)
      | cons c r =>
        cases hs : stp (.ap f g) c with
        | none =>
          have : tat (.ap f g) (c :: r) = none := by show (stp (.ap f g) c).bind _ = none; rw [hs]; rfl
          rw [this] at h; cases h
        | some u =>
          have e : tat (.ap f g) (c :: r) = tat u r := by show (stp (.ap f g) c).bind _ = _; rw [hs]; rfl
          rw [e] at h
          rcases stp_ap hs with ⟨rfl, rfl⟩ | ⟨rfl, rfl⟩
          · exact .inr (.inl ⟨r, by simp, h⟩)
          · exact .inr (.inr ⟨r, by simp, h⟩)
theorem frD_datas : ∀ l : List (List Nat), (∀ w ∈ l, okL w = true) → D.datas (frD l) = true
  | [], _ => by simp [frD]
  | w :: l, h => by
    rw [frD_cons, datas_cons, data_str, h w List.mem_cons_self, frD_datas l fun v hv => h v (List.mem_cons_of_mem _ hv)]
    rfl
/-! ### own == -/
theorem allStr_frD : ∀ ws : List (List Nat), allStr (frD ws) = some (ws.map sl)
  | [] => rfl
  | w :: ws => by
    show (allStr (frD ws)).map (sl w :: ·) = _
    rw [allStr_frD ws]; rfl
theorem ind_str {S : Sto} {l : List Nat} {ws : List (List Nat)} (hl : okL l = true) (hw : ∀ w ∈ ws, okL w = true) : indD S (.str (sl l)) (.lst (frD ws)) = some (decide (l ∈ ws)) := by
  have e : indD S (.str (sl l)) (.lst (frD ws)) = (allStr (frD ws)).bind fun ss => if (D.str (sl l)).data = true ∧ D.datas (frD ws) = true ∧ (D.str (sl l)).py.depth ≤ 60 then some (ss.any fun y => decide (y = sl l)) else none := rfl
  rw [e, allStr_frD, obs, if_pos ⟨by simpa [okL] using hl, frD_datas ws hw, by simp [D.py, PyData.depth]⟩]
  congr 1
  rw [Bool.eq_iff_iff, List.any_eq_true, decide_eq_true_iff]
  constructor
  · rintro ⟨y, hy, h⟩
    obtain ⟨w, hw2, rfl⟩ := List.mem_map.mp hy
    have := sl_inj.mp (of_decide_eq_true h)
    rw [← this]; exact hw2
  · intro h
    exact ⟨sl l, List.mem_map.mpr ⟨l, h, rfl⟩, by simp⟩
theorem ind_odd {S : Sto} {x : D} {ws : List (List Nat)} (hx : x.data = true) (hp : x.py.depth ≤ 60) (hs : ∀ s, x ≠ .str s) (hw : ∀ w ∈ ws, okL w = true) : indD S x (.lst (frD ws)) = some false := by
  unfold indD
  rw [show lsOf S (.lst (frD ws)) = some (frD ws) from rfl, obs, allStr_frD, obs, if_pos ⟨hx, frD_datas ws hw, hp⟩]
  congr 1
  rw [Bool.eq_false_iff]
  intro h
  obtain ⟨y, hy, h⟩ := List.any_eq_true.mp h
  cases x <;> first | cases h | exact hs _ rfl
theorem pls_ok : ∀ (t : Tr) (a : List Nat), okL a = true → ∀ w ∈ (pls t a).map (·.1), okL w = true
  | .nm _, a, h, w, hw => by simp [pls] at hw; rw [hw]; exact h
  | .bd _, a, h, w, hw => by simp [pls] at hw; rw [hw]; exact h
  | .fn b, a, h, w, hw => by
    simp only [pls, List.map_cons, List.mem_cons] at hw
    rcases hw with rfl | hw
    · exact h
    · exact pls_ok b _ (by rw [okL_app, h]; rfl) w hw
  | .ap f g, a, h, w, hw => by
    simp only [pls, List.map_cons, List.mem_cons, List.map_append, List.mem_append] at hw
    rcases hw with rfl | hw | hw
    · exact h
    · exact pls_ok f _ (by rw [okL_app, h]; rfl) w hw
    · exact pls_ok g _ (by rw [okL_app, h]; rfl) w hw
theorem dec_of {p : Prop} [Decidable p] {b : Bool} (h : p ↔ b = true) : decide p = b := by
  cases b with
  | true => exact decide_eq_true (h.mpr rfl)
  | false => exact decide_eq_false fun z => by cases h.mp z
theorem Pd_eqv : ∀ t : Tr, PyData.eqv (Pd t).py (Pd t).py = true
  | .nm w => by simp [Pd, D.py, D.pys, PyData.eqv, PyData.eqvAll]
  | .bd n => by simp [Pd, D.py, D.pys, PyData.eqv, PyData.eqvAll]
  | .fn b => by
    have := Pd_eqv b
    simp [Pd, D.py, D.pys, PyData.eqv, PyData.eqvAll, this]
  | .ap f g => by
    have h1 := Pd_eqv f
    have h2 := Pd_eqv g
    simp [Pd, D.py, D.pys, PyData.eqv, PyData.eqvAll, h1, h2]
theorem Pd_dep : ∀ t : Tr, (Pd t).py.depth ≤ 3 * t.ht + 3
  | .nm w => by simp [Pd, D.py, D.pys, PyData.depth, PyData.depthAll, Tr.ht]
  | .bd n => by simp [Pd, D.py, D.pys, PyData.depth, PyData.depthAll, Tr.ht]
  | .fn b => by
    have := Pd_dep b
    simp only [Pd, D.py, D.pys, PyData.depth, PyData.depthAll, Tr.ht]
    omega
  | .ap f g => by
    have h1 := Pd_dep f
    have h2 := Pd_dep g
    simp only [Pd, D.py, D.pys, PyData.depth, PyData.depthAll, Tr.ht]
    omega
theorem eq_Pd {S : Sto} {t : Tr} (hv : ∀ v ∈ frs t, okW v) (hh : t.ht ≤ 45) : eqD S (Pd t) (Pd t) = some true := by
  have hd := Pd_dep t
  have e : eqD S (Pd t) (Pd t) = if (Pd t).data && (Pd t).data && decide (min (Pd t).py.depth (Pd t).py.depth ≤ 150) then some (PyData.eqv (Pd t).py (Pd t).py) else none := by
    cases t <;> rfl
  rw [e, Pd_data t hv, Nat.min_self, if_pos (by simp; omega), Pd_eqv]
theorem c_teq {d : Nat} {S : Sto} {t : Tr} (hv : ∀ v ∈ frs t, okW v) (hh : t.ht ≤ 45) : callF pr (d + 1) "Term.__eq__" [Tm t, Tm t] S = some (.bl true, S) := by
  have e1 : ∀ S, iscD S (Str.ofString "Term") (Tm t) = some true := fun S => rfl
  have e2 := eq_Pd (S := S) hv hh
  rw [callF_step pf_Termu_equ rfl]
  simp [f_Termu_equ, ev_isc, e1, Tm_tree, Tm_cls, pn_Term_tree, e2, -Option.map_map]
/-! ### measures -/
theorem tat_facts : ∀ (l : List Nat) (t u : Tr), tat t l = some u → l.length + u.ht ≤ t.ht ∧ u.sz ≤ t.sz
  | [], t, u, h => by cases h; exact ⟨by simp, Nat.le_refl _⟩
  | c :: l, t, u, h => by
    obtain ⟨v, h1, h2⟩ := Option.bind_eq_some_iff.mp (show (stp t c).bind (fun u => tat u l) = some u from h)
    obtain ⟨q1, q2⟩ := tat_facts l v u h2
    cases t with
    | nm w => cases h1
    | bd k => cases h1
    | fn b => obtain ⟨rfl, rfl⟩ := stp_fn h1; simp only [List.length_cons, Tr.ht, Tr.sz]; omega
    | ap f g => rcases stp_ap h1 with ⟨rfl, rfl⟩ | ⟨rfl, rfl⟩ <;> simp only [List.length_cons, Tr.ht, Tr.sz] <;> omega
theorem ev_neq {a b : E} {ρ : Fw.Env} {S S1 S2 : Sto} {t u : Tr} (ha : evE (ctxP pr 229) a ρ S = some (Tm t, S1)) (hb : evE (ctxP pr 229) b ρ S1 = some (Tm u, S2)) (htu : t = u) (hv : ∀ v ∈ frs t, okW v) (hh : t.ht ≤ 45) : evE (ctxP pr 229) (.eqo true a b) ρ S = some (.bl false, S2) := by
  subst htu
  have e1 := c_teq (d := 227) (S := S2) hv hh
  have hc : ∀ S, clsOf S (Tm t) = some (Str.ofString "Term") := fun S => rfl
  have hm : pr.meth (Str.ofString "Term") (Str.ofString "__eq__") = some (Str.ofString "Term.__eq__") := by rfl
  rw [ev_eqo, ha, obs]
  simp only [hb, obs]
  rw [hc, obs, if_pos (show eqOk S2 (Str.ofString "Term") (Tm t) = true from rfl)]
  show ((pr.meth (Str.ofString "Term") (Str.ofString "__eq__")).bind fun g => _) = _
  rw [hm, obs]
  show ((callF pr 228 (Str.ofString "Term.__eq__") [Tm t, Tm t] S2).bind fun r => _) = _
  rw [show (228 : Nat) = 227 + 1 from rfl, e1, obs]
  rfl
theorem okL_of {l : List Nat} (h : ∀ c ∈ l, c < 1000) : okL l = true := List.all_eq_true.mpr fun c hc => decide_eq_true (by have := h c hc; omega)
theorem okL_sub {l v : List Nat} (h : okL l = true) (hv : ∀ c ∈ v, c ∈ l) : okL v = true := List.all_eq_true.mpr fun c hc => List.all_eq_true.mp h c (hv c hc)
theorem cut_any {S : Sto} {l : List Nat} {i j : Option Int} (h : l.length ≤ 1000) (ho : okL l = true) : ∃ v, sliceD S (.str (sl l)) i j = some (.str (sl v)) ∧ v.length ≤ l.length ∧ okL v = true := by
  have e : sliceD S (.str (sl l)) i j = if (sl l).length ≤ sizeLine then some (D.str (L2.cutS (sl l) i j)) else none := rfl
  rw [e, sl_len, sizeLine_eq, if_pos (by omega)]
  refine ⟨(l.drop (HT.sIx l.length 0 i)).take (HT.sIx l.length l.length j - HT.sIx l.length 0 i), ?_, ?_, ?_⟩
  · unfold L2.cutS
    rw [sl_len, sl_cps]
    rfl
  · rw [List.length_take, List.length_drop]; omega
  · exact okL_sub ho fun c hc => List.mem_of_mem_drop (List.mem_of_mem_take hc)
theorem notS_of {x : D} (h : tyOf x = some "NoneType" ∨ tyOf x = some "bool" ∨ tyOf x = some "int" ∨ tyOf x = some "list" ∨ tyOf x = some "tuple") : notS x := fun S => by
  have hv : val S x = x := by cases x <;> first | rfl | simp [tyOf] at h
  unfold isinD
  rw [hv]
  rcases h with h | h | h | h | h <;> rw [h] <;> rfl
end K03

set_option Elab.async false
set_option linter.all false
set_option maxRecDepth 100000
set_option exponentiation.threshold 1000000
namespace K03
open PySem Fw
/-! ### texts of terms with any names -/
theorem c_textG {fr : List (List Nat)} (hfr : ∀ w ∈ fr, okW w) {t : Tr} {d : Nat} {S : Sto} (hd : t.ht + 1 ≤ d) (hd2 : 2 ≤ d) (wf : Tr.wf fr 0 t) (hz : t.sz ≤ 100000) (hh : t.ht ≤ 80) (hl : (wordsL (frs t)).length = 90) : callF pr d "_law_text" [Ld t] S = some (.str (sl (txt t)), S) := by
  obtain ⟨e, rfl⟩ : ∃ e, d = e + 1 + 1 := ⟨d - 2, by omega⟩
  have hdp := dp_lt t
  have e1 := c_free t (d := e + 1) (S := S) (by omega) (by omega)
  have e2 := c_words (d := e) (S := S) (fr := frs t)
  have e3 := c_wr (fr := fr) (ws := wordsL (frs t)) hfr (fun w hw => (wordsL_ok w hw).2.1) t (d := e + 1) (k := 0) (S := S) (by omega) wf (by omega) hz
  rw [callF_step pf__law_text rfl]
  rw [show ((0 : Nat) : Int) = 0 from rfl] at e3
  simp [f__law_text, e1, e2, e3, txt, -Option.map_map]
theorem c_strG {fr : List (List Nat)} (hfr : ∀ w ∈ fr, okW w) {d : Nat} {S : Sto} {t : Tr} (wf : Tr.wf fr 0 t) (hz : t.sz ≤ 100000) (hh : t.ht ≤ 80) (hd : t.ht + 4 ≤ d) (h90 : (wordsL (frs t)).length = 90) : callF pr d "Term.__str__" [Tm t] S = some (.str (sl (txt t)), S) := by
  obtain ⟨e, rfl⟩ : ∃ e, d = e + 3 := ⟨d - 3, by omega⟩
  have hv : ∀ v ∈ frs t, okW v := fun v h => hfr v (frs_in wf v h)
  have hdp := dp_lt t
  have hm : t.dp ≤ (W2.filter fun w => decide (w ∉ frs t)).length := by
    unfold wordsL wordsM at h90
    rw [List.length_take] at h90
    omega
  have e1 := c_deep (d := e) (S := S) hz (by omega) hv
  have e2 := c_fresh (d := e) (many := t.dp) (S := S) hz hv hm
  have hfl : (fresh (frs t) t.dp).length = t.dp := by unfold fresh; rw [List.length_take]; omega
  have e3 := c_written (fr := frs t) (ws := fresh (frs t) t.dp) hv (fun w hw => (w2_ok w (List.mem_filter.mp (List.mem_of_mem_take hw)).1).2.1) t (d := e + 2) (k := 0) (S := S) (by omega) (wf_self wf) (by omega) hz
  have ew : wr (fresh (frs t) t.dp) 0 t = txt t := by
    unfold txt
    have h1 : fresh (frs t) t.dp = (wordsL (frs t)).take t.dp := by
      unfold fresh wordsL wordsM
      rw [List.take_take, Nat.min_eq_left (by omega)]
    rw [h1, wr_take t wf (by omega)]
  rw [ew] at e3
  rw [show ((0 : Nat) : Int) = 0 from rfl] at e3
  rw [callF_step pf_Termu_stru rfl]
  simp [f_Termu_stru, ev_stro, Tm_tree, Tm_cls, pn_Term_tree, e1, e2, e3, -Option.map_map]
theorem ninety {t : Tr} (h : t.sz ≤ 500) : (wordsL (frs t)).length = 90 := by
  have h1 := fil_len w2_nodup (frs t)
  have h2 := frs_len t
  rw [w2_len] at h1
  simp only [wordsL, wordsM, List.length_take]
  omega
/-! ### names bound outside -/
def opd (ws : List (List Nat)) (out : Nat) : Nat → Tr → Tr
  | _, .nm v => .nm v
  | j, .bd n => if n < j then .bd n else .nm (ws.getD (out - 1 - (n - j)) [])
  | j, .fn b => .fn (opd ws out (j + 1) b)
  | j, .ap f g => .ap (opd ws out j f) (opd ws out j g)
theorem opd_ht {ws : List (List Nat)} {out : Nat} : ∀ (t : Tr) (j : Nat), (opd ws out j t).ht = t.ht
  | .nm v, j => rfl
  | .bd n, j => by unfold opd; split <;> rfl
  | .fn b, j => by simp only [opd, Tr.ht, opd_ht b]
  | .ap f g, j => by simp only [opd, Tr.ht, opd_ht f, opd_ht g]
theorem opd_sz {ws : List (List Nat)} {out : Nat} : ∀ (t : Tr) (j : Nat), (opd ws out j t).sz = t.sz
  | .nm v, j => rfl
  | .bd n, j => by unfold opd; split <;> rfl
  | .fn b, j => by simp only [opd, Tr.sz, opd_sz b]
  | .ap f g, j => by simp only [opd, Tr.sz, opd_sz f, opd_sz g]
theorem opd_wf {ws fr : List (List Nat)} {out : Nat} (hl : out ≤ ws.length) : ∀ (t : Tr) {j : Nat}, Tr.wf fr (out + j) t → Tr.wf (fr ++ ws) j (opd ws out j t)
  | .nm v, j, h => List.mem_append_left _ h
  | .bd n, j, h => by
    have h : n < out + j := h
    unfold opd
    split
    · show n < j; omega
    · show ws.getD (out - 1 - (n - j)) [] ∈ fr ++ ws
      have hi : out - 1 - (n - j) < ws.length := by omega
      rw [List.getD_eq_getElem?_getD, List.getElem?_eq_getElem hi]
      exact List.mem_append_right _ (List.getElem_mem hi)
  | .fn b, j, h => opd_wf hl b (j := j + 1) h
  | .ap f g, j, h => ⟨opd_wf hl f h.1, opd_wf hl g h.2⟩
theorem opd_eq {ws vs : List (List Nat)} {out : Nat} {fr : List (List Nat)} (he : ∀ i < out, ws.getD i [] = vs.getD i []) : ∀ (t : Tr) {j : Nat}, Tr.wf fr (out + j) t → opd ws out j t = opd vs out j t
  | .nm v, j, h => rfl
  | .bd n, j, h => by
    have h : n < out + j := h
    unfold opd
    split
    · rfl
    · rw [he _ (by omega)]
  | .fn b, j, h => by simp only [opd, opd_eq he b (j := j + 1) h]
  | .ap f g, j, h => by simp only [opd, opd_eq he f h.1, opd_eq he g h.2]
theorem c_opened {ws fr : List (List Nat)} {out : Nat} {S : Sto} (hl : out ≤ ws.length) : ∀ (t : Tr) {d j : Nat}, t.ht ≤ d → Tr.wf fr (out + j) t → callF pr d "_law_opened" [Ld t, .lst (frD ws), .int j, .int out] S = some (Ld (opd ws out j t), S)
  | t, d, j, hd, wf => by
    have hp := ht_pos t
    obtain ⟨e, rfl⟩ : ∃ e, d = e + 1 := ⟨d - 1, by omega⟩
    rw [callF_step pf__law_opened rfl]
    match t, hd, wf with
    | .nm w, hd, wf => simp [f__law_opened, Ld, opd, -Option.map_map]
    | .bd n, hd, wf =>
      have wf : n < out + j := wf
      by_cases h : n < j
      · have i1 : ((j : Int) ≤ n) ↔ False := ⟨fun _ => by omega, fun h => h.elim⟩
        simp [f__law_opened, Ld, opd, h, i1, -Option.map_map]
      · have i1 : ((j : Int) ≤ n) ↔ True := ⟨fun _ => trivial, fun _ => by omega⟩
        have i2 : ((out : Int) - 1 - ((n : Int) - j)) = ((out - 1 - (n - j) : Nat) : Int) := by omega
        have i3 := frD_at (ws := ws) (j := out - 1 - (n - j)) (by omega)
        simp [f__law_opened, Ld, opd, h, i1, i2, at_nat, i3, mkLst, -Option.map_map]
    | .fn b, hd, wf =>
      simp only [Tr.ht] at hd
      have ih := c_opened (S := S) hl b (d := e) (j := j + 1) (by omega) wf
      push_cast at ih
      simp [f__law_opened, Ld, opd, ih, mkLst, -Option.map_map]
    | .ap f g, hd, wf =>
      simp only [Tr.ht] at hd
      have ih1 := c_opened (S := S) hl f (d := e) (j := j) (by omega) wf.1
      have ih2 := c_opened (S := S) hl g (d := e) (j := j) (by omega) wf.2
      simp [f__law_opened, Ld, opd, ih1, ih2, mkLst, -Option.map_map]
theorem c_pleaf {ws fr : List (List Nat)} {d j : Nat} {S : Sto} (hl : ws.length ≤ 1000) : ∀ t : Tr, Tr.wf fr (ws.length + j) t → t.isFn = false → t.isAp = false → callF pr (d + 1) "part_at.leaf" [Pd t, .int j, .lst (frD ws)] S = some (Pd (opd ws ws.length j t), S)
  | .nm v, wf, h1, h2 => by
    rw [callF_step pf_part_at_leaf rfl]
    simp [f_part_at_leaf, Pd, opd, -Option.map_map]
  | .bd n, wf, h1, h2 => by
    have wf : n < ws.length + j := wf
    rw [callF_step pf_part_at_leaf rfl]
    have e1 : biD .len [.lst (frD ws)] S = some (.int (ws.length : Nat)) := by
      show (lenD S (.lst (frD ws))).map D.int = _
      have : lenD S (.lst (frD ws)) = some ((frD ws).length : Int) := rfl
      rw [this, frD_len]; rfl
    by_cases h : n < j
    · have i1 : ((j : Int) ≤ n) ↔ False := ⟨fun _ => by omega, fun h => h.elim⟩
      simp [f_part_at_leaf, Pd, opd, h, i1, -Option.map_map]
    · have i1 : ((j : Int) ≤ n) ↔ True := ⟨fun _ => trivial, fun _ => by omega⟩
      have i2 : ((ws.length : Int) - 1 - ((n : Int) - j)) = ((ws.length - 1 - (n - j) : Nat) : Int) := by omega
      have i3 := frD_at (ws := ws) (j := ws.length - 1 - (n - j)) (by omega)
      simp [f_part_at_leaf, Pd, opd, h, i1, e1, i2, at_nat, i3, -Option.map_map]
  | .fn b, wf, h1, h2 => by simp [Tr.isFn] at h1
  | .ap f g, wf, h1, h2 => by simp [Tr.isAp] at h2
theorem c_pchg {ws fr : List (List Nat)} {S : Sto} (hl : ws.length ≤ 1000) : ∀ (t : Tr) {d j : Nat}, t.ht + 1 ≤ d → Tr.wf fr (ws.length + j) t → callF pr d "changed" [Pd t, .clo "part_at.leaf" [.lst (frD ws)], .int j] S = some (Pd (opd ws ws.length j t), S)
  | t, d, j, hd, wf => by
    have hp := ht_pos t
    obtain ⟨e, rfl⟩ : ∃ e, d = e + 1 + 1 := ⟨d - 2, by omega⟩
    rw [callF_step pf_changed rfl]
    match t, hd, wf with
    | .nm v, hd, wf =>
      have e1 := c_pleaf (d := e) (j := j) (S := S) hl (.nm v) wf rfl rfl
      have hc : ∀ as, evE (ctxP pr (e + 1)) (.callv 1 as) [some (Pd (.nm v)), some (.clo "part_at.leaf" [.lst (frD ws)]), some (.int j), some (.str (sl [110, 97, 109, 101])), some (.lst [.str (sl v)])] S = _ := fun as => ev_callv (lf := "part_at.leaf") (ws := [.lst (frD ws)]) (by rfl)
      simp only [Pd] at hc e1
      simp [f_changed, Pd, hc, e1, -Option.map_map]
    | .bd n, hd, wf =>
      have e1 := c_pleaf (d := e) (j := j) (S := S) hl (.bd n) wf rfl rfl
      have hc : ∀ as, evE (ctxP pr (e + 1)) (.callv 1 as) [some (Pd (.bd n)), some (.clo "part_at.leaf" [.lst (frD ws)]), some (.int j), some (.str (sl [98, 111, 117, 110, 100])), some (.lst [.int n])] S = _ := fun as => ev_callv (lf := "part_at.leaf") (ws := [.lst (frD ws)]) (by rfl)
      simp only [Pd] at hc e1
      simp [f_changed, Pd, hc, e1, -Option.map_map]
    | .fn b, hd, wf =>
      simp only [Tr.ht] at hd
      have ih := c_pchg (S := S) hl b (d := e + 1) (j := j + 1) (by omega) wf
      push_cast at ih
      simp [f_changed, Pd, opd, ih, -Option.map_map]
    | .ap f g, hd, wf =>
      simp only [Tr.ht] at hd
      have ih1 := c_pchg (S := S) hl f (d := e + 1) (j := j) (by omega) wf.1
      have ih2 := c_pchg (S := S) hl g (d := e + 1) (j := j) (by omega) wf.2
      simp [f_changed, Pd, opd, ih1, ih2, -Option.map_map]
end K03

set_option Elab.async false
set_option linter.all false
set_option maxRecDepth 100000
set_option exponentiation.threshold 1000000
namespace K03
open PySem Fw
theorem tat_wf {fr : List (List Nat)} : ∀ (l : List Nat) (t u : Tr) (k : Nat), tat t l = some u → Tr.wf fr k t → Tr.wf fr (l.count 98 + k) u
  | [], t, u, k, h, wf => by cases h; simpa using wf
  | c :: l, t, u, k, h, wf => by
    obtain ⟨v, h1, h2⟩ := Option.bind_eq_some_iff.mp (show (stp t c).bind (fun u => tat u l) = some u from h)
    cases t with
    | nm w => cases h1
    | bd k => cases h1
    | fn b =>
      obtain ⟨rfl, rfl⟩ := stp_fn h1
      have := tat_wf l v u (k + 1) h2 wf
      rw [List.count_cons_self]
      rw [show l.count 98 + 1 + k = l.count 98 + (k + 1) by omega]
      exact this
    | ap f g =>
      rcases stp_ap h1 with ⟨rfl, rfl⟩ | ⟨rfl, rfl⟩
      · rw [List.count_cons_of_ne (by omega)]
        exact tat_wf l v u k h2 wf.1
      · rw [List.count_cons_of_ne (by omega)]
        exact tat_wf l v u k h2 wf.2
theorem cnt_le : ∀ (l : List Nat) (t u : Tr), tat t l = some u → l.count 98 ≤ l.length ∧ l.length ≤ t.ht := fun l t u h => ⟨List.count_le_length, by have := (tat_facts l t u h).1; omega⟩
/-! ### the law's part -/
def lpB : List Sm := match f__law_part.body with
  | [.for_ _ _ _ b, _] => b
  | _ => []
theorem lp_turn {d c : Nat} {S : Sto} {t u : Tr} {a1 : Option D} (h : stp t c = some u) : evSs (ctxP pr d) lpB [some (Ld t), a1, some (.str (sl [c]))] S = some (.nx [some (Ld u), a1, some (.str (sl [c]))] S) := by
  cases t with
  | nm w => cases h
  | bd n => cases h
  | fn b =>
    obtain ⟨rfl, rfl⟩ := stp_fn h
    simp [lpB, f__law_part, Ld, biD, -Option.map_map]
  | ap f g =>
    rcases stp_ap h with ⟨rfl, rfl⟩ | ⟨rfl, rfl⟩
    · simp [lpB, f__law_part, Ld, biD, -Option.map_map]
    · simp [lpB, f__law_part, Ld, biD, -Option.map_map]
theorem lp_loop {d : Nat} {P : Sto → Prop} {S : Sto} (hP : P S) {a1 : Option D} : ∀ (l : List Nat) (t u : Tr) (a2 : Option D), tat t l = some u → ∃ b2, forL P (.name 2) (evSs (ctxP pr d) lpB) (frD (chs l)) [some (Ld t), a1, a2] S = some (.nx [some (Ld u), a1, b2] S)
  | [], t, u, a2, h => by cases h; exact ⟨_, forL_nil hP⟩
  | c :: l, t, u, a2, h => by
    obtain ⟨v, h1, h2⟩ := Option.bind_eq_some_iff.mp (show (stp t c).bind (fun u => tat u l) = some u from h)
    obtain ⟨c2, e2⟩ := lp_loop (d := d) hP (a1 := a1) l v u (some (.str (sl [c]))) h2
    refine ⟨c2, ?_⟩
    rw [show frD (chs (c :: l)) = .str (sl [c]) :: frD (chs l) from rfl, forL_cons hP]
    have es : setT (.name 2) (.str (sl [c])) [some (Ld t), a1, a2] S = some ([some (Ld t), a1, some (.str (sl [c]))], S) := rfl
    rw [es, obs]
    simp only [lp_turn h1, seqL_nx]
    exact e2
theorem lp_body : f__law_part.body = [.for_ (.name 2) .str [(.slot 1)] lpB, (.ret (.slot 0))] := rfl
theorem c_lpart {d : Nat} {S : Sto} {t u : Tr} {l : List Nat} (h : tat t l = some u) : callF pr (d + 1) "_law_part" [Ld t, .str (sl l)] S = some (Ld u, S) := by
  obtain ⟨b2, e1⟩ := lp_loop (d := d) (P := holdD [.str (sl l)] S) (S := S) hold_str (a1 := some (.str (sl l))) l t u none h
  have h0 : callF pr (d + 1) "_law_part" [Ld t, .str (sl l)] S = finO .raw S (evSs (ctxP pr d) f__law_part.body [some (Ld t), some (.str (sl l)), none] S) := callF_step pf__law_part rfl
  rw [h0, lp_body]
  simp [items_str, e1, -Option.map_map]
/-! ### kinds -/
def Kd : Tr → List Nat
  | .fn _ => [102, 117, 110]
  | .ap _ _ => [112, 117, 116]
  | _ => [110, 97, 109, 101]
theorem c_kind {d : Nat} {S : Sto} {t u : Tr} {l : List Nat} (h : tat t l = some u) : callF pr (d + 2) "kind_at" [Tm t, .str (sl l)] S = some (.str (sl (Kd u)), S) := by
  have e1 := c_tat (d := d) (S := S) h
  rw [callF_step pf_kind_at rfl]
  cases u <;> simp [f_kind_at, Tm_tree, Tm_cls, pn_Term_tree, e1, sub_Pd, Ptag, Kd, -Option.map_map]
theorem lkind (u : Tr) (S : Sto) : subD S (.dct [.inr (Str.ofString "l"), .inr (Str.ofString "p"), .inr (Str.ofString "v"), .inr (Str.ofString "n")] [.str (sl [102, 117, 110]), .str (sl [112, 117, 116]), .str (sl [110, 97, 109, 101]), .str (sl [110, 97, 109, 101])]) (.str (sl (Ltag u))) = some (.str (sl (Kd u))) := by
  cases u <;> rfl
theorem nodk4 : nodK [(.inr (Str.ofString "l") : Fw.Key), .inr (Str.ofString "p"), .inr (Str.ofString "v"), .inr (Str.ofString "n")] = true := rfl
/-! ### the part -/
theorem count98 {S : Sto} {l : List Nat} : bmD .count (.str (sl l)) [.str (sl [98])] S = some (.int ((l.count 98 : Nat) : Int), S) := by
  have h : bmD .count (.str (sl l)) [.str (sl [98])] S = some (.int (Txt.count (sl l) (sl [98])), S) := rfl
  rw [h, count_b]
def Pt (t : Tr) (l : List Nat) (u : Tr) : Tr := opd (wordsL (frs t)) (l.count 98) 0 u
theorem fresh_getD {fr : List (List Nat)} {m : Nat} (hm : m ≤ 90) (h : (wordsL fr).length = 90) : (fresh fr m).length = m ∧ ∀ i < m, (fresh fr m).getD i [] = (wordsL fr).getD i [] := by
  have e : fresh fr m = (wordsL fr).take m := by
    unfold fresh wordsL wordsM
    rw [List.take_take, Nat.min_eq_left hm]
  rw [e]
  refine ⟨by rw [List.length_take]; omega, fun i hi => ?_⟩
  rw [List.getD_eq_getElem?_getD, List.getD_eq_getElem?_getD, List.getElem?_take, if_pos hi]
theorem c_part {d : Nat} {S : Sto} {t u : Tr} {l : List Nat} (h : tat t l = some u) (wf : Tr.wf ALL 0 t) (hz : t.sz ≤ 500) (hh : t.ht ≤ 40) (hd : t.ht + 8 ≤ d) : callF pr d "part_at" [Tm t, .str (sl l)] S = some (Tm (Pt t l u), S) := by
  obtain ⟨e, rfl⟩ : ∃ e, d = e + 3 := ⟨d - 3, by omega⟩
  obtain ⟨q1, q2⟩ := cnt_le l t u h
  obtain ⟨q3, q4⟩ := tat_facts l t u h
  have hv : ∀ v ∈ frs t, okW v := fun v h => all_ok v (frs_in wf v h)
  have h90 := ninety (t := t) hz
  obtain ⟨f1, f2⟩ := fresh_getD (fr := frs t) (m := l.count 98) (by omega) h90
  have e1 := c_tat (d := e + 1) (S := S) h
  have e2 := c_fresh (d := e) (many := l.count 98) (S := S) (t := t) (by omega) hv (by
    unfold wordsL wordsM at h90
    rw [List.length_take] at h90
    omega)
  have w1 := tat_wf l t u 0 h wf
  have e3 := c_pchg (ws := fresh (frs t) (l.count 98)) (S := S) (by omega) u (d := e + 2) (j := 0) (by omega) (by rw [f1]; exact w1)
  rw [f1, opd_eq f2 u w1] at e3
  rw [show ((0 : Nat) : Int) = 0 from rfl] at e3
  have e4 := mk_term (d := e) (S := S) (t := Pt t l u)
  have e5 : ∀ S, bmD .count (.str (sl l)) [.str (sl [98])] S = some (.int ((l.count 98 : Nat) : Int), S) := fun S => count98
  have ck : ∀ S a, chkTy .str S (.str (sl a)) = true := fun S a => rfl
  unfold Pt at e4 ⊢
  rw [callF_step pf_part_at rfl]
  simp [f_part_at, Tm_tree, Tm_cls, pn_Term_tree, ck, e1, e2, e3, e4, e5, -Option.map_map]
theorem Pt_facts {t u : Tr} {l : List Nat} (h : tat t l = some u) (wf : Tr.wf ALL 0 t) (hz : t.sz ≤ 500) (hh : t.ht ≤ 40) : ∃ fr : List (List Nat), (∀ w ∈ fr, okW w) ∧ Tr.wf fr 0 (Pt t l u) ∧ (Pt t l u).sz ≤ 500 ∧ (Pt t l u).ht ≤ 40 := by
  obtain ⟨q1, q2⟩ := cnt_le l t u h
  obtain ⟨q3, q4⟩ := tat_facts l t u h
  have h90 := ninety (t := t) hz
  refine ⟨ALL ++ wordsL (frs t), fun w hw => ?_, opd_wf (by omega) u (tat_wf l t u 0 h wf), by unfold Pt; rw [opd_sz]; omega, by unfold Pt; rw [opd_ht]; omega⟩
  rcases List.mem_append.mp hw with h | h
  · exact all_ok w h
  · exact wordsL_ok w h
/-! ### what is refused -/
def Bad (t : Tr) (x : D) : Prop := notS x ∨ ∃ l, x = .str (sl l) ∧ tat t l = none
theorem c_kind_bad {d : Nat} {S : Sto} {t : Tr} {x : D} (h : Bad t x) : callF pr (d + 2) "kind_at" [Tm t, x] S = none ∧ callX pr (d + 2) "kind_at" [Tm t, x] S = some (.exn "NoAddress" [] [], S) := by
  have : callF pr (d + 1) "tree_at" [Pd t, x] S = none ∧ callX pr (d + 1) "tree_at" [Pd t, x] S = some (.exn "NoAddress" [] [], S) := by
    rcases h with h | ⟨l, rfl, h⟩
    · exact c_tat_odd h
    · exact c_tat_bad h
  obtain ⟨e1, e2⟩ := this
  rw [callF_step pf_kind_at rfl, callX_step pf_kind_at rfl]
  constructor
  · simp [f_kind_at, Tm_tree, Tm_cls, pn_Term_tree, e1, e2, -Option.map_map]
  · simp [f_kind_at, Tm_tree, Tm_cls, pn_Term_tree, e1, e2, -Option.map_map]
theorem c_part_bad {d : Nat} {S : Sto} {t : Tr} {x : D} (h : Bad t x) : callF pr (d + 2) "part_at" [Tm t, x] S = none ∧ callX pr (d + 2) "part_at" [Tm t, x] S = some (.exn "NoAddress" [] [], S) := by
  have : callF pr (d + 1) "tree_at" [Pd t, x] S = none ∧ callX pr (d + 1) "tree_at" [Pd t, x] S = some (.exn "NoAddress" [] [], S) := by
    rcases h with h | ⟨l, rfl, h⟩
    · exact c_tat_odd h
    · exact c_tat_bad h
  obtain ⟨e1, e2⟩ := this
  rw [callF_step pf_part_at rfl, callX_step pf_part_at rfl]
  constructor
  · simp [f_part_at, Tm_tree, Tm_cls, pn_Term_tree, e1, e2, -Option.map_map]
  · simp [f_part_at, Tm_tree, Tm_cls, pn_Term_tree, e1, e2, -Option.map_map]
theorem c_caught {d : Nat} {S : Sto} {t : Tr} {x : D} {k : Int} (h : Bad t x) : callF pr (d + 4) "_law_caught" [Tm t, x, .int k] S = some (.bl true, S) := by
  obtain ⟨e1, e2⟩ := c_kind_bad (d := d + 1) (S := S) h
  obtain ⟨e3, e4⟩ := c_part_bad (d := d + 1) (S := S) h
  have e5 := c_class_NoAddress (d := d + 2) (S := S)
  rw [callF_step pf__law_caught rfl]
  by_cases hk : k = 0
  · subst hk
    simp [f__law_caught, e1, e2, e5, px_NoAddress_SpinError, -Option.map_map]
  · simp [f__law_caught, hk, e3, e4, e5, px_NoAddress_SpinError, -Option.map_map]
/-! ### all addresses -/
def als (t : Tr) (a : List Nat) : List (List Nat) := (pls t a).map (·.1)
theorem als_len (t : Tr) (a : List Nat) : (als t a).length = t.sz := by rw [als, List.length_map, pls_len]
theorem c_all : ∀ (t : Tr) {d : Nat} {a : List Nat} {S : Sto}, t.ht ≤ d → a.length + t.ht ≤ 100000 → t.sz ≤ 100000 → callF pr d "_law_all" [Ld t, .str (sl a)] S = some (.lst (frD (als t a)), S)
  | t, d, a, S, hd, ha, hz => by
    have hp := ht_pos t
    obtain ⟨e, rfl⟩ : ∃ e, d = e + 1 := ⟨d - 1, by omega⟩
    rw [callF_step pf__law_all rfl]
    match t, hd, ha, hz with
    | .nm w, hd, ha, hz => simp [f__law_all, Ld, als, pls, frD, mkLst, -Option.map_map]
    | .bd w, hd, ha, hz => simp [f__law_all, Ld, als, pls, frD, mkLst, -Option.map_map]
    | .fn b, hd, ha, hz =>
      simp only [Tr.ht, Tr.sz] at hd ha hz
      have s1 : ∀ S, addI S (.str (sl a)) (.str (sl [98])) = some (.str (sl (a ++ [98]))) := fun S => addI_str (by simp; omega)
      have ih := c_all b (d := e) (a := a ++ [98]) (S := S) (by omega) (by simp; omega) (by omega)
      have q : addI S (.lst [.str (sl a)]) (.lst (frD (als b (a ++ [98])))) = some (.lst (.str (sl a) :: frD (als b (a ++ [98])))) := by
        rw [addI_lst rfl rfl (by rw [frD_len, als_len, List.length_cons, List.length_nil]; omega)]; rfl
      simp [f__law_all, Ld, s1, ih, q, mkLst, -Option.map_map]
      rfl
    | .ap f g, hd, ha, hz =>
      simp only [Tr.ht, Tr.sz] at hd ha hz
      have s1 : ∀ S, addI S (.str (sl a)) (.str (sl [102])) = some (.str (sl (a ++ [102]))) := fun S => addI_str (by simp; omega)
      have s2 : ∀ S, addI S (.str (sl a)) (.str (sl [103])) = some (.str (sl (a ++ [103]))) := fun S => addI_str (by simp; omega)
      have ih1 := c_all f (d := e) (a := a ++ [102]) (S := S) (by omega) (by simp; omega) (by omega)
      have ih2 := c_all g (d := e) (a := a ++ [103]) (S := S) (by omega) (by simp; omega) (by omega)
      have q1 : addI S (.lst [.str (sl a)]) (.lst (frD (als f (a ++ [102])))) = some (.lst (.str (sl a) :: frD (als f (a ++ [102])))) := by
        rw [addI_lst rfl rfl (by rw [frD_len, als_len, List.length_cons, List.length_nil]; omega)]; rfl
      have q2 : addI S (.lst (.str (sl a) :: frD (als f (a ++ [102])))) (.lst (frD (als g (a ++ [103])))) = some (.lst (.str (sl a) :: frD (als f (a ++ [102]) ++ als g (a ++ [103])))) := by
        rw [addI_lst rfl rfl (by rw [List.length_cons, frD_len, frD_len, als_len, als_len]; omega), List.cons_append, frD_app]
      have q3 : als (.ap f g) a = a :: (als f (a ++ [102]) ++ als g (a ++ [103])) := by simp [als, pls]
      rw [q3]
      simp [f__law_all, Ld, s1, s2, ih1, ih2, q1, q2, mkLst, -Option.map_map]
      rfl
end K03

set_option Elab.async false
set_option linter.all false
set_option maxRecDepth 100000
set_option exponentiation.threshold 1000000
namespace K03
open PySem Fw
theorem ev_stg {a : E} {ρ : Fw.Env} {S S1 : Sto} {t : Tr} {d : Nat} {l : List Nat} (ha : evE (ctxP pr d) a ρ S = some (Tm t, S1)) (h : callF pr (d - 1) "Term.__str__" [Tm t] S1 = some (.str (sl l), S1)) : evE (ctxP pr d) (.stro a) ρ S = some (.str (sl l), S1) := by
  rw [ev_stro, ha, obs]
  have hc : ∀ S, clsOf S (Tm t) = some "Term" := Tm_cls t
  have hm : pr.meth "Term" "__str__" = some "Term.__str__" := pm_Term_ustru
  simp only [Tm] at hc h ⊢
  simp [hc, hm, h]
def lawB : List Sm := match f_law.body with
  | [.for_ _ _ _ b, _] => b
  | _ => []
def B1 : List Sm := match lawB with
  | [_, _, _, _, _, .for_ _ _ _ b, _, _, _, _, _] => b
  | _ => []
def B2 : List Sm := match lawB with
  | [_, _, _, _, _, _, _, _, _, .for_ _ _ _ b, _] => b
  | _ => []
theorem road_turn {S : Sto} {t u : Tr} {l : List Nat} {a0 a1 a2 a6 a8 a9 a10 a11 a12 a13 : Option D} (h : tat t l = some u) (wf : Tr.wf ALL 0 t) (hz : t.sz ≤ 100) (hh : t.ht ≤ 10) :
    evSs (ctxP pr 229) B1 [a0, a1, a2, some (Ld t), some (Tm t), some (.lst (frD (wordsL (frs t)))), a6, some (.str (sl l)), a8, a9, a10, a11, a12, a13] S = some (.nx [a0, a1, a2, some (Ld t), some (Tm t), some (.lst (frD (wordsL (frs t)))), a6, some (.str (sl l)), some (Ld u), some (.str (sl (Kd u))), some (.str (sl (txt (Pt t l u)))), a11, a12, a13] S) := by
  obtain ⟨q1, q2⟩ := cnt_le l t u h
  obtain ⟨q3, q4⟩ := tat_facts l t u h
  obtain ⟨fr, f1, f2, f3, f4⟩ := Pt_facts h wf (by omega) (by omega)
  have h90 := ninety (t := t) (by omega)
  have p90 := ninety (t := Pt t l u) f3
  have vp : ∀ v ∈ frs (Pt t l u), okW v := fun v h => f1 v (frs_in f2 v h)
  have e1 := c_lpart (d := 228) (S := S) h
  have e2 := lkind u S
  have e3 : ∀ S, bmD .count (.str (sl l)) [.str (sl [98])] S = some (.int ((l.count 98 : Nat) : Int), S) := fun S => count98
  have e4 : callF pr 229 "_law_opened" [Ld u, .lst (frD (wordsL (frs t))), .int 0, .int ((l.count 98 : Nat) : Int)] S = some (Ld (Pt t l u), S) := c_opened (out := l.count 98) (by omega) u (d := 229) (j := 0) (by omega) (tat_wf l t u 0 h wf)
  have e5 := c_textG f1 (d := 229) (S := S) (t := Pt t l u) (by omega) (by omega) f2 (by omega) (by omega) p90
  have e6 := c_kind (d := 227) (S := S) h
  have e7 := c_part (d := 229) (S := S) h wf (by omega) (by omega) (by omega)
  have e8 := c_strG f1 (d := 228) (S := S) (t := Pt t l u) f2 (by omega) (by omega) (by omega) p90
  have ck : ∀ S a, chkTy .str S (.str (sl a)) = true := fun S a => rfl
  have st : evE (ctxP pr 229) (.stro (.xcalk "part_at" [(.slot 7), (.slot 4)] [.inl 1, .inl 0])) [a0, a1, a2, some (Ld t), some (Tm t), some (.lst (frD (wordsL (frs t)))), a6, some (.str (sl l)), some (Ld u), some (.str (sl (Kd u))), some (.str (sl (txt (Pt t l u)))), a11, a12, a13] S = some (.str (sl (txt (Pt t l u))), S) := ev_stg (t := Pt t l u) (by simp [e7, ordD, -Option.map_map]) e8
  have nq : evE (ctxP pr 229) (.eqo true (.xcal "part_at" [(.slot 4), (.slot 7)] []) (.xcal "part_at" [(.slot 4), (.slot 7)] [])) [a0, a1, a2, some (Ld t), some (Tm t), some (.lst (frD (wordsL (frs t)))), a6, some (.str (sl l)), some (Ld u), some (.str (sl (Kd u))), some (.str (sl (txt (Pt t l u)))), a11, a12, a13] S = some (.bl false, S) := ev_neq (t := Pt t l u) (u := Pt t l u) (S1 := S) (S2 := S) (by simp [e7, -Option.map_map]) (by simp [e7, -Option.map_map]) rfl vp (by omega)
  simp [B1, lawB, f_law, e1, nodk4, sub_Ld, e2, e3, e4, e5, e6, ck, st, nq, ordD, -Option.map_map]
theorem road_loop {S : Sto} {P : Sto → Prop} (hP : P S) {t : Tr} {a0 a1 a2 a6 a11 a12 a13 : Option D} (wf : Tr.wf ALL 0 t) (hz : t.sz ≤ 100) (hh : t.ht ≤ 10) : ∀ (ls : List (List Nat)) (a7 a8 a9 a10 : Option D), (∀ l ∈ ls, (tat t l).isSome = true) → ∃ b7 b8 b9 b10,
    forL P (.name 7) (evSs (ctxP pr 229) B1) (frD ls) [a0, a1, a2, some (Ld t), some (Tm t), some (.lst (frD (wordsL (frs t)))), a6, a7, a8, a9, a10, a11, a12, a13] S = some (.nx [a0, a1, a2, some (Ld t), some (Tm t), some (.lst (frD (wordsL (frs t)))), a6, b7, b8, b9, b10, a11, a12, a13] S)
  | [], a7, a8, a9, a10, h => ⟨_, _, _, _, forL_nil hP⟩
  | l :: ls, a7, a8, a9, a10, h => by
    obtain ⟨u, hu⟩ := Option.isSome_iff_exists.mp (h l List.mem_cons_self)
    obtain ⟨b7, b8, b9, b10, e2⟩ := road_loop hP (a0 := a0) (a1 := a1) (a2 := a2) (a6 := a6) (a11 := a11) (a12 := a12) (a13 := a13) wf hz hh ls (some (.str (sl l))) (some (Ld u)) (some (.str (sl (Kd u)))) (some (.str (sl (txt (Pt t l u))))) fun w hw => h w (List.mem_cons_of_mem _ hw)
    refine ⟨b7, b8, b9, b10, ?_⟩
    rw [show frD (l :: ls) = .str (sl l) :: frD ls from rfl, forL_cons hP]
    have es : setT (.name 7) (.str (sl l)) [a0, a1, a2, some (Ld t), some (Tm t), some (.lst (frD (wordsL (frs t)))), a6, a7, a8, a9, a10, a11, a12, a13] S = some ([a0, a1, a2, some (Ld t), some (Tm t), some (.lst (frD (wordsL (frs t)))), a6, some (.str (sl l)), a8, a9, a10, a11, a12, a13], S) := rfl
    rw [es, obs]
    simp only [road_turn hu wf hz hh, seqL_nx]
    exact e2
/-! ### bent addresses -/
def OddA (x : D) : Prop := (∃ l, x = .str (sl l) ∧ l.length ≤ 1000 ∧ okL l = true) ∨ (notS x ∧ x.data = true ∧ x.py.depth ≤ 60 ∧ ∀ s, x ≠ .str s)
theorem odd_turn {S : Sto} {t : Tr} {x : D} {a0 a1 a2 a3 a5 a7 a8 a9 a10 a11 a12 : Option D} (hx : OddA x) :
    evSs (ctxP pr 229) B2 [a0, a1, a2, a3, some (Tm t), a5, some (.lst (frD (als t []))), a7, a8, a9, a10, a11, a12, some x] S = some (.nx [a0, a1, a2, a3, some (Tm t), a5, some (.lst (frD (als t []))), a7, a8, a9, a10, a11, a12, some x] S) := by
  have hw : ∀ w ∈ als t [], okL w = true := pls_ok t [] rfl
  rcases hx with ⟨l, rfl, hl, ho⟩ | ⟨hn, hd, hp, hs⟩
  · have e1 : indD S (.str (sl l)) (.lst (frD (als t []))) = some (tat t l).isSome := by
      rw [ind_str ho hw, dec_of]
      rw [als, in_pls]
      exact ⟨fun ⟨r, h, h2⟩ => by rw [h]; exact h2, fun h => ⟨l, rfl, h⟩⟩
    cases h : tat t l with
    | some u =>
      rw [h] at e1
      simp [B2, lawB, f_law, e1, -Option.map_map]
    | none =>
      rw [h] at e1
      have b : Bad t (.str (sl l)) := .inr ⟨l, rfl, h⟩
      have e2 : callF pr 229 "_law_caught" [Tm t, .str (sl l), .int 0] S = _ := c_caught (d := 225) b
      have e3 : callF pr 229 "_law_caught" [Tm t, .str (sl l), .int 1] S = _ := c_caught (d := 225) b
      simp [B2, lawB, f_law, e1, e2, e3, -Option.map_map]
  · have e1 : indD S x (.lst (frD (als t []))) = some false := ind_odd hd hp hs hw
    have e2 : callF pr 229 "_law_caught" [Tm t, x, .int 0] S = _ := c_caught (d := 225) (.inl hn)
    have e3 : callF pr 229 "_law_caught" [Tm t, x, .int 1] S = _ := c_caught (d := 225) (.inl hn)
    simp [B2, lawB, f_law, e1, e2, e3, -Option.map_map]
theorem odd_loop {S : Sto} {P : Sto → Prop} (hP : P S) {t : Tr} {a0 a1 a2 a3 a5 a7 a8 a9 a10 a11 a12 : Option D} : ∀ (xs : List D) (a13 : Option D), (∀ x ∈ xs, OddA x) → ∃ b13,
    forL P (.name 13) (evSs (ctxP pr 229) B2) xs [a0, a1, a2, a3, some (Tm t), a5, some (.lst (frD (als t []))), a7, a8, a9, a10, a11, a12, a13] S = some (.nx [a0, a1, a2, a3, some (Tm t), a5, some (.lst (frD (als t []))), a7, a8, a9, a10, a11, a12, b13] S)
  | [], a13, h => ⟨_, forL_nil hP⟩
  | x :: xs, a13, h => by
    obtain ⟨b13, e2⟩ := odd_loop hP (t := t) (a0 := a0) (a1 := a1) (a2 := a2) (a3 := a3) (a5 := a5) (a7 := a7) (a8 := a8) (a9 := a9) (a10 := a10) (a11 := a11) (a12 := a12) xs (some x) fun w hw => h w (List.mem_cons_of_mem _ hw)
    refine ⟨b13, ?_⟩
    rw [forL_cons hP]
    have es : setT (.name 13) x [a0, a1, a2, a3, some (Tm t), a5, some (.lst (frD (als t []))), a7, a8, a9, a10, a11, a12, a13] S = some ([a0, a1, a2, a3, some (Tm t), a5, some (.lst (frD (als t []))), a7, a8, a9, a10, a11, a12, some x], S) := rfl
    rw [es, obs]
    simp only [odd_turn (h x List.mem_cons_self), seqL_nx]
    exact e2
theorem odd_str {l : List Nat} (h : l.length ≤ 1000) (ho : okL l = true) : OddA (.str (sl l)) := .inl ⟨l, rfl, h, ho⟩
theorem pick_odd {S : Sto} {g : Int} (h0 : 0 ≤ g) (h1 : g < 5) : ∃ x, subD S (.lst [.non, .int 0, .tup [.str (sl [98])], .lst [.str (sl [102])], .bl true]) (.int g) = some x ∧ OddA x := by
  obtain ⟨k, rfl⟩ := Int.eq_ofNat_of_zero_le h0
  have : k = 0 ∨ k = 1 ∨ k = 2 ∨ k = 3 ∨ k = 4 := by omega
  have n : ∀ l : List Nat, okL l = true → (D.lst [.str (sl l)]).data = true ∧ (D.lst [.str (sl l)]).py.depth ≤ 60 ∧ (D.tup [.str (sl l)]).data = true ∧ (D.tup [.str (sl l)]).py.depth ≤ 60 := fun l h2 => by
    simp [D.py, D.pys, PyData.depth, PyData.depthAll, h2]
  rcases this with rfl | rfl | rfl | rfl | rfl
  · exact ⟨_, rfl, .inr ⟨notS_of (.inl rfl), rfl, by simp [D.py, PyData.depth], fun s z => by cases z⟩⟩
  · exact ⟨_, rfl, .inr ⟨notS_of (.inr (.inr (.inl rfl))), rfl, by simp [D.py, PyData.depth], fun s z => by cases z⟩⟩
  · exact ⟨_, rfl, .inr ⟨notS_of (.inr (.inr (.inr (.inr rfl)))), (n [98] rfl).2.2.1, (n [98] rfl).2.2.2, fun s z => by cases z⟩⟩
  · exact ⟨_, rfl, .inr ⟨notS_of (.inr (.inr (.inr (.inl rfl)))), (n [102] rfl).1, (n [102] rfl).2.1, fun s z => by cases z⟩⟩
  · exact ⟨_, rfl, .inr ⟨notS_of (.inr (.inl rfl)), rfl, by simp [D.py, PyData.depth], fun s z => by cases z⟩⟩
theorem pick_c {S : Sto} {g : Int} (h0 : 0 ≤ g) (h1 : g < 6) : ∃ c, subD S (.lst [.str (sl [98]), .str (sl [102]), .str (sl [103]), .str (sl [97]), .str (sl [66]), .str (sl [32])]) (.int g) = some (.str (sl [c])) ∧ c < 1000 := by
  obtain ⟨k, rfl⟩ := Int.eq_ofNat_of_zero_le h0
  have : k = 0 ∨ k = 1 ∨ k = 2 ∨ k = 3 ∨ k = 4 ∨ k = 5 := by omega
  rcases this with rfl | rfl | rfl | rfl | rfl | rfl
  · exact ⟨98, rfl, by omega⟩
  · exact ⟨102, rfl, by omega⟩
  · exact ⟨103, rfl, by omega⟩
  · exact ⟨97, rfl, by omega⟩
  · exact ⟨66, rfl, by omega⟩
  · exact ⟨32, rfl, by omega⟩
theorem pick_F {g : Int} (h0 : 0 ≤ g) (h1 : g < 2) : ∃ F : List (List Nat), (∀ w ∈ F, w ∈ ALL) ∧ F.length < 1000 ∧ ∀ S, subD S (.lst [.lst [], .lst [.str (sl [97]), .str (sl [98]), .str (sl [120])]]) (.int g) = some (.lst (frD F)) := by
  have : g = 0 ∨ g = 1 := by omega
  rcases this with rfl | rfl
  · exact ⟨[], by simp, by simp, fun S => by simp [frD]⟩
  · exact ⟨[[97], [98], [120]], by simp [ALL], by simp, fun S => by simp [frD]⟩
theorem c_draw {k : Nat} {S : Sto} {p B : Nat} {F : List (List Nat)} (h : Pu S p B) (hB : B < 10 ^ 98) (hF : ∀ w ∈ F, w ∈ ALL) (hl : F.length < 1000) (hk : k < 6) :
    ∃ t S', callF pr 229 "_law_drawn" [.loc p, .int (k : Nat), .int 0, .lst (frD F)] S = some (Ld t, S') ∧ Tr.wf ALL 0 t ∧ t.ht ≤ 7 ∧ t.sz ≤ 100 ∧ UpdS S p S' ∧ Pu S' p (B + 200) := by
  have hk2 : Tk k ≤ 200 ∧ Zk k ≤ 100 := by
    have : k = 0 ∨ k = 1 ∨ k = 2 ∨ k = 3 ∨ k = 4 ∨ k = 5 := by omega
    rcases this with rfl | rfl | rfl | rfl | rfl | rfl <;> decide
  obtain ⟨q1, q2⟩ := hk2
  obtain ⟨t, S', e, wf, a, b, u, q⟩ := (c_drawn (fr := F) (fun w hw => all_ok w (hF w hw)) hl k (d := 225 - k) (dep := 0) h (by omega) (by omega)).ex
  rw [show 225 - k + k + 4 = 229 by omega] at e
  exact ⟨t, S', e, wf_mono hF wf, by omega, by omega, u, q.mono (by omega)⟩
end K03

set_option Elab.async false
set_option linter.all false
set_option maxRecDepth 100000
set_option exponentiation.threshold 1000000
namespace K03
open PySem Fw
def F1 : Sm := .for_ (.name 7) .lst [(.slot 6)] B1
def F2 : Sm := match lawB with
  | [_, _, _, _, _, _, _, _, _, .for_ x y z _, _] => .for_ x y z B2
  | _ => .never
theorem lawB_eq : lawB = lawB.take 5 ++ F1 :: ((lawB.drop 6).take 3 ++ F2 :: lawB.drop 10) := rfl
theorem law_turn {c : Int} {ns : List Int} {S : Sto} {a2 a3 a4 a5 a6 a7 a8 a9 a10 a11 a12 a13 : Option D} : ∃ b2 b3 b4 b5 b6 b7 b8 b9 b10 b11 b12 b13 S', evSs (ctxP pr 229) lawB [some (.scr ns), some (.int c), a2, a3, a4, a5, a6, a7, a8, a9, a10, a11, a12, a13] S = some (.nx [some (.scr ns), some (.int c), b2, b3, b4, b5, b6, b7, b8, b9, b10, b11, b12, b13] S') := by
  obtain ⟨x, e1, pu⟩ := c_purse (d := 227) (S := S) (c := c) (k := 3) (by omega) (by omega)
  obtain ⟨g0, S0, e2, g00, g01, u0, h0⟩ := c_take (d := 227) pu (n := 6) (by omega) (by omega) (by omega)
  obtain ⟨gF, SF, e3, gF0, gF1, uF, hF⟩ := c_take (d := 227) h0 (n := 2) (by omega) (by omega) (by omega)
  obtain ⟨F, F1, F2, e4⟩ := pick_F gF0 gF1
  obtain ⟨k0, rfl⟩ := Int.eq_ofNat_of_zero_le g00
  obtain ⟨t, S1, e5, wt, ht, zt, u1, h1⟩ := c_draw (k := k0) hF (by omega) F1 F2 (by omega)
  have vt : ∀ v ∈ frs t, okW v := fun v h => all_ok v (frs_in wt v h)
  obtain ⟨n1, S2, e6, d1, o1, y1, u2, h2⟩ := c_named all_ok t (d := 229) (rs := []) (S := S1) h1 (by omega) wt (by simp) (by omega) (by omega) (by simp; omega)
  rw [opw_id t wt] at d1
  have e6 : callF pr 229 "_law_named" [.loc S.length, Ld t, .lst []] S1 = some (Nd n1, S2) := e6
  have e7 := c_mk n1 (d := 229) (S := S2) o1 (by omega)
  rw [d1] at e7
  have e8 := c_free t (d := 229) (S := S2) (by omega) (by omega)
  have e9 := c_words (d := 228) (S := S2) (fr := frs t)
  have e10 := c_all t (d := 229) (a := []) (S := S2) (by omega) (by simp; omega) (by omega)
  have hal : ∀ l ∈ als t [], (tat t l).isSome = true := fun l hl => by
    obtain ⟨r, e, h⟩ := (in_pls t [] l).mp hl
    rw [e]; exact h
  have alen := als_len t []
  have wp := sz_pos t
  obtain ⟨b7, b8, b9, b10, e11⟩ := road_loop (S := S2) (P := holdD [.lst (frD (als t []))] S2) hold_lst (t := t) (a0 := some (.scr ns)) (a1 := some (.int c)) (a2 := some (.loc S.length)) (a6 := some (.lst (frD (als t [])))) (a11 := a11) (a12 := a12) (a13 := a13) wt zt (by omega) (als t []) a7 a8 a9 a10 hal
  have e12 : itemsD .lst [.lst (frD (als t []))] S2 = some (frD (als t [])) := rfl
  have e13 : biD .len [.lst (frD (als t []))] S2 = some (.int ((als t []).length : Nat)) := by
    show (lenD S2 (.lst (frD (als t [])))).map D.int = _
    have : lenD S2 (.lst (frD (als t []))) = some ((frD (als t [])).length : Int) := rfl
    rw [this, frD_len]; rfl
  obtain ⟨g3, S3, e14, g30, g31, u3, h3⟩ := c_take (d := 227) h2 (n := ((als t []).length : Nat)) (by omega) (by omega) (by omega)
  obtain ⟨j, rfl⟩ := Int.eq_ofNat_of_zero_le g30
  have hj : j < (als t []).length := by omega
  obtain ⟨v, hv⟩ : ∃ v, v = (als t []).getD j [] := ⟨_, rfl⟩
  have vm : v ∈ als t [] := by
    rw [hv, List.getD_eq_getElem?_getD, List.getElem?_eq_getElem hj]
    exact List.getElem_mem hj
  have vo : okL v = true := pls_ok t [] rfl v vm
  have vl : v.length ≤ 7 := by
    obtain ⟨u, hu⟩ := Option.isSome_iff_exists.mp (hal v vm)
    have := (tat_facts v t u hu).1
    omega
  have e15 : subD S3 (.lst (frD (als t []))) (.int (j : Nat)) = some (.str (sl v)) := by
    rw [sub_lst, at_nat, frD_at hj, hv]
  have e16 : biD .len [.str (sl v)] S3 = some (.int (v.length : Nat)) := by
    show (if (sl v).length ≤ sizeLine then some ((sl v).length : Int) else none).map D.int = _
    rw [sl_len, sizeLine_eq, if_pos (by omega)]; rfl
  obtain ⟨g4, S4, e17, g40, g41, u4, h4⟩ := c_take (d := 227) h3 (n := (v.length : Int) + 1) (by omega) (by omega) (by omega)
  obtain ⟨v1, e18, v1l, v1o⟩ := cut_any (S := S4) (i := none) (j := some g4) (l := v) (by omega) vo
  obtain ⟨g5, S5, e19, g50, g51, u5, h5⟩ := c_take (d := 227) h4 (n := 6) (by omega) (by omega) (by omega)
  obtain ⟨c5, e20, c5b⟩ := pick_c (S := S5) g50 g51
  have e21 : addI S5 (.str (sl v1)) (.str (sl [c5])) = some (.str (sl (v1 ++ [c5]))) := addI_str (by simp; omega)
  obtain ⟨v2, e22, v2l, v2o⟩ := cut_any (S := S5) (i := some g4) (j := none) (l := v) (by omega) vo
  obtain ⟨w, hw⟩ : ∃ w, w = v1 ++ [c5] ++ v2 := ⟨_, rfl⟩
  have wo : OddA (.str (sl w)) := by
    rw [hw]
    exact odd_str (by simp; omega) (by rw [okL_app, okL_app, v1o, v2o, okL_of (l := [c5]) (by simp [c5b])]; rfl)
  have e23 : addI S5 (.str (sl (v1 ++ [c5]))) (.str (sl v2)) = some (.str (sl w)) := by
    rw [hw]; exact addI_str (by simp; omega)
  have e24 : addI S5 (.str (sl v)) (.str (sl [98, 98, 98, 98, 98, 98, 98])) = some (.str (sl (v ++ [98, 98, 98, 98, 98, 98, 98]))) := addI_str (by simp; omega)
  obtain ⟨g6, S6, e25, g60, g61, u6, h6⟩ := c_take (d := 227) h5 (n := 5) (by omega) (by omega) (by omega)
  obtain ⟨odd, e26, o6⟩ := pick_odd (S := S6) g60 g61
  have hx : ∀ x ∈ [D.str (sl w), D.str (sl (v ++ [98, 98, 98, 98, 98, 98, 98])), odd], OddA x := fun x hx => by
    simp only [List.mem_cons, List.not_mem_nil, or_false] at hx
    rcases hx with rfl | rfl | rfl
    · exact wo
    · exact odd_str (by simp; omega) (by rw [okL_app, vo]; rfl)
    · exact o6
  have e27 : itemsD .lst [.lst [D.str (sl w), D.str (sl (v ++ [98, 98, 98, 98, 98, 98, 98])), odd]] S6 = some [D.str (sl w), D.str (sl (v ++ [98, 98, 98, 98, 98, 98, 98])), odd] := rfl
  obtain ⟨b13, e28⟩ := odd_loop (S := S6) (P := holdD [.lst [D.str (sl w), D.str (sl (v ++ [98, 98, 98, 98, 98, 98, 98])), odd]] S6) hold_lst (t := t) (a0 := some (.scr ns)) (a1 := some (.int c)) (a2 := some (.loc S.length)) (a3 := some (Ld t)) (a5 := some (.lst (frD (wordsL (frs t))))) (a7 := some (.str (sl v))) (a8 := b8) (a9 := b9) (a10 := b10) (a11 := some (.int g4)) (a12 := some (.str (sl w))) _ a13 hx
  have e29 := c_str (d := 228) (S := S6) wt (by omega) (by omega) (by omega)
  have e30 := c_text (d := 229) (S := S6) (t := t) (by omega) (by omega) wt (by omega) (by omega)
  have st : ∀ a13, evE (ctxP pr 229) (.stro (.slot 4)) [some (.scr ns), some (.int c), some (.loc S.length), some (Ld t), some (Tm t), some (.lst (frD (wordsL (frs t)))), some (.lst (frD (als t []))), some (.str (sl v)), b8, b9, b10, some (.int g4), some (.str (sl w)), a13] S6 = some (.str (sl (txt t)), S6) := fun a13 => ev_stg (t := t) (by simp) e29
  refine ⟨some (.loc S.length), some (Ld t), some (Tm t), some (.lst (frD (wordsL (frs t)))), some (.lst (frD (als t []))), some (.str (sl v)), b8, b9, b10, some (.int g4), some (.str (sl w)), b13, S6, ?_⟩
  rw [lawB_eq]
  simp [lawB, f_law, K03.F1, K03.F2, e1, e2, e3, e4, e5, e6, e7, e8, e9, e10, e11, e12, e13, e14, e15, e16, e17, e18, e19, e20, e21, e22, e23, e24, e25, e26, e27, e28, e30, st, allInt, mkLst, -sub_lst, -Option.map_map, -List.map_map]
theorem law_loop {ns : List Int} {P : Sto → Prop} (hP : ∀ S, P S) : ∀ (l : List Int) (a1 a2 a3 a4 a5 a6 a7 a8 a9 a10 a11 a12 a13 : Option D) (S : Sto), ∃ ρ2 S2, forL P (.name 1) (evSs (ctxP pr 229) lawB) (l.map D.int) [some (.scr ns), a1, a2, a3, a4, a5, a6, a7, a8, a9, a10, a11, a12, a13] S = some (.nx ρ2 S2)
  | [], a1, a2, a3, a4, a5, a6, a7, a8, a9, a10, a11, a12, a13, S => ⟨_, _, forL_nil (hP S)⟩
  | c :: l, a1, a2, a3, a4, a5, a6, a7, a8, a9, a10, a11, a12, a13, S => by
    obtain ⟨b2, b3, b4, b5, b6, b7, b8, b9, b10, b11, b12, b13, S2, e⟩ := law_turn (c := c) (ns := ns) (S := S) (a2 := a2) (a3 := a3) (a4 := a4) (a5 := a5) (a6 := a6) (a7 := a7) (a8 := a8) (a9 := a9) (a10 := a10) (a11 := a11) (a12 := a12) (a13 := a13)
    obtain ⟨ρ3, S3, e2⟩ := law_loop hP (ns := ns) l (some (.int c)) b2 b3 b4 b5 b6 b7 b8 b9 b10 b11 b12 b13 S2
    refine ⟨ρ3, S3, ?_⟩
    rw [List.map_cons, forL_cons (hP S)]
    have es : setT (.name 1) (.int c) [some (.scr ns), a1, a2, a3, a4, a5, a6, a7, a8, a9, a10, a11, a12, a13] S = some ([some (.scr ns), some (.int c), a2, a3, a4, a5, a6, a7, a8, a9, a10, a11, a12, a13], S) := rfl
    rw [es, obs]
    simp only [e, seqL_nx]
    exact e2
theorem law_true (ns : List Int) (hl : ns.length ≤ 63) (hb : ∀ z ∈ ns, Builtin.Int.intBits z ≤ 1048576) : ∃ S, callF pr 230 "law" [.scr ns] [] = some (.bl true, S) := by
  refine ⟨[], ?_⟩
  obtain ⟨c, e1⟩ := c_at (d := 228) (S := []) (ns := ns) (k := 4) (by omega)
  have e1 : callF pr 229 "_law_at" [.scr ns, .int 4] [] = some (.int c, []) := e1
  obtain ⟨L, hL⟩ : ∃ L : List Int, L = (ns.take 5) ++ [c] := ⟨_, rfl⟩
  have hsl : sliceD [] (.scr ns) none (some 5) = some (.lst ((ns.take 5).map D.int)) := by
    have h : sliceD [] (.scr ns) none (some 5) = some (.lst (cutL (ns.map D.int) none (some ((5 : Nat) : Int)))) := rfl
    rw [h]
    unfold cutL
    rw [HT.sIx_nat]
    have h0 : HT.sIx (ns.map D.int).length 0 none = 0 := rfl
    rw [h0, List.drop_zero, Nat.sub_zero, List.length_map, ← List.map_take]
    congr 3
    by_cases h : 5 ≤ ns.length
    · rw [Nat.min_eq_left h]
    · rw [Nat.min_eq_right (by omega), List.take_of_length_le (Nat.le_refl _), List.take_of_length_le (by omega)]
  have hadd : addI [] (.lst ((ns.take 5).map D.int)) (.lst [.int c]) = some (.lst (L.map D.int)) := by
    rw [addI_lst rfl rfl (by simp only [List.length_map, List.length_take, List.length_cons, List.length_nil]; omega), hL, List.map_append]
    rfl
  have hi : itemsD .lst [.lst (L.map D.int)] [] = some (L.map D.int) := rfl
  obtain ⟨ρ', S', e⟩ := law_loop (ns := ns) (P := holdD [.lst (L.map D.int)] []) (fun _ => hold_lst) L none none none none none none none none none none none none none []
  have h0 : callF pr 230 "law" [.scr ns] [] = finO (.keep 0 true) [] (evSs (ctxP pr 229) [.for_ (.name 1) .lst [.bin .add (.slice (.slot 0) [] [(.cst (.int 5))]) (.lst false [(.call "_law_at" [(.slot 0), (.cst (.int 4))] [])])] lawB, .ret (.cst (.bl true))] [some (.scr ns), none, none, none, none, none, none, none, none, none, none, none, none, none] []) := callF_step pf_law rfl
  rw [h0]
  have hf : fin (.keep 0 true) [] (.bl true) S' = some (.bl true, []) := fin_ins (by simp) (fun _ z => by cases z) (by unfold D.bel; rfl)
  simp [allInt, hsl, e1, mkLst, hadd, hi, e, hf, -List.map_map, -Option.map_map, -List.map_take]
end K03

set_option Elab.async false
set_option linter.all false
set_option maxRecDepth 100000
set_option maxHeartbeats 0
namespace K03
open PySem PySem.Spec PyProof.Rows L2 NdefX LamX Fw
section
variable {P : Program} {w : World} {K : PySem.W.Frag} {mg : Str → Option Value} {base : Heap} {W : Wd} {d : Nat}
theorem sc_look_word : FnScope [(Str.ofString "word"), (Str.ofString "sign")] [(Str.ofString "word")] (defScope (top 18)) := ⟨rfl, rfl, rfl, by decide +kernel, rfl, by decide +kernel, by decide +kernel⟩
theorem d_look_word (G : Gf w K mg W) (C : Cf P w K mg base W d) (hK : W.K = K) {fd : FuncData} (F : FunD K dd_look_word.name dd_look_word.qual dd_look_word.params dd_look_word.body dd_look_word.scope (dd_look_word.dvs K) (dd_look_word.kws K) (He.fAd K dd_look_word.at_) fd) : FnOk P w K mg base CX0 (d + 1) (He.fAd K dd_look_word.at_) fd [(Str.ofString "word")] (spC W (callF pr (d + 1)) "look_word") := by
  have nd := sc_look_word.nd
  refine fnok F sc_look_word (fn := f_look_word) rfl rfl rfl fun cdv A outer s1 H E hr => ?_
  have St : Std ⟨W, ctxP pr d, [], fun _ => .par⟩ (cxOf CX0 P w K mg base [(Str.ofString "word"), (Str.ofString "sign")] "look_word" (defScope (top 18)) (He.fAd K ("look_word", none)) cdv A outer s1 H E).nox d := ⟨hK.symm, hr, rfl⟩
  exact (mss_cons (ms_if (mw_pt (mw_or (mt_not (mt_val (me_isi (T := "str") St G.b_isinstance G.b_str rfl (by decide +kernel) (me_slot (i := 0))))) (mw_or1 (mt_not (mt_lele me_int (me_len St G.b_len (ma_cons (me_slot (i := 0)) ma_nil)) (me_gint rfl G.k_MOST_SIGNS rfl)))))) (mss_cons ms_never
      mss_nil) mss_nil)
      (mss_cons (ms_if (mt_not (mt_val (me_all St G.b_all (ma_cons (me_lc (own := [("sign", 1)]) (mm := false) St nd (mi_str St (me_slot (i := 0))) (blkOk_by (by rfl)) (by decide) (fun _ _ => List.not_mem_nil) (fun _ _ _ _ _ => (mg_name (k := 1) nd)) (fun _ _ _ _ _ => mcs_nil) (fun _ _ _ _ _ => (me_in (Std.blk St) (me_slot (i := 1)) (me_gstr rfl G.k_LETTERS rfl)))) ma_nil)))) (mss_cons ms_never
      mss_nil) mss_nil)
      mss_nil))
theorem sc_word_number : FnScope [(Str.ofString "number"), (Str.ofString "found"), (Str.ofString "left"), (Str.ofString "sign")] [(Str.ofString "number")] (defScope (top 19)) := ⟨rfl, rfl, rfl, by decide +kernel, rfl, by decide +kernel, by decide +kernel⟩
theorem d_word_number (G : Gf w K mg W) (C : Cf P w K mg base W d) (hK : W.K = K) {fd : FuncData} (F : FunD K dd_word_number.name dd_word_number.qual dd_word_number.params dd_word_number.body dd_word_number.scope (dd_word_number.dvs K) (dd_word_number.kws K) (He.fAd K dd_word_number.at_) fd) : FnOk P w K mg base CX0 (d + 1) (He.fAd K dd_word_number.at_) fd [(Str.ofString "number")] (spC W (callF pr (d + 1)) "word_number") := by
  have nd := sc_word_number.nd
  refine fnok F sc_word_number (fn := f_word_number) rfl rfl rfl fun cdv A outer s1 H E hr => ?_
  have St : Std ⟨W, ctxP pr d, [], fun _ => .par⟩ (cxOf CX0 P w K mg base [(Str.ofString "number"), (Str.ofString "found"), (Str.ofString "left"), (Str.ofString "sign")] "word_number" (defScope (top 19)) (He.fAd K ("word_number", none)) cdv A outer s1 H E).nox d := ⟨hK.symm, hr, rfl⟩
  exact (mss_cons (ms_asg me_str (mg_name (k := 1) nd))
      (mss_cons (ms_asg (me_add (me_slot (i := 0)) me_int) (mg_name (k := 2) nd))
      (mss_cons (ms_while PassesOwn.never (mt_gt (me_slot (i := 2)) me_int) (mss_cons (ms_asg (me_divmod G.b_divmod (ma_cons (me_sub (me_slot (i := 2)) me_int) (ma_cons (me_len St G.b_len (ma_cons (me_gstr rfl G.k_LETTERS rfl) ma_nil)) ma_nil))) (mg_tup St (mgs_cons (mg_name (k := 2) nd) (mgs_cons (mg_name (k := 3) nd) mgs_nil))))
      (mss_cons (ms_asg (me_add (me_sub' St (me_gstr rfl G.k_LETTERS rfl) (me_slot (i := 3))) (me_slot (i := 1))) (mg_name (k := 1) nd))
      mss_nil)))
      (mss_cons (ms_ret (me_slot (i := 1)))
      mss_nil))))
theorem sc_free_in : FnScope [(Str.ofString "tree"), (Str.ofString "found"), (Str.ofString "left"), (Str.ofString "kind"), (Str.ofString "parts")] [(Str.ofString "tree")] (defScope (top 20)) := ⟨rfl, rfl, rfl, by decide +kernel, rfl, by decide +kernel, by decide +kernel⟩
theorem d_free_in (G : Gf w K mg W) (C : Cf P w K mg base W d) (hK : W.K = K) {fd : FuncData} (F : FunD K dd_free_in.name dd_free_in.qual dd_free_in.params dd_free_in.body dd_free_in.scope (dd_free_in.dvs K) (dd_free_in.kws K) (He.fAd K dd_free_in.at_) fd) : FnOk P w K mg base CX0 (d + 1) (He.fAd K dd_free_in.at_) fd [(Str.ofString "tree")] (spC W (callF pr (d + 1)) "free_in") := by
  have nd := sc_free_in.nd
  refine fnok F sc_free_in (fn := f_free_in) rfl rfl rfl fun cdv A outer s1 H E hr => ?_
  have St : Std ⟨W, ctxP pr d, [], fun _ => .par⟩ (cxOf CX0 P w K mg base [(Str.ofString "tree"), (Str.ofString "found"), (Str.ofString "left"), (Str.ofString "kind"), (Str.ofString "parts")] "free_in" (defScope (top 20)) (He.fAd K ("free_in", none)) cdv A outer s1 H E).nox d := ⟨hK.symm, hr, rfl⟩
  exact (mss_cons (ms_asg (me_dict (mu := true)) (mg_name (k := 1) nd))
      (mss_cons (ms_asg (me_lst (mu := true) (ma_cons (me_slot (i := 0)) ma_nil)) (mg_name (k := 2) nd))
      (mss_cons (ms_while PassesOwn.never (mt_ne St (me_slot (i := 2)) (me_lst (mu := false) ma_nil)) (mss_cons (ms_asg (me_pop St (me_slot (i := 2))) (mg_star (ts := [(.name 3)]) (i := 4) (mm := false) St (mgs_cons (mg_name (k := 3) nd) (mgs_cons (mg_name (k := 4) nd) mgs_nil))))
      (mss_cons (ms_if (mt_eq St (me_slot (i := 3)) me_str) (mss_cons (ms_setsub St (me_slot (i := 1)) (me_sub' St (me_slot (i := 4)) me_int) me_bl)
      mss_nil) (mss_cons (ms_if (mt_ne St (me_slot (i := 3)) me_str) (mss_cons (ms_ex (me_extend St (me_slot (i := 2)) (ma_cons (me_slot (i := 4)) ma_nil)))
      mss_nil) mss_nil)
      mss_nil))
      mss_nil)))
      (mss_cons (ms_ret (me_slot (i := 1)))
      mss_nil))))
theorem sc_addresses_in : FnScope [(Str.ofString "tree"), (Str.ofString "found"), (Str.ofString "left"), (Str.ofString "address"), (Str.ofString "kind"), (Str.ofString "parts")] [(Str.ofString "tree")] (defScope (top 21)) := ⟨rfl, rfl, rfl, by decide +kernel, rfl, by decide +kernel, by decide +kernel⟩
theorem d_addresses_in (G : Gf w K mg W) (C : Cf P w K mg base W d) (hK : W.K = K) {fd : FuncData} (F : FunD K dd_addresses_in.name dd_addresses_in.qual dd_addresses_in.params dd_addresses_in.body dd_addresses_in.scope (dd_addresses_in.dvs K) (dd_addresses_in.kws K) (He.fAd K dd_addresses_in.at_) fd) : FnOk P w K mg base CX0 (d + 1) (He.fAd K dd_addresses_in.at_) fd [(Str.ofString "tree")] (spC W (callF pr (d + 1)) "addresses_in") := by
  have nd := sc_addresses_in.nd
  refine fnok F sc_addresses_in (fn := f_addresses_in) rfl rfl rfl fun cdv A outer s1 H E hr => ?_
  have St : Std ⟨W, ctxP pr d, [], fun _ => .par⟩ (cxOf CX0 P w K mg base [(Str.ofString "tree"), (Str.ofString "found"), (Str.ofString "left"), (Str.ofString "address"), (Str.ofString "kind"), (Str.ofString "parts")] "addresses_in" (defScope (top 21)) (He.fAd K ("addresses_in", none)) cdv A outer s1 H E).nox d := ⟨hK.symm, hr, rfl⟩
  exact (mss_cons (ms_asg (me_dict (mu := true)) (mg_name (k := 1) nd))
      (mss_cons (ms_asg (me_lst (mu := true) (ma_cons (me_tup (ma_cons me_str (ma_cons (me_slot (i := 0)) ma_nil))) ma_nil)) (mg_name (k := 2) nd))
      (mss_cons (ms_while PassesOwn.never (mt_ne St (me_slot (i := 2)) (me_lst (mu := false) ma_nil)) (mss_cons (ms_asg (me_pop St (me_slot (i := 2))) (mg_tup St (mgs_cons (mg_name (k := 3) nd) (mgs_cons (mg_star (ts := [(.name 4)]) (i := 5) (mm := false) St (mgs_cons (mg_name (k := 4) nd) (mgs_cons (mg_name (k := 5) nd) mgs_nil))) mgs_nil))))
      (mss_cons (ms_setsub St (me_slot (i := 1)) (me_slot (i := 3)) (me_sub' St (me_lst (mu := false) (ma_cons me_str (ma_cons (me_slot (i := 4)) ma_nil))) (me_int' G.b_int (ma_cons (me_in St (me_slot (i := 4)) (me_tup (ma_cons me_str (ma_cons me_str ma_nil)))) ma_nil))))
      (mss_cons (ms_if (mt_eq St (me_slot (i := 4)) me_str) (mss_cons (ms_ex (me_append St (me_slot (i := 2)) (ma_cons (me_tup (ma_cons (me_add (me_slot (i := 3)) me_str) (ma_cons (me_sub' St (me_slot (i := 5)) me_int) ma_nil))) ma_nil)))
      mss_nil) (mss_cons (ms_if (mt_eq St (me_slot (i := 4)) me_str) (mss_cons (ms_ex (me_extend St (me_slot (i := 2)) (ma_cons (me_lst (mu := false) (ma_cons (me_tup (ma_cons (me_add (me_slot (i := 3)) me_str) (ma_cons (me_sub' St (me_slot (i := 5)) me_int) ma_nil))) (ma_cons (me_tup (ma_cons (me_add (me_slot (i := 3)) me_str) (ma_cons (me_sub' St (me_slot (i := 5)) me_int) ma_nil))) ma_nil))) ma_nil)))
      mss_nil) mss_nil)
      mss_nil))
      mss_nil))))
      (mss_cons (ms_ret (me_slot (i := 1)))
      mss_nil))))
theorem sc_changed : FnScope [(Str.ofString "tree"), (Str.ofString "leaf"), (Str.ofString "depth"), (Str.ofString "kind"), (Str.ofString "parts")] [(Str.ofString "tree"), (Str.ofString "leaf"), (Str.ofString "depth")] (defScope (top 22)) := ⟨rfl, rfl, rfl, by decide +kernel, rfl, by decide +kernel, by decide +kernel⟩
theorem d_changed (G : Gf w K mg W) (C : Cf P w K mg base W d) (hK : W.K = K) {fd : FuncData} (F : FunD K dd_changed.name dd_changed.qual dd_changed.params dd_changed.body dd_changed.scope (dd_changed.dvs K) (dd_changed.kws K) (He.fAd K dd_changed.at_) fd) : FnOk P w K mg base CX0 (d + 1) (He.fAd K dd_changed.at_) fd [(Str.ofString "tree"), (Str.ofString "leaf"), (Str.ofString "depth")] (spK W (callF pr (d + 1)) "changed") := by
  have nd := sc_changed.nd
  refine fnokK F sc_changed (fn := f_changed) rfl rfl rfl fun cdv A outer s1 H E hr => ?_
  have St : Std ⟨W, ctxP pr d, [1], fun _ => .par⟩ (cxOf CX0 P w K mg base [(Str.ofString "tree"), (Str.ofString "leaf"), (Str.ofString "depth"), (Str.ofString "kind"), (Str.ofString "parts")] "changed" (defScope (top 22)) (He.fAd K ("changed", none)) cdv A outer s1 H E).nox d := ⟨hK.symm, hr, rfl⟩
  exact (mss_cons (ms_asg (me_slot (i := 0) (hc := (by decide : 0 ∉ ([1] : List Nat)))) (mg_star (ts := [(.name 3)]) (i := 4) (mm := false) St (mgs_cons (mg_name (k := 3) nd (hc := (by decide : 3 ∉ ([1] : List Nat)))) (mgs_cons (mg_name (k := 4) nd (hc := (by decide : 4 ∉ ([1] : List Nat)))) mgs_nil))))
      (mss_cons (ms_if (mt_eq St (me_slot (i := 3) (hc := (by decide : 3 ∉ ([1] : List Nat)))) me_str) (mss_cons (ms_ret (me_tup (ma_cons me_str (ma_cons (me_callp (i := 1) (ds := []) St C.c_changed_3 rfl (me_sub' St (me_slot (i := 4) (hc := (by decide : 4 ∉ ([1] : List Nat)))) me_int) (ma_cons (me_add (me_slot (i := 2) (hc := (by decide : 2 ∉ ([1] : List Nat)))) me_int) ma_nil) (by decide : 1 ∈ ([1] : List Nat)) rfl) ma_nil))))
      mss_nil) mss_nil)
      (mss_cons (ms_if (mt_eq St (me_slot (i := 3) (hc := (by decide : 3 ∉ ([1] : List Nat)))) me_str) (mss_cons (ms_ret (me_tup (ma_cons me_str (ma_cons (me_callp (i := 1) (ds := []) St C.c_changed_3 rfl (me_sub' St (me_slot (i := 4) (hc := (by decide : 4 ∉ ([1] : List Nat)))) me_int) (ma_cons (me_slot (i := 2) (hc := (by decide : 2 ∉ ([1] : List Nat)))) ma_nil) (by decide : 1 ∈ ([1] : List Nat)) rfl) (ma_cons (me_callp (i := 1) (ds := []) St C.c_changed_3 rfl (me_sub' St (me_slot (i := 4) (hc := (by decide : 4 ∉ ([1] : List Nat)))) me_int) (ma_cons (me_slot (i := 2) (hc := (by decide : 2 ∉ ([1] : List Nat)))) ma_nil) (by decide : 1 ∈ ([1] : List Nat)) rfl) ma_nil)))))
      mss_nil) mss_nil)
      (mss_cons (ms_ret (me_callv (i := 1) St C.lf (ma_cons (me_slot (i := 0) (hc := (by decide : 0 ∉ ([1] : List Nat)))) (ma_cons (me_slot (i := 2) (hc := (by decide : 2 ∉ ([1] : List Nat)))) ma_nil)) (by decide : 1 ∈ ([1] : List Nat)) rfl))
      mss_nil))))
theorem sc_fresh_words : FnScope [(Str.ofString "tree"), (Str.ofString "many"), (Str.ofString "free"), (Str.ofString "found"), (Str.ofString "number")] [(Str.ofString "tree"), (Str.ofString "many")] (defScope (top 23)) := ⟨rfl, rfl, rfl, by decide +kernel, rfl, by decide +kernel, by decide +kernel⟩
theorem d_fresh_words (G : Gf w K mg W) (C : Cf P w K mg base W d) (hK : W.K = K) {fd : FuncData} (F : FunD K dd_fresh_words.name dd_fresh_words.qual dd_fresh_words.params dd_fresh_words.body dd_fresh_words.scope (dd_fresh_words.dvs K) (dd_fresh_words.kws K) (He.fAd K dd_fresh_words.at_) fd) : FnOk P w K mg base CX0 (d + 1) (He.fAd K dd_fresh_words.at_) fd [(Str.ofString "tree"), (Str.ofString "many")] (spC W (callF pr (d + 1)) "fresh_words") := by
  have nd := sc_fresh_words.nd
  refine fnok F sc_fresh_words (fn := f_fresh_words) rfl rfl rfl fun cdv A outer s1 H E hr => ?_
  have St : Std ⟨W, ctxP pr d, [], fun _ => .par⟩ (cxOf CX0 P w K mg base [(Str.ofString "tree"), (Str.ofString "many"), (Str.ofString "free"), (Str.ofString "found"), (Str.ofString "number")] "fresh_words" (defScope (top 23)) (He.fAd K ("fresh_words", none)) cdv A outer s1 H E).nox d := ⟨hK.symm, hr, rfl⟩
  exact (mss_cons (ms_asg (me_call St C.c_free_in_1 rfl (ma_cons (me_slot (i := 0)) ma_nil)) (mg_name (k := 2) nd))
      (mss_cons (ms_asg (me_lst (mu := true) ma_nil) (mg_name (k := 3) nd))
      (mss_cons (ms_asg me_int (mg_name (k := 4) nd))
      (mss_cons (ms_while PassesOwn.never (mt_lt (me_len St G.b_len (ma_cons (me_slot (i := 3)) ma_nil)) (me_slot (i := 1))) (mss_cons (ms_if (mt_nin St (me_call St C.c_word_number_1 rfl (ma_cons (me_slot (i := 4)) ma_nil)) (me_slot (i := 2))) (mss_cons (ms_ex (me_append St (me_slot (i := 3)) (ma_cons (me_call St C.c_word_number_1 rfl (ma_cons (me_slot (i := 4)) ma_nil)) ma_nil)))
      mss_nil) mss_nil)
      (mss_cons (ms_aug (k := 4) in_aug inS_add nd me_int)
      mss_nil)))
      (mss_cons (ms_ret (me_slot (i := 3)))
      mss_nil)))))
theorem sc_written : FnScope [(Str.ofString "tree"), (Str.ofString "words"), (Str.ofString "depth"), (Str.ofString "kind"), (Str.ofString "parts"), (Str.ofString "texts"), (Str.ofString "part")] [(Str.ofString "tree"), (Str.ofString "words"), (Str.ofString "depth")] (defScope (top 24)) := ⟨rfl, rfl, rfl, by decide +kernel, rfl, by decide +kernel, by decide +kernel⟩
theorem d_written (G : Gf w K mg W) (C : Cf P w K mg base W d) (hK : W.K = K) {fd : FuncData} (F : FunD K dd_written.name dd_written.qual dd_written.params dd_written.body dd_written.scope (dd_written.dvs K) (dd_written.kws K) (He.fAd K dd_written.at_) fd) : FnOk P w K mg base CX0 (d + 1) (He.fAd K dd_written.at_) fd [(Str.ofString "tree"), (Str.ofString "words"), (Str.ofString "depth")] (spC W (callF pr (d + 1)) "written") := by
  have nd := sc_written.nd
  refine fnok F sc_written (fn := f_written) rfl rfl rfl fun cdv A outer s1 H E hr => ?_
  have St : Std ⟨W, ctxP pr d, [], fun _ => .par⟩ (cxOf CX0 P w K mg base [(Str.ofString "tree"), (Str.ofString "words"), (Str.ofString "depth"), (Str.ofString "kind"), (Str.ofString "parts"), (Str.ofString "texts"), (Str.ofString "part")] "written" (defScope (top 24)) (He.fAd K ("written", none)) cdv A outer s1 H E).nox d := ⟨hK.symm, hr, rfl⟩
  exact (mss_cons (ms_asg (me_slot (i := 0)) (mg_star (ts := [(.name 3)]) (i := 4) (mm := false) St (mgs_cons (mg_name (k := 3) nd) (mgs_cons (mg_name (k := 4) nd) mgs_nil))))
      (mss_cons (ms_if (mt_eq St (me_slot (i := 3)) me_str) (mss_cons (ms_ret (me_sub' St (me_slot (i := 4)) me_int))
      mss_nil) mss_nil)
      (mss_cons (ms_if (mt_eq St (me_slot (i := 3)) me_str) (mss_cons (ms_ret (me_sub' St (me_slot (i := 1)) (me_sub (me_sub (me_slot (i := 2)) me_int) (me_sub' St (me_slot (i := 4)) me_int))))
      mss_nil) mss_nil)
      (mss_cons (ms_if (mt_eq St (me_slot (i := 3)) me_str) (mss_cons (ms_ret (me_fstr (.con (.fmt (me_sub' St (me_slot (i := 1)) (me_slot (i := 2))) (.con (.fmt (me_call St C.c_written_3 rfl (ma_cons (me_sub' St (me_slot (i := 4)) me_int) (ma_cons (me_slot (i := 1)) (ma_cons (me_add (me_slot (i := 2)) me_int) ma_nil)))) .nil))))))
      mss_nil) mss_nil)
      (mss_cons (ms_setLc (i := 5) (own := [("part", 6)]) (mm := true) St nd List.not_mem_nil (mi_list St (me_slot (i := 4))) (blkOk_by (by rfl)) (by decide) (fun _ _ => List.not_mem_nil) (fun _ _ _ _ _ => (mg_name (k := 6) nd)) (fun _ _ _ _ _ => mcs_nil) (fun _ _ _ _ _ => (me_call (Std.blk St) C.c_written_3 rfl (ma_cons (me_slot (i := 6)) (ma_cons (me_slot (i := 1)) (ma_cons (me_slot (i := 2)) ma_nil))))) (sw_true rfl rfl rfl rfl))
      (mss_cons (ms_if (mt_eq St (me_sub' St (me_sub' St (me_slot (i := 4)) me_int) me_int) me_str) (mss_cons (ms_setsub St (me_slot (i := 5)) me_int (me_fstr (.con (.fmt (me_sub' St (me_slot (i := 5)) me_int) (.con .nil)))))
      mss_nil) mss_nil)
      (mss_cons (ms_if (mt_in St (me_sub' St (me_sub' St (me_slot (i := 4)) me_int) me_int) (me_tup (ma_cons me_str (ma_cons me_str ma_nil)))) (mss_cons (ms_setsub St (me_slot (i := 5)) me_int (me_fstr (.con (.fmt (me_sub' St (me_slot (i := 5)) me_int) (.con .nil)))))
      mss_nil) mss_nil)
      (mss_cons (ms_ret (me_join St me_str (ma_cons (me_slot (i := 5)) ma_nil)))
      mss_nil))))))))
theorem sc_deepest : FnScope [(Str.ofString "tree"), (Str.ofString "address")] [(Str.ofString "tree")] (defScope (top 25)) := ⟨rfl, rfl, rfl, by decide +kernel, rfl, by decide +kernel, by decide +kernel⟩
theorem d_deepest (G : Gf w K mg W) (C : Cf P w K mg base W d) (hK : W.K = K) {fd : FuncData} (F : FunD K dd_deepest.name dd_deepest.qual dd_deepest.params dd_deepest.body dd_deepest.scope (dd_deepest.dvs K) (dd_deepest.kws K) (He.fAd K dd_deepest.at_) fd) : FnOk P w K mg base CX0 (d + 1) (He.fAd K dd_deepest.at_) fd [(Str.ofString "tree")] (spC W (callF pr (d + 1)) "deepest") := by
  have nd := sc_deepest.nd
  refine fnok F sc_deepest (fn := f_deepest) rfl rfl rfl fun cdv A outer s1 H E hr => ?_
  have St : Std ⟨W, ctxP pr d, [], fun _ => .par⟩ (cxOf CX0 P w K mg base [(Str.ofString "tree"), (Str.ofString "address")] "deepest" (defScope (top 25)) (He.fAd K ("deepest", none)) cdv A outer s1 H E).nox d := ⟨hK.symm, hr, rfl⟩
  exact (mss_cons (ms_ret (me_max St G.b_max (ma_cons (me_lc (own := [("address", 1)]) (mm := false) St nd (mi_keys St (me_frzk (me_call St C.c_addresses_in_1 rfl (ma_cons (me_slot (i := 0)) ma_nil)))) (blkOk_by (by rfl)) (by decide) (fun _ _ => List.not_mem_nil) (fun _ _ _ _ _ => (mg_name (k := 1) nd)) (fun _ _ _ _ _ => mcs_nil) (fun _ _ _ _ _ => (me_count (Std.blk St) (me_slot (i := 1)) (ma_cons me_str ma_nil)))) ma_nil)))
      mss_nil)
theorem sc_Termu_initu : FnScope [(Str.ofString "self"), (Str.ofString "tree")] [(Str.ofString "self"), (Str.ofString "tree")] (defScope (cls 26 0)) := ⟨rfl, rfl, rfl, by decide +kernel, rfl, by decide +kernel, by decide +kernel⟩
theorem d_Termu_initu (G : Gf w K mg W) (C : Cf P w K mg base W d) (hK : W.K = K) {fd : FuncData} (F : FunD K dd_Termu_initu.name dd_Termu_initu.qual dd_Termu_initu.params dd_Termu_initu.body dd_Termu_initu.scope (dd_Termu_initu.dvs K) (dd_Termu_initu.kws K) (He.fAd K dd_Termu_initu.at_) fd) : FnOk P w K mg base CX0 (d + 1) (He.fAd K dd_Termu_initu.at_) fd [(Str.ofString "self"), (Str.ofString "tree")] (spC W (callF pr (d + 1)) "Term.__init__") := by
  have nd := sc_Termu_initu.nd
  refine fnok F sc_Termu_initu (fn := f_Termu_initu) rfl rfl rfl fun cdv A outer s1 H E hr => ?_
  have St : Std ⟨W, ctxP pr d, [], fun _ => .par⟩ (cxOf CX0 P w K mg base [(Str.ofString "self"), (Str.ofString "tree")] "Term.__init__" (defScope (cls 26 0)) (He.fAd K ("Term", some "__init__")) cdv A outer s1 H E).nox d := ⟨hK.symm, hr, rfl⟩
  exact (mss_cons (ms_fld St ⟨G.cls⟩ G.n_tree (me_slot (i := 0)) (me_slot (i := 1)))
      mss_nil)
theorem sc_Termu_equ : FnScope [(Str.ofString "self"), (Str.ofString "other")] [(Str.ofString "self"), (Str.ofString "other")] (defScope (cls 26 1)) := ⟨rfl, rfl, rfl, by decide +kernel, rfl, by decide +kernel, by decide +kernel⟩
theorem d_Termu_equ (G : Gf w K mg W) (C : Cf P w K mg base W d) (hK : W.K = K) {fd : FuncData} (F : FunD K dd_Termu_equ.name dd_Termu_equ.qual dd_Termu_equ.params dd_Termu_equ.body dd_Termu_equ.scope (dd_Termu_equ.dvs K) (dd_Termu_equ.kws K) (He.fAd K dd_Termu_equ.at_) fd) : FnOk P w K mg base CX0 (d + 1) (He.fAd K dd_Termu_equ.at_) fd [(Str.ofString "self"), (Str.ofString "other")] (spC W (callF pr (d + 1)) "Term.__eq__") := by
  have nd := sc_Termu_equ.nd
  refine fnok F sc_Termu_equ (fn := f_Termu_equ) rfl rfl rfl fun cdv A outer s1 H E hr => ?_
  have St : Std ⟨W, ctxP pr d, [], fun _ => .par⟩ (cxOf CX0 P w K mg base [(Str.ofString "self"), (Str.ofString "other")] "Term.__eq__" (defScope (cls 26 1)) (He.fAd K ("Term", some "__eq__")) cdv A outer s1 H E).nox d := ⟨hK.symm, hr, rfl⟩
  exact (mss_cons (ms_ret (me_and (me_isc St G.b_isinstance G.gc_Term rfl (G.cls _ _ G.ca_Term) (G.q _ _ G.ca_Term) G.ca_Term (me_slot (i := 1))) (me_one (me_eq St (me_fld St ⟨G.cls⟩ G.n_tree (me_slot (i := 0))) (me_fld St ⟨G.cls⟩ G.n_tree (me_slot (i := 1)))))))
      mss_nil)
theorem sc_Termu_stru : FnScope [(Str.ofString "self")] [(Str.ofString "self")] (defScope (cls 26 3)) := ⟨rfl, rfl, rfl, by decide +kernel, rfl, by decide +kernel, by decide +kernel⟩
theorem d_Termu_stru (G : Gf w K mg W) (C : Cf P w K mg base W d) (hK : W.K = K) {fd : FuncData} (F : FunD K dd_Termu_stru.name dd_Termu_stru.qual dd_Termu_stru.params dd_Termu_stru.body dd_Termu_stru.scope (dd_Termu_stru.dvs K) (dd_Termu_stru.kws K) (He.fAd K dd_Termu_stru.at_) fd) : FnOk P w K mg base CX0 (d + 1) (He.fAd K dd_Termu_stru.at_) fd [(Str.ofString "self")] (spC W (callF pr (d + 1)) "Term.__str__") := by
  have nd := sc_Termu_stru.nd
  refine fnok F sc_Termu_stru (fn := f_Termu_stru) rfl rfl rfl fun cdv A outer s1 H E hr => ?_
  have St : Std ⟨W, ctxP pr d, [], fun _ => .par⟩ (cxOf CX0 P w K mg base [(Str.ofString "self")] "Term.__str__" (defScope (cls 26 3)) (He.fAd K ("Term", some "__str__")) cdv A outer s1 H E).nox d := ⟨hK.symm, hr, rfl⟩
  exact (mss_cons (ms_ret (me_stro St C.h0 ⟨G.cls⟩ C.s_str G.b_str (me_call St C.c_written_2 rfl (ma_cons (me_fld St ⟨G.cls⟩ G.n_tree (me_slot (i := 0))) (ma_cons (me_call St C.c_fresh_words_2 rfl (ma_cons (me_fld St ⟨G.cls⟩ G.n_tree (me_slot (i := 0))) (ma_cons (me_call St C.c_deepest_1 rfl (ma_cons (me_fld St ⟨G.cls⟩ G.n_tree (me_slot (i := 0))) ma_nil)) ma_nil))) ma_nil)))))
      mss_nil)
theorem sc_name : FnScope [(Str.ofString "word")] [(Str.ofString "word")] (defScope (top 27)) := ⟨rfl, rfl, rfl, by decide +kernel, rfl, by decide +kernel, by decide +kernel⟩
theorem d_name (G : Gf w K mg W) (C : Cf P w K mg base W d) (hK : W.K = K) {fd : FuncData} (F : FunD K dd_name.name dd_name.qual dd_name.params dd_name.body dd_name.scope (dd_name.dvs K) (dd_name.kws K) (He.fAd K dd_name.at_) fd) : FnOk P w K mg base CX0 (d + 1) (He.fAd K dd_name.at_) fd [(Str.ofString "word")] (spC W (callF pr (d + 1)) "name") := by
  have nd := sc_name.nd
  refine fnok F sc_name (fn := f_name) rfl rfl rfl fun cdv A outer s1 H E hr => ?_
  have St : Std ⟨W, ctxP pr d, [], fun _ => .par⟩ (cxOf CX0 P w K mg base [(Str.ofString "word")] "name" (defScope (top 27)) (He.fAd K ("name", none)) cdv A outer s1 H E).nox d := ⟨hK.symm, hr, rfl⟩
  exact (mss_cons (ms_ex (me_call St C.c_look_word_1 rfl (ma_cons (me_slot (i := 0)) ma_nil)))
      (mss_cons (ms_ret (me_mk (fz := true) St C.h0 C.i_Term rfl (ma_cons (me_tup (ma_cons me_str (ma_cons (me_slot (i := 0)) ma_nil))) ma_nil)))
      mss_nil))
theorem sc_fun : FnScope [(Str.ofString "word"), (Str.ofString "body"), (Str.ofString "leaf")] [(Str.ofString "word"), (Str.ofString "body")] (defScope (top 28)) := ⟨rfl, rfl, rfl, by decide +kernel, rfl, by decide +kernel, by decide +kernel⟩
theorem d_fun (G : Gf w K mg W) (C : Cf P w K mg base W d) (hK : W.K = K) {fd : FuncData} {cd Pt : Addr} (TB : TabB base mg cd Pt) (hcd : cd = He.codeOf K ("fun", none)) (hT : (Pt, fun _ _ => (("fun" : Str) ++ (".<locals>." : Str)) ++ ("leaf" : Str)) ∈ W.T) (hU : ∀ q ∈ W.T, q.1 = Pt → q.2 = fun _ _ => (("fun" : Str) ++ (".<locals>." : Str)) ++ ("leaf" : Str)) (F : FunD K dd_fun.name dd_fun.qual dd_fun.params dd_fun.body dd_fun.scope (dd_fun.dvs K) (dd_fun.kws K) (He.fAd K dd_fun.at_) fd) : FnOk P w K mg base CX0 (d + 1) (He.fAd K dd_fun.at_) fd [(Str.ofString "word"), (Str.ofString "body")] (spC W (callF pr (d + 1)) "fun") := by
  have nd := sc_fun.nd
  subst hcd
  refine fnokC (p := ("fun", none)) (Zs := fun s => ⟨W, ctxP pr d, [2], fun _ => .made fun c' => st_fun_leaf.nf (cloFrom (cellsFrom (s.heap.objs.size + 1) (defScope (top 28)).names []) st_fun_leaf.scope.names []) c'⟩) F rfl sc_fun (fn := f_fun) rfl rfl rfl (fun s => ⟨rfl, rfl, (by decide : ∀ i ∈ ([2] : List Nat), 2 ≤ i)⟩) fun A outer s1 H E hr => ?_
  have St : Std ⟨W, ctxP pr d, [2], fun _ => .made fun c' => st_fun_leaf.nf (cloFrom (cellsFrom (s1.heap.objs.size + 1) (defScope (top 28)).names []) st_fun_leaf.scope.names []) c'⟩ (cxOf CX0 P w K mg base [(Str.ofString "word"), (Str.ofString "body"), (Str.ofString "leaf")] "fun" (defScope (top 28)) (He.fAd K ("fun", none)) (.ref (He.codeOf K ("fun", none))) A outer s1 H E).nox d := ⟨hK.symm, hr, rfl⟩
  exact (mss_cons (ms_ex (me_call St C.c_look_word_1 rfl (ma_cons (me_slot (i := 0) (hc := (by decide : 0 ∉ ([2] : List Nat)))) ma_nil)))
      (mss_cons (ms_ndef (i := 2) TB rfl hT rfl hU (ndef_free (by decide +kernel : ndefB (defScope (top 28)) st_fun_leaf.scope st_fun_leaf.fr = true)) rfl rfl rfl nd rfl (.inl rfl) (.inl rfl) (by decide : 2 ∈ ([2] : List Nat)) rfl)
      (mss_cons (ms_ret (me_mk (fz := true) St C.h0 C.i_Term rfl (ma_cons (me_tup (ma_cons me_str (ma_cons (me_callc (i := 2) (caps := [0]) (ds := [(.int 0)]) St C.c_changed_2 rfl (me_fld St ⟨G.cls⟩ G.n_tree (me_slot (i := 1) (hc := (by decide : 1 ∉ ([2] : List Nat))))) G.nf_fun_leaf (by decide : 2 ∈ ([2] : List Nat)) rfl rfl (.inl rfl) (fun ok => Caps.made ok (ndef_free (by decide +kernel : ndefB (defScope (top 28)) st_fun_leaf.scope st_fun_leaf.fr = true)) (ndef_fr (by decide +kernel : ndefB (defScope (top 28)) st_fun_leaf.scope st_fun_leaf.fr = true)) rfl) (fun _ _ _ => rfl) (by decide : ∀ j ∈ ([0] : List Nat), j ∉ ([2] : List Nat))) ma_nil))) ma_nil)))
      mss_nil)))
theorem sc_put : FnScope [(Str.ofString "function"), (Str.ofString "argument")] [(Str.ofString "function"), (Str.ofString "argument")] (defScope (top 29)) := ⟨rfl, rfl, rfl, by decide +kernel, rfl, by decide +kernel, by decide +kernel⟩
theorem d_put (G : Gf w K mg W) (C : Cf P w K mg base W d) (hK : W.K = K) {fd : FuncData} (F : FunD K dd_put.name dd_put.qual dd_put.params dd_put.body dd_put.scope (dd_put.dvs K) (dd_put.kws K) (He.fAd K dd_put.at_) fd) : FnOk P w K mg base CX0 (d + 1) (He.fAd K dd_put.at_) fd [(Str.ofString "function"), (Str.ofString "argument")] (spC W (callF pr (d + 1)) "put") := by
  have nd := sc_put.nd
  refine fnok F sc_put (fn := f_put) rfl rfl rfl fun cdv A outer s1 H E hr => ?_
  have St : Std ⟨W, ctxP pr d, [], fun _ => .par⟩ (cxOf CX0 P w K mg base [(Str.ofString "function"), (Str.ofString "argument")] "put" (defScope (top 29)) (He.fAd K ("put", none)) cdv A outer s1 H E).nox d := ⟨hK.symm, hr, rfl⟩
  exact (mss_cons (ms_ret (me_mk (fz := true) St C.h0 C.i_Term rfl (ma_cons (me_tup (ma_cons me_str (ma_cons (me_fld St ⟨G.cls⟩ G.n_tree (me_slot (i := 0))) (ma_cons (me_fld St ⟨G.cls⟩ G.n_tree (me_slot (i := 1))) ma_nil)))) ma_nil)))
      mss_nil)
theorem sc_tree_at : FnScope [(Str.ofString "tree"), (Str.ofString "address"), (Str.ofString "sign"), (Str.ofString "kind"), (Str.ofString "parts"), (Str.ofString "signs")] [(Str.ofString "tree"), (Str.ofString "address")] (defScope (top 30)) := ⟨rfl, rfl, rfl, by decide +kernel, rfl, by decide +kernel, by decide +kernel⟩
theorem d_tree_at (G : Gf w K mg W) (C : Cf P w K mg base W d) (hK : W.K = K) {fd : FuncData} (F : FunD K dd_tree_at.name dd_tree_at.qual dd_tree_at.params dd_tree_at.body dd_tree_at.scope (dd_tree_at.dvs K) (dd_tree_at.kws K) (He.fAd K dd_tree_at.at_) fd) : FnOk P w K mg base (L2.CX P w) (d + 1) (He.fAd K dd_tree_at.at_) fd [(Str.ofString "tree"), (Str.ofString "address")] (spX W (callF pr (d + 1)) (callX pr (d + 1)) "tree_at") := by
  have nd := sc_tree_at.nd
  refine fnokX F sc_tree_at (fn := f_tree_at) rfl rfl rfl fun cdv A outer s1 H E hr => ?_
  have St : Std ⟨W, ctxP pr d, [], fun _ => .par⟩ (cxOf (L2.CX P w) P w K mg base [(Str.ofString "tree"), (Str.ofString "address"), (Str.ofString "sign"), (Str.ofString "kind"), (Str.ofString "parts"), (Str.ofString "signs")] "tree_at" (defScope (top 30)) (He.fAd K ("tree_at", none)) cdv A outer s1 H E) d := ⟨hK.symm, hr, rfl⟩
  have tk : Takes (cxOf (L2.CX P w) P w K mg base [(Str.ofString "tree"), (Str.ofString "address"), (Str.ofString "sign"), (Str.ofString "kind"), (Str.ofString "parts"), (Str.ofString "signs")] "tree_at" (defScope (top 30)) (He.fAd K ("tree_at", none)) cdv A outer s1 H E) (fun cls d _ H => E cls d H) := takes_of rfl rfl rfl rfl
  have PO : PassesOwn (model (cxOf (L2.CX P w) P w K mg base [(Str.ofString "tree"), (Str.ofString "address"), (Str.ofString "sign"), (Str.ofString "kind"), (Str.ofString "parts"), (Str.ofString "signs")] "tree_at" (defScope (top 30)) (He.fAd K ("tree_at", none)) cdv A outer s1 H E).prog (cxOf (L2.CX P w) P w K mg base [(Str.ofString "tree"), (Str.ofString "address"), (Str.ofString "sign"), (Str.ofString "kind"), (Str.ofString "parts"), (Str.ofString "signs")] "tree_at" (defScope (top 30)) (He.fAd K ("tree_at", none)) cdv A outer s1 H E).w) (cxOf (L2.CX P w) P w K mg base [(Str.ofString "tree"), (Str.ofString "address"), (Str.ofString "sign"), (Str.ofString "kind"), (Str.ofString "parts"), (Str.ofString "signs")] "tree_at" (defScope (top 30)) (He.fAd K ("tree_at", none)) cdv A outer s1 H E).A (cxOf (L2.CX P w) P w K mg base [(Str.ofString "tree"), (Str.ofString "address"), (Str.ofString "sign"), (Str.ofString "kind"), (Str.ofString "parts"), (Str.ofString "signs")] "tree_at" (defScope (top 30)) (He.fAd K ("tree_at", none)) cdv A outer s1 H E).env (cxOf (L2.CX P w) P w K mg base [(Str.ofString "tree"), (Str.ofString "address"), (Str.ofString "sign"), (Str.ofString "kind"), (Str.ofString "parts"), (Str.ofString "signs")] "tree_at" (defScope (top 30)) (He.fAd K ("tree_at", none)) cdv A outer s1 H E).xe := passes_of rfl
  exact ⟨(mss_cons (ms_if (mt_not (mt_val (me_isi (T := "str") St G.b_isinstance G.b_str rfl (by decide +kernel) (me_slot (i := 1))))) (mss_cons ms_raise
      mss_nil) mss_nil)
      (mss_cons (ms_for St PO (mi_str St (me_slot (i := 1))) (mg_name (k := 2) nd) (mss_cons (ms_asg (me_slot (i := 0)) (mg_star (ts := [(.name 3)]) (i := 4) (mm := false) St (mgs_cons (mg_name (k := 3) nd) (mgs_cons (mg_name (k := 4) nd) mgs_nil))))
      (mss_cons (ms_asg (me_getd St (me_dsp (kl := ["fun", "put"]) (vl := ["b", "fg"]) (.cons (.cons .nil))) (me_slot (i := 3)) me_str) (mg_name (k := 5) nd))
      (mss_cons (ms_if (mt_nin St (me_slot (i := 2)) (me_slot (i := 5))) (mss_cons ms_raise
      mss_nil) mss_nil)
      (mss_cons (ms_asg (me_sub' St (me_slot (i := 4)) (me_idxs St (me_slot (i := 5)) (me_slot (i := 2)))) (mg_name (k := 0) nd))
      mss_nil)))))
      (mss_cons (ms_ret (me_slot (i := 0)))
      mss_nil))),
    (xss_cons (ms_if (mt_not (mt_val (me_isi (T := "str") St G.b_isinstance G.b_str rfl (by decide +kernel) (me_slot (i := 1))))) (mss_cons ms_raise
      mss_nil) mss_nil)
      (xs_if (mt_not (mt_val (me_isi (T := "str") St G.b_isinstance G.b_str rfl (by decide +kernel) (me_slot (i := 1))))) (xt_no (by rfl)) (xss_cons ms_raise
      (xs_raise0 tk St G.x0_NoAddress G.xa_NoAddress G.gx_NoAddress)
      xss_nil) (xss_no (by rfl)))
      (xss_cons (ms_for St PO (mi_str St (me_slot (i := 1))) (mg_name (k := 2) nd) (mss_cons (ms_asg (me_slot (i := 0)) (mg_star (ts := [(.name 3)]) (i := 4) (mm := false) St (mgs_cons (mg_name (k := 3) nd) (mgs_cons (mg_name (k := 4) nd) mgs_nil))))
      (mss_cons (ms_asg (me_getd St (me_dsp (kl := ["fun", "put"]) (vl := ["b", "fg"]) (.cons (.cons .nil))) (me_slot (i := 3)) me_str) (mg_name (k := 5) nd))
      (mss_cons (ms_if (mt_nin St (me_slot (i := 2)) (me_slot (i := 5))) (mss_cons ms_raise
      mss_nil) mss_nil)
      (mss_cons (ms_asg (me_sub' St (me_slot (i := 4)) (me_idxs St (me_slot (i := 5)) (me_slot (i := 2)))) (mg_name (k := 0) nd))
      mss_nil)))))
      (xs_for St PO (mi_str St (me_slot (i := 1))) (mg_name (k := 2) nd) (mss_cons (ms_asg (me_slot (i := 0)) (mg_star (ts := [(.name 3)]) (i := 4) (mm := false) St (mgs_cons (mg_name (k := 3) nd) (mgs_cons (mg_name (k := 4) nd) mgs_nil))))
      (mss_cons (ms_asg (me_getd St (me_dsp (kl := ["fun", "put"]) (vl := ["b", "fg"]) (.cons (.cons .nil))) (me_slot (i := 3)) me_str) (mg_name (k := 5) nd))
      (mss_cons (ms_if (mt_nin St (me_slot (i := 2)) (me_slot (i := 5))) (mss_cons ms_raise
      mss_nil) mss_nil)
      (mss_cons (ms_asg (me_sub' St (me_slot (i := 4)) (me_idxs St (me_slot (i := 5)) (me_slot (i := 2)))) (mg_name (k := 0) nd))
      mss_nil)))) (xss_cons (ms_asg (me_slot (i := 0)) (mg_star (ts := [(.name 3)]) (i := 4) (mm := false) St (mgs_cons (mg_name (k := 3) nd) (mgs_cons (mg_name (k := 4) nd) mgs_nil))))
      (xs_no (by rfl))
      (xss_cons (ms_asg (me_getd St (me_dsp (kl := ["fun", "put"]) (vl := ["b", "fg"]) (.cons (.cons .nil))) (me_slot (i := 3)) me_str) (mg_name (k := 5) nd))
      (xs_no (by rfl))
      (xss_cons (ms_if (mt_nin St (me_slot (i := 2)) (me_slot (i := 5))) (mss_cons ms_raise
      mss_nil) mss_nil)
      (xs_if (mt_nin St (me_slot (i := 2)) (me_slot (i := 5))) (xt_no (by rfl)) (xss_cons ms_raise
      (xs_raise0 tk St G.x0_NoAddress G.xa_NoAddress G.gx_NoAddress)
      xss_nil) (xss_no (by rfl)))
      (xss_no (by rfl))))))
      (xss_no (by rfl))))⟩
theorem sc_kind_at : FnScope [(Str.ofString "term"), (Str.ofString "address"), (Str.ofString "kind")] [(Str.ofString "term"), (Str.ofString "address")] (defScope (top 31)) := ⟨rfl, rfl, rfl, by decide +kernel, rfl, by decide +kernel, by decide +kernel⟩
theorem d_kind_at (G : Gf w K mg W) (C : Cf P w K mg base W d) (hK : W.K = K) {fd : FuncData} (F : FunD K dd_kind_at.name dd_kind_at.qual dd_kind_at.params dd_kind_at.body dd_kind_at.scope (dd_kind_at.dvs K) (dd_kind_at.kws K) (He.fAd K dd_kind_at.at_) fd) : FnOk P w K mg base (L2.CX P w) (d + 1) (He.fAd K dd_kind_at.at_) fd [(Str.ofString "term"), (Str.ofString "address")] (spX W (callF pr (d + 1)) (callX pr (d + 1)) "kind_at") := by
  have nd := sc_kind_at.nd
  refine fnokX F sc_kind_at (fn := f_kind_at) rfl rfl rfl fun cdv A outer s1 H E hr => ?_
  have St : Std ⟨W, ctxP pr d, [], fun _ => .par⟩ (cxOf (L2.CX P w) P w K mg base [(Str.ofString "term"), (Str.ofString "address"), (Str.ofString "kind")] "kind_at" (defScope (top 31)) (He.fAd K ("kind_at", none)) cdv A outer s1 H E) d := ⟨hK.symm, hr, rfl⟩
  have tk : Takes (cxOf (L2.CX P w) P w K mg base [(Str.ofString "term"), (Str.ofString "address"), (Str.ofString "kind")] "kind_at" (defScope (top 31)) (He.fAd K ("kind_at", none)) cdv A outer s1 H E) (fun cls d _ H => E cls d H) := takes_of rfl rfl rfl rfl
  have PO : PassesOwn (model (cxOf (L2.CX P w) P w K mg base [(Str.ofString "term"), (Str.ofString "address"), (Str.ofString "kind")] "kind_at" (defScope (top 31)) (He.fAd K ("kind_at", none)) cdv A outer s1 H E).prog (cxOf (L2.CX P w) P w K mg base [(Str.ofString "term"), (Str.ofString "address"), (Str.ofString "kind")] "kind_at" (defScope (top 31)) (He.fAd K ("kind_at", none)) cdv A outer s1 H E).w) (cxOf (L2.CX P w) P w K mg base [(Str.ofString "term"), (Str.ofString "address"), (Str.ofString "kind")] "kind_at" (defScope (top 31)) (He.fAd K ("kind_at", none)) cdv A outer s1 H E).A (cxOf (L2.CX P w) P w K mg base [(Str.ofString "term"), (Str.ofString "address"), (Str.ofString "kind")] "kind_at" (defScope (top 31)) (He.fAd K ("kind_at", none)) cdv A outer s1 H E).env (cxOf (L2.CX P w) P w K mg base [(Str.ofString "term"), (Str.ofString "address"), (Str.ofString "kind")] "kind_at" (defScope (top 31)) (He.fAd K ("kind_at", none)) cdv A outer s1 H E).xe := passes_of rfl
  exact ⟨(mss_cons (ms_asg (me_sub' St (me_xcal St C.c_tree_at_2 rfl (ma_cons (me_fld St ⟨G.cls⟩ G.n_tree (me_slot (i := 0))) (ma_cons (me_slot (i := 1)) ma_nil))) me_int) (mg_name (k := 2) nd))
      (mss_cons (ms_if (mt_eq St (me_slot (i := 2)) me_str) (mss_cons (ms_ret me_str)
      mss_nil) mss_nil)
      (mss_cons (ms_ret (me_slot (i := 2)))
      mss_nil))),
    (xss_cons (ms_asg (me_sub' St (me_xcal St C.c_tree_at_2 rfl (ma_cons (me_fld St ⟨G.cls⟩ G.n_tree (me_slot (i := 0))) (ma_cons (me_slot (i := 1)) ma_nil))) me_int) (mg_name (k := 2) nd))
      (xs_asg (xe_sub St (me_xcal St C.c_tree_at_2 rfl (ma_cons (me_fld St ⟨G.cls⟩ G.n_tree (me_slot (i := 0))) (ma_cons (me_slot (i := 1)) ma_nil))) (xe_xcal tk St C.c_tree_at_2 rfl (ma_cons (me_fld St ⟨G.cls⟩ G.n_tree (me_slot (i := 0))) (ma_cons (me_slot (i := 1)) ma_nil)) (xa_no (by rfl))) (xe_no (by rfl))) (mg_name (k := 2) nd))
      (xss_no (by rfl)))⟩
theorem sc_part_at : FnScope [(Str.ofString "term"), (Str.ofString "address"), (Str.ofString "tree"), (Str.ofString "words"), (Str.ofString "leaf")] [(Str.ofString "term"), (Str.ofString "address")] (defScope (top 32)) := ⟨rfl, rfl, rfl, by decide +kernel, rfl, by decide +kernel, by decide +kernel⟩
theorem d_part_at (G : Gf w K mg W) (C : Cf P w K mg base W d) (hK : W.K = K) {fd : FuncData} {cd Pt : Addr} (TB : TabB base mg cd Pt) (hcd : cd = He.codeOf K ("part_at", none)) (hT : (Pt, fun _ _ => (("part_at" : Str) ++ (".<locals>." : Str)) ++ ("leaf" : Str)) ∈ W.T) (hU : ∀ q ∈ W.T, q.1 = Pt → q.2 = fun _ _ => (("part_at" : Str) ++ (".<locals>." : Str)) ++ ("leaf" : Str)) (F : FunD K dd_part_at.name dd_part_at.qual dd_part_at.params dd_part_at.body dd_part_at.scope (dd_part_at.dvs K) (dd_part_at.kws K) (He.fAd K dd_part_at.at_) fd) : FnOk P w K mg base (L2.CX P w) (d + 1) (He.fAd K dd_part_at.at_) fd [(Str.ofString "term"), (Str.ofString "address")] (spX W (callF pr (d + 1)) (callX pr (d + 1)) "part_at") := by
  have nd := sc_part_at.nd
  subst hcd
  refine fnokCX (p := ("part_at", none)) (Zs := fun s => ⟨W, ctxP pr d, [4], fun _ => .made fun c' => st_part_at_leaf.nf (cloFrom (cellsFrom (s.heap.objs.size + 1) (defScope (top 32)).names []) st_part_at_leaf.scope.names []) c'⟩) F rfl sc_part_at (fn := f_part_at) rfl rfl rfl (fun s => ⟨rfl, rfl, (by decide : ∀ i ∈ ([4] : List Nat), 2 ≤ i)⟩) fun A outer s1 H E hr => ?_
  have St : Std ⟨W, ctxP pr d, [4], fun _ => .made fun c' => st_part_at_leaf.nf (cloFrom (cellsFrom (s1.heap.objs.size + 1) (defScope (top 32)).names []) st_part_at_leaf.scope.names []) c'⟩ (cxOf (L2.CX P w) P w K mg base [(Str.ofString "term"), (Str.ofString "address"), (Str.ofString "tree"), (Str.ofString "words"), (Str.ofString "leaf")] "part_at" (defScope (top 32)) (He.fAd K ("part_at", none)) (.ref (He.codeOf K ("part_at", none))) A outer s1 H E) d := ⟨hK.symm, hr, rfl⟩
  have tk : Takes (cxOf (L2.CX P w) P w K mg base [(Str.ofString "term"), (Str.ofString "address"), (Str.ofString "tree"), (Str.ofString "words"), (Str.ofString "leaf")] "part_at" (defScope (top 32)) (He.fAd K ("part_at", none)) (.ref (He.codeOf K ("part_at", none))) A outer s1 H E) (fun cls d _ H => E cls d H) := takes_of rfl rfl rfl rfl
  have PO : PassesOwn (model (cxOf (L2.CX P w) P w K mg base [(Str.ofString "term"), (Str.ofString "address"), (Str.ofString "tree"), (Str.ofString "words"), (Str.ofString "leaf")] "part_at" (defScope (top 32)) (He.fAd K ("part_at", none)) (.ref (He.codeOf K ("part_at", none))) A outer s1 H E).prog (cxOf (L2.CX P w) P w K mg base [(Str.ofString "term"), (Str.ofString "address"), (Str.ofString "tree"), (Str.ofString "words"), (Str.ofString "leaf")] "part_at" (defScope (top 32)) (He.fAd K ("part_at", none)) (.ref (He.codeOf K ("part_at", none))) A outer s1 H E).w) (cxOf (L2.CX P w) P w K mg base [(Str.ofString "term"), (Str.ofString "address"), (Str.ofString "tree"), (Str.ofString "words"), (Str.ofString "leaf")] "part_at" (defScope (top 32)) (He.fAd K ("part_at", none)) (.ref (He.codeOf K ("part_at", none))) A outer s1 H E).A (cxOf (L2.CX P w) P w K mg base [(Str.ofString "term"), (Str.ofString "address"), (Str.ofString "tree"), (Str.ofString "words"), (Str.ofString "leaf")] "part_at" (defScope (top 32)) (He.fAd K ("part_at", none)) (.ref (He.codeOf K ("part_at", none))) A outer s1 H E).env (cxOf (L2.CX P w) P w K mg base [(Str.ofString "term"), (Str.ofString "address"), (Str.ofString "tree"), (Str.ofString "words"), (Str.ofString "leaf")] "part_at" (defScope (top 32)) (He.fAd K ("part_at", none)) (.ref (He.codeOf K ("part_at", none))) A outer s1 H E).xe := passes_of rfl
  exact ⟨(mss_cons (ms_asg (me_xcal St C.c_tree_at_2 rfl (ma_cons (me_fld St ⟨G.cls⟩ G.n_tree (me_slot (i := 0) (hc := (by decide : 0 ∉ ([4] : List Nat))))) (ma_cons (me_slot (i := 1) (hc := (by decide : 1 ∉ ([4] : List Nat)))) ma_nil))) (mg_name (k := 2) nd (hc := (by decide : 2 ∉ ([4] : List Nat)))))
      (mss_cons (ms_asg (me_call St C.c_fresh_words_2 rfl (ma_cons (me_fld St ⟨G.cls⟩ G.n_tree (me_slot (i := 0) (hc := (by decide : 0 ∉ ([4] : List Nat))))) (ma_cons (me_count St (me_slot (i := 1) (hc := (by decide : 1 ∉ ([4] : List Nat)))) (ma_cons me_str ma_nil)) ma_nil))) (mg_name (k := 3) nd (hc := (by decide : 3 ∉ ([4] : List Nat)))))
      (mss_cons (ms_ndef (i := 4) TB rfl hT rfl hU (ndef_free (by decide +kernel : ndefB (defScope (top 32)) st_part_at_leaf.scope st_part_at_leaf.fr = true)) rfl rfl rfl nd rfl (.inl rfl) (.inl rfl) (by decide : 4 ∈ ([4] : List Nat)) rfl)
      (mss_cons (ms_ret (me_mk (fz := true) St C.h0 C.i_Term rfl (ma_cons (me_callc (i := 4) (caps := [3]) (ds := [(.int 0)]) St C.c_changed_2 rfl (me_slot (i := 2) (hc := (by decide : 2 ∉ ([4] : List Nat)))) G.nf_part_at_leaf (by decide : 4 ∈ ([4] : List Nat)) rfl rfl (.inl rfl) (fun ok => Caps.made ok (ndef_free (by decide +kernel : ndefB (defScope (top 32)) st_part_at_leaf.scope st_part_at_leaf.fr = true)) (ndef_fr (by decide +kernel : ndefB (defScope (top 32)) st_part_at_leaf.scope st_part_at_leaf.fr = true)) rfl) (fun _ _ _ => rfl) (by decide : ∀ j ∈ ([3] : List Nat), j ∉ ([4] : List Nat))) ma_nil)))
      mss_nil)))),
    (xss_cons (ms_asg (me_xcal St C.c_tree_at_2 rfl (ma_cons (me_fld St ⟨G.cls⟩ G.n_tree (me_slot (i := 0) (hc := (by decide : 0 ∉ ([4] : List Nat))))) (ma_cons (me_slot (i := 1) (hc := (by decide : 1 ∉ ([4] : List Nat)))) ma_nil))) (mg_name (k := 2) nd (hc := (by decide : 2 ∉ ([4] : List Nat)))))
      (xs_asg (xe_xcal tk St C.c_tree_at_2 rfl (ma_cons (me_fld St ⟨G.cls⟩ G.n_tree (me_slot (i := 0) (hc := (by decide : 0 ∉ ([4] : List Nat))))) (ma_cons (me_slot (i := 1) (hc := (by decide : 1 ∉ ([4] : List Nat)))) ma_nil)) (xa_no (by rfl))) (mg_name (k := 2) nd (hc := (by decide : 2 ∉ ([4] : List Nat)))))
      (xss_no (by rfl)))⟩
theorem sc__law_mixed : FnScope [(Str.ofString "cell"), (Str.ofString "k"), (Str.ofString "number")] [(Str.ofString "cell"), (Str.ofString "k")] (defScope (top 34)) := ⟨rfl, rfl, rfl, by decide +kernel, rfl, by decide +kernel, by decide +kernel⟩
theorem d__law_mixed (G : Gf w K mg W) (C : Cf P w K mg base W d) (hK : W.K = K) {fd : FuncData} (F : FunD K dd__law_mixed.name dd__law_mixed.qual dd__law_mixed.params dd__law_mixed.body dd__law_mixed.scope (dd__law_mixed.dvs K) (dd__law_mixed.kws K) (He.fAd K dd__law_mixed.at_) fd) : FnOk P w K mg base CX0 (d + 1) (He.fAd K dd__law_mixed.at_) fd [(Str.ofString "cell"), (Str.ofString "k")] (spC W (callF pr (d + 1)) "_law_mixed") := by
  have nd := sc__law_mixed.nd
  refine fnok F sc__law_mixed (fn := f__law_mixed) rfl rfl rfl fun cdv A outer s1 H E hr => ?_
  have St : Std ⟨W, ctxP pr d, [], fun _ => .par⟩ (cxOf CX0 P w K mg base [(Str.ofString "cell"), (Str.ofString "k"), (Str.ofString "number")] "_law_mixed" (defScope (top 34)) (He.fAd K ("_law_mixed", none)) cdv A outer s1 H E).nox d := ⟨hK.symm, hr, rfl⟩
  exact (mss_cons (ms_asg (me_add (me_add (me_mul (me_add (me_mod (me_slot (i := 0)) (me_add (me_pow me_int me_int) me_int)) (me_mul me_int (me_slot (i := 1)))) me_int) (me_mul me_int (me_slot (i := 1)))) me_int) (mg_name (k := 2) nd))
      (mss_cons (ms_asg (me_mod (me_mul (me_slot (i := 2)) (me_slot (i := 2))) (me_add (me_pow me_int me_int) me_int)) (mg_name (k := 2) nd))
      (mss_cons (ms_ret (me_mod (me_mul (me_add (me_slot (i := 2)) me_int) (me_add (me_slot (i := 2)) me_int)) (me_add (me_pow me_int me_int) me_int)))
      mss_nil)))
theorem sc__law_purse : FnScope [(Str.ofString "cell"), (Str.ofString "k")] [(Str.ofString "cell"), (Str.ofString "k")] (defScope (top 35)) := ⟨rfl, rfl, rfl, by decide +kernel, rfl, by decide +kernel, by decide +kernel⟩
theorem d__law_purse (G : Gf w K mg W) (C : Cf P w K mg base W d) (hK : W.K = K) {fd : FuncData} (F : FunD K dd__law_purse.name dd__law_purse.qual dd__law_purse.params dd__law_purse.body dd__law_purse.scope (dd__law_purse.dvs K) (dd__law_purse.kws K) (He.fAd K dd__law_purse.at_) fd) : FnOk P w K mg base CX0 (d + 1) (He.fAd K dd__law_purse.at_) fd [(Str.ofString "cell"), (Str.ofString "k")] (spC W (callF pr (d + 1)) "_law_purse") := by
  have nd := sc__law_purse.nd
  refine fnok F sc__law_purse (fn := f__law_purse) rfl rfl rfl fun cdv A outer s1 H E hr => ?_
  have St : Std ⟨W, ctxP pr d, [], fun _ => .par⟩ (cxOf CX0 P w K mg base [(Str.ofString "cell"), (Str.ofString "k")] "_law_purse" (defScope (top 35)) (He.fAd K ("_law_purse", none)) cdv A outer s1 H E).nox d := ⟨hK.symm, hr, rfl⟩
  exact (mss_cons (ms_if (mt_ge (me_slot (i := 0)) (me_pow me_int me_int)) (mss_cons (ms_ret (me_lst (mu := true) (ma_cons (me_mod (me_sub (me_slot (i := 0)) (me_pow me_int me_int)) (me_pow (me_pow me_int me_int) me_int)) (ma_cons me_int (ma_cons (me_slot (i := 1)) ma_nil)))))
      mss_nil) mss_nil)
      (mss_cons (ms_ret (me_lst (mu := true) (ma_cons (me_call St C.c__law_mixed_2 rfl (ma_cons (me_slot (i := 0)) (ma_cons (me_slot (i := 1)) ma_nil))) (ma_cons me_int (ma_cons (me_add (me_mod (me_slot (i := 0)) (me_add (me_pow me_int me_int) me_int)) (me_slot (i := 1))) ma_nil)))))
      mss_nil))
theorem sc__law_take : FnScope [(Str.ofString "purse"), (Str.ofString "many"), (Str.ofString "got")] [(Str.ofString "purse"), (Str.ofString "many")] (defScope (top 36)) := ⟨rfl, rfl, rfl, by decide +kernel, rfl, by decide +kernel, by decide +kernel⟩
theorem d__law_take (G : Gf w K mg W) (C : Cf P w K mg base W d) (hK : W.K = K) {fd : FuncData} (F : FunD K dd__law_take.name dd__law_take.qual dd__law_take.params dd__law_take.body dd__law_take.scope (dd__law_take.dvs K) (dd__law_take.kws K) (He.fAd K dd__law_take.at_) fd) : FnOk P w K mg base CX0 (d + 1) (He.fAd K dd__law_take.at_) fd [(Str.ofString "purse"), (Str.ofString "many")] (spC W (callF pr (d + 1)) "_law_take") := by
  have nd := sc__law_take.nd
  refine fnok F sc__law_take (fn := f__law_take) rfl rfl rfl fun cdv A outer s1 H E hr => ?_
  have St : Std ⟨W, ctxP pr d, [], fun _ => .par⟩ (cxOf CX0 P w K mg base [(Str.ofString "purse"), (Str.ofString "many"), (Str.ofString "got")] "_law_take" (defScope (top 36)) (He.fAd K ("_law_take", none)) cdv A outer s1 H E).nox d := ⟨hK.symm, hr, rfl⟩
  exact (mss_cons (ms_if (mt_lt (me_sub' St (me_slot (i := 0)) me_int) (me_slot (i := 1))) (mss_cons (ms_setsub St (me_slot (i := 0)) me_int (me_add (me_sub' St (me_slot (i := 0)) me_int) me_int))
      (mss_cons (ms_setsub St (me_slot (i := 0)) me_int (me_add (me_sub' St (me_slot (i := 0)) me_int) (me_mul (me_slot (i := 1)) (me_call St C.c__law_mixed_2 rfl (ma_cons (me_sub' St (me_slot (i := 0)) me_int) (ma_cons (me_add (me_mul me_int (me_sub' St (me_slot (i := 0)) me_int)) me_int) ma_nil))))))
      mss_nil)) mss_nil)
      (mss_cons (ms_asg (me_mod (me_sub' St (me_slot (i := 0)) me_int) (me_slot (i := 1))) (mg_name (k := 2) nd))
      (mss_cons (ms_setsub St (me_slot (i := 0)) me_int (me_fdiv (me_sub' St (me_slot (i := 0)) me_int) (me_slot (i := 1))))
      (mss_cons (ms_ret (me_slot (i := 2)))
      mss_nil))))
theorem sc__law_at : FnScope [(Str.ofString "script"), (Str.ofString "k")] [(Str.ofString "script"), (Str.ofString "k")] (defScope (top 37)) := ⟨rfl, rfl, rfl, by decide +kernel, rfl, by decide +kernel, by decide +kernel⟩
theorem d__law_at (G : Gf w K mg W) (C : Cf P w K mg base W d) (hK : W.K = K) {fd : FuncData} (F : FunD K dd__law_at.name dd__law_at.qual dd__law_at.params dd__law_at.body dd__law_at.scope (dd__law_at.dvs K) (dd__law_at.kws K) (He.fAd K dd__law_at.at_) fd) : FnOk P w K mg base CX0 (d + 1) (He.fAd K dd__law_at.at_) fd [(Str.ofString "script"), (Str.ofString "k")] (spC W (callF pr (d + 1)) "_law_at") := by
  have nd := sc__law_at.nd
  refine fnok F sc__law_at (fn := f__law_at) rfl rfl rfl fun cdv A outer s1 H E hr => ?_
  have St : Std ⟨W, ctxP pr d, [], fun _ => .par⟩ (cxOf CX0 P w K mg base [(Str.ofString "script"), (Str.ofString "k")] "_law_at" (defScope (top 37)) (He.fAd K ("_law_at", none)) cdv A outer s1 H E).nox d := ⟨hK.symm, hr, rfl⟩
  exact (mss_cons (ms_if (mt_lt (me_slot (i := 1)) (me_len St G.b_len (ma_cons (me_slot (i := 0)) ma_nil))) (mss_cons (ms_ret (me_sub' St (me_slot (i := 0)) (me_slot (i := 1))))
      mss_nil) mss_nil)
      (mss_cons (ms_ret (me_add (me_mul me_int (me_slot (i := 1))) me_int))
      mss_nil))
theorem sc__law_free : FnScope [(Str.ofString "tree")] [(Str.ofString "tree")] (defScope (top 38)) := ⟨rfl, rfl, rfl, by decide +kernel, rfl, by decide +kernel, by decide +kernel⟩
theorem d__law_free (G : Gf w K mg W) (C : Cf P w K mg base W d) (hK : W.K = K) {fd : FuncData} (F : FunD K dd__law_free.name dd__law_free.qual dd__law_free.params dd__law_free.body dd__law_free.scope (dd__law_free.dvs K) (dd__law_free.kws K) (He.fAd K dd__law_free.at_) fd) : FnOk P w K mg base CX0 (d + 1) (He.fAd K dd__law_free.at_) fd [(Str.ofString "tree")] (spC W (callF pr (d + 1)) "_law_free") := by
  have nd := sc__law_free.nd
  refine fnok F sc__law_free (fn := f__law_free) rfl rfl rfl fun cdv A outer s1 H E hr => ?_
  have St : Std ⟨W, ctxP pr d, [], fun _ => .par⟩ (cxOf CX0 P w K mg base [(Str.ofString "tree")] "_law_free" (defScope (top 38)) (He.fAd K ("_law_free", none)) cdv A outer s1 H E).nox d := ⟨hK.symm, hr, rfl⟩
  exact (mss_cons (ms_if (mt_eq St (me_sub' St (me_slot (i := 0)) me_int) me_str) (mss_cons (ms_ret (me_lst (mu := false) (ma_cons (me_sub' St (me_slot (i := 0)) me_int) ma_nil)))
      mss_nil) mss_nil)
      (mss_cons (ms_if (mt_eq St (me_sub' St (me_slot (i := 0)) me_int) me_str) (mss_cons (ms_ret (me_call St C.c__law_free_1 rfl (ma_cons (me_sub' St (me_slot (i := 0)) me_int) ma_nil)))
      mss_nil) mss_nil)
      (mss_cons (ms_if (mt_eq St (me_sub' St (me_slot (i := 0)) me_int) me_str) (mss_cons (ms_ret (me_add (me_call St C.c__law_free_1 rfl (ma_cons (me_sub' St (me_slot (i := 0)) me_int) ma_nil)) (me_call St C.c__law_free_1 rfl (ma_cons (me_sub' St (me_slot (i := 0)) me_int) ma_nil))))
      mss_nil) mss_nil)
      (mss_cons (ms_ret (me_lst (mu := false) ma_nil))
      mss_nil))))
theorem sc__law_words : FnScope [(Str.ofString "free"), (Str.ofString "many"), (Str.ofString "letters"), (Str.ofString "some"), (Str.ofString "this"), (Str.ofString "that"), (Str.ofString "said")] [(Str.ofString "free"), (Str.ofString "many")] (defScope (top 39)) := ⟨rfl, rfl, rfl, by decide +kernel, rfl, by decide +kernel, by decide +kernel⟩
theorem d__law_words (G : Gf w K mg W) (C : Cf P w K mg base W d) (hK : W.K = K) {fd : FuncData} (F : FunD K dd__law_words.name dd__law_words.qual dd__law_words.params dd__law_words.body dd__law_words.scope (dd__law_words.dvs K) (dd__law_words.kws K) (He.fAd K dd__law_words.at_) fd) : FnOk P w K mg base CX0 (d + 1) (He.fAd K dd__law_words.at_) fd [(Str.ofString "free"), (Str.ofString "many")] (spC W (callF pr (d + 1)) "_law_words") := by
  have nd := sc__law_words.nd
  refine fnok F sc__law_words (fn := f__law_words) rfl rfl rfl fun cdv A outer s1 H E hr => ?_
  have St : Std ⟨W, ctxP pr d, [], fun _ => .par⟩ (cxOf CX0 P w K mg base [(Str.ofString "free"), (Str.ofString "many"), (Str.ofString "letters"), (Str.ofString "some"), (Str.ofString "this"), (Str.ofString "that"), (Str.ofString "said")] "_law_words" (defScope (top 39)) (He.fAd K ("_law_words", none)) cdv A outer s1 H E).nox d := ⟨hK.symm, hr, rfl⟩
  exact (mss_cons (ms_asg me_str (mg_name (k := 2) nd))
      (mss_cons (ms_asg (me_list' St G.b_list (ma_cons (me_slot (i := 2)) ma_nil)) (mg_name (k := 3) nd))
      (mss_cons (ms_for St PassesOwn.never (mi_str St (me_slot (i := 2))) (mg_name (k := 4) nd) (mss_cons (ms_asg (me_add (me_slot (i := 3)) (me_lc (own := [("that", 5)]) (mm := false) St nd (mi_str St (me_slot (i := 2))) (blkOk_by (by rfl)) (by decide) (fun _ _ => List.not_mem_nil) (fun _ _ _ _ _ => (mg_name (k := 5) nd)) (fun _ _ _ _ _ => mcs_nil) (fun _ _ _ _ _ => (me_add (me_slot (i := 4)) (me_slot (i := 5)))))) (mg_name (k := 3) nd))
      mss_nil))
      (mss_cons (ms_ret (me_slice St (me_lc (own := [("said", 6)]) (mm := false) St nd (mi_list St (me_slot (i := 3))) (blkOk_by (by rfl)) (by decide) (fun _ _ => List.not_mem_nil) (fun _ _ _ _ _ => (mg_name (k := 6) nd)) (fun _ _ _ _ _ => (mcs_one (mt_nin (Std.blk St) (me_slot (i := 6)) (me_slot (i := 0))))) (fun _ _ _ _ _ => (me_slot (i := 6)))) mo_none (mo_some (me_slot (i := 1)))))
      mss_nil))))
theorem sc__law_written : FnScope [(Str.ofString "tree"), (Str.ofString "words"), (Str.ofString "depth"), (Str.ofString "this"), (Str.ofString "that")] [(Str.ofString "tree"), (Str.ofString "words"), (Str.ofString "depth")] (defScope (top 40)) := ⟨rfl, rfl, rfl, by decide +kernel, rfl, by decide +kernel, by decide +kernel⟩
theorem d__law_written (G : Gf w K mg W) (C : Cf P w K mg base W d) (hK : W.K = K) {fd : FuncData} (F : FunD K dd__law_written.name dd__law_written.qual dd__law_written.params dd__law_written.body dd__law_written.scope (dd__law_written.dvs K) (dd__law_written.kws K) (He.fAd K dd__law_written.at_) fd) : FnOk P w K mg base CX0 (d + 1) (He.fAd K dd__law_written.at_) fd [(Str.ofString "tree"), (Str.ofString "words"), (Str.ofString "depth")] (spC W (callF pr (d + 1)) "_law_written") := by
  have nd := sc__law_written.nd
  refine fnok F sc__law_written (fn := f__law_written) rfl rfl rfl fun cdv A outer s1 H E hr => ?_
  have St : Std ⟨W, ctxP pr d, [], fun _ => .par⟩ (cxOf CX0 P w K mg base [(Str.ofString "tree"), (Str.ofString "words"), (Str.ofString "depth"), (Str.ofString "this"), (Str.ofString "that")] "_law_written" (defScope (top 40)) (He.fAd K ("_law_written", none)) cdv A outer s1 H E).nox d := ⟨hK.symm, hr, rfl⟩
  exact (mss_cons (ms_if (mt_eq St (me_sub' St (me_slot (i := 0)) me_int) me_str) (mss_cons (ms_ret (me_sub' St (me_slot (i := 0)) me_int))
      mss_nil) mss_nil)
      (mss_cons (ms_if (mt_eq St (me_sub' St (me_slot (i := 0)) me_int) me_str) (mss_cons (ms_ret (me_sub' St (me_slot (i := 1)) (me_sub (me_sub (me_slot (i := 2)) me_int) (me_sub' St (me_slot (i := 0)) me_int))))
      mss_nil) mss_nil)
      (mss_cons (ms_if (mt_eq St (me_sub' St (me_slot (i := 0)) me_int) me_str) (mss_cons (ms_ret (me_add (me_add (me_add me_str (me_sub' St (me_slot (i := 1)) (me_slot (i := 2)))) me_str) (me_call St C.c__law_written_3 rfl (ma_cons (me_sub' St (me_slot (i := 0)) me_int) (ma_cons (me_slot (i := 1)) (ma_cons (me_add (me_slot (i := 2)) me_int) ma_nil))))))
      mss_nil) mss_nil)
      (mss_cons (ms_asg (me_call St C.c__law_written_3 rfl (ma_cons (me_sub' St (me_slot (i := 0)) me_int) (ma_cons (me_slot (i := 1)) (ma_cons (me_slot (i := 2)) ma_nil)))) (mg_name (k := 3) nd))
      (mss_cons (ms_asg (me_call St C.c__law_written_3 rfl (ma_cons (me_sub' St (me_slot (i := 0)) me_int) (ma_cons (me_slot (i := 1)) (ma_cons (me_slot (i := 2)) ma_nil)))) (mg_name (k := 4) nd))
      (mss_cons (ms_asg (me_sub' St (me_lst (mu := false) (ma_cons (me_slot (i := 3)) (ma_cons (me_add (me_add me_str (me_slot (i := 3))) me_str) ma_nil))) (me_int' G.b_int (ma_cons (me_eq St (me_sub' St (me_sub' St (me_slot (i := 0)) me_int) me_int) me_str) ma_nil))) (mg_name (k := 3) nd))
      (mss_cons (ms_ret (me_add (me_add (me_slot (i := 3)) me_str) (me_sub' St (me_lst (mu := false) (ma_cons (me_slot (i := 4)) (ma_cons (me_add (me_add me_str (me_slot (i := 4))) me_str) ma_nil))) (me_int' G.b_int (ma_cons (me_in St (me_sub' St (me_sub' St (me_slot (i := 0)) me_int) me_int) (me_lst (mu := false) (ma_cons me_str (ma_cons me_str ma_nil)))) ma_nil)))))
      mss_nil)))))))
theorem sc__law_text : FnScope [(Str.ofString "tree")] [(Str.ofString "tree")] (defScope (top 41)) := ⟨rfl, rfl, rfl, by decide +kernel, rfl, by decide +kernel, by decide +kernel⟩
theorem d__law_text (G : Gf w K mg W) (C : Cf P w K mg base W d) (hK : W.K = K) {fd : FuncData} (F : FunD K dd__law_text.name dd__law_text.qual dd__law_text.params dd__law_text.body dd__law_text.scope (dd__law_text.dvs K) (dd__law_text.kws K) (He.fAd K dd__law_text.at_) fd) : FnOk P w K mg base CX0 (d + 1) (He.fAd K dd__law_text.at_) fd [(Str.ofString "tree")] (spC W (callF pr (d + 1)) "_law_text") := by
  have nd := sc__law_text.nd
  refine fnok F sc__law_text (fn := f__law_text) rfl rfl rfl fun cdv A outer s1 H E hr => ?_
  have St : Std ⟨W, ctxP pr d, [], fun _ => .par⟩ (cxOf CX0 P w K mg base [(Str.ofString "tree")] "_law_text" (defScope (top 41)) (He.fAd K ("_law_text", none)) cdv A outer s1 H E).nox d := ⟨hK.symm, hr, rfl⟩
  exact (mss_cons (ms_ret (me_call St C.c__law_written_3 rfl (ma_cons (me_slot (i := 0)) (ma_cons (me_call St C.c__law_words_2 rfl (ma_cons (me_call St C.c__law_free_1 rfl (ma_cons (me_slot (i := 0)) ma_nil)) (ma_cons me_int ma_nil))) (ma_cons me_int ma_nil)))))
      mss_nil)
theorem sc__law_leaf : FnScope [(Str.ofString "purse"), (Str.ofString "depth"), (Str.ofString "free")] [(Str.ofString "purse"), (Str.ofString "depth"), (Str.ofString "free")] (defScope (top 42)) := ⟨rfl, rfl, rfl, by decide +kernel, rfl, by decide +kernel, by decide +kernel⟩
theorem d__law_leaf (G : Gf w K mg W) (C : Cf P w K mg base W d) (hK : W.K = K) {fd : FuncData} (F : FunD K dd__law_leaf.name dd__law_leaf.qual dd__law_leaf.params dd__law_leaf.body dd__law_leaf.scope (dd__law_leaf.dvs K) (dd__law_leaf.kws K) (He.fAd K dd__law_leaf.at_) fd) : FnOk P w K mg base CX0 (d + 1) (He.fAd K dd__law_leaf.at_) fd [(Str.ofString "purse"), (Str.ofString "depth"), (Str.ofString "free")] (spC W (callF pr (d + 1)) "_law_leaf") := by
  have nd := sc__law_leaf.nd
  refine fnok F sc__law_leaf (fn := f__law_leaf) rfl rfl rfl fun cdv A outer s1 H E hr => ?_
  have St : Std ⟨W, ctxP pr d, [], fun _ => .par⟩ (cxOf CX0 P w K mg base [(Str.ofString "purse"), (Str.ofString "depth"), (Str.ofString "free")] "_law_leaf" (defScope (top 42)) (He.fAd K ("_law_leaf", none)) cdv A outer s1 H E).nox d := ⟨hK.symm, hr, rfl⟩
  exact (mss_cons (ms_if (mw_pt (mw_and (mt_ne St (me_slot (i := 2)) (me_lst (mu := false) ma_nil)) (mw_and1 (mw_pt (mw_or (mt_eq St (me_slot (i := 1)) me_int) (mw_or1 (mt_eq St (me_call St C.c__law_take_2 rfl (ma_cons (me_slot (i := 0)) (ma_cons me_int ma_nil))) me_int))))))) (mss_cons (ms_ret (me_lst (mu := false) (ma_cons me_str (ma_cons (me_sub' St (me_slot (i := 2)) (me_call St C.c__law_take_2 rfl (ma_cons (me_slot (i := 0)) (ma_cons (me_len St G.b_len (ma_cons (me_slot (i := 2)) ma_nil)) ma_nil)))) ma_nil))))
      mss_nil) mss_nil)
      (mss_cons (ms_if (mt_eq St (me_slot (i := 1)) me_int) (mss_cons (ms_ret (me_lst (mu := false) (ma_cons me_str (ma_cons (me_lst (mu := false) (ma_cons me_str (ma_cons me_int ma_nil))) ma_nil))))
      mss_nil) mss_nil)
      (mss_cons (ms_ret (me_lst (mu := false) (ma_cons me_str (ma_cons (me_call St C.c__law_take_2 rfl (ma_cons (me_slot (i := 0)) (ma_cons (me_slot (i := 1)) ma_nil))) ma_nil))))
      mss_nil)))
theorem sc__law_drawn : FnScope [(Str.ofString "purse"), (Str.ofString "deep"), (Str.ofString "depth"), (Str.ofString "free"), (Str.ofString "way"), (Str.ofString "this")] [(Str.ofString "purse"), (Str.ofString "deep"), (Str.ofString "depth"), (Str.ofString "free")] (defScope (top 43)) := ⟨rfl, rfl, rfl, by decide +kernel, rfl, by decide +kernel, by decide +kernel⟩
theorem d__law_drawn (G : Gf w K mg W) (C : Cf P w K mg base W d) (hK : W.K = K) {fd : FuncData} (F : FunD K dd__law_drawn.name dd__law_drawn.qual dd__law_drawn.params dd__law_drawn.body dd__law_drawn.scope (dd__law_drawn.dvs K) (dd__law_drawn.kws K) (He.fAd K dd__law_drawn.at_) fd) : FnOk P w K mg base CX0 (d + 1) (He.fAd K dd__law_drawn.at_) fd [(Str.ofString "purse"), (Str.ofString "deep"), (Str.ofString "depth"), (Str.ofString "free")] (spC W (callF pr (d + 1)) "_law_drawn") := by
  have nd := sc__law_drawn.nd
  refine fnok F sc__law_drawn (fn := f__law_drawn) rfl rfl rfl fun cdv A outer s1 H E hr => ?_
  have St : Std ⟨W, ctxP pr d, [], fun _ => .par⟩ (cxOf CX0 P w K mg base [(Str.ofString "purse"), (Str.ofString "deep"), (Str.ofString "depth"), (Str.ofString "free"), (Str.ofString "way"), (Str.ofString "this")] "_law_drawn" (defScope (top 43)) (He.fAd K ("_law_drawn", none)) cdv A outer s1 H E).nox d := ⟨hK.symm, hr, rfl⟩
  exact (mss_cons (ms_asg (me_call St C.c__law_take_2 rfl (ma_cons (me_slot (i := 0)) (ma_cons me_int ma_nil))) (mg_name (k := 4) nd))
      (mss_cons (ms_if (mw_pt (mw_or (mt_eq St (me_slot (i := 1)) me_int) (mw_or1 (mt_eq St (me_slot (i := 4)) me_int)))) (mss_cons (ms_ret (me_call St C.c__law_leaf_3 rfl (ma_cons (me_slot (i := 0)) (ma_cons (me_slot (i := 2)) (ma_cons (me_slot (i := 3)) ma_nil)))))
      mss_nil) mss_nil)
      (mss_cons (ms_if (mt_lt (me_slot (i := 4)) me_int) (mss_cons (ms_ret (me_lst (mu := false) (ma_cons me_str (ma_cons (me_call St C.c__law_drawn_4 rfl (ma_cons (me_slot (i := 0)) (ma_cons (me_sub (me_slot (i := 1)) me_int) (ma_cons (me_add (me_slot (i := 2)) me_int) (ma_cons (me_slot (i := 3)) ma_nil))))) ma_nil))))
      mss_nil) mss_nil)
      (mss_cons (ms_asg (me_call St C.c__law_drawn_4 rfl (ma_cons (me_slot (i := 0)) (ma_cons (me_sub (me_slot (i := 1)) me_int) (ma_cons (me_slot (i := 2)) (ma_cons (me_slot (i := 3)) ma_nil))))) (mg_name (k := 5) nd))
      (mss_cons (ms_ret (me_lst (mu := false) (ma_cons me_str (ma_cons (me_slot (i := 5)) (ma_cons (me_call St C.c__law_drawn_4 rfl (ma_cons (me_slot (i := 0)) (ma_cons (me_sub (me_slot (i := 1)) me_int) (ma_cons (me_slot (i := 2)) (ma_cons (me_slot (i := 3)) ma_nil))))) ma_nil)))))
      mss_nil)))))
theorem sc__law_lively : FnScope [(Str.ofString "purse"), (Str.ofString "free"), (Str.ofString "deep"), (Str.ofString "inside"), (Str.ofString "found")] [(Str.ofString "purse"), (Str.ofString "free")] (defScope (top 44)) := ⟨rfl, rfl, rfl, by decide +kernel, rfl, by decide +kernel, by decide +kernel⟩
theorem d__law_lively (G : Gf w K mg W) (C : Cf P w K mg base W d) (hK : W.K = K) {fd : FuncData} (F : FunD K dd__law_lively.name dd__law_lively.qual dd__law_lively.params dd__law_lively.body dd__law_lively.scope (dd__law_lively.dvs K) (dd__law_lively.kws K) (He.fAd K dd__law_lively.at_) fd) : FnOk P w K mg base CX0 (d + 1) (He.fAd K dd__law_lively.at_) fd [(Str.ofString "purse"), (Str.ofString "free")] (spC W (callF pr (d + 1)) "_law_lively") := by
  have nd := sc__law_lively.nd
  refine fnok F sc__law_lively (fn := f__law_lively) rfl rfl rfl fun cdv A outer s1 H E hr => ?_
  have St : Std ⟨W, ctxP pr d, [], fun _ => .par⟩ (cxOf CX0 P w K mg base [(Str.ofString "purse"), (Str.ofString "free"), (Str.ofString "deep"), (Str.ofString "inside"), (Str.ofString "found")] "_law_lively" (defScope (top 44)) (He.fAd K ("_law_lively", none)) cdv A outer s1 H E).nox d := ⟨hK.symm, hr, rfl⟩
  exact (mss_cons (ms_asg (me_add me_int (me_call St C.c__law_take_2 rfl (ma_cons (me_slot (i := 0)) (ma_cons me_int ma_nil)))) (mg_name (k := 2) nd))
      (mss_cons (ms_asg (me_lst (mu := false) (ma_cons me_str (ma_cons (me_call St C.c__law_drawn_4 rfl (ma_cons (me_slot (i := 0)) (ma_cons (me_slot (i := 2)) (ma_cons me_int (ma_cons (me_slot (i := 1)) ma_nil))))) ma_nil))) (mg_name (k := 3) nd))
      (mss_cons (ms_asg (me_lst (mu := false) (ma_cons me_str (ma_cons (me_slot (i := 3)) (ma_cons (me_call St C.c__law_drawn_4 rfl (ma_cons (me_slot (i := 0)) (ma_cons (me_add me_int (me_call St C.c__law_take_2 rfl (ma_cons (me_slot (i := 0)) (ma_cons me_int ma_nil)))) (ma_cons me_int (ma_cons (me_slot (i := 1)) ma_nil))))) ma_nil)))) (mg_name (k := 4) nd))
      (mss_cons (ms_if (mt_eq St (me_call St C.c__law_take_2 rfl (ma_cons (me_slot (i := 0)) (ma_cons me_int ma_nil))) me_int) (mss_cons (ms_asg (me_lst (mu := false) (ma_cons me_str (ma_cons (me_slot (i := 4)) (ma_cons (me_call St C.c__law_drawn_4 rfl (ma_cons (me_slot (i := 0)) (ma_cons me_int (ma_cons me_int (ma_cons (me_slot (i := 1)) ma_nil))))) ma_nil)))) (mg_name (k := 4) nd))
      mss_nil) mss_nil)
      (mss_cons (ms_if (mt_eq St (me_call St C.c__law_take_2 rfl (ma_cons (me_slot (i := 0)) (ma_cons me_int ma_nil))) me_int) (mss_cons (ms_asg (me_lst (mu := false) (ma_cons me_str (ma_cons (me_lst (mu := false) (ma_cons me_str (ma_cons (me_lst (mu := false) (ma_cons me_str (ma_cons (me_lst (mu := false) (ma_cons me_str (ma_cons me_int ma_nil))) (ma_cons (me_lst (mu := false) (ma_cons me_str (ma_cons (me_lst (mu := false) (ma_cons me_str (ma_cons me_int ma_nil))) (ma_cons (me_call St C.c__law_drawn_4 rfl (ma_cons (me_slot (i := 0)) (ma_cons me_int (ma_cons me_int (ma_cons (me_slot (i := 1)) ma_nil))))) ma_nil)))) ma_nil)))) ma_nil))) (ma_cons (me_sub' St (me_slot (i := 4)) me_int) ma_nil)))) (mg_name (k := 4) nd))
      mss_nil) mss_nil)
      (mss_cons (ms_ret (me_slot (i := 4)))
      mss_nil))))))
theorem sc__law_used : FnScope [(Str.ofString "tree"), (Str.ofString "depth")] [(Str.ofString "tree"), (Str.ofString "depth")] (defScope (top 45)) := ⟨rfl, rfl, rfl, by decide +kernel, rfl, by decide +kernel, by decide +kernel⟩
theorem d__law_used (G : Gf w K mg W) (C : Cf P w K mg base W d) (hK : W.K = K) {fd : FuncData} (F : FunD K dd__law_used.name dd__law_used.qual dd__law_used.params dd__law_used.body dd__law_used.scope (dd__law_used.dvs K) (dd__law_used.kws K) (He.fAd K dd__law_used.at_) fd) : FnOk P w K mg base CX0 (d + 1) (He.fAd K dd__law_used.at_) fd [(Str.ofString "tree"), (Str.ofString "depth")] (spC W (callF pr (d + 1)) "_law_used") := by
  have nd := sc__law_used.nd
  refine fnok F sc__law_used (fn := f__law_used) rfl rfl rfl fun cdv A outer s1 H E hr => ?_
  have St : Std ⟨W, ctxP pr d, [], fun _ => .par⟩ (cxOf CX0 P w K mg base [(Str.ofString "tree"), (Str.ofString "depth")] "_law_used" (defScope (top 45)) (He.fAd K ("_law_used", none)) cdv A outer s1 H E).nox d := ⟨hK.symm, hr, rfl⟩
  exact (mss_cons (ms_if (mt_eq St (me_sub' St (me_slot (i := 0)) me_int) me_str) (mss_cons (ms_ret (me_call St C.c__law_used_2 rfl (ma_cons (me_sub' St (me_slot (i := 0)) me_int) (ma_cons (me_add (me_slot (i := 1)) me_int) ma_nil))))
      mss_nil) mss_nil)
      (mss_cons (ms_if (mt_eq St (me_sub' St (me_slot (i := 0)) me_int) me_str) (mss_cons (ms_ret (me_add (me_call St C.c__law_used_2 rfl (ma_cons (me_sub' St (me_slot (i := 0)) me_int) (ma_cons (me_slot (i := 1)) ma_nil))) (me_call St C.c__law_used_2 rfl (ma_cons (me_sub' St (me_slot (i := 0)) me_int) (ma_cons (me_slot (i := 1)) ma_nil)))))
      mss_nil) mss_nil)
      (mss_cons (ms_if (mw_pt (mw_or (mt_eq St (me_sub' St (me_slot (i := 0)) me_int) me_str) (mw_or1 (mt_lt (me_sub' St (me_slot (i := 0)) me_int) (me_slot (i := 1)))))) (mss_cons (ms_ret (me_lst (mu := false) ma_nil))
      mss_nil) mss_nil)
      (mss_cons (ms_ret (me_lst (mu := false) (ma_cons (me_sub (me_sub' St (me_slot (i := 0)) me_int) (me_slot (i := 1))) ma_nil)))
      mss_nil))))
theorem sc__law_binder : FnScope [(Str.ofString "purse"), (Str.ofString "inside"), (Str.ofString "words"), (Str.ofString "barred"), (Str.ofString "k"), (Str.ofString "said")] [(Str.ofString "purse"), (Str.ofString "inside"), (Str.ofString "words")] (defScope (top 46)) := ⟨rfl, rfl, rfl, by decide +kernel, rfl, by decide +kernel, by decide +kernel⟩
theorem d__law_binder (G : Gf w K mg W) (C : Cf P w K mg base W d) (hK : W.K = K) {fd : FuncData} (F : FunD K dd__law_binder.name dd__law_binder.qual dd__law_binder.params dd__law_binder.body dd__law_binder.scope (dd__law_binder.dvs K) (dd__law_binder.kws K) (He.fAd K dd__law_binder.at_) fd) : FnOk P w K mg base CX0 (d + 1) (He.fAd K dd__law_binder.at_) fd [(Str.ofString "purse"), (Str.ofString "inside"), (Str.ofString "words")] (spC W (callF pr (d + 1)) "_law_binder") := by
  have nd := sc__law_binder.nd
  refine fnok F sc__law_binder (fn := f__law_binder) rfl rfl rfl fun cdv A outer s1 H E hr => ?_
  have St : Std ⟨W, ctxP pr d, [], fun _ => .par⟩ (cxOf CX0 P w K mg base [(Str.ofString "purse"), (Str.ofString "inside"), (Str.ofString "words"), (Str.ofString "barred"), (Str.ofString "k"), (Str.ofString "said")] "_law_binder" (defScope (top 46)) (He.fAd K ("_law_binder", none)) cdv A outer s1 H E).nox d := ⟨hK.symm, hr, rfl⟩
  exact (mss_cons (ms_asg (me_add (me_call St C.c__law_free_1 rfl (ma_cons (me_slot (i := 1)) ma_nil)) (me_lc (own := [("k", 4)]) (mm := false) St nd (mi_list St (me_call St C.c__law_used_2 rfl (ma_cons (me_slot (i := 1)) (ma_cons me_int ma_nil)))) (blkOk_by (by rfl)) (by decide) (fun _ _ => List.not_mem_nil) (fun _ _ _ _ _ => (mg_name (k := 4) nd)) (fun _ _ _ _ _ => mcs_nil) (fun _ _ _ _ _ => (me_sub' (Std.blk St) (me_slot (i := 2)) (me_sub (me_sub me_int me_int) (me_slot (i := 4))))))) (mg_name (k := 3) nd))
      (mss_cons (ms_asg (me_sub' St (me_lst (mu := false) (ma_cons me_str (ma_cons me_str (ma_cons me_str (ma_cons me_str (ma_cons me_str (ma_cons me_str (ma_cons me_str ma_nil)))))))) (me_call St C.c__law_take_2 rfl (ma_cons (me_slot (i := 0)) (ma_cons me_int ma_nil)))) (mg_name (k := 5) nd))
      (mss_cons (ms_if (mt_in St (me_slot (i := 5)) (me_slot (i := 3))) (mss_cons (ms_asg (me_sub' St (me_call St C.c__law_words_2 rfl (ma_cons (me_slot (i := 3)) (ma_cons me_int ma_nil))) me_int) (mg_name (k := 5) nd))
      mss_nil) mss_nil)
      (mss_cons (ms_ret (me_slot (i := 5)))
      mss_nil))))
theorem sc__law_named : FnScope [(Str.ofString "purse"), (Str.ofString "tree"), (Str.ofString "words"), (Str.ofString "this"), (Str.ofString "said")] [(Str.ofString "purse"), (Str.ofString "tree"), (Str.ofString "words")] (defScope (top 47)) := ⟨rfl, rfl, rfl, by decide +kernel, rfl, by decide +kernel, by decide +kernel⟩
theorem d__law_named (G : Gf w K mg W) (C : Cf P w K mg base W d) (hK : W.K = K) {fd : FuncData} (F : FunD K dd__law_named.name dd__law_named.qual dd__law_named.params dd__law_named.body dd__law_named.scope (dd__law_named.dvs K) (dd__law_named.kws K) (He.fAd K dd__law_named.at_) fd) : FnOk P w K mg base CX0 (d + 1) (He.fAd K dd__law_named.at_) fd [(Str.ofString "purse"), (Str.ofString "tree"), (Str.ofString "words")] (spC W (callF pr (d + 1)) "_law_named") := by
  have nd := sc__law_named.nd
  refine fnok F sc__law_named (fn := f__law_named) rfl rfl rfl fun cdv A outer s1 H E hr => ?_
  have St : Std ⟨W, ctxP pr d, [], fun _ => .par⟩ (cxOf CX0 P w K mg base [(Str.ofString "purse"), (Str.ofString "tree"), (Str.ofString "words"), (Str.ofString "this"), (Str.ofString "said")] "_law_named" (defScope (top 47)) (He.fAd K ("_law_named", none)) cdv A outer s1 H E).nox d := ⟨hK.symm, hr, rfl⟩
  exact (mss_cons (ms_if (mt_eq St (me_sub' St (me_slot (i := 1)) me_int) me_str) (mss_cons (ms_ret (me_slot (i := 1)))
      mss_nil) mss_nil)
      (mss_cons (ms_if (mt_eq St (me_sub' St (me_slot (i := 1)) me_int) me_str) (mss_cons (ms_ret (me_lst (mu := false) (ma_cons me_str (ma_cons (me_sub' St (me_slot (i := 2)) (me_sub (me_sub me_int me_int) (me_sub' St (me_slot (i := 1)) me_int))) ma_nil))))
      mss_nil) mss_nil)
      (mss_cons (ms_if (mt_eq St (me_sub' St (me_slot (i := 1)) me_int) me_str) (mss_cons (ms_asg (me_call St C.c__law_named_3 rfl (ma_cons (me_slot (i := 0)) (ma_cons (me_sub' St (me_slot (i := 1)) me_int) (ma_cons (me_slot (i := 2)) ma_nil)))) (mg_name (k := 3) nd))
      (mss_cons (ms_ret (me_lst (mu := false) (ma_cons me_str (ma_cons (me_slot (i := 3)) (ma_cons (me_call St C.c__law_named_3 rfl (ma_cons (me_slot (i := 0)) (ma_cons (me_sub' St (me_slot (i := 1)) me_int) (ma_cons (me_slot (i := 2)) ma_nil)))) ma_nil)))))
      mss_nil)) mss_nil)
      (mss_cons (ms_asg (me_call St C.c__law_binder_3 rfl (ma_cons (me_slot (i := 0)) (ma_cons (me_sub' St (me_slot (i := 1)) me_int) (ma_cons (me_slot (i := 2)) ma_nil)))) (mg_name (k := 4) nd))
      (mss_cons (ms_ret (me_lst (mu := false) (ma_cons me_str (ma_cons (me_slot (i := 4)) (ma_cons (me_call St C.c__law_named_3 rfl (ma_cons (me_slot (i := 0)) (ma_cons (me_sub' St (me_slot (i := 1)) me_int) (ma_cons (me_add (me_slot (i := 2)) (me_lst (mu := false) (ma_cons (me_slot (i := 4)) ma_nil))) ma_nil)))) ma_nil)))))
      mss_nil)))))
theorem sc__law_made : FnScope [(Str.ofString "named")] [(Str.ofString "named")] (defScope (top 48)) := ⟨rfl, rfl, rfl, by decide +kernel, rfl, by decide +kernel, by decide +kernel⟩
theorem d__law_made (G : Gf w K mg W) (C : Cf P w K mg base W d) (hK : W.K = K) {fd : FuncData} (F : FunD K dd__law_made.name dd__law_made.qual dd__law_made.params dd__law_made.body dd__law_made.scope (dd__law_made.dvs K) (dd__law_made.kws K) (He.fAd K dd__law_made.at_) fd) : FnOk P w K mg base CX0 (d + 1) (He.fAd K dd__law_made.at_) fd [(Str.ofString "named")] (spC W (callF pr (d + 1)) "_law_made") := by
  have nd := sc__law_made.nd
  refine fnok F sc__law_made (fn := f__law_made) rfl rfl rfl fun cdv A outer s1 H E hr => ?_
  have St : Std ⟨W, ctxP pr d, [], fun _ => .par⟩ (cxOf CX0 P w K mg base [(Str.ofString "named")] "_law_made" (defScope (top 48)) (He.fAd K ("_law_made", none)) cdv A outer s1 H E).nox d := ⟨hK.symm, hr, rfl⟩
  exact (mss_cons (ms_if (mt_eq St (me_sub' St (me_slot (i := 0)) me_int) me_str) (mss_cons (ms_ret (me_call St C.c_name_1 rfl (ma_cons (me_sub' St (me_slot (i := 0)) me_int) ma_nil)))
      mss_nil) mss_nil)
      (mss_cons (ms_if (mt_eq St (me_sub' St (me_slot (i := 0)) me_int) me_str) (mss_cons (ms_ret (me_call St C.c_put_2 rfl (ma_cons (me_call St C.c__law_made_1 rfl (ma_cons (me_sub' St (me_slot (i := 0)) me_int) ma_nil)) (ma_cons (me_call St C.c__law_made_1 rfl (ma_cons (me_sub' St (me_slot (i := 0)) me_int) ma_nil)) ma_nil))))
      mss_nil) mss_nil)
      (mss_cons (ms_ret (me_call St C.c_fun_2 rfl (ma_cons (me_sub' St (me_slot (i := 0)) me_int) (ma_cons (me_call St C.c__law_made_1 rfl (ma_cons (me_sub' St (me_slot (i := 0)) me_int) ma_nil)) ma_nil))))
      mss_nil)))
theorem sc__law_named_text : FnScope [(Str.ofString "named"), (Str.ofString "this"), (Str.ofString "that")] [(Str.ofString "named")] (defScope (top 49)) := ⟨rfl, rfl, rfl, by decide +kernel, rfl, by decide +kernel, by decide +kernel⟩
theorem d__law_named_text (G : Gf w K mg W) (C : Cf P w K mg base W d) (hK : W.K = K) {fd : FuncData} (F : FunD K dd__law_named_text.name dd__law_named_text.qual dd__law_named_text.params dd__law_named_text.body dd__law_named_text.scope (dd__law_named_text.dvs K) (dd__law_named_text.kws K) (He.fAd K dd__law_named_text.at_) fd) : FnOk P w K mg base CX0 (d + 1) (He.fAd K dd__law_named_text.at_) fd [(Str.ofString "named")] (spC W (callF pr (d + 1)) "_law_named_text") := by
  have nd := sc__law_named_text.nd
  refine fnok F sc__law_named_text (fn := f__law_named_text) rfl rfl rfl fun cdv A outer s1 H E hr => ?_
  have St : Std ⟨W, ctxP pr d, [], fun _ => .par⟩ (cxOf CX0 P w K mg base [(Str.ofString "named"), (Str.ofString "this"), (Str.ofString "that")] "_law_named_text" (defScope (top 49)) (He.fAd K ("_law_named_text", none)) cdv A outer s1 H E).nox d := ⟨hK.symm, hr, rfl⟩
  exact (mss_cons (ms_if (mt_eq St (me_sub' St (me_slot (i := 0)) me_int) me_str) (mss_cons (ms_ret (me_sub' St (me_slot (i := 0)) me_int))
      mss_nil) mss_nil)
      (mss_cons (ms_if (mt_eq St (me_sub' St (me_slot (i := 0)) me_int) me_str) (mss_cons (ms_ret (me_add (me_add (me_add me_str (me_sub' St (me_slot (i := 0)) me_int)) me_str) (me_call St C.c__law_named_text_1 rfl (ma_cons (me_sub' St (me_slot (i := 0)) me_int) ma_nil))))
      mss_nil) mss_nil)
      (mss_cons (ms_asg (me_call St C.c__law_named_text_1 rfl (ma_cons (me_sub' St (me_slot (i := 0)) me_int) ma_nil)) (mg_name (k := 1) nd))
      (mss_cons (ms_asg (me_call St C.c__law_named_text_1 rfl (ma_cons (me_sub' St (me_slot (i := 0)) me_int) ma_nil)) (mg_name (k := 2) nd))
      (mss_cons (ms_asg (me_sub' St (me_lst (mu := false) (ma_cons (me_slot (i := 1)) (ma_cons (me_add (me_add me_str (me_slot (i := 1))) me_str) ma_nil))) (me_int' G.b_int (ma_cons (me_eq St (me_sub' St (me_sub' St (me_slot (i := 0)) me_int) me_int) me_str) ma_nil))) (mg_name (k := 1) nd))
      (mss_cons (ms_ret (me_add (me_add (me_slot (i := 1)) me_str) (me_sub' St (me_lst (mu := false) (ma_cons (me_slot (i := 2)) (ma_cons (me_add (me_add me_str (me_slot (i := 2))) me_str) ma_nil))) (me_int' G.b_int (ma_cons (me_in St (me_sub' St (me_sub' St (me_slot (i := 0)) me_int) me_int) (me_lst (mu := false) (ma_cons me_str (ma_cons me_str ma_nil)))) ma_nil)))))
      mss_nil))))))
theorem sc__law_class : FnScope [(Str.ofString "error"), (Str.ofString "got"), (Str.ofString "words")] [(Str.ofString "error")] (defScope (top 50)) := ⟨rfl, rfl, rfl, by decide +kernel, rfl, by decide +kernel, by decide +kernel⟩
theorem d__law_class (G : Gf w K mg W) (C : Cf P w K mg base W d) (hK : W.K = K) {fd : FuncData} (F : FunD K dd__law_class.name dd__law_class.qual dd__law_class.params dd__law_class.body dd__law_class.scope (dd__law_class.dvs K) (dd__law_class.kws K) (He.fAd K dd__law_class.at_) fd) : FnOk P w K mg base CX0 (d + 1) (He.fAd K dd__law_class.at_) fd [(Str.ofString "error")] (spC W (callF pr (d + 1)) "_law_class") := by
  have nd := sc__law_class.nd
  refine fnok F sc__law_class (fn := f__law_class) rfl rfl rfl fun cdv A outer s1 H E hr => ?_
  have St : Std ⟨W, ctxP pr d, [], fun _ => .par⟩ (cxOf CX0 P w K mg base [(Str.ofString "error"), (Str.ofString "got"), (Str.ofString "words")] "_law_class" (defScope (top 50)) (He.fAd K ("_law_class", none)) cdv A outer s1 H E).nox d := ⟨hK.symm, hr, rfl⟩
  exact (mss_cons (ms_asg (me_lst (mu := false) (ma_cons (me_isx St G.b_isinstance G.gx_NoAddress G.xT G.xk_NoAddress (me_slot (i := 0))) (ma_cons (me_isx St G.b_isinstance G.gx_NoBack G.xT G.xk_NoBack (me_slot (i := 0))) (ma_cons (me_isx St G.b_isinstance G.gx_NoKnot G.xT G.xk_NoKnot (me_slot (i := 0))) ma_nil)))) (mg_name (k := 1) nd))
      (mss_cons (ms_asg (me_add (me_slot (i := 1)) (me_lst (mu := false) (ma_cons (me_isx St G.b_isinstance G.gx_NoLine G.xT G.xk_NoLine (me_slot (i := 0))) (ma_cons (me_isx St G.b_isinstance G.gx_NoMeeting G.xT G.xk_NoMeeting (me_slot (i := 0))) (ma_cons (me_isx St G.b_isinstance G.gx_NoName G.xT G.xk_NoName (me_slot (i := 0))) ma_nil))))) (mg_name (k := 1) nd))
      (mss_cons (ms_asg (me_add (me_slot (i := 1)) (me_lst (mu := false) (ma_cons (me_isx St G.b_isinstance G.gx_NoNumber G.xT G.xk_NoNumber (me_slot (i := 0))) (ma_cons (me_isx St G.b_isinstance G.gx_NoRedex G.xT G.xk_NoRedex (me_slot (i := 0))) (ma_cons (me_isx St G.b_isinstance G.gx_NoText G.xT G.xk_NoText (me_slot (i := 0))) ma_nil))))) (mg_name (k := 1) nd))
      (mss_cons (ms_asg (me_add (me_slot (i := 1)) (me_lst (mu := false) (ma_cons (me_isx St G.b_isinstance G.gx_NoWord G.xT G.xk_NoWord (me_slot (i := 0))) (ma_cons (me_isx St G.b_isinstance G.gx_NotDone G.xT G.xk_NotDone (me_slot (i := 0))) (ma_cons (me_isx St G.b_isinstance G.gx_TooLong G.xT G.xk_TooLong (me_slot (i := 0))) ma_nil))))) (mg_name (k := 1) nd))
      (mss_cons (ms_if (mw_pt (mw_or (mt_not (mt_val (me_isx St G.b_isinstance G.gx_SpinError G.xT G.xk_SpinError (me_slot (i := 0))))) (mw_or (mt_not (mt_val (me_isxB St G.b_isinstance G.b_ValueError PyProof.Rows.Boot.«ValueError» G.xT G.xk_ValueError (me_slot (i := 0))))) (mw_or1 (mt_ne St (me_cntl St (me_slot (i := 1)) me_bl) me_int))))) (mss_cons (ms_ret me_str)
      mss_nil) mss_nil)
      (mss_cons (ms_asg (me_lst (mu := false) (ma_cons me_str (ma_cons me_str (ma_cons me_str (ma_cons me_str (ma_cons me_str (ma_cons me_str (ma_cons me_str (ma_cons me_str (ma_cons me_str ma_nil)))))))))) (mg_name (k := 2) nd))
      (mss_cons (ms_ret (me_sub' St (me_add (me_slot (i := 2)) (me_lst (mu := false) (ma_cons me_str (ma_cons me_str (ma_cons me_str ma_nil))))) (me_idxl St (me_slot (i := 1)) me_bl)))
      mss_nil)))))))
theorem sc__law_opened : FnScope [(Str.ofString "tree"), (Str.ofString "words"), (Str.ofString "depth"), (Str.ofString "outside")] [(Str.ofString "tree"), (Str.ofString "words"), (Str.ofString "depth"), (Str.ofString "outside")] (defScope (top 51)) := ⟨rfl, rfl, rfl, by decide +kernel, rfl, by decide +kernel, by decide +kernel⟩
theorem d__law_opened (G : Gf w K mg W) (C : Cf P w K mg base W d) (hK : W.K = K) {fd : FuncData} (F : FunD K dd__law_opened.name dd__law_opened.qual dd__law_opened.params dd__law_opened.body dd__law_opened.scope (dd__law_opened.dvs K) (dd__law_opened.kws K) (He.fAd K dd__law_opened.at_) fd) : FnOk P w K mg base CX0 (d + 1) (He.fAd K dd__law_opened.at_) fd [(Str.ofString "tree"), (Str.ofString "words"), (Str.ofString "depth"), (Str.ofString "outside")] (spC W (callF pr (d + 1)) "_law_opened") := by
  have nd := sc__law_opened.nd
  refine fnok F sc__law_opened (fn := f__law_opened) rfl rfl rfl fun cdv A outer s1 H E hr => ?_
  have St : Std ⟨W, ctxP pr d, [], fun _ => .par⟩ (cxOf CX0 P w K mg base [(Str.ofString "tree"), (Str.ofString "words"), (Str.ofString "depth"), (Str.ofString "outside")] "_law_opened" (defScope (top 51)) (He.fAd K ("_law_opened", none)) cdv A outer s1 H E).nox d := ⟨hK.symm, hr, rfl⟩
  exact (mss_cons (ms_if (mt_eq St (me_sub' St (me_slot (i := 0)) me_int) me_str) (mss_cons (ms_ret (me_lst (mu := false) (ma_cons me_str (ma_cons (me_call St C.c__law_opened_4 rfl (ma_cons (me_sub' St (me_slot (i := 0)) me_int) (ma_cons (me_slot (i := 1)) (ma_cons (me_add (me_slot (i := 2)) me_int) (ma_cons (me_slot (i := 3)) ma_nil))))) ma_nil))))
      mss_nil) mss_nil)
      (mss_cons (ms_if (mt_eq St (me_sub' St (me_slot (i := 0)) me_int) me_str) (mss_cons (ms_ret (me_lst (mu := false) (ma_cons me_str (ma_cons (me_call St C.c__law_opened_4 rfl (ma_cons (me_sub' St (me_slot (i := 0)) me_int) (ma_cons (me_slot (i := 1)) (ma_cons (me_slot (i := 2)) (ma_cons (me_slot (i := 3)) ma_nil))))) (ma_cons (me_call St C.c__law_opened_4 rfl (ma_cons (me_sub' St (me_slot (i := 0)) me_int) (ma_cons (me_slot (i := 1)) (ma_cons (me_slot (i := 2)) (ma_cons (me_slot (i := 3)) ma_nil))))) ma_nil)))))
      mss_nil) mss_nil)
      (mss_cons (ms_if (mw_pt (mw_and (mt_eq St (me_sub' St (me_slot (i := 0)) me_int) me_str) (mw_and1 (mt_ge (me_sub' St (me_slot (i := 0)) me_int) (me_slot (i := 2)))))) (mss_cons (ms_ret (me_lst (mu := false) (ma_cons me_str (ma_cons (me_sub' St (me_slot (i := 1)) (me_sub (me_sub (me_slot (i := 3)) me_int) (me_sub (me_sub' St (me_slot (i := 0)) me_int) (me_slot (i := 2))))) ma_nil))))
      mss_nil) mss_nil)
      (mss_cons (ms_ret (me_slot (i := 0)))
      mss_nil))))
theorem sc__law_part : FnScope [(Str.ofString "tree"), (Str.ofString "road"), (Str.ofString "sign")] [(Str.ofString "tree"), (Str.ofString "road")] (defScope (top 52)) := ⟨rfl, rfl, rfl, by decide +kernel, rfl, by decide +kernel, by decide +kernel⟩
theorem d__law_part (G : Gf w K mg W) (C : Cf P w K mg base W d) (hK : W.K = K) {fd : FuncData} (F : FunD K dd__law_part.name dd__law_part.qual dd__law_part.params dd__law_part.body dd__law_part.scope (dd__law_part.dvs K) (dd__law_part.kws K) (He.fAd K dd__law_part.at_) fd) : FnOk P w K mg base CX0 (d + 1) (He.fAd K dd__law_part.at_) fd [(Str.ofString "tree"), (Str.ofString "road")] (spC W (callF pr (d + 1)) "_law_part") := by
  have nd := sc__law_part.nd
  refine fnok F sc__law_part (fn := f__law_part) rfl rfl rfl fun cdv A outer s1 H E hr => ?_
  have St : Std ⟨W, ctxP pr d, [], fun _ => .par⟩ (cxOf CX0 P w K mg base [(Str.ofString "tree"), (Str.ofString "road"), (Str.ofString "sign")] "_law_part" (defScope (top 52)) (He.fAd K ("_law_part", none)) cdv A outer s1 H E).nox d := ⟨hK.symm, hr, rfl⟩
  exact (mss_cons (ms_for St PassesOwn.never (mi_str St (me_slot (i := 1))) (mg_name (k := 2) nd) (mss_cons (ms_asg (me_sub' St (me_slot (i := 0)) (me_add me_int (me_int' G.b_int (ma_cons (me_eq St (me_slot (i := 2)) me_str) ma_nil)))) (mg_name (k := 0) nd))
      mss_nil))
      (mss_cons (ms_ret (me_slot (i := 0)))
      mss_nil))
theorem sc__law_all : FnScope [(Str.ofString "tree"), (Str.ofString "road")] [(Str.ofString "tree"), (Str.ofString "road")] (defScope (top 53)) := ⟨rfl, rfl, rfl, by decide +kernel, rfl, by decide +kernel, by decide +kernel⟩
theorem d__law_all (G : Gf w K mg W) (C : Cf P w K mg base W d) (hK : W.K = K) {fd : FuncData} (F : FunD K dd__law_all.name dd__law_all.qual dd__law_all.params dd__law_all.body dd__law_all.scope (dd__law_all.dvs K) (dd__law_all.kws K) (He.fAd K dd__law_all.at_) fd) : FnOk P w K mg base CX0 (d + 1) (He.fAd K dd__law_all.at_) fd [(Str.ofString "tree"), (Str.ofString "road")] (spC W (callF pr (d + 1)) "_law_all") := by
  have nd := sc__law_all.nd
  refine fnok F sc__law_all (fn := f__law_all) rfl rfl rfl fun cdv A outer s1 H E hr => ?_
  have St : Std ⟨W, ctxP pr d, [], fun _ => .par⟩ (cxOf CX0 P w K mg base [(Str.ofString "tree"), (Str.ofString "road")] "_law_all" (defScope (top 53)) (He.fAd K ("_law_all", none)) cdv A outer s1 H E).nox d := ⟨hK.symm, hr, rfl⟩
  exact (mss_cons (ms_if (mt_eq St (me_sub' St (me_slot (i := 0)) me_int) me_str) (mss_cons (ms_ret (me_add (me_lst (mu := false) (ma_cons (me_slot (i := 1)) ma_nil)) (me_call St C.c__law_all_2 rfl (ma_cons (me_sub' St (me_slot (i := 0)) me_int) (ma_cons (me_add (me_slot (i := 1)) me_str) ma_nil)))))
      mss_nil) mss_nil)
      (mss_cons (ms_if (mt_eq St (me_sub' St (me_slot (i := 0)) me_int) me_str) (mss_cons (ms_ret (me_add (me_add (me_lst (mu := false) (ma_cons (me_slot (i := 1)) ma_nil)) (me_call St C.c__law_all_2 rfl (ma_cons (me_sub' St (me_slot (i := 0)) me_int) (ma_cons (me_add (me_slot (i := 1)) me_str) ma_nil)))) (me_call St C.c__law_all_2 rfl (ma_cons (me_sub' St (me_slot (i := 0)) me_int) (ma_cons (me_add (me_slot (i := 1)) me_str) ma_nil)))))
      mss_nil) mss_nil)
      (mss_cons (ms_ret (me_lst (mu := false) (ma_cons (me_slot (i := 1)) ma_nil)))
      mss_nil)))
theorem sc__law_caught : FnScope [(Str.ofString "piece"), (Str.ofString "road"), (Str.ofString "way"), (Str.ofString "error"), (Str.ofString "caught")] [(Str.ofString "piece"), (Str.ofString "road"), (Str.ofString "way")] (defScope (top 54)) := ⟨rfl, rfl, rfl, by decide +kernel, rfl, by decide +kernel, by decide +kernel⟩
theorem d__law_caught (G : Gf w K mg W) (C : Cf P w K mg base W d) (hK : W.K = K) {fd : FuncData} (F : FunD K dd__law_caught.name dd__law_caught.qual dd__law_caught.params dd__law_caught.body dd__law_caught.scope (dd__law_caught.dvs K) (dd__law_caught.kws K) (He.fAd K dd__law_caught.at_) fd) : FnOk P w K mg base CX0 (d + 1) (He.fAd K dd__law_caught.at_) fd [(Str.ofString "piece"), (Str.ofString "road"), (Str.ofString "way")] (spC W (callF pr (d + 1)) "_law_caught") := by
  have nd := sc__law_caught.nd
  refine fnok F sc__law_caught (fn := f__law_caught) rfl rfl rfl fun cdv A outer s1 H E hr => ?_
  have St : Std ⟨W, ctxP pr d, [], fun _ => .par⟩ (cxOf CX0 P w K mg base [(Str.ofString "piece"), (Str.ofString "road"), (Str.ofString "way"), (Str.ofString "error"), (Str.ofString "caught")] "_law_caught" (defScope (top 54)) (He.fAd K ("_law_caught", none)) cdv A outer s1 H E).nox d := ⟨hK.symm, hr, rfl⟩
  exact (mss_cons (ms_asg me_non (mg_name (k := 3) nd))
      (mss_cons (ms_try (k := 4) rfl rfl nd St.K ⟨rfl, by decide, .inl G.gx_SpinError⟩ L2.takes0 G.xe_SpinError (fun _ pn xe tk PO => ⟨(mss_cons (ms_if (mt_eq (Std.tr St) (me_slot (i := 2)) me_int) (mss_cons (ms_ex (me_xcal (Std.tr St) C.c_kind_at_2 rfl (ma_cons (me_slot (i := 0)) (ma_cons (me_slot (i := 1)) ma_nil))))
      mss_nil) (mss_cons (ms_ex (me_xcal (Std.tr St) C.c_part_at_2 rfl (ma_cons (me_slot (i := 0)) (ma_cons (me_slot (i := 1)) ma_nil))))
      mss_nil))
      mss_nil),
      (xss_cons (ms_if (mt_eq (Std.tr St) (me_slot (i := 2)) me_int) (mss_cons (ms_ex (me_xcal (Std.tr St) C.c_kind_at_2 rfl (ma_cons (me_slot (i := 0)) (ma_cons (me_slot (i := 1)) ma_nil))))
      mss_nil) (mss_cons (ms_ex (me_xcal (Std.tr St) C.c_part_at_2 rfl (ma_cons (me_slot (i := 0)) (ma_cons (me_slot (i := 1)) ma_nil))))
      mss_nil))
      (xs_if (mt_eq (Std.tr St) (me_slot (i := 2)) me_int) (xt_no (by rfl)) (xss_cons (ms_ex (me_xcal (Std.tr St) C.c_kind_at_2 rfl (ma_cons (me_slot (i := 0)) (ma_cons (me_slot (i := 1)) ma_nil))))
      (xs_ex (xe_xcal tk (Std.tr St) C.c_kind_at_2 rfl (ma_cons (me_slot (i := 0)) (ma_cons (me_slot (i := 1)) ma_nil)) (xa_no (by rfl))))
      xss_nil) (xss_cons (ms_ex (me_xcal (Std.tr St) C.c_part_at_2 rfl (ma_cons (me_slot (i := 0)) (ma_cons (me_slot (i := 1)) ma_nil))))
      (xs_ex (xe_xcal tk (Std.tr St) C.c_part_at_2 rfl (ma_cons (me_slot (i := 0)) (ma_cons (me_slot (i := 1)) ma_nil)) (xa_no (by rfl))))
      xss_nil))
      xss_nil)⟩) (fun _ _ => (mss_cons (ms_asg (me_slot (i := 4)) (mg_name (k := 3) nd))
      mss_nil)) rfl rfl List.not_mem_nil)
      (mss_cons (ms_ret (me_and (me_notN (me_slot (i := 3))) (me_one (me_eq St (me_call St C.c__law_class_1 rfl (ma_cons (me_slot (i := 3)) ma_nil)) me_str))))
      mss_nil)))
theorem sc_law : FnScope [(Str.ofString "script"), (Str.ofString "cell"), (Str.ofString "purse"), (Str.ofString "tree"), (Str.ofString "piece"), (Str.ofString "words"), (Str.ofString "some"), (Str.ofString "road"), (Str.ofString "part"), (Str.ofString "kind"), (Str.ofString "due"), (Str.ofString "at"), (Str.ofString "bad"), (Str.ofString "odd")] [(Str.ofString "script")] (defScope (top 55)) := ⟨rfl, rfl, rfl, by decide +kernel, rfl, by decide +kernel, by decide +kernel⟩
theorem d_law (G : Gf w K mg W) (C : Cf P w K mg base W d) (hK : W.K = K) {fd : FuncData} (F : FunD K dd_law.name dd_law.qual dd_law.params dd_law.body dd_law.scope (dd_law.dvs K) (dd_law.kws K) (He.fAd K dd_law.at_) fd) : FnOk P w K mg base CX0 (d + 1) (He.fAd K dd_law.at_) fd [(Str.ofString "script")] (spC W (callF pr (d + 1)) "law") := by
  have nd := sc_law.nd
  refine fnok F sc_law (fn := f_law) rfl rfl rfl fun cdv A outer s1 H E hr => ?_
  have St : Std ⟨W, ctxP pr d, [], fun _ => .par⟩ (cxOf CX0 P w K mg base [(Str.ofString "script"), (Str.ofString "cell"), (Str.ofString "purse"), (Str.ofString "tree"), (Str.ofString "piece"), (Str.ofString "words"), (Str.ofString "some"), (Str.ofString "road"), (Str.ofString "part"), (Str.ofString "kind"), (Str.ofString "due"), (Str.ofString "at"), (Str.ofString "bad"), (Str.ofString "odd")] "law" (defScope (top 55)) (He.fAd K ("law", none)) cdv A outer s1 H E).nox d := ⟨hK.symm, hr, rfl⟩
  exact (mss_cons (ms_for St PassesOwn.never (mi_list St (me_add (me_slice St (me_slot (i := 0)) mo_none (mo_some me_int)) (me_lst (mu := false) (ma_cons (me_call St C.c__law_at_2 rfl (ma_cons (me_slot (i := 0)) (ma_cons me_int ma_nil))) ma_nil)))) (mg_name (k := 1) nd) (mss_cons (ms_asg (me_call St C.c__law_purse_2 rfl (ma_cons (me_slot (i := 1)) (ma_cons me_int ma_nil))) (mg_name (k := 2) nd))
      (mss_cons (ms_asg (me_call St C.c__law_drawn_4 rfl (ma_cons (me_slot (i := 2)) (ma_cons (me_call St C.c__law_take_2 rfl (ma_cons (me_slot (i := 2)) (ma_cons me_int ma_nil))) (ma_cons me_int (ma_cons (me_sub' St (me_lst (mu := false) (ma_cons (me_lst (mu := false) ma_nil) (ma_cons (me_lst (mu := false) (ma_cons me_str (ma_cons me_str (ma_cons me_str ma_nil)))) ma_nil))) (me_call St C.c__law_take_2 rfl (ma_cons (me_slot (i := 2)) (ma_cons me_int ma_nil)))) ma_nil))))) (mg_name (k := 3) nd))
      (mss_cons (ms_asg (me_call St C.c__law_made_1 rfl (ma_cons (me_call St C.c__law_named_3 rfl (ma_cons (me_slot (i := 2)) (ma_cons (me_slot (i := 3)) (ma_cons (me_lst (mu := false) ma_nil) ma_nil)))) ma_nil)) (mg_name (k := 4) nd))
      (mss_cons (ms_asg (me_call St C.c__law_words_2 rfl (ma_cons (me_call St C.c__law_free_1 rfl (ma_cons (me_slot (i := 3)) ma_nil)) (ma_cons me_int ma_nil))) (mg_name (k := 5) nd))
      (mss_cons (ms_asg (me_call St C.c__law_all_2 rfl (ma_cons (me_slot (i := 3)) (ma_cons me_str ma_nil))) (mg_name (k := 6) nd))
      (mss_cons (ms_for St PassesOwn.never (mi_list St (me_slot (i := 6))) (mg_name (k := 7) nd) (mss_cons (ms_asg (me_call St C.c__law_part_2 rfl (ma_cons (me_slot (i := 3)) (ma_cons (me_slot (i := 7)) ma_nil))) (mg_name (k := 8) nd))
      (mss_cons (ms_asg (me_sub' St (me_dsp (kl := ["l", "p", "v", "n"]) (vl := ["fun", "put", "name", "name"]) (.cons (.cons (.cons (.cons .nil))))) (me_sub' St (me_slot (i := 8)) me_int)) (mg_name (k := 9) nd))
      (mss_cons (ms_asg (me_call St C.c__law_text_1 rfl (ma_cons (me_call St C.c__law_opened_4 rfl (ma_cons (me_slot (i := 8)) (ma_cons (me_slot (i := 5)) (ma_cons me_int (ma_cons (me_count St (me_slot (i := 7)) (ma_cons me_str ma_nil)) ma_nil))))) ma_nil)) (mg_name (k := 10) nd))
      (mss_cons (ms_if (mw_pt (mw_or (mt_ne St (me_xcal St C.c_kind_at_2 rfl (ma_cons (me_slot (i := 4)) (ma_cons (me_slot (i := 7)) ma_nil))) (me_slot (i := 9))) (mw_or1 (mt_ne St (me_stro St C.h0 ⟨G.cls⟩ C.s_str G.b_str (me_xcalk0 St C.k_part_at_0_address_term rfl (mk_cons (me_slot (i := 7)) (mk_cons (me_slot (i := 4)) mk_nil)))) (me_slot (i := 10)))))) (mss_cons (ms_ret me_bl)
      mss_nil) mss_nil)
      (mss_cons (ms_if (mw_pt (mw_or (mt_ne St (me_xcalk0 St C.k_kind_at_0_address_term rfl (mk_cons (me_slot (i := 7)) (mk_cons (me_slot (i := 4)) mk_nil))) (me_slot (i := 9))) (mw_or1 (mt_neo St C.h0 (fun c C h _ => G.q c C h) C.s_eq (me_xcal St C.c_part_at_2 rfl (ma_cons (me_slot (i := 4)) (ma_cons (me_slot (i := 7)) ma_nil))) (me_xcal St C.c_part_at_2 rfl (ma_cons (me_slot (i := 4)) (ma_cons (me_slot (i := 7)) ma_nil))))))) (mss_cons (ms_ret me_bl)
      mss_nil) mss_nil)
      mss_nil))))))
      (mss_cons (ms_asg (me_sub' St (me_slot (i := 6)) (me_call St C.c__law_take_2 rfl (ma_cons (me_slot (i := 2)) (ma_cons (me_len St G.b_len (ma_cons (me_slot (i := 6)) ma_nil)) ma_nil)))) (mg_name (k := 7) nd))
      (mss_cons (ms_asg (me_call St C.c__law_take_2 rfl (ma_cons (me_slot (i := 2)) (ma_cons (me_add (me_len St G.b_len (ma_cons (me_slot (i := 7)) ma_nil)) me_int) ma_nil))) (mg_name (k := 11) nd))
      (mss_cons (ms_asg (me_add (me_add (me_slice St (me_slot (i := 7)) mo_none (mo_some (me_slot (i := 11)))) (me_sub' St (me_lst (mu := false) (ma_cons me_str (ma_cons me_str (ma_cons me_str (ma_cons me_str (ma_cons me_str (ma_cons me_str ma_nil))))))) (me_call St C.c__law_take_2 rfl (ma_cons (me_slot (i := 2)) (ma_cons me_int ma_nil))))) (me_slice St (me_slot (i := 7)) (mo_some (me_slot (i := 11))) mo_none)) (mg_name (k := 12) nd))
      (mss_cons (ms_for St PassesOwn.never (mi_list St (me_lst (mu := false) (ma_cons (me_slot (i := 12)) (ma_cons (me_add (me_slot (i := 7)) me_str) (ma_cons (me_sub' St (me_lst (mu := false) (ma_cons me_non (ma_cons me_int (ma_cons (me_tup (ma_cons me_str ma_nil)) (ma_cons (me_lst (mu := false) (ma_cons me_str ma_nil)) (ma_cons me_bl ma_nil)))))) (me_call St C.c__law_take_2 rfl (ma_cons (me_slot (i := 2)) (ma_cons me_int ma_nil)))) ma_nil))))) (mg_name (k := 13) nd) (mss_cons (ms_if (mw_pt (mw_and (mt_nind St (me_slot (i := 13)) (me_slot (i := 6))) (mw_and1 (mt_not (mw_pt (mw_and (mt_val (me_call St C.c__law_caught_3 rfl (ma_cons (me_slot (i := 4)) (ma_cons (me_slot (i := 13)) (ma_cons me_int ma_nil))))) (mw_and1 (mt_val (me_call St C.c__law_caught_3 rfl (ma_cons (me_slot (i := 4)) (ma_cons (me_slot (i := 13)) (ma_cons me_int ma_nil)))))))))))) (mss_cons (ms_ret me_bl)
      mss_nil) mss_nil)
      mss_nil))
      (mss_cons (ms_if (mt_ne St (me_stro St C.h0 ⟨G.cls⟩ C.s_str G.b_str (me_slot (i := 4))) (me_call St C.c__law_text_1 rfl (ma_cons (me_slot (i := 3)) ma_nil))) (mss_cons (ms_ret me_bl)
      mss_nil) mss_nil)
      mss_nil))))))))))))
      (mss_cons (ms_ret me_bl)
      mss_nil))
theorem sc_fun_leaf : NScope [(Str.ofString "part"), (Str.ofString "depth"), (Str.ofString "word")] [(Str.ofString "part"), (Str.ofString "depth")] st_fun_leaf.fr st_fun_leaf.scope := nscope_by (by decide +kernel)
theorem d_fun_leaf (G : Gf w K mg W) (C : Cf P w K mg base W d) (hK : W.K = K) {f cd : Addr} {cl : List (Str × Addr)} : NOk P w K mg base CX0 (d + 1) f (st_fun_leaf.nf cl cd) [(Str.ofString "part"), (Str.ofString "depth")] st_fun_leaf.fr (spL W (callF pr (d + 1)) "fun.leaf" [(Str.ofString "part"), (Str.ofString "depth")]) := by
  have nd := sc_fun_leaf.nd
  refine lfok (fn := f_fun_leaf) sc_fun_leaf rfl rfl rfl (fun doc pm ctv us hl => match us, hl with | [_, _], _ => rfl) fun A outer s1 H E hr => ?_
  have St : Std ⟨W, ctxP pr d, [], fun _ => .par⟩ (ncx CX0 P w K mg base [(Str.ofString "part"), (Str.ofString "depth"), (Str.ofString "word")] (st_fun_leaf.nf cl cd) f A outer s1 H E).nox d := ⟨hK.symm, hr, rfl⟩
  exact (mss_cons (ms_if (mt_eq St (me_slot (i := 0)) (me_tup (ma_cons me_str (ma_cons (me_slot (i := 2)) ma_nil)))) (mss_cons (ms_ret (me_tup (ma_cons me_str (ma_cons (me_slot (i := 1)) ma_nil))))
      mss_nil) mss_nil)
      (mss_cons (ms_ret (me_slot (i := 0)))
      mss_nil))
theorem sc_part_at_leaf : NScope [(Str.ofString "part"), (Str.ofString "depth"), (Str.ofString "words")] [(Str.ofString "part"), (Str.ofString "depth")] st_part_at_leaf.fr st_part_at_leaf.scope := nscope_by (by decide +kernel)
theorem d_part_at_leaf (G : Gf w K mg W) (C : Cf P w K mg base W d) (hK : W.K = K) {f cd : Addr} {cl : List (Str × Addr)} : NOk P w K mg base CX0 (d + 1) f (st_part_at_leaf.nf cl cd) [(Str.ofString "part"), (Str.ofString "depth")] st_part_at_leaf.fr (spL W (callF pr (d + 1)) "part_at.leaf" [(Str.ofString "part"), (Str.ofString "depth")]) := by
  have nd := sc_part_at_leaf.nd
  refine lfok (fn := f_part_at_leaf) sc_part_at_leaf rfl rfl rfl (fun doc pm ctv us hl => match us, hl with | [_, _], _ => rfl) fun A outer s1 H E hr => ?_
  have St : Std ⟨W, ctxP pr d, [], fun _ => .par⟩ (ncx CX0 P w K mg base [(Str.ofString "part"), (Str.ofString "depth"), (Str.ofString "words")] (st_part_at_leaf.nf cl cd) f A outer s1 H E).nox d := ⟨hK.symm, hr, rfl⟩
  exact (mss_cons (ms_if (mw_pt (mw_and (mt_eq St (me_sub' St (me_slot (i := 0)) me_int) me_str) (mw_and1 (mt_ge (me_sub' St (me_slot (i := 0)) me_int) (me_slot (i := 1)))))) (mss_cons (ms_ret (me_tup (ma_cons me_str (ma_cons (me_sub' St (me_slot (i := 2)) (me_sub (me_sub (me_len St G.b_len (ma_cons (me_slot (i := 2)) ma_nil)) me_int) (me_sub (me_sub' St (me_slot (i := 0)) me_int) (me_slot (i := 1))))) ma_nil))))
      mss_nil) mss_nil)
      (mss_cons (ms_ret (me_slot (i := 0)))
      mss_nil))
end
end K03

set_option Elab.async false
set_option linter.all false
set_option maxRecDepth 100000
set_option maxHeartbeats 0
namespace K03
open PySem PySem.Spec PyProof.Rows L2 NdefX LamX Fw
/-! ### all defs at once -/
section
variable {P : Program} {w : World} {K : PySem.W.Frag} {mg : Str → Option Value} {base : Heap} {W : Wd} {d : Nat}
def Okf (P : Program) (w : World) (K : PySem.W.Frag) (mg : Str → Option Value) (base : Heap) (d : Nat) (dd : He.DefD) (ps : List Str) (sp : Sp) : Prop := ∃ fd, FunD K dd.name dd.qual dd.params dd.body dd.scope (dd.dvs K) (dd.kws K) (He.fAd K dd.at_) fd ∧ FnOk P w K mg base CX0 d (He.fAd K dd.at_) fd ps sp
def Okx (P : Program) (w : World) (K : PySem.W.Frag) (mg : Str → Option Value) (base : Heap) (d : Nat) (dd : He.DefD) (ps : List Str) (sp : Sp) : Prop := ∃ fd, FunD K dd.name dd.qual dd.params dd.body dd.scope (dd.dvs K) (dd.kws K) (He.fAd K dd.at_) fd ∧ FnOk P w K mg base (L2.CX P w) d (He.fAd K dd.at_) fd ps sp
def Fun1 (K : PySem.W.Frag) (dd : He.DefD) : Prop := ∃ fd, FunD K dd.name dd.qual dd.params dd.body dd.scope (dd.dvs K) (dd.kws K) (He.fAd K dd.at_) fd
structure Al (P : Program) (w : World) (K : PySem.W.Frag) (mg : Str → Option Value) (base : Heap) (W : Wd) (d : Nat) : Prop where
  f_look_word : Okf P w K mg base d dd_look_word [(Str.ofString "word")] (spC W (callF pr d) "look_word")
  f_word_number : Okf P w K mg base d dd_word_number [(Str.ofString "number")] (spC W (callF pr d) "word_number")
  f_free_in : Okf P w K mg base d dd_free_in [(Str.ofString "tree")] (spC W (callF pr d) "free_in")
  f_addresses_in : Okf P w K mg base d dd_addresses_in [(Str.ofString "tree")] (spC W (callF pr d) "addresses_in")
  f_changed : Okf P w K mg base d dd_changed [(Str.ofString "tree"), (Str.ofString "leaf"), (Str.ofString "depth")] (spK W (callF pr d) "changed")
  f_fresh_words : Okf P w K mg base d dd_fresh_words [(Str.ofString "tree"), (Str.ofString "many")] (spC W (callF pr d) "fresh_words")
  f_written : Okf P w K mg base d dd_written [(Str.ofString "tree"), (Str.ofString "words"), (Str.ofString "depth")] (spC W (callF pr d) "written")
  f_deepest : Okf P w K mg base d dd_deepest [(Str.ofString "tree")] (spC W (callF pr d) "deepest")
  f_Termu_initu : Okf P w K mg base d dd_Termu_initu [(Str.ofString "self"), (Str.ofString "tree")] (spC W (callF pr d) "Term.__init__")
  f_Termu_equ : Okf P w K mg base d dd_Termu_equ [(Str.ofString "self"), (Str.ofString "other")] (spC W (callF pr d) "Term.__eq__")
  f_Termu_stru : Okf P w K mg base d dd_Termu_stru [(Str.ofString "self")] (spC W (callF pr d) "Term.__str__")
  f_name : Okf P w K mg base d dd_name [(Str.ofString "word")] (spC W (callF pr d) "name")
  f_fun : Okf P w K mg base d dd_fun [(Str.ofString "word"), (Str.ofString "body")] (spC W (callF pr d) "fun")
  f_put : Okf P w K mg base d dd_put [(Str.ofString "function"), (Str.ofString "argument")] (spC W (callF pr d) "put")
  f_tree_at : Okx P w K mg base d dd_tree_at [(Str.ofString "tree"), (Str.ofString "address")] (spX W (callF pr d) (callX pr d) "tree_at")
  f_kind_at : Okx P w K mg base d dd_kind_at [(Str.ofString "term"), (Str.ofString "address")] (spX W (callF pr d) (callX pr d) "kind_at")
  f_part_at : Okx P w K mg base d dd_part_at [(Str.ofString "term"), (Str.ofString "address")] (spX W (callF pr d) (callX pr d) "part_at")
  f__law_mixed : Okf P w K mg base d dd__law_mixed [(Str.ofString "cell"), (Str.ofString "k")] (spC W (callF pr d) "_law_mixed")
  f__law_purse : Okf P w K mg base d dd__law_purse [(Str.ofString "cell"), (Str.ofString "k")] (spC W (callF pr d) "_law_purse")
  f__law_take : Okf P w K mg base d dd__law_take [(Str.ofString "purse"), (Str.ofString "many")] (spC W (callF pr d) "_law_take")
  f__law_at : Okf P w K mg base d dd__law_at [(Str.ofString "script"), (Str.ofString "k")] (spC W (callF pr d) "_law_at")
  f__law_free : Okf P w K mg base d dd__law_free [(Str.ofString "tree")] (spC W (callF pr d) "_law_free")
  f__law_words : Okf P w K mg base d dd__law_words [(Str.ofString "free"), (Str.ofString "many")] (spC W (callF pr d) "_law_words")
  f__law_written : Okf P w K mg base d dd__law_written [(Str.ofString "tree"), (Str.ofString "words"), (Str.ofString "depth")] (spC W (callF pr d) "_law_written")
  f__law_text : Okf P w K mg base d dd__law_text [(Str.ofString "tree")] (spC W (callF pr d) "_law_text")
  f__law_leaf : Okf P w K mg base d dd__law_leaf [(Str.ofString "purse"), (Str.ofString "depth"), (Str.ofString "free")] (spC W (callF pr d) "_law_leaf")
  f__law_drawn : Okf P w K mg base d dd__law_drawn [(Str.ofString "purse"), (Str.ofString "deep"), (Str.ofString "depth"), (Str.ofString "free")] (spC W (callF pr d) "_law_drawn")
  f__law_lively : Okf P w K mg base d dd__law_lively [(Str.ofString "purse"), (Str.ofString "free")] (spC W (callF pr d) "_law_lively")
  f__law_used : Okf P w K mg base d dd__law_used [(Str.ofString "tree"), (Str.ofString "depth")] (spC W (callF pr d) "_law_used")
  f__law_binder : Okf P w K mg base d dd__law_binder [(Str.ofString "purse"), (Str.ofString "inside"), (Str.ofString "words")] (spC W (callF pr d) "_law_binder")
  f__law_named : Okf P w K mg base d dd__law_named [(Str.ofString "purse"), (Str.ofString "tree"), (Str.ofString "words")] (spC W (callF pr d) "_law_named")
  f__law_made : Okf P w K mg base d dd__law_made [(Str.ofString "named")] (spC W (callF pr d) "_law_made")
  f__law_named_text : Okf P w K mg base d dd__law_named_text [(Str.ofString "named")] (spC W (callF pr d) "_law_named_text")
  f__law_class : Okf P w K mg base d dd__law_class [(Str.ofString "error")] (spC W (callF pr d) "_law_class")
  f__law_opened : Okf P w K mg base d dd__law_opened [(Str.ofString "tree"), (Str.ofString "words"), (Str.ofString "depth"), (Str.ofString "outside")] (spC W (callF pr d) "_law_opened")
  f__law_part : Okf P w K mg base d dd__law_part [(Str.ofString "tree"), (Str.ofString "road")] (spC W (callF pr d) "_law_part")
  f__law_all : Okf P w K mg base d dd__law_all [(Str.ofString "tree"), (Str.ofString "road")] (spC W (callF pr d) "_law_all")
  f__law_caught : Okf P w K mg base d dd__law_caught [(Str.ofString "piece"), (Str.ofString "road"), (Str.ofString "way")] (spC W (callF pr d) "_law_caught")
  f_law : Okf P w K mg base d dd_law [(Str.ofString "script")] (spC W (callF pr d) "law")
  lf : LfOk P w K mg base W (callF pr d) d
structure Fs (K : PySem.W.Frag) : Prop where
  f_look_word : Fun1 K dd_look_word
  f_word_number : Fun1 K dd_word_number
  f_free_in : Fun1 K dd_free_in
  f_addresses_in : Fun1 K dd_addresses_in
  f_changed : Fun1 K dd_changed
  f_fresh_words : Fun1 K dd_fresh_words
  f_written : Fun1 K dd_written
  f_deepest : Fun1 K dd_deepest
  f_Termu_initu : Fun1 K dd_Termu_initu
  f_Termu_equ : Fun1 K dd_Termu_equ
  f_Termu_stru : Fun1 K dd_Termu_stru
  f_name : Fun1 K dd_name
  f_fun : Fun1 K dd_fun
  f_put : Fun1 K dd_put
  f_tree_at : Fun1 K dd_tree_at
  f_kind_at : Fun1 K dd_kind_at
  f_part_at : Fun1 K dd_part_at
  f__law_mixed : Fun1 K dd__law_mixed
  f__law_purse : Fun1 K dd__law_purse
  f__law_take : Fun1 K dd__law_take
  f__law_at : Fun1 K dd__law_at
  f__law_free : Fun1 K dd__law_free
  f__law_words : Fun1 K dd__law_words
  f__law_written : Fun1 K dd__law_written
  f__law_text : Fun1 K dd__law_text
  f__law_leaf : Fun1 K dd__law_leaf
  f__law_drawn : Fun1 K dd__law_drawn
  f__law_lively : Fun1 K dd__law_lively
  f__law_used : Fun1 K dd__law_used
  f__law_binder : Fun1 K dd__law_binder
  f__law_named : Fun1 K dd__law_named
  f__law_made : Fun1 K dd__law_made
  f__law_named_text : Fun1 K dd__law_named_text
  f__law_class : Fun1 K dd__law_class
  f__law_opened : Fun1 K dd__law_opened
  f__law_part : Fun1 K dd__law_part
  f__law_all : Fun1 K dd__law_all
  f__law_caught : Fun1 K dd__law_caught
  f_law : Fun1 K dd_law
theorem cf_of (G : Gf w K mg W) (A : Al P w K mg base W d) (B : Al P w K mg base W (d - 1)) : Cf P w K mg base W d where
  h0 := fun e g as S => by subst e; rfl
  c__law_all_2 := by
    obtain ⟨fd, F, ok⟩ := A.f__law_all
    exact ⟨⟨_, fd, _, [], [], ok, F.kp, G.g__law_all, F.bindsN (ps := [(Str.ofString "tree"), (Str.ofString "road")]) fun _ _ _ _ _ _ us hl => match us, hl with | [_, _], _ => rfl, .nil, fun _ _ => .nil⟩⟩
  c__law_at_2 := by
    obtain ⟨fd, F, ok⟩ := A.f__law_at
    exact ⟨⟨_, fd, _, [], [], ok, F.kp, G.g__law_at, F.bindsN (ps := [(Str.ofString "script"), (Str.ofString "k")]) fun _ _ _ _ _ _ us hl => match us, hl with | [_, _], _ => rfl, .nil, fun _ _ => .nil⟩⟩
  c__law_binder_3 := by
    obtain ⟨fd, F, ok⟩ := A.f__law_binder
    exact ⟨⟨_, fd, _, [], [], ok, F.kp, G.g__law_binder, F.bindsN (ps := [(Str.ofString "purse"), (Str.ofString "inside"), (Str.ofString "words")]) fun _ _ _ _ _ _ us hl => match us, hl with | [_, _, _], _ => rfl, .nil, fun _ _ => .nil⟩⟩
  c__law_caught_3 := by
    obtain ⟨fd, F, ok⟩ := A.f__law_caught
    exact ⟨⟨_, fd, _, [], [], ok, F.kp, G.g__law_caught, F.bindsN (ps := [(Str.ofString "piece"), (Str.ofString "road"), (Str.ofString "way")]) fun _ _ _ _ _ _ us hl => match us, hl with | [_, _, _], _ => rfl, .nil, fun _ _ => .nil⟩⟩
  c__law_class_1 := by
    obtain ⟨fd, F, ok⟩ := A.f__law_class
    exact ⟨⟨_, fd, _, [], [], ok, F.kp, G.g__law_class, F.bindsN (ps := [(Str.ofString "error")]) fun _ _ _ _ _ _ us hl => match us, hl with | [_], _ => rfl, .nil, fun _ _ => .nil⟩⟩
  c__law_drawn_4 := by
    obtain ⟨fd, F, ok⟩ := A.f__law_drawn
    exact ⟨⟨_, fd, _, [], [], ok, F.kp, G.g__law_drawn, F.bindsN (ps := [(Str.ofString "purse"), (Str.ofString "deep"), (Str.ofString "depth"), (Str.ofString "free")]) fun _ _ _ _ _ _ us hl => match us, hl with | [_, _, _, _], _ => rfl, .nil, fun _ _ => .nil⟩⟩
  c__law_free_1 := by
    obtain ⟨fd, F, ok⟩ := A.f__law_free
    exact ⟨⟨_, fd, _, [], [], ok, F.kp, G.g__law_free, F.bindsN (ps := [(Str.ofString "tree")]) fun _ _ _ _ _ _ us hl => match us, hl with | [_], _ => rfl, .nil, fun _ _ => .nil⟩⟩
  c__law_leaf_3 := by
    obtain ⟨fd, F, ok⟩ := A.f__law_leaf
    exact ⟨⟨_, fd, _, [], [], ok, F.kp, G.g__law_leaf, F.bindsN (ps := [(Str.ofString "purse"), (Str.ofString "depth"), (Str.ofString "free")]) fun _ _ _ _ _ _ us hl => match us, hl with | [_, _, _], _ => rfl, .nil, fun _ _ => .nil⟩⟩
  c__law_made_1 := by
    obtain ⟨fd, F, ok⟩ := A.f__law_made
    exact ⟨⟨_, fd, _, [], [], ok, F.kp, G.g__law_made, F.bindsN (ps := [(Str.ofString "named")]) fun _ _ _ _ _ _ us hl => match us, hl with | [_], _ => rfl, .nil, fun _ _ => .nil⟩⟩
  c__law_mixed_2 := by
    obtain ⟨fd, F, ok⟩ := A.f__law_mixed
    exact ⟨⟨_, fd, _, [], [], ok, F.kp, G.g__law_mixed, F.bindsN (ps := [(Str.ofString "cell"), (Str.ofString "k")]) fun _ _ _ _ _ _ us hl => match us, hl with | [_, _], _ => rfl, .nil, fun _ _ => .nil⟩⟩
  c__law_named_3 := by
    obtain ⟨fd, F, ok⟩ := A.f__law_named
    exact ⟨⟨_, fd, _, [], [], ok, F.kp, G.g__law_named, F.bindsN (ps := [(Str.ofString "purse"), (Str.ofString "tree"), (Str.ofString "words")]) fun _ _ _ _ _ _ us hl => match us, hl with | [_, _, _], _ => rfl, .nil, fun _ _ => .nil⟩⟩
  c__law_named_text_1 := by
    obtain ⟨fd, F, ok⟩ := A.f__law_named_text
    exact ⟨⟨_, fd, _, [], [], ok, F.kp, G.g__law_named_text, F.bindsN (ps := [(Str.ofString "named")]) fun _ _ _ _ _ _ us hl => match us, hl with | [_], _ => rfl, .nil, fun _ _ => .nil⟩⟩
  c__law_opened_4 := by
    obtain ⟨fd, F, ok⟩ := A.f__law_opened
    exact ⟨⟨_, fd, _, [], [], ok, F.kp, G.g__law_opened, F.bindsN (ps := [(Str.ofString "tree"), (Str.ofString "words"), (Str.ofString "depth"), (Str.ofString "outside")]) fun _ _ _ _ _ _ us hl => match us, hl with | [_, _, _, _], _ => rfl, .nil, fun _ _ => .nil⟩⟩
  c__law_part_2 := by
    obtain ⟨fd, F, ok⟩ := A.f__law_part
    exact ⟨⟨_, fd, _, [], [], ok, F.kp, G.g__law_part, F.bindsN (ps := [(Str.ofString "tree"), (Str.ofString "road")]) fun _ _ _ _ _ _ us hl => match us, hl with | [_, _], _ => rfl, .nil, fun _ _ => .nil⟩⟩
  c__law_purse_2 := by
    obtain ⟨fd, F, ok⟩ := A.f__law_purse
    exact ⟨⟨_, fd, _, [], [], ok, F.kp, G.g__law_purse, F.bindsN (ps := [(Str.ofString "cell"), (Str.ofString "k")]) fun _ _ _ _ _ _ us hl => match us, hl with | [_, _], _ => rfl, .nil, fun _ _ => .nil⟩⟩
  c__law_take_2 := by
    obtain ⟨fd, F, ok⟩ := A.f__law_take
    exact ⟨⟨_, fd, _, [], [], ok, F.kp, G.g__law_take, F.bindsN (ps := [(Str.ofString "purse"), (Str.ofString "many")]) fun _ _ _ _ _ _ us hl => match us, hl with | [_, _], _ => rfl, .nil, fun _ _ => .nil⟩⟩
  c__law_text_1 := by
    obtain ⟨fd, F, ok⟩ := A.f__law_text
    exact ⟨⟨_, fd, _, [], [], ok, F.kp, G.g__law_text, F.bindsN (ps := [(Str.ofString "tree")]) fun _ _ _ _ _ _ us hl => match us, hl with | [_], _ => rfl, .nil, fun _ _ => .nil⟩⟩
  c__law_used_2 := by
    obtain ⟨fd, F, ok⟩ := A.f__law_used
    exact ⟨⟨_, fd, _, [], [], ok, F.kp, G.g__law_used, F.bindsN (ps := [(Str.ofString "tree"), (Str.ofString "depth")]) fun _ _ _ _ _ _ us hl => match us, hl with | [_, _], _ => rfl, .nil, fun _ _ => .nil⟩⟩
  c__law_words_2 := by
    obtain ⟨fd, F, ok⟩ := A.f__law_words
    exact ⟨⟨_, fd, _, [], [], ok, F.kp, G.g__law_words, F.bindsN (ps := [(Str.ofString "free"), (Str.ofString "many")]) fun _ _ _ _ _ _ us hl => match us, hl with | [_, _], _ => rfl, .nil, fun _ _ => .nil⟩⟩
  c__law_written_3 := by
    obtain ⟨fd, F, ok⟩ := A.f__law_written
    exact ⟨⟨_, fd, _, [], [], ok, F.kp, G.g__law_written, F.bindsN (ps := [(Str.ofString "tree"), (Str.ofString "words"), (Str.ofString "depth")]) fun _ _ _ _ _ _ us hl => match us, hl with | [_, _, _], _ => rfl, .nil, fun _ _ => .nil⟩⟩
  c_addresses_in_1 := by
    obtain ⟨fd, F, ok⟩ := A.f_addresses_in
    exact ⟨⟨_, fd, _, [], [], ok, F.kp, G.g_addresses_in, F.bindsN (ps := [(Str.ofString "tree")]) fun _ _ _ _ _ _ us hl => match us, hl with | [_], _ => rfl, .nil, fun _ _ => .nil⟩⟩
  c_deepest_1 := by
    obtain ⟨fd, F, ok⟩ := A.f_deepest
    exact ⟨⟨_, fd, _, [], [], ok, F.kp, G.g_deepest, F.bindsN (ps := [(Str.ofString "tree")]) fun _ _ _ _ _ _ us hl => match us, hl with | [_], _ => rfl, .nil, fun _ _ => .nil⟩⟩
  c_free_in_1 := by
    obtain ⟨fd, F, ok⟩ := A.f_free_in
    exact ⟨⟨_, fd, _, [], [], ok, F.kp, G.g_free_in, F.bindsN (ps := [(Str.ofString "tree")]) fun _ _ _ _ _ _ us hl => match us, hl with | [_], _ => rfl, .nil, fun _ _ => .nil⟩⟩
  c_fresh_words_2 := by
    obtain ⟨fd, F, ok⟩ := A.f_fresh_words
    exact ⟨⟨_, fd, _, [], [], ok, F.kp, G.g_fresh_words, F.bindsN (ps := [(Str.ofString "tree"), (Str.ofString "many")]) fun _ _ _ _ _ _ us hl => match us, hl with | [_, _], _ => rfl, .nil, fun _ _ => .nil⟩⟩
  c_fun_2 := by
    obtain ⟨fd, F, ok⟩ := A.f_fun
    exact ⟨⟨_, fd, _, [], [], ok, F.kp, G.g_fun, F.bindsN (ps := [(Str.ofString "word"), (Str.ofString "body")]) fun _ _ _ _ _ _ us hl => match us, hl with | [_, _], _ => rfl, .nil, fun _ _ => .nil⟩⟩
  c_look_word_1 := by
    obtain ⟨fd, F, ok⟩ := A.f_look_word
    exact ⟨⟨_, fd, _, [], [], ok, F.kp, G.g_look_word, F.bindsN (ps := [(Str.ofString "word")]) fun _ _ _ _ _ _ us hl => match us, hl with | [_], _ => rfl, .nil, fun _ _ => .nil⟩⟩
  c_name_1 := by
    obtain ⟨fd, F, ok⟩ := A.f_name
    exact ⟨⟨_, fd, _, [], [], ok, F.kp, G.g_name, F.bindsN (ps := [(Str.ofString "word")]) fun _ _ _ _ _ _ us hl => match us, hl with | [_], _ => rfl, .nil, fun _ _ => .nil⟩⟩
  c_put_2 := by
    obtain ⟨fd, F, ok⟩ := A.f_put
    exact ⟨⟨_, fd, _, [], [], ok, F.kp, G.g_put, F.bindsN (ps := [(Str.ofString "function"), (Str.ofString "argument")]) fun _ _ _ _ _ _ us hl => match us, hl with | [_, _], _ => rfl, .nil, fun _ _ => .nil⟩⟩
  c_word_number_1 := by
    obtain ⟨fd, F, ok⟩ := A.f_word_number
    exact ⟨⟨_, fd, _, [], [], ok, F.kp, G.g_word_number, F.bindsN (ps := [(Str.ofString "number")]) fun _ _ _ _ _ _ us hl => match us, hl with | [_], _ => rfl, .nil, fun _ _ => .nil⟩⟩
  c_written_2 := by
    obtain ⟨fd, F, ok⟩ := A.f_written
    obtain ⟨ds, hv, hb⟩ := F.binds1 2 0 (by intro h; cases h) rfl (ps := [(Str.ofString "tree"), (Str.ofString "words"), (Str.ofString "depth")]) fun T kV doc pm an cdv ct us its h1 h2 => match us, its, h1, h2 with | [_, _], [_], _, _ => ⟨_, rfl, rfl⟩
    exact ⟨⟨_, fd, _, _, ds, ok, F.kp, G.g_written, hb, hv, fun _ _ => (.cons (.int 0) .nil)⟩⟩
  c_written_3 := by
    obtain ⟨fd, F, ok⟩ := A.f_written
    obtain ⟨ds, hv, hb⟩ := F.binds1 3 1 (by intro h; cases h) rfl (ps := [(Str.ofString "tree"), (Str.ofString "words"), (Str.ofString "depth")]) fun T kV doc pm an cdv ct us its h1 h2 => match us, its, h1, h2 with | [_, _, _], [_], _, _ => ⟨_, rfl, rfl⟩
    exact ⟨⟨_, fd, _, _, ds, ok, F.kp, G.g_written, hb, hv, fun _ _ => .nil⟩⟩
  c_changed_2 := by
    obtain ⟨fd, F, ok⟩ := A.f_changed
    obtain ⟨ds, hv, hb⟩ := F.binds1 2 0 (by intro h; cases h) rfl (ps := [(Str.ofString "tree"), (Str.ofString "leaf"), (Str.ofString "depth")]) fun T kV doc pm an cdv ct us its h1 h2 => match us, its, h1, h2 with | [_, _], [_], _, _ => ⟨_, rfl, rfl⟩
    exact ⟨⟨_, fd, _, _, ds, ok, F.kp, G.g_changed, hb, hv, fun _ _ => (.cons (.int 0) .nil)⟩⟩
  c_changed_3 := by
    obtain ⟨fd, F, ok⟩ := A.f_changed
    obtain ⟨ds, hv, hb⟩ := F.binds1 3 1 (by intro h; cases h) rfl (ps := [(Str.ofString "tree"), (Str.ofString "leaf"), (Str.ofString "depth")]) fun T kV doc pm an cdv ct us its h1 h2 => match us, its, h1, h2 with | [_, _, _], [_], _, _ => ⟨_, rfl, rfl⟩
    exact ⟨⟨_, fd, _, _, ds, ok, F.kp, G.g_changed, hb, hv, fun _ _ => .nil⟩⟩
  c_kind_at_2 := by
    obtain ⟨fd, F, ok⟩ := A.f_kind_at
    exact ⟨⟨_, fd, _, [], [], ok, F.kp, G.g_kind_at, F.bindsN (ps := [(Str.ofString "term"), (Str.ofString "address")]) fun _ _ _ _ _ _ us hl => match us, hl with | [_, _], _ => rfl, .nil, fun _ _ => .nil⟩⟩
  c_part_at_2 := by
    obtain ⟨fd, F, ok⟩ := A.f_part_at
    exact ⟨⟨_, fd, _, [], [], ok, F.kp, G.g_part_at, F.bindsN (ps := [(Str.ofString "term"), (Str.ofString "address")]) fun _ _ _ _ _ _ us hl => match us, hl with | [_, _], _ => rfl, .nil, fun _ _ => .nil⟩⟩
  c_tree_at_2 := by
    obtain ⟨fd, F, ok⟩ := A.f_tree_at
    exact ⟨⟨_, fd, _, [], [], ok, F.kp, G.g_tree_at, F.bindsN (ps := [(Str.ofString "tree"), (Str.ofString "address")]) fun _ _ _ _ _ _ us hl => match us, hl with | [_, _], _ => rfl, .nil, fun _ _ => .nil⟩⟩
  k_kind_at_0_address_term := by
    obtain ⟨fd, F, ok⟩ := A.f_kind_at
    exact calNX_of F ok G.g_kind_at 0 [(Str.ofString "address"), (Str.ofString "term")] [1, 0] (fun kV doc pm an cdv ct us ws h1 h2 => match us, ws, h1, h2 with | [], [_, _], _, _ => rfl)
  k_part_at_0_address_term := by
    obtain ⟨fd, F, ok⟩ := A.f_part_at
    exact calNX_of F ok G.g_part_at 0 [(Str.ofString "address"), (Str.ofString "term")] [1, 0] (fun kV doc pm an cdv ct us ws h1 h2 => match us, ws, h1, h2 with | [], [_, _], _, _ => rfl)
  i_Term := by
    obtain ⟨fd, F, ok⟩ := B.f_Termu_initu
    refine ⟨⟨_, _, fd, _, G.ca_Term, G.gc_Term, G.mk_Term, ?_, F.bindsN (ps := [(Str.ofString "self"), (Str.ofString "tree")]) fun _ _ _ _ _ _ us hl => match us, hl with | [_, _], _ => rfl⟩⟩
    rw [show ("Term" : Str) ++ (".__init__" : Str) = ("Term.__init__" : Str) from by decide +kernel]
    exact ok
  s_str := ⟨fun cl C g hc hm => by
    have hca := G.ca cl C hc
    rcases hca with ⟨rfl, rfl⟩
    · have e : pr.meth "Term" "__str__" = some ("Term.__str__" : Str) := by decide +kernel
      rw [e] at hm
      cases hm
      obtain ⟨fd, F, ok⟩ := B.f_Termu_stru
      exact ⟨_, fd, _, ok, G.me_Term_ustru, F.bindsN (ps := [(Str.ofString "self")]) fun _ _ _ _ _ _ us hl => match us, hl with | [_], _ => rfl⟩
    ⟩
  s_eq := ⟨fun cl C g hc hm => by
    have hca := G.ca cl C hc
    rcases hca with ⟨rfl, rfl⟩
    · have e : pr.meth "Term" "__eq__" = some ("Term.__eq__" : Str) := by decide +kernel
      rw [e] at hm
      cases hm
      obtain ⟨fd, F, ok⟩ := B.f_Termu_equ
      exact ⟨_, fd, _, ok, G.me_Term_uequ, F.bindsN (ps := [(Str.ofString "self"), (Str.ofString "other")]) fun _ _ _ _ _ _ us hl => match us, hl with | [_, _], _ => rfl⟩
    ⟩
  lf := A.lf
theorem al0 (G : Gf w K mg W) (D : Fs K) : Al P w K mg base W 0 where
  f_look_word := let ⟨fd, F⟩ := D.f_look_word; ⟨fd, F, fnok0⟩
  f_word_number := let ⟨fd, F⟩ := D.f_word_number; ⟨fd, F, fnok0⟩
  f_free_in := let ⟨fd, F⟩ := D.f_free_in; ⟨fd, F, fnok0⟩
  f_addresses_in := let ⟨fd, F⟩ := D.f_addresses_in; ⟨fd, F, fnok0⟩
  f_changed := let ⟨fd, F⟩ := D.f_changed; ⟨fd, F, fnokK0⟩
  f_fresh_words := let ⟨fd, F⟩ := D.f_fresh_words; ⟨fd, F, fnok0⟩
  f_written := let ⟨fd, F⟩ := D.f_written; ⟨fd, F, fnok0⟩
  f_deepest := let ⟨fd, F⟩ := D.f_deepest; ⟨fd, F, fnok0⟩
  f_Termu_initu := let ⟨fd, F⟩ := D.f_Termu_initu; ⟨fd, F, fnok0⟩
  f_Termu_equ := let ⟨fd, F⟩ := D.f_Termu_equ; ⟨fd, F, fnok0⟩
  f_Termu_stru := let ⟨fd, F⟩ := D.f_Termu_stru; ⟨fd, F, fnok0⟩
  f_name := let ⟨fd, F⟩ := D.f_name; ⟨fd, F, fnok0⟩
  f_fun := let ⟨fd, F⟩ := D.f_fun; ⟨fd, F, fnok0⟩
  f_put := let ⟨fd, F⟩ := D.f_put; ⟨fd, F, fnok0⟩
  f_tree_at := let ⟨fd, F⟩ := D.f_tree_at; ⟨fd, F, fnokX0⟩
  f_kind_at := let ⟨fd, F⟩ := D.f_kind_at; ⟨fd, F, fnokX0⟩
  f_part_at := let ⟨fd, F⟩ := D.f_part_at; ⟨fd, F, fnokX0⟩
  f__law_mixed := let ⟨fd, F⟩ := D.f__law_mixed; ⟨fd, F, fnok0⟩
  f__law_purse := let ⟨fd, F⟩ := D.f__law_purse; ⟨fd, F, fnok0⟩
  f__law_take := let ⟨fd, F⟩ := D.f__law_take; ⟨fd, F, fnok0⟩
  f__law_at := let ⟨fd, F⟩ := D.f__law_at; ⟨fd, F, fnok0⟩
  f__law_free := let ⟨fd, F⟩ := D.f__law_free; ⟨fd, F, fnok0⟩
  f__law_words := let ⟨fd, F⟩ := D.f__law_words; ⟨fd, F, fnok0⟩
  f__law_written := let ⟨fd, F⟩ := D.f__law_written; ⟨fd, F, fnok0⟩
  f__law_text := let ⟨fd, F⟩ := D.f__law_text; ⟨fd, F, fnok0⟩
  f__law_leaf := let ⟨fd, F⟩ := D.f__law_leaf; ⟨fd, F, fnok0⟩
  f__law_drawn := let ⟨fd, F⟩ := D.f__law_drawn; ⟨fd, F, fnok0⟩
  f__law_lively := let ⟨fd, F⟩ := D.f__law_lively; ⟨fd, F, fnok0⟩
  f__law_used := let ⟨fd, F⟩ := D.f__law_used; ⟨fd, F, fnok0⟩
  f__law_binder := let ⟨fd, F⟩ := D.f__law_binder; ⟨fd, F, fnok0⟩
  f__law_named := let ⟨fd, F⟩ := D.f__law_named; ⟨fd, F, fnok0⟩
  f__law_made := let ⟨fd, F⟩ := D.f__law_made; ⟨fd, F, fnok0⟩
  f__law_named_text := let ⟨fd, F⟩ := D.f__law_named_text; ⟨fd, F, fnok0⟩
  f__law_class := let ⟨fd, F⟩ := D.f__law_class; ⟨fd, F, fnok0⟩
  f__law_opened := let ⟨fd, F⟩ := D.f__law_opened; ⟨fd, F, fnok0⟩
  f__law_part := let ⟨fd, F⟩ := D.f__law_part; ⟨fd, F, fnok0⟩
  f__law_all := let ⟨fd, F⟩ := D.f__law_all; ⟨fd, F, fnok0⟩
  f__law_caught := let ⟨fd, F⟩ := D.f__law_caught; ⟨fd, F, fnok0⟩
  f_law := let ⟨fd, F⟩ := D.f_law; ⟨fd, F, fnok0⟩
  lf := ⟨fun lf st h => by
    rcases G.nf lf st h with ⟨rfl, rfl⟩ | ⟨rfl, rfl⟩
    · exact ⟨[(Str.ofString "part"), (Str.ofString "depth")], fun args S r h => (by cases h), fun f cl cd => lfok0⟩
    · exact ⟨[(Str.ofString "part"), (Str.ofString "depth")], fun args S r h => (by cases h), fun f cl cd => lfok0⟩
    ⟩
theorem alS (G : Gf w K mg W) (hK : W.K = K) (TB_fun : TabB base mg (He.codeOf K ("fun", none)) (He.tabOf K (He.codeOf K ("fun", none)))) (hT_fun : (He.tabOf K (He.codeOf K ("fun", none)), fun _ _ => (("fun" : Str) ++ (".<locals>." : Str)) ++ ("leaf" : Str)) ∈ W.T) (hU_fun : ∀ q ∈ W.T, q.1 = He.tabOf K (He.codeOf K ("fun", none)) → q.2 = fun _ _ => (("fun" : Str) ++ (".<locals>." : Str)) ++ ("leaf" : Str)) (TB_part_at : TabB base mg (He.codeOf K ("part_at", none)) (He.tabOf K (He.codeOf K ("part_at", none)))) (hT_part_at : (He.tabOf K (He.codeOf K ("part_at", none)), fun _ _ => (("part_at" : Str) ++ (".<locals>." : Str)) ++ ("leaf" : Str)) ∈ W.T) (hU_part_at : ∀ q ∈ W.T, q.1 = He.tabOf K (He.codeOf K ("part_at", none)) → q.2 = fun _ _ => (("part_at" : Str) ++ (".<locals>." : Str)) ++ ("leaf" : Str)) (A : Al P w K mg base W d) (B : Al P w K mg base W (d - 1)) : Al P w K mg base W (d + 1) := by
  have C := cf_of G A B
  exact {
    f_look_word := let ⟨fd, F, _⟩ := A.f_look_word; ⟨fd, F, d_look_word G C hK F⟩
    f_word_number := let ⟨fd, F, _⟩ := A.f_word_number; ⟨fd, F, d_word_number G C hK F⟩
    f_free_in := let ⟨fd, F, _⟩ := A.f_free_in; ⟨fd, F, d_free_in G C hK F⟩
    f_addresses_in := let ⟨fd, F, _⟩ := A.f_addresses_in; ⟨fd, F, d_addresses_in G C hK F⟩
    f_changed := let ⟨fd, F, _⟩ := A.f_changed; ⟨fd, F, d_changed G C hK F⟩
    f_fresh_words := let ⟨fd, F, _⟩ := A.f_fresh_words; ⟨fd, F, d_fresh_words G C hK F⟩
    f_written := let ⟨fd, F, _⟩ := A.f_written; ⟨fd, F, d_written G C hK F⟩
    f_deepest := let ⟨fd, F, _⟩ := A.f_deepest; ⟨fd, F, d_deepest G C hK F⟩
    f_Termu_initu := let ⟨fd, F, _⟩ := A.f_Termu_initu; ⟨fd, F, d_Termu_initu G C hK F⟩
    f_Termu_equ := let ⟨fd, F, _⟩ := A.f_Termu_equ; ⟨fd, F, d_Termu_equ G C hK F⟩
    f_Termu_stru := let ⟨fd, F, _⟩ := A.f_Termu_stru; ⟨fd, F, d_Termu_stru G C hK F⟩
    f_name := let ⟨fd, F, _⟩ := A.f_name; ⟨fd, F, d_name G C hK F⟩
    f_fun := let ⟨fd, F, _⟩ := A.f_fun; ⟨fd, F, d_fun G C hK TB_fun rfl hT_fun hU_fun F⟩
    f_put := let ⟨fd, F, _⟩ := A.f_put; ⟨fd, F, d_put G C hK F⟩
    f_tree_at := let ⟨fd, F, _⟩ := A.f_tree_at; ⟨fd, F, d_tree_at G C hK F⟩
    f_kind_at := let ⟨fd, F, _⟩ := A.f_kind_at; ⟨fd, F, d_kind_at G C hK F⟩
    f_part_at := let ⟨fd, F, _⟩ := A.f_part_at; ⟨fd, F, d_part_at G C hK TB_part_at rfl hT_part_at hU_part_at F⟩
    f__law_mixed := let ⟨fd, F, _⟩ := A.f__law_mixed; ⟨fd, F, d__law_mixed G C hK F⟩
    f__law_purse := let ⟨fd, F, _⟩ := A.f__law_purse; ⟨fd, F, d__law_purse G C hK F⟩
    f__law_take := let ⟨fd, F, _⟩ := A.f__law_take; ⟨fd, F, d__law_take G C hK F⟩
    f__law_at := let ⟨fd, F, _⟩ := A.f__law_at; ⟨fd, F, d__law_at G C hK F⟩
    f__law_free := let ⟨fd, F, _⟩ := A.f__law_free; ⟨fd, F, d__law_free G C hK F⟩
    f__law_words := let ⟨fd, F, _⟩ := A.f__law_words; ⟨fd, F, d__law_words G C hK F⟩
    f__law_written := let ⟨fd, F, _⟩ := A.f__law_written; ⟨fd, F, d__law_written G C hK F⟩
    f__law_text := let ⟨fd, F, _⟩ := A.f__law_text; ⟨fd, F, d__law_text G C hK F⟩
    f__law_leaf := let ⟨fd, F, _⟩ := A.f__law_leaf; ⟨fd, F, d__law_leaf G C hK F⟩
    f__law_drawn := let ⟨fd, F, _⟩ := A.f__law_drawn; ⟨fd, F, d__law_drawn G C hK F⟩
    f__law_lively := let ⟨fd, F, _⟩ := A.f__law_lively; ⟨fd, F, d__law_lively G C hK F⟩
    f__law_used := let ⟨fd, F, _⟩ := A.f__law_used; ⟨fd, F, d__law_used G C hK F⟩
    f__law_binder := let ⟨fd, F, _⟩ := A.f__law_binder; ⟨fd, F, d__law_binder G C hK F⟩
    f__law_named := let ⟨fd, F, _⟩ := A.f__law_named; ⟨fd, F, d__law_named G C hK F⟩
    f__law_made := let ⟨fd, F, _⟩ := A.f__law_made; ⟨fd, F, d__law_made G C hK F⟩
    f__law_named_text := let ⟨fd, F, _⟩ := A.f__law_named_text; ⟨fd, F, d__law_named_text G C hK F⟩
    f__law_class := let ⟨fd, F, _⟩ := A.f__law_class; ⟨fd, F, d__law_class G C hK F⟩
    f__law_opened := let ⟨fd, F, _⟩ := A.f__law_opened; ⟨fd, F, d__law_opened G C hK F⟩
    f__law_part := let ⟨fd, F, _⟩ := A.f__law_part; ⟨fd, F, d__law_part G C hK F⟩
    f__law_all := let ⟨fd, F, _⟩ := A.f__law_all; ⟨fd, F, d__law_all G C hK F⟩
    f__law_caught := let ⟨fd, F, _⟩ := A.f__law_caught; ⟨fd, F, d__law_caught G C hK F⟩
    f_law := let ⟨fd, F, _⟩ := A.f_law; ⟨fd, F, d_law G C hK F⟩
    lf := ⟨fun lf st h => by
      rcases G.nf lf st h with ⟨rfl, rfl⟩ | ⟨rfl, rfl⟩
      · exact ⟨[(Str.ofString "part"), (Str.ofString "depth")], fun args S r h => callF_len (fn := f_fun_leaf) rfl h, fun f cl cd => d_fun_leaf G C hK⟩
      · exact ⟨[(Str.ofString "part"), (Str.ofString "depth")], fun args S r h => callF_len (fn := f_part_at_leaf) rfl h, fun f cl cd => d_part_at_leaf G C hK⟩
      ⟩ }
theorem all (G : Gf w K mg W) (hK : W.K = K) (TB_fun : TabB base mg (He.codeOf K ("fun", none)) (He.tabOf K (He.codeOf K ("fun", none)))) (hT_fun : (He.tabOf K (He.codeOf K ("fun", none)), fun _ _ => (("fun" : Str) ++ (".<locals>." : Str)) ++ ("leaf" : Str)) ∈ W.T) (hU_fun : ∀ q ∈ W.T, q.1 = He.tabOf K (He.codeOf K ("fun", none)) → q.2 = fun _ _ => (("fun" : Str) ++ (".<locals>." : Str)) ++ ("leaf" : Str)) (TB_part_at : TabB base mg (He.codeOf K ("part_at", none)) (He.tabOf K (He.codeOf K ("part_at", none)))) (hT_part_at : (He.tabOf K (He.codeOf K ("part_at", none)), fun _ _ => (("part_at" : Str) ++ (".<locals>." : Str)) ++ ("leaf" : Str)) ∈ W.T) (hU_part_at : ∀ q ∈ W.T, q.1 = He.tabOf K (He.codeOf K ("part_at", none)) → q.2 = fun _ _ => (("part_at" : Str) ++ (".<locals>." : Str)) ++ ("leaf" : Str)) (D : Fs K) : ∀ d, Al P w K mg base W d ∧ Al P w K mg base W (d - 1)
  | 0 => ⟨al0 G D, al0 G D⟩
  | d + 1 => let ⟨A, B⟩ := all G hK TB_fun hT_fun hU_fun TB_part_at hT_part_at hU_part_at D d; ⟨alS G hK TB_fun hT_fun hU_fun TB_part_at hT_part_at hU_part_at A B, A⟩
end
end K03

set_option Elab.async false
set_option linter.all false
set_option maxRecDepth 100000
set_option maxHeartbeats 0
namespace K03
open PySem PySem.Spec PyProof.Rows L2 NdefX LamX Fw
def fn : List He.DefD := [dd_look_word, dd_word_number, dd_free_in, dd_addresses_in, dd_changed, dd_fresh_words, dd_written, dd_deepest, dd_Termu_initu, dd_Termu_equ, dd_Termu_stru, dd_name, dd_fun, dd_put, dd_tree_at, dd_kind_at, dd_part_at, dd__law_mixed, dd__law_purse, dd__law_take, dd__law_at, dd__law_free, dd__law_words, dd__law_written, dd__law_text, dd__law_leaf, dd__law_drawn, dd__law_lively, dd__law_used, dd__law_binder, dd__law_named, dd__law_made, dd__law_named_text, dd__law_class, dd__law_opened, dd__law_part, dd__law_all, dd__law_caught, dd_law]
def fa : List He.Fa := [.glo (Str.ofString "look_word"), .glo (Str.ofString "word_number"), .glo (Str.ofString "free_in"), .glo (Str.ofString "addresses_in"), .glo (Str.ofString "changed"), .glo (Str.ofString "fresh_words"), .glo (Str.ofString "written"), .glo (Str.ofString "deepest"), .glo (Str.ofString "name"), .glo (Str.ofString "fun"), .glo (Str.ofString "put"), .glo (Str.ofString "tree_at"), .glo (Str.ofString "kind_at"), .glo (Str.ofString "part_at"), .glo (Str.ofString "_law_mixed"), .glo (Str.ofString "_law_purse"), .glo (Str.ofString "_law_take"), .glo (Str.ofString "_law_at"), .glo (Str.ofString "_law_free"), .glo (Str.ofString "_law_words"), .glo (Str.ofString "_law_written"), .glo (Str.ofString "_law_text"), .glo (Str.ofString "_law_leaf"), .glo (Str.ofString "_law_drawn"), .glo (Str.ofString "_law_lively"), .glo (Str.ofString "_law_used"), .glo (Str.ofString "_law_binder"), .glo (Str.ofString "_law_named"), .glo (Str.ofString "_law_made"), .glo (Str.ofString "_law_named_text"), .glo (Str.ofString "_law_class"), .glo (Str.ofString "_law_opened"), .glo (Str.ofString "_law_part"), .glo (Str.ofString "_law_all"), .glo (Str.ofString "_law_caught"), .glo (Str.ofString "law"), .free (Str.ofString "ValueError"), .free (Str.ofString "all"), .free (Str.ofString "divmod"), .free (Str.ofString "int"), .free (Str.ofString "isinstance"), .free (Str.ofString "len"), .free (Str.ofString "list"), .free (Str.ofString "max"), .free (Str.ofString "str"), .str (Str.ofString "LETTERS") (Str.ofString "abcdefghijklmnopqrstuvwxyz"), .int (Str.ofString "MOST_SIGNS") 8, .cls (Str.ofString "Term"), .glo (Str.ofString "Term"), .glo (Str.ofString "NoAddress"), .glo (Str.ofString "NoBack"), .glo (Str.ofString "NoKnot"), .glo (Str.ofString "NoLine"), .glo (Str.ofString "NoMeeting"), .glo (Str.ofString "NoName"), .glo (Str.ofString "NoNumber"), .glo (Str.ofString "NoRedex"), .glo (Str.ofString "NoText"), .glo (Str.ofString "NoWord"), .glo (Str.ofString "NotDone"), .glo (Str.ofString "SpinError"), .glo (Str.ofString "TooLong"), .noat (Str.ofString "Term") (Str.ofString "tree"), .mkr (Str.ofString "Term"), .meth (Str.ofString "Term") (Str.ofString "__eq__"), .meth (Str.ofString "Term") (Str.ofString "__str__")]
def tf : List He.Defn := [("fun", none), ("part_at", none)]
abbrev R : PySem.W.OpenRow := PySem.W.OpenLaw.row PySem.Challenge.rw_fanweave_k03_parts_of_terms
def ts : List He.Tab := []
def exk (K : PySem.W.Frag) : Bool := clsQB K (He.ga K "Term") && (decide (He.tabOf K (He.codeOf K ("fun", none)) ≠ He.tabOf K (He.codeOf K ("part_at", none))) && (decide (He.tabOf K (He.codeOf K ("part_at", none)) ≠ He.tabOf K (He.codeOf K ("fun", none))) && (xcls0B K (He.ga K "NoAddress") && (xisB K (He.ga K "NoAddress") && (decide (PySem.W.kitOne K (.ref (He.ga K "NoAddress")) (.ref (He.ga K "NoAddress")) = some true) && (decide (PySem.W.kitOne K (.ref (He.ga K "NoAddress")) (.ref (He.ga K "NoBack")) = some false) && (decide (PySem.W.kitOne K (.ref (He.ga K "NoAddress")) (.ref (He.ga K "NoKnot")) = some false) && (decide (PySem.W.kitOne K (.ref (He.ga K "NoAddress")) (.ref (He.ga K "NoLine")) = some false) && (decide (PySem.W.kitOne K (.ref (He.ga K "NoAddress")) (.ref (He.ga K "NoMeeting")) = some false) && (decide (PySem.W.kitOne K (.ref (He.ga K "NoAddress")) (.ref (He.ga K "NoName")) = some false) && (decide (PySem.W.kitOne K (.ref (He.ga K "NoAddress")) (.ref (He.ga K "NoNumber")) = some false) && (decide (PySem.W.kitOne K (.ref (He.ga K "NoAddress")) (.ref (He.ga K "NoRedex")) = some false) && (decide (PySem.W.kitOne K (.ref (He.ga K "NoAddress")) (.ref (He.ga K "NoText")) = some false) && (decide (PySem.W.kitOne K (.ref (He.ga K "NoAddress")) (.ref (He.ga K "NoWord")) = some false) && (decide (PySem.W.kitOne K (.ref (He.ga K "NoAddress")) (.ref (He.ga K "NotDone")) = some false) && (decide (PySem.W.kitOne K (.ref (He.ga K "NoAddress")) (.ref (He.ga K "SpinError")) = some true) && (decide (PySem.W.kitOne K (.ref (He.ga K "NoAddress")) (.ref (He.ga K "TooLong")) = some false) && (decide (PySem.W.kitOne K (.ref (He.ga K "NoAddress")) (.type "ValueError") = some true) && (decide (PySem.W.exmOne K (.ref (He.ga K "NoAddress")) (.ref (He.ga K "SpinError")) = some true))))))))))))))))))))
abbrev hk : PySem.W.Hook := He.hookX 5 fa fn ts tf exk
def ob (s : PySem.W.SharedT) : He.AlX := He.obsX 5 fa fn ts tf exk (HandSHeadRun.getT s)
theorem ob_eq (s : PySem.W.SharedT) : ob s = hk.obs s.abs := He.obsX_eq (HandSHeadRun.getT_eq s)
def names0 : List Str := [(Str.ofString "_wall"), (Str.ofString "SpinError"), (Str.ofString "NoWord"), (Str.ofString "NoAddress"), (Str.ofString "NoRedex"), (Str.ofString "NotDone"), (Str.ofString "NoBack"), (Str.ofString "NoMeeting"), (Str.ofString "NoKnot"), (Str.ofString "NoNumber"), (Str.ofString "NoLine"), (Str.ofString "NoText"), (Str.ofString "TooLong"), (Str.ofString "NoName"), (Str.ofString "MOST_SIGNS"), (Str.ofString "LETTERS"), (Str.ofString "look_word"), (Str.ofString "word_number"), (Str.ofString "free_in"), (Str.ofString "addresses_in"), (Str.ofString "changed"), (Str.ofString "fresh_words"), (Str.ofString "written"), (Str.ofString "deepest"), (Str.ofString "Term"), (Str.ofString "name"), (Str.ofString "fun"), (Str.ofString "put"), (Str.ofString "tree_at"), (Str.ofString "kind_at")]
def names1 : List Str := [(Str.ofString "part_at"), (Str.ofString "_law_mixed"), (Str.ofString "_law_purse"), (Str.ofString "_law_take"), (Str.ofString "_law_at"), (Str.ofString "_law_free"), (Str.ofString "_law_words"), (Str.ofString "_law_written"), (Str.ofString "_law_text"), (Str.ofString "_law_leaf"), (Str.ofString "_law_drawn"), (Str.ofString "_law_lively"), (Str.ofString "_law_used"), (Str.ofString "_law_binder"), (Str.ofString "_law_named"), (Str.ofString "_law_made"), (Str.ofString "_law_named_text"), (Str.ofString "_law_class"), (Str.ofString "_law_opened"), (Str.ofString "_law_part"), (Str.ofString "_law_all"), (Str.ofString "_law_caught")]
def names : List Str := names0 ++ names1
theorem run (w : World) : HandSHeadRun.RunEq R (PySem.W.view R.prog [55]) hk ob 9000 names w := by
  intro os
  kernel_rfl
end K03

set_option Elab.async false
set_option linter.all false
set_option maxRecDepth 100000
set_option maxHeartbeats 0
namespace K03
open PySem PySem.Spec PyProof.Rows L2 NdefX LamX Fw
def Wk (K : PySem.W.Frag) (sa : Option Addr) : Wd := ⟨K, fun _ => none, fun c => if c = (Str.ofString "Term") then some (He.ga K (Str.ofString "Term")) else none, sa, [(He.tabOf K (He.codeOf K ("fun", none)), fun _ _ => (("fun" : Str) ++ (".<locals>." : Str)) ++ ("leaf" : Str)), (He.tabOf K (He.codeOf K ("part_at", none)), fun _ _ => (("part_at" : Str) ++ (".<locals>." : Str)) ++ ("leaf" : Str))], fun lf => if lf = (Str.ofString "fun.leaf") then some st_fun_leaf else if lf = (Str.ofString "part_at.leaf") then some st_part_at_leaf else none, fun c => if c = (Str.ofString "NoAddress") then some (He.ga K (Str.ofString "NoAddress")) else none⟩
section
variable {K : PySem.W.Frag} {h : Heap} {mg : Str → Option Value}
theorem wk_ca {sa : Option Addr} {c : Str} {C : Addr} (h : (Wk K sa).ca c = some C) : (c = "Term" ∧ C = He.ga K "Term") := by
  unfold Wk at h
  dsimp only at h
  by_cases h0 : c = (Str.ofString "Term")
  · rw [if_pos h0] at h
    exact ⟨h0, (Option.some.inj h).symm⟩
  rw [if_neg h0] at h
  cases h
theorem wk_xa {sa : Option Addr} {c : Str} {C : Addr} (h : (Wk K sa).xa c = some C) : (c = "NoAddress" ∧ C = He.ga K "NoAddress") := by
  unfold Wk at h
  dsimp only at h
  by_cases h0 : c = (Str.ofString "NoAddress")
  · rw [if_pos h0] at h
    exact ⟨h0, (Option.some.inj h).symm⟩
  rw [if_neg h0] at h
  cases h
theorem gf (X : K.In h) (G : h.Ns mainGlobals mg) {w : World} (c : He.SaysD fa fn K) (ct : He.SaysT fa fn ts w K) (hx : exk K = true) (sa : Option Addr) : Gf w K mg (Wk K sa) where
  ca := fun _ _ h => wk_ca h
  ca_Term := by unfold Wk; dsimp only; rw [if_pos rfl]
  cls := fun cl C h => by
    rcases wk_ca h with ⟨rfl, rfl⟩
    · exact He.cls_ok (c.fact 47 (f := .cls (Str.ofString "Term")) rfl)
  q := fun cl C h => by
    rcases wk_ca h with ⟨rfl, rfl⟩
    · exact clsQ_ok (Bool.and_eq_true_iff.mp hx).1
  n_tree := fun cl C h hm => by
    rcases wk_ca h with ⟨rfl, rfl⟩
    · exact He.noat_ok (c.fact 62 (f := .noat (Str.ofString "Term") (Str.ofString "tree")) rfl)
  k_LETTERS := He.str_ok X G (c.fact 45 (f := .str (Str.ofString "LETTERS") (Str.ofString "abcdefghijklmnopqrstuvwxyz")) rfl)
  k_MOST_SIGNS := He.int_ok X G (c.fact 46 (f := .int (Str.ofString "MOST_SIGNS") 8) rfl)
  gx_NoAddress := He.glo_ok X G (c.fact 49 (f := .glo (Str.ofString "NoAddress")) rfl)
  gx_NoBack := He.glo_ok X G (c.fact 50 (f := .glo (Str.ofString "NoBack")) rfl)
  gx_NoKnot := He.glo_ok X G (c.fact 51 (f := .glo (Str.ofString "NoKnot")) rfl)
  gx_NoLine := He.glo_ok X G (c.fact 52 (f := .glo (Str.ofString "NoLine")) rfl)
  gx_NoMeeting := He.glo_ok X G (c.fact 53 (f := .glo (Str.ofString "NoMeeting")) rfl)
  gx_NoName := He.glo_ok X G (c.fact 54 (f := .glo (Str.ofString "NoName")) rfl)
  gx_NoNumber := He.glo_ok X G (c.fact 55 (f := .glo (Str.ofString "NoNumber")) rfl)
  gx_NoRedex := He.glo_ok X G (c.fact 56 (f := .glo (Str.ofString "NoRedex")) rfl)
  gx_NoText := He.glo_ok X G (c.fact 57 (f := .glo (Str.ofString "NoText")) rfl)
  gx_NoWord := He.glo_ok X G (c.fact 58 (f := .glo (Str.ofString "NoWord")) rfl)
  gx_NotDone := He.glo_ok X G (c.fact 59 (f := .glo (Str.ofString "NotDone")) rfl)
  gx_SpinError := He.glo_ok X G (c.fact 60 (f := .glo (Str.ofString "SpinError")) rfl)
  gx_TooLong := He.glo_ok X G (c.fact 61 (f := .glo (Str.ofString "TooLong")) rfl)
  xa_NoAddress := by unfold Wk; dsimp only; rw [if_pos rfl]
  x0_NoAddress := xcls0_ok (Bool.and_eq_true_iff.mp (Bool.and_eq_true_iff.mp (Bool.and_eq_true_iff.mp (Bool.and_eq_true_iff.mp hx).2).2).2).1
  xT := fun cl C h => by
    rcases wk_xa h with ⟨rfl, rfl⟩
    · exact xis_ok (Bool.and_eq_true_iff.mp (Bool.and_eq_true_iff.mp (Bool.and_eq_true_iff.mp (Bool.and_eq_true_iff.mp (Bool.and_eq_true_iff.mp hx).2).2).2).2).1
  xk_NoAddress := fun cl C b h hb => by
    rcases wk_xa h with ⟨rfl, rfl⟩
    · have e : pr.xsub "NoAddress" "NoAddress" = some true := by decide +kernel
      rw [e] at hb
      cases hb
      exact of_decide_eq_true (Bool.and_eq_true_iff.mp (Bool.and_eq_true_iff.mp (Bool.and_eq_true_iff.mp (Bool.and_eq_true_iff.mp (Bool.and_eq_true_iff.mp (Bool.and_eq_true_iff.mp hx).2).2).2).2).2).1
  xk_NoBack := fun cl C b h hb => by
    rcases wk_xa h with ⟨rfl, rfl⟩
    · have e : pr.xsub "NoAddress" "NoBack" = some false := by decide +kernel
      rw [e] at hb
      cases hb
      exact of_decide_eq_true (Bool.and_eq_true_iff.mp (Bool.and_eq_true_iff.mp (Bool.and_eq_true_iff.mp (Bool.and_eq_true_iff.mp (Bool.and_eq_true_iff.mp (Bool.and_eq_true_iff.mp (Bool.and_eq_true_iff.mp hx).2).2).2).2).2).2).1
  xk_NoKnot := fun cl C b h hb => by
    rcases wk_xa h with ⟨rfl, rfl⟩
    · have e : pr.xsub "NoAddress" "NoKnot" = some false := by decide +kernel
      rw [e] at hb
      cases hb
      exact of_decide_eq_true (Bool.and_eq_true_iff.mp (Bool.and_eq_true_iff.mp (Bool.and_eq_true_iff.mp (Bool.and_eq_true_iff.mp (Bool.and_eq_true_iff.mp (Bool.and_eq_true_iff.mp (Bool.and_eq_true_iff.mp (Bool.and_eq_true_iff.mp hx).2).2).2).2).2).2).2).1
  xk_NoLine := fun cl C b h hb => by
    rcases wk_xa h with ⟨rfl, rfl⟩
    · have e : pr.xsub "NoAddress" "NoLine" = some false := by decide +kernel
      rw [e] at hb
      cases hb
      exact of_decide_eq_true (Bool.and_eq_true_iff.mp (Bool.and_eq_true_iff.mp (Bool.and_eq_true_iff.mp (Bool.and_eq_true_iff.mp (Bool.and_eq_true_iff.mp (Bool.and_eq_true_iff.mp (Bool.and_eq_true_iff.mp (Bool.and_eq_true_iff.mp (Bool.and_eq_true_iff.mp hx).2).2).2).2).2).2).2).2).1
  xk_NoMeeting := fun cl C b h hb => by
    rcases wk_xa h with ⟨rfl, rfl⟩
    · have e : pr.xsub "NoAddress" "NoMeeting" = some false := by decide +kernel
      rw [e] at hb
      cases hb
      exact of_decide_eq_true (Bool.and_eq_true_iff.mp (Bool.and_eq_true_iff.mp (Bool.and_eq_true_iff.mp (Bool.and_eq_true_iff.mp (Bool.and_eq_true_iff.mp (Bool.and_eq_true_iff.mp (Bool.and_eq_true_iff.mp (Bool.and_eq_true_iff.mp (Bool.and_eq_true_iff.mp (Bool.and_eq_true_iff.mp hx).2).2).2).2).2).2).2).2).2).1
  xk_NoName := fun cl C b h hb => by
    rcases wk_xa h with ⟨rfl, rfl⟩
    · have e : pr.xsub "NoAddress" "NoName" = some false := by decide +kernel
      rw [e] at hb
      cases hb
      exact of_decide_eq_true (Bool.and_eq_true_iff.mp (Bool.and_eq_true_iff.mp (Bool.and_eq_true_iff.mp (Bool.and_eq_true_iff.mp (Bool.and_eq_true_iff.mp (Bool.and_eq_true_iff.mp (Bool.and_eq_true_iff.mp (Bool.and_eq_true_iff.mp (Bool.and_eq_true_iff.mp (Bool.and_eq_true_iff.mp (Bool.and_eq_true_iff.mp hx).2).2).2).2).2).2).2).2).2).2).1
  xk_NoNumber := fun cl C b h hb => by
    rcases wk_xa h with ⟨rfl, rfl⟩
    · have e : pr.xsub "NoAddress" "NoNumber" = some false := by decide +kernel
      rw [e] at hb
      cases hb
      exact of_decide_eq_true (Bool.and_eq_true_iff.mp (Bool.and_eq_true_iff.mp (Bool.and_eq_true_iff.mp (Bool.and_eq_true_iff.mp (Bool.and_eq_true_iff.mp (Bool.and_eq_true_iff.mp (Bool.and_eq_true_iff.mp (Bool.and_eq_true_iff.mp (Bool.and_eq_true_iff.mp (Bool.and_eq_true_iff.mp (Bool.and_eq_true_iff.mp (Bool.and_eq_true_iff.mp hx).2).2).2).2).2).2).2).2).2).2).2).1
  xk_NoRedex := fun cl C b h hb => by
    rcases wk_xa h with ⟨rfl, rfl⟩
    · have e : pr.xsub "NoAddress" "NoRedex" = some false := by decide +kernel
      rw [e] at hb
      cases hb
      exact of_decide_eq_true (Bool.and_eq_true_iff.mp (Bool.and_eq_true_iff.mp (Bool.and_eq_true_iff.mp (Bool.and_eq_true_iff.mp (Bool.and_eq_true_iff.mp (Bool.and_eq_true_iff.mp (Bool.and_eq_true_iff.mp (Bool.and_eq_true_iff.mp (Bool.and_eq_true_iff.mp (Bool.and_eq_true_iff.mp (Bool.and_eq_true_iff.mp (Bool.and_eq_true_iff.mp (Bool.and_eq_true_iff.mp hx).2).2).2).2).2).2).2).2).2).2).2).2).1
  xk_NoText := fun cl C b h hb => by
    rcases wk_xa h with ⟨rfl, rfl⟩
    · have e : pr.xsub "NoAddress" "NoText" = some false := by decide +kernel
      rw [e] at hb
      cases hb
      exact of_decide_eq_true (Bool.and_eq_true_iff.mp (Bool.and_eq_true_iff.mp (Bool.and_eq_true_iff.mp (Bool.and_eq_true_iff.mp (Bool.and_eq_true_iff.mp (Bool.and_eq_true_iff.mp (Bool.and_eq_true_iff.mp (Bool.and_eq_true_iff.mp (Bool.and_eq_true_iff.mp (Bool.and_eq_true_iff.mp (Bool.and_eq_true_iff.mp (Bool.and_eq_true_iff.mp (Bool.and_eq_true_iff.mp (Bool.and_eq_true_iff.mp hx).2).2).2).2).2).2).2).2).2).2).2).2).2).1
  xk_NoWord := fun cl C b h hb => by
    rcases wk_xa h with ⟨rfl, rfl⟩
    · have e : pr.xsub "NoAddress" "NoWord" = some false := by decide +kernel
      rw [e] at hb
      cases hb
      exact of_decide_eq_true (Bool.and_eq_true_iff.mp (Bool.and_eq_true_iff.mp (Bool.and_eq_true_iff.mp (Bool.and_eq_true_iff.mp (Bool.and_eq_true_iff.mp (Bool.and_eq_true_iff.mp (Bool.and_eq_true_iff.mp (Bool.and_eq_true_iff.mp (Bool.and_eq_true_iff.mp (Bool.and_eq_true_iff.mp (Bool.and_eq_true_iff.mp (Bool.and_eq_true_iff.mp (Bool.and_eq_true_iff.mp (Bool.and_eq_true_iff.mp (Bool.and_eq_true_iff.mp hx).2).2).2).2).2).2).2).2).2).2).2).2).2).2).1
  xk_NotDone := fun cl C b h hb => by
    rcases wk_xa h with ⟨rfl, rfl⟩
    · have e : pr.xsub "NoAddress" "NotDone" = some false := by decide +kernel
      rw [e] at hb
      cases hb
      exact of_decide_eq_true (Bool.and_eq_true_iff.mp (Bool.and_eq_true_iff.mp (Bool.and_eq_true_iff.mp (Bool.and_eq_true_iff.mp (Bool.and_eq_true_iff.mp (Bool.and_eq_true_iff.mp (Bool.and_eq_true_iff.mp (Bool.and_eq_true_iff.mp (Bool.and_eq_true_iff.mp (Bool.and_eq_true_iff.mp (Bool.and_eq_true_iff.mp (Bool.and_eq_true_iff.mp (Bool.and_eq_true_iff.mp (Bool.and_eq_true_iff.mp (Bool.and_eq_true_iff.mp (Bool.and_eq_true_iff.mp hx).2).2).2).2).2).2).2).2).2).2).2).2).2).2).2).1
  xk_SpinError := fun cl C b h hb => by
    rcases wk_xa h with ⟨rfl, rfl⟩
    · have e : pr.xsub "NoAddress" "SpinError" = some true := by decide +kernel
      rw [e] at hb
      cases hb
      exact of_decide_eq_true (Bool.and_eq_true_iff.mp (Bool.and_eq_true_iff.mp (Bool.and_eq_true_iff.mp (Bool.and_eq_true_iff.mp (Bool.and_eq_true_iff.mp (Bool.and_eq_true_iff.mp (Bool.and_eq_true_iff.mp (Bool.and_eq_true_iff.mp (Bool.and_eq_true_iff.mp (Bool.and_eq_true_iff.mp (Bool.and_eq_true_iff.mp (Bool.and_eq_true_iff.mp (Bool.and_eq_true_iff.mp (Bool.and_eq_true_iff.mp (Bool.and_eq_true_iff.mp (Bool.and_eq_true_iff.mp (Bool.and_eq_true_iff.mp hx).2).2).2).2).2).2).2).2).2).2).2).2).2).2).2).2).1
  xk_TooLong := fun cl C b h hb => by
    rcases wk_xa h with ⟨rfl, rfl⟩
    · have e : pr.xsub "NoAddress" "TooLong" = some false := by decide +kernel
      rw [e] at hb
      cases hb
      exact of_decide_eq_true (Bool.and_eq_true_iff.mp (Bool.and_eq_true_iff.mp (Bool.and_eq_true_iff.mp (Bool.and_eq_true_iff.mp (Bool.and_eq_true_iff.mp (Bool.and_eq_true_iff.mp (Bool.and_eq_true_iff.mp (Bool.and_eq_true_iff.mp (Bool.and_eq_true_iff.mp (Bool.and_eq_true_iff.mp (Bool.and_eq_true_iff.mp (Bool.and_eq_true_iff.mp (Bool.and_eq_true_iff.mp (Bool.and_eq_true_iff.mp (Bool.and_eq_true_iff.mp (Bool.and_eq_true_iff.mp (Bool.and_eq_true_iff.mp (Bool.and_eq_true_iff.mp hx).2).2).2).2).2).2).2).2).2).2).2).2).2).2).2).2).2).1
  xk_ValueError := fun cl C b h hb => by
    rcases wk_xa h with ⟨rfl, rfl⟩
    · have e : pr.xsub "NoAddress" "ValueError" = some true := by decide +kernel
      rw [e] at hb
      cases hb
      exact of_decide_eq_true (Bool.and_eq_true_iff.mp (Bool.and_eq_true_iff.mp (Bool.and_eq_true_iff.mp (Bool.and_eq_true_iff.mp (Bool.and_eq_true_iff.mp (Bool.and_eq_true_iff.mp (Bool.and_eq_true_iff.mp (Bool.and_eq_true_iff.mp (Bool.and_eq_true_iff.mp (Bool.and_eq_true_iff.mp (Bool.and_eq_true_iff.mp (Bool.and_eq_true_iff.mp (Bool.and_eq_true_iff.mp (Bool.and_eq_true_iff.mp (Bool.and_eq_true_iff.mp (Bool.and_eq_true_iff.mp (Bool.and_eq_true_iff.mp (Bool.and_eq_true_iff.mp (Bool.and_eq_true_iff.mp hx).2).2).2).2).2).2).2).2).2).2).2).2).2).2).2).2).2).2).1
  xe_SpinError := fun cl C b h hb => by
    rcases wk_xa h with ⟨rfl, rfl⟩
    · have e : pr.xsub "NoAddress" "SpinError" = some true := by decide +kernel
      rw [e] at hb
      cases hb
      exact of_decide_eq_true (Bool.and_eq_true_iff.mp (Bool.and_eq_true_iff.mp (Bool.and_eq_true_iff.mp (Bool.and_eq_true_iff.mp (Bool.and_eq_true_iff.mp (Bool.and_eq_true_iff.mp (Bool.and_eq_true_iff.mp (Bool.and_eq_true_iff.mp (Bool.and_eq_true_iff.mp (Bool.and_eq_true_iff.mp (Bool.and_eq_true_iff.mp (Bool.and_eq_true_iff.mp (Bool.and_eq_true_iff.mp (Bool.and_eq_true_iff.mp (Bool.and_eq_true_iff.mp (Bool.and_eq_true_iff.mp (Bool.and_eq_true_iff.mp (Bool.and_eq_true_iff.mp (Bool.and_eq_true_iff.mp hx).2).2).2).2).2).2).2).2).2).2).2).2).2).2).2).2).2).2).2
  b_ValueError := He.free_ok X G (c.fact 36 (f := .free (Str.ofString "ValueError")) rfl)
  b_all := He.free_ok X G (c.fact 37 (f := .free (Str.ofString "all")) rfl)
  b_divmod := He.free_ok X G (c.fact 38 (f := .free (Str.ofString "divmod")) rfl)
  b_int := He.free_ok X G (c.fact 39 (f := .free (Str.ofString "int")) rfl)
  b_isinstance := He.free_ok X G (c.fact 40 (f := .free (Str.ofString "isinstance")) rfl)
  b_len := He.free_ok X G (c.fact 41 (f := .free (Str.ofString "len")) rfl)
  b_list := He.free_ok X G (c.fact 42 (f := .free (Str.ofString "list")) rfl)
  b_max := He.free_ok X G (c.fact 43 (f := .free (Str.ofString "max")) rfl)
  b_str := He.free_ok X G (c.fact 44 (f := .free (Str.ofString "str")) rfl)
  g_look_word := He.glo_ok X G (c.fact 0 (f := .glo (Str.ofString "look_word")) rfl)
  g_word_number := He.glo_ok X G (c.fact 1 (f := .glo (Str.ofString "word_number")) rfl)
  g_free_in := He.glo_ok X G (c.fact 2 (f := .glo (Str.ofString "free_in")) rfl)
  g_addresses_in := He.glo_ok X G (c.fact 3 (f := .glo (Str.ofString "addresses_in")) rfl)
  g_changed := He.glo_ok X G (c.fact 4 (f := .glo (Str.ofString "changed")) rfl)
  g_fresh_words := He.glo_ok X G (c.fact 5 (f := .glo (Str.ofString "fresh_words")) rfl)
  g_written := He.glo_ok X G (c.fact 6 (f := .glo (Str.ofString "written")) rfl)
  g_deepest := He.glo_ok X G (c.fact 7 (f := .glo (Str.ofString "deepest")) rfl)
  g_name := He.glo_ok X G (c.fact 8 (f := .glo (Str.ofString "name")) rfl)
  g_fun := He.glo_ok X G (c.fact 9 (f := .glo (Str.ofString "fun")) rfl)
  g_put := He.glo_ok X G (c.fact 10 (f := .glo (Str.ofString "put")) rfl)
  g_tree_at := He.glo_ok X G (c.fact 11 (f := .glo (Str.ofString "tree_at")) rfl)
  g_kind_at := He.glo_ok X G (c.fact 12 (f := .glo (Str.ofString "kind_at")) rfl)
  g_part_at := He.glo_ok X G (c.fact 13 (f := .glo (Str.ofString "part_at")) rfl)
  g__law_mixed := He.glo_ok X G (c.fact 14 (f := .glo (Str.ofString "_law_mixed")) rfl)
  g__law_purse := He.glo_ok X G (c.fact 15 (f := .glo (Str.ofString "_law_purse")) rfl)
  g__law_take := He.glo_ok X G (c.fact 16 (f := .glo (Str.ofString "_law_take")) rfl)
  g__law_at := He.glo_ok X G (c.fact 17 (f := .glo (Str.ofString "_law_at")) rfl)
  g__law_free := He.glo_ok X G (c.fact 18 (f := .glo (Str.ofString "_law_free")) rfl)
  g__law_words := He.glo_ok X G (c.fact 19 (f := .glo (Str.ofString "_law_words")) rfl)
  g__law_written := He.glo_ok X G (c.fact 20 (f := .glo (Str.ofString "_law_written")) rfl)
  g__law_text := He.glo_ok X G (c.fact 21 (f := .glo (Str.ofString "_law_text")) rfl)
  g__law_leaf := He.glo_ok X G (c.fact 22 (f := .glo (Str.ofString "_law_leaf")) rfl)
  g__law_drawn := He.glo_ok X G (c.fact 23 (f := .glo (Str.ofString "_law_drawn")) rfl)
  g__law_lively := He.glo_ok X G (c.fact 24 (f := .glo (Str.ofString "_law_lively")) rfl)
  g__law_used := He.glo_ok X G (c.fact 25 (f := .glo (Str.ofString "_law_used")) rfl)
  g__law_binder := He.glo_ok X G (c.fact 26 (f := .glo (Str.ofString "_law_binder")) rfl)
  g__law_named := He.glo_ok X G (c.fact 27 (f := .glo (Str.ofString "_law_named")) rfl)
  g__law_made := He.glo_ok X G (c.fact 28 (f := .glo (Str.ofString "_law_made")) rfl)
  g__law_named_text := He.glo_ok X G (c.fact 29 (f := .glo (Str.ofString "_law_named_text")) rfl)
  g__law_class := He.glo_ok X G (c.fact 30 (f := .glo (Str.ofString "_law_class")) rfl)
  g__law_opened := He.glo_ok X G (c.fact 31 (f := .glo (Str.ofString "_law_opened")) rfl)
  g__law_part := He.glo_ok X G (c.fact 32 (f := .glo (Str.ofString "_law_part")) rfl)
  g__law_all := He.glo_ok X G (c.fact 33 (f := .glo (Str.ofString "_law_all")) rfl)
  g__law_caught := He.glo_ok X G (c.fact 34 (f := .glo (Str.ofString "_law_caught")) rfl)
  g_law := He.glo_ok X G (c.fact 35 (f := .glo (Str.ofString "law")) rfl)
  mk_Term := He.mkr_ok (c.fact 63 (f := .mkr (Str.ofString "Term")) rfl)
  gc_Term := He.glo_ok X G (c.fact 48 (f := .glo (Str.ofString "Term")) rfl)
  me_Term_uequ := He.meth_ok (c.fact 64 (f := .meth (Str.ofString "Term") (Str.ofString "__eq__")) rfl)
  me_Term_ustru := He.meth_ok (c.fact 65 (f := .meth (Str.ofString "Term") (Str.ofString "__str__")) rfl)
  nf_fun_leaf := by unfold Wk; dsimp only; rw [if_pos rfl]
  nf_part_at_leaf := by unfold Wk; dsimp only; rw [if_neg (by decide +kernel)]; rw [if_pos rfl]
  nf := fun lf st h => by
    unfold Wk at h
    dsimp only at h
    by_cases h0 : lf = (Str.ofString "fun.leaf")
    · rw [if_pos h0] at h
      exact .inl ⟨h0, (Option.some.inj h).symm⟩
    rw [if_neg h0] at h
    by_cases h1 : lf = (Str.ofString "part_at.leaf")
    · rw [if_pos h1] at h
      exact .inr (⟨h1, (Option.some.inj h).symm⟩)
    rw [if_neg h1] at h
    cases h
theorem fs (c : He.SaysD fa fn K) : Fs K where
  f_look_word := c.def_ 0 (d := dd_look_word) rfl
  f_word_number := c.def_ 1 (d := dd_word_number) rfl
  f_free_in := c.def_ 2 (d := dd_free_in) rfl
  f_addresses_in := c.def_ 3 (d := dd_addresses_in) rfl
  f_changed := c.def_ 4 (d := dd_changed) rfl
  f_fresh_words := c.def_ 5 (d := dd_fresh_words) rfl
  f_written := c.def_ 6 (d := dd_written) rfl
  f_deepest := c.def_ 7 (d := dd_deepest) rfl
  f_Termu_initu := c.def_ 8 (d := dd_Termu_initu) rfl
  f_Termu_equ := c.def_ 9 (d := dd_Termu_equ) rfl
  f_Termu_stru := c.def_ 10 (d := dd_Termu_stru) rfl
  f_name := c.def_ 11 (d := dd_name) rfl
  f_fun := c.def_ 12 (d := dd_fun) rfl
  f_put := c.def_ 13 (d := dd_put) rfl
  f_tree_at := c.def_ 14 (d := dd_tree_at) rfl
  f_kind_at := c.def_ 15 (d := dd_kind_at) rfl
  f_part_at := c.def_ 16 (d := dd_part_at) rfl
  f__law_mixed := c.def_ 17 (d := dd__law_mixed) rfl
  f__law_purse := c.def_ 18 (d := dd__law_purse) rfl
  f__law_take := c.def_ 19 (d := dd__law_take) rfl
  f__law_at := c.def_ 20 (d := dd__law_at) rfl
  f__law_free := c.def_ 21 (d := dd__law_free) rfl
  f__law_words := c.def_ 22 (d := dd__law_words) rfl
  f__law_written := c.def_ 23 (d := dd__law_written) rfl
  f__law_text := c.def_ 24 (d := dd__law_text) rfl
  f__law_leaf := c.def_ 25 (d := dd__law_leaf) rfl
  f__law_drawn := c.def_ 26 (d := dd__law_drawn) rfl
  f__law_lively := c.def_ 27 (d := dd__law_lively) rfl
  f__law_used := c.def_ 28 (d := dd__law_used) rfl
  f__law_binder := c.def_ 29 (d := dd__law_binder) rfl
  f__law_named := c.def_ 30 (d := dd__law_named) rfl
  f__law_made := c.def_ 31 (d := dd__law_made) rfl
  f__law_named_text := c.def_ 32 (d := dd__law_named_text) rfl
  f__law_class := c.def_ 33 (d := dd__law_class) rfl
  f__law_opened := c.def_ 34 (d := dd__law_opened) rfl
  f__law_part := c.def_ 35 (d := dd__law_part) rfl
  f__law_all := c.def_ 36 (d := dd__law_all) rfl
  f__law_caught := c.def_ 37 (d := dd__law_caught) rfl
  f_law := c.def_ 38 (d := dd_law) rfl
end
theorem law_at (w : World) (mg : Str → Option Value) (f : Addr) (h : Heap) (K : PySem.W.Frag) (X : K.In h) (G : h.Ns mainGlobals mg) (hf : mg "law" = some (.ref f)) (c : He.SaysX fa fn ts tf exk w h K) : LawAtS PySem.Challenge.rw_fanweave_k03_parts_of_terms w K CX0 230 63 "script" mg f h := by
  have g0 := gf X G c.t.d c.t c.more none
  obtain ⟨fd, F⟩ := (fs c.t.d).f_law
  have e := hf.symm.trans g0.g_law
  cases e
  refine ⟨fd, tf.map (He.cT K), fun vs H Q E => ∃ sa, spC (Wk K sa) (callF pr 230) "law" vs H Q E, fun p hp => ?_, fun p hp => ?_, fun p hp => ?_, fun s u => ?_, fun H a ns hl hbits hT hS => ?_, fun base KX KG TB => ?_⟩
  · obtain ⟨q, hq, rfl⟩ := List.mem_map.mp hp
    exact c.empty q hq
  · obtain ⟨q, hq, rfl⟩ := List.mem_map.mp hp
    exact c.out q hq
  · obtain ⟨q, hq, rfl⟩ := List.mem_map.mp hp
    exact PySem.W.codeHd_of_K X (c.hd q hq)
  · exact F.bindsA (ps := ["script"]) (fun _ _ _ _ _ _ us hl => match us, hl with | [_], _ => rfl) s [u] rfl
  · obtain ⟨S', hlaw⟩ := law_true ns hl hbits
    exact law_start (Wk := Wk) (fun _ => ⟨rfl, rfl, rfl⟩) (fun q hq => by
      obtain ⟨p, hp, e⟩ : ∃ p ∈ tf, q.1 = (He.cT K p).2 := by
        have hq : q ∈ ([(He.tabOf K (He.codeOf K ("fun", none)), fun _ _ => (("fun" : Str) ++ (".<locals>." : Str)) ++ ("leaf" : Str)), (He.tabOf K (He.codeOf K ("part_at", none)), fun _ _ => (("part_at" : Str) ++ (".<locals>." : Str)) ++ ("leaf" : Str))] : List NTab) := hq
        simp only [List.mem_cons, List.not_mem_nil, or_false] at hq
        rcases hq with rfl | rfl
        · exact ⟨("fun", none), by decide, rfl⟩
        · exact ⟨("part_at", none), by decide, rfl⟩
      rw [e]
      exact hT _ (List.mem_map.mpr ⟨p, hp, rfl⟩)) hS hlaw
  · refine fnok_ex fun sa => ?_
    have g1 := gf X G c.t.d c.t c.more sa
    have huq0 : ∀ q ∈ (Wk K sa).T, q.1 = He.tabOf K (He.codeOf K ("fun", none)) → q.2 = fun _ _ => (("fun" : Str) ++ (".<locals>." : Str)) ++ ("leaf" : Str) := fun q hq he => by
      have hq : q ∈ ([(He.tabOf K (He.codeOf K ("fun", none)), fun _ _ => (("fun" : Str) ++ (".<locals>." : Str)) ++ ("leaf" : Str)), (He.tabOf K (He.codeOf K ("part_at", none)), fun _ _ => (("part_at" : Str) ++ (".<locals>." : Str)) ++ ("leaf" : Str))] : List NTab) := hq
      simp only [List.mem_cons, List.not_mem_nil, or_false] at hq
      rcases hq with rfl | rfl
      · rfl
      · exact absurd he (of_decide_eq_true (Bool.and_eq_true_iff.mp (Bool.and_eq_true_iff.mp (Bool.and_eq_true_iff.mp c.more).2).2).1)
    have huq1 : ∀ q ∈ (Wk K sa).T, q.1 = He.tabOf K (He.codeOf K ("part_at", none)) → q.2 = fun _ _ => (("part_at" : Str) ++ (".<locals>." : Str)) ++ ("leaf" : Str) := fun q hq he => by
      have hq : q ∈ ([(He.tabOf K (He.codeOf K ("fun", none)), fun _ _ => (("fun" : Str) ++ (".<locals>." : Str)) ++ ("leaf" : Str)), (He.tabOf K (He.codeOf K ("part_at", none)), fun _ _ => (("part_at" : Str) ++ (".<locals>." : Str)) ++ ("leaf" : Str))] : List NTab) := hq
      simp only [List.mem_cons, List.not_mem_nil, or_false] at hq
      rcases hq with rfl | rfl
      · exact absurd he (of_decide_eq_true (Bool.and_eq_true_iff.mp (Bool.and_eq_true_iff.mp c.more).2).1)
      · rfl
    obtain ⟨fd2, F2, ok⟩ := (all (P := PySem.Challenge.rw_fanweave_k03_parts_of_terms.prog) (w := w) (base := base) g1 rfl (TB _ (List.mem_map.mpr ⟨("fun", none), by decide, rfl⟩)) (List.mem_iff_getElem?.mpr ⟨0, rfl⟩) huq0 (TB _ (List.mem_map.mpr ⟨("part_at", none), by decide, rfl⟩)) (List.mem_iff_getElem?.mpr ⟨1, rfl⟩) huq1 (fs c.t.d) 230).1.f_law
    have e : fd2 = fd := fund_inj F2 F
    subst e
    exact ok
end K03
open PySem PySem.W PySem.Calls PyProof.Rows
theorem PySem.Challenge.cw_fanweave_k03_parts_of_terms_holds : PySem.Challenge.rw_fanweave_k03_parts_of_terms.Holds := by
  w_on; o_law
  refine HandSHeadRun.head_any (r := OpenLaw.row PySem.Challenge.rw_fanweave_k03_parts_of_terms) (q := view (OpenLaw.row PySem.Challenge.rw_fanweave_k03_parts_of_terms).prog [55]) (H := K03.hk) (ob := K03.ob) (M := 9000) (loose := K03.names) (d := HandSHeadRun.topDef (OpenLaw.row PySem.Challenge.rw_fanweave_k03_parts_of_terms).prog 55) (kwd := []) K03.ob_eq
    (by kernel_rfl) (fun s => by kernel_rfl) K03.run (by kernel_rfl) (by kernel_rfl) (by kernel_rfl) (by rfl) (by first | assumption | decide +kernel) (by decide +kernel) ⟨rfl, rfl, rfl, rfl, rfl, by decide +kernel⟩ ?hw ?hc
  case hw => w_witness2
  case hc =>
    refine LamX.walk_ofTsE (l := PySem.Challenge.rw_fanweave_k03_parts_of_terms) (n := 63) (k := 230) (x := "script") (CX := fun _ => L2.CX0) rfl (by decide) (by kernel_rfl) ⟨rfl, by decide, by decide⟩ ?F (fun _ _ _ _ _ z => z)
    intro w mg fa h Y G hmg0
    obtain ⟨K, KX, c⟩ := Y
    have hmg : mg ("law" : PySem.Str) = some (.ref fa) := by
      have e : (HandSHeadRun.topDef (OpenLaw.row PySem.Challenge.rw_fanweave_k03_parts_of_terms).prog 55).name = ("law" : PySem.Str) := by kernel_rfl
      rw [← e]
      exact hmg0
    exact ⟨K, KX, K03.law_at w mg fa h K KX G hmg c⟩

