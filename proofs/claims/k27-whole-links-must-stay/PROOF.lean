import PyProof.Rows.All
import HandS.ForMost
import HandS.Flow
import HandS.Deep
import HandS.DictComp
import HandS.Evl
import PyProof.Rows.SortShellAny
import HandS.SortInts
import HandS.IsInst
import HandS.Zip
import HandS.HeadWalk
import HandS.HeadHook2
import HandS.Conv
import HandS.Text
import KE.GoesEnum
import HandS.Defaults
import HandS.Codes
import HandS.HeadHook4
import KE.KStateDown
import HandS.Exc
import HandS.Head0
import HandS.Head1
import HandS.Head2
import HandS.HeadEnd
import HandS.HeadHook1
import PySem.Challenge.RW_turnedbysteps_k27_whole_links_must_stay
set_option Elab.async false
set_option linter.all false
set_option maxRecDepth 100000
/-! PV0: deep data, a small code, its value semantics. Plain Lean. -/
namespace PV
open PySem

abbrev Key := Sum Int Str
inductive D where
  | non | bl (b : Bool) | int (i : Int) | str (x : Str)
  | lst (xs : List D) | tup (xs : List D)
  | dct (kvs : List (Key × D))
  | ins (c : Nat) (fs : List (Str × D))
instance : Inhabited D := ⟨.non⟩

/-- the longest list or text that is made -/
def LIM : Nat := 1000000

mutual
def D.toPy : D → PyData
  | .non => .none | .bl b => .bool b | .int i => .int i | .str x => .str x
  | .lst xs => .list (D.toPys xs) | .tup xs => .tuple (D.toPys xs)
  | .dct _ => .none | .ins _ _ => .none
def D.toPys : List D → List PyData
  | [] => []
  | x :: xs => D.toPy x :: D.toPys xs
end
mutual
/-- data without dicts and instances -/
def D.pln : D → Bool
  | .non => true | .bl _ => true | .int _ => true | .str _ => true
  | .lst xs => D.plns xs | .tup xs => D.plns xs
  | .dct _ => false | .ins _ _ => false
def D.plns : List D → Bool
  | [] => true
  | x :: xs => D.pln x && D.plns xs
end
mutual
def D.eqv : D → D → Bool
  | .non, .non => true
  | .bl a, .bl b => a == b
  | .bl a, .int j => (if a then 1 else 0) == j
  | .int i, .bl b => i == (if b then 1 else 0)
  | .int i, .int j => i == j
  | .str x, .str y => x == y
  | .lst xs, .lst ys => D.eqvs xs ys
  | .tup xs, .tup ys => D.eqvs xs ys
  | _, _ => false
def D.eqvs : List D → List D → Bool
  | [], [] => true
  | x :: xs, y :: ys => D.eqv x y && D.eqvs xs ys
  | _, _ => false
end
def D.flat : D → Bool
  | .non => true | .bl _ => true | .int _ => true | .str _ => true | _ => false
def D.okEq (d : D) : Bool := d.pln && SeqAt.shaped d.toPy
def D.scalP : D → D → Bool
  | .non, .non => true | .non, .int _ => true | .non, .bl _ => true | .non, .str _ => true
  | .int _, .non => true | .int _, .int _ => true | .int _, .str _ => true
  | .bl _, .non => true | .bl _, .bl _ => true | .bl _, .str _ => true
  | .str _, .non => true | .str _, .int _ => true | .str _, .bl _ => true | .str _, .str _ => true
  | _, _ => false

def truD : D → Option Bool
  | .non => some false
  | .bl b => some b
  | .int i => some (i != 0)
  | .str x => if x.length ≤ LIM then some ((x.length : Int) != 0) else none
  | .lst xs => some (!xs.isEmpty)
  | .tup xs => some (!xs.isEmpty)
  | .dct kvs => some (!kvs.isEmpty)
  | .ins _ _ => none

inductive BOp | add | sub | mul | fdiv | mod | pow
  deriving DecidableEq
def addD : D → D → Option D
  | .int i, .int j => some (.int (i + j))
  | .str a, .str b => if a.length + b.length ≤ LIM then some (.str (a ++ b)) else none
  | .lst a, .lst b => if a.length + b.length ≤ LIM then some (.lst (a ++ b)) else none
  | _, _ => none
def mulD : D → D → Option D
  | .int i, .int j => if (-(2 ^ 64) < i ∧ i < 2 ^ 64) ∨ (-(2 ^ 64) < j ∧ j < 2 ^ 64) then some (.int (i * j)) else none
  | .str s, .int n => if 0 ≤ n ∧ n ≤ 1000 ∧ s.length ≤ 1000 then some (.str (Txt.mul s n)) else none
  | _, _ => none
def binD : BOp → D → D → Option D
  | .add, a, b => addD a b
  | .sub, .int i, .int j => some (.int (i - j))
  | .mul, a, b => mulD a b
  | .fdiv, .int i, .int j => if 0 < j ∧ j < 1073741824 then some (.int (i / j)) else none
  | .mod, .int i, .int j => if 0 < j then some (.int (i % j)) else none
  | .pow, .int i, .int j => if 0 ≤ j ∧ j ≤ 1000000 ∧ i.natAbs < 2 ^ 64 then some (.int (i ^ j.toNat)) else none
  | _, _, _ => none

inductive COp | eq | ne | lt | le | gt | ge | in_ | nin | isN | notN
  deriving DecidableEq
def eqB (a b : D) : Option Bool := if D.scalP a b || (a.okEq && b.okEq) then some (D.eqv a b) else none
def keyD : D → Option Key
  | .int i => some (.inl i) | .str x => some (.inr x) | _ => none
def inB (x : D) : D → Option Bool
  | .str b => match x with
    | .str a => some (!(Builtin.Str.occurrences b a 0 b.length 1).isEmpty)
    | _ => none
  | .lst xs => if (x.flat && xs.all D.flat) || (x.okEq && (D.lst xs).okEq) then some (xs.any fun y => D.eqv y x) else none
  | .tup xs => if x.flat && xs.all D.flat then some (xs.any fun y => D.eqv y x) else none
  | .dct kvs => match keyD x with
    | some k => some (kvs.any fun p => decide (p.1 = k))
    | none => none
  | _ => none
def isNonD : D → Bool
  | .non => true
  | _ => false
/-- a is b, b None, True or False -/
def isD (a : D) : D → Bool
  | .bl c => (match a with
    | .bl d => d == c
    | _ => false)
  | _ => isNonD a
def cmpD : COp → D → D → Option Bool
  | .eq, a, b => eqB a b
  | .ne, a, b => (eqB a b).map (!·)
  | .lt, .int i, .int j => some (decide (i < j))
  | .lt, .str a, .str b => some (decide (a.cps.toList < b.cps.toList))
  | .le, .int i, .int j => some (decide (i ≤ j))
  | .gt, .int i, .int j => some (decide (j < i))
  | .ge, .int i, .int j => some (decide (j ≤ i))
  | .in_, a, b => inB a b
  | .nin, a, b => (inB a b).map (!·)
  | .isN, a, b => some (isD a b)
  | .notN, a, b => some (!isD a b)
  | _, _, _ => none

def lookK (k : Key) : List (Key × D) → Option D
  | [] => none
  | (j, d) :: r => if j = k then some d else lookK k r
def putKD (k : Key) (d : D) (kvs : List (Key × D)) : List (Key × D) :=
  if (kvs.any fun p => decide (p.1 = k)) = true then kvs.map (fun p => if p.1 = k then (p.1, d) else p) else kvs ++ [(k, d)]
def putAllD (kvs : List (Key × D)) : List (Key × D) → List (Key × D)
  | [] => kvs
  | (k, d) :: r => putAllD (putKD k d kvs) r
def keysD : List D → Option (List Key)
  | [] => some []
  | x :: r => (keyD x).bind fun k => (keysD r).map fun ks => k :: ks
def ixD : D → D → Option D
  | .lst xs, .int i => L2.atI xs i
  | .tup xs, .int i => L2.atI xs i
  | .str s, .int i => if s.length ≤ LIM then (L2.atI s.cps.toList i).map fun c => .str ⟨#[c]⟩ else none
  | .dct kvs, .int i => lookK (.inl i) kvs
  | .dct kvs, .str s => lookK (.inr s) kvs
  | _, _ => none
def cutD {α : Type} (xs : List α) (lo hi : Option Int) : List α := (xs.drop (HT.sIx xs.length 0 lo)).take (HT.sIx xs.length xs.length hi - HT.sIx xs.length 0 lo)
def partD : Option D → Option (Option Int)
  | none => some none
  | some (.int i) => some (some i)
  | _ => none
def slcD (a : D) (lo hi : Option Int) : Option D := match a with
  | .lst xs => some (.lst (cutD xs lo hi))
  | .str s => if s.length ≤ LIM then some (.str ⟨(cutD s.cps.toList lo hi).toArray⟩) else none
  | _ => none

/-! sorting -/
def insS {α : Type} (le : α → α → Bool) (x : α) : List α → List α
  | [] => [x]
  | y :: r => if le x y then x :: y :: r else y :: insS le x r
def sortS {α : Type} (le : α → α → Bool) : List α → List α
  | [] => []
  | x :: r => insS le x (sortS le r)
def intsD : List D → Option (List Int)
  | [] => some []
  | .int i :: r => (intsD r).map (i :: ·)
  | _ => none
def strsD : List D → Option (List Str)
  | [] => some []
  | .str i :: r => (strsD r).map (i :: ·)
  | _ => none
def leStr (a b : Str) : Bool := decide (¬ (b.cps.toList < a.cps.toList))
def sortD (xs : List D) : Option (List D) := match intsD xs with
    | some ns => some ((sortS (fun a b => decide (a ≤ b)) ns).map D.int)
    | none => (match strsD xs with
      | some ss => if ss.length < 64 then some ((sortS leStr ss).map D.str) else none
      | none => none)
def keyV : Key → D
  | .inl i => .int i
  | .inr s => .str s

inductive Bi | len | list | tuple | sorted | int_ | str_ | min2 | max2 | sum | all | any | minL | maxL
  deriving DecidableEq
def lenD : D → Option D
  | .lst xs => some (.int xs.length)
  | .tup xs => some (.int xs.length)
  | .dct kvs => some (.int kvs.length)
  | .str s => if s.length ≤ LIM then some (.int s.length) else none
  | _ => none
def boolsD : List D → Option (List Bool)
  | [] => some []
  | .bl i :: r => (boolsD r).map (i :: ·)
  | _ => none
def biD : Bi → List D → Option D
  | .len, [a] => lenD a
  | .list, [.lst xs] => some (.lst xs)
  | .list, [.tup xs] => some (.lst xs)
  | .list, [.dct kvs] => some (.lst (kvs.map fun p => keyV p.1))
  | .tuple, [.lst xs] => some (.tup xs)
  | .tuple, [.tup xs] => some (.tup xs)
  | .sorted, [.lst xs] => (sortD xs).map D.lst
  | .sorted, [.dct kvs] => if kvs.length < 64 then (sortD (kvs.map fun p => keyV p.1)).map D.lst else none
  | .int_, [.int i] => some (.int i)
  | .int_, [.bl b] => some (.int (if b then 1 else 0))
  | .str_, [.int i] => if i.natAbs < 1000000000000000000 then some (.str (toString i)) else none
  | .min2, [.int i, .int j] => some (.int (if j < i then j else i))
  | .max2, [.int i, .int j] => some (.int (if j > i then j else i))
  | .sum, [.lst xs] => (intsD xs).map fun ns => .int ns.sum
  | .all, [.lst xs] => (boolsD xs).map fun bs => .bl (bs.all id)
  | .any, [.lst xs] => (boolsD xs).map fun bs => .bl (bs.any id)
  | _, _ => none
inductive Ty | tint | tbool | tstr | tlist | ttuple
  deriving DecidableEq
def isiD : Ty → D → Option Bool
  | t, .non => some false
  | t, .bl _ => some (t == .tbool || t == .tint)
  | t, .int _ => some (t == .tint)
  | t, .str _ => some (t == .tstr)
  | t, .lst _ => some (t == .tlist)
  | t, .tup _ => some (t == .ttuple)
  | t, .dct _ => some false
  | _, .ins _ _ => none
inductive Bm | join | get1 | get2 | index
  deriving DecidableEq
def bmD : Bm → D → List D → Option D
  | .join, .str sep, [.lst xs] => match strsD xs with
    | some ss => if (ss.map (·.length)).sum + ss.length * sep.length ≤ LIM then some (.str (Str.join sep ss)) else none
    | none => none
  | .get1, .dct kvs, [k] => (keyD k).map fun k => (lookK k kvs).getD .non
  | .get2, .dct kvs, [k, d] => (keyD k).map fun k => (lookK k kvs).getD d
  | _, _, _ => none

/-! ### the code -/
abbrev Env := List (Option D)
mutual
inductive CT | nm (i : Nat) | tp (ts : CTs)
inductive CTs | nil | cons (t : CT) (ts : CTs)
end
mutual
def CT.bind : CT → D → Env → Option Env
  | .nm i, d, ρ => some (ρ.set i (some d))
  | .tp ts, .tup ds, ρ => CTs.bind ts ds ρ
  | .tp _, _, _ => none
def CTs.bind : CTs → List D → Env → Option Env
  | .nil, [], ρ => some ρ
  | .cons t ts, d :: ds, ρ => (CT.bind t d ρ).bind fun ρ' => CTs.bind ts ds ρ'
  | _, _, _ => none
end
inductive FK | fn | meth (c : Nat) | mk (c : Nat)
structure FnE where
  kind : FK
  name : Str
  np : Nat
  sem : List D → Option D
  lvl : Nat
structure Tab where
  fn : List FnE := []
  gl : List (Str × D) := []
  fd : List (Nat × Str) := []
def Tab.call (T : Tab) (f : Nat) (ds : List D) : Option D := match T.fn[f]? with
  | some e => e.sem ds
  | none => none
/-- a method of an instance that has no attribute of its name -/
def Tab.callM (T : Tab) (f : Nat) (x : D) (ds : List D) : Option D := match T.fn[f]? with
  | some e => (match e.kind, x with
    | .meth c, .ins c' fs => if c = c' ∧ (fs.lookup e.name).isNone = true then e.sem (x :: ds) else none
    | _, _ => none)
  | none => none
def wipeD (ρ : Env) : List Nat → Env
  | [] => ρ
  | v :: vs => (wipeD ρ vs).set v none
def lcD (f : D → Option (Option D)) : List D → Option (List D)
  | [] => some []
  | x :: r => (f x).bind fun o => (lcD f r).map fun ys => match o with
    | some y => y :: ys
    | none => ys
/-- a dict comprehension's turns; fr: every key must be new -/
def dcD (fr : Bool) (f : D → Option (Key × D)) (acc : List (Key × D)) : List D → Option (List (Key × D))
  | [] => some acc
  | x :: r => (f x).bind fun p => if (fr && acc.any fun q => decide (q.1 = p.1)) = true then none else dcD fr f (putKD p.1 p.2 acc) r
def zipD : List D → List D → List D
  | x :: xs, y :: ys => .tup [x, y] :: zipD xs ys
  | _, _ => []
def enumD (i : Nat) : List D → List D
  | [] => []
  | x :: xs => .tup [.int i, x] :: enumD (i + 1) xs
def rngD (lo hi : Int) : Option (List D) := if -1000000 ≤ lo ∧ lo ≤ 1000000 ∧ -1000000 ≤ hi ∧ hi ≤ 1000000 then some ((List.range (hi - lo).toNat).map fun (k : Nat) => .int (lo + (k : Int))) else none
def charsD (s : Str) : List D := s.cps.toList.map fun c => .str ⟨#[c]⟩
def seqD : D → Option (List D)
  | .lst xs => some xs
  | .tup xs => some xs
  | .str s => if s.length ≤ LIM then some (charsD s) else none
  | _ => none
def fldD (c : Nat) (f : Str) : D → Option D
  | .ins c' fs => if c = c' then fs.lookup f else none
  | _ => none
def scD : D → Option D
  | .non => some .non | .bl b => some (.bl b) | .int i => some (.int i) | .str s => some (.str s) | _ => none
mutual
inductive CE
  | var (i : Nat) | glob (i : Nat) | cD (d : D)
  | bin (op : BOp) (a b : CE) | neg (a : CE)
  | cmp (op : COp) (a b : CE) | cmp2 (o1 o2 : COp) (a b c : CE)
  | bop (and : Bool) (es : CEs) | not (a : CE) | ife (c a b : CE)
  | tup (es : CEs) | lst (es : CEs) | dnew
  | dis (k v : CE) | dsp (ks vs : CEs)
  | ix (a b : CE) | slc (a : CE) (lo hi : CO)
  | call (f : Nat) (es : CEs) | meth (f : Nat) (o : CE) (es : CEs) | make (f : Nat) (es : CEs)
  | bi (b : Bi) (es : CEs) | isi (a : CE) (t : Ty) | bm (m : Bm) (o : CE) (es : CEs)
  | fld (c : Nat) (o : CE) (f : Str)
  | lc (own : List (Str × Nat)) (t : CT) (src : CI) (ifs : CEs) (elt : CE)
  | dc (own : List (Str × Nat)) (t : CT) (src : CI) (k v : CE)
  | lstr (src : CI)
  | sc (a : CE)
inductive CEs | nil | cons (e : CE) (es : CEs)
inductive CO | none | some (e : CE)
inductive CI | seq (e : CE) | rng1 (a : CE) | rng2 (a b : CE) | enum (e : CE) | zip (a b : CE)
end
def CE.isNil : CE → Bool
  | .lst .nil => true
  | _ => false
mutual
def CE.sem (T : Tab) : CE → Env → Option D
  | .var i, ρ => (ρ[i]?).bind id
  | .glob i, _ => (T.gl[i]?).map (·.2)
  | .cD d, _ => some d
  | .bin op a b, ρ => (CE.sem T a ρ).bind fun x => (CE.sem T b ρ).bind fun y => binD op x y
  | .neg a, ρ => (CE.sem T a ρ).bind fun x => match x with
    | .int i => some (.int (-i))
    | _ => none
  | .cmp op a b, ρ => (CE.sem T a ρ).bind fun x => (CE.sem T b ρ).bind fun y => (cmpD op x y).map D.bl
  | .cmp2 o1 o2 a b c, ρ => (CE.sem T a ρ).bind fun x => (CE.sem T b ρ).bind fun y => (cmpD o1 x y).bind fun k =>
      if k then (CE.sem T c ρ).bind fun z => (cmpD o2 y z).map D.bl else some (.bl false)
  | .bop k es, ρ => CEs.bop T k es ρ
  | .not a, ρ => (CE.sem T a ρ).bind fun x => (truD x).map fun k => .bl (!k)
  | .ife c a b, ρ => (CE.sem T c ρ).bind fun x => (truD x).bind fun k => if k then CE.sem T a ρ else CE.sem T b ρ
  | .tup es, ρ => (CEs.sem T es ρ).map D.tup
  | .lst es, ρ => (CEs.sem T es ρ).map D.lst
  | .dnew, _ => some (.dct [])
  | .dsp ks vs, ρ => (CEs.sem T ks ρ).bind fun xs => (CEs.sem T vs ρ).bind fun ys => (keysD xs).map fun qs => .dct (putAllD [] (qs.zip ys))
  | .dis k v, ρ => (CE.sem T k ρ).bind fun x => (CE.sem T v ρ).bind fun y => (keyD x).map fun q => .dct [(q, y)]
  | .ix a b, ρ => (CE.sem T a ρ).bind fun x => (CE.sem T b ρ).bind fun y => ixD x y
  | .slc a lo hi, ρ => (CE.sem T a ρ).bind fun x => (CO.sem T lo ρ).bind fun l => (CO.sem T hi ρ).bind fun h => slcD x l h
  | .call f es, ρ => (CEs.sem T es ρ).bind fun ds => T.call f ds
  | .meth f o es, ρ => (CE.sem T o ρ).bind fun x => (CEs.sem T es ρ).bind fun ds => T.callM f x ds
  | .make f es, ρ => (CEs.sem T es ρ).bind fun ds => T.call f ds
  | .bi b es, ρ => (CEs.sem T es ρ).bind fun ds => biD b ds
  | .isi a t, ρ => (CE.sem T a ρ).bind fun x => (isiD t x).map D.bl
  | .bm m o es, ρ => (CE.sem T o ρ).bind fun x => (CEs.sem T es ρ).bind fun ds => bmD m x ds
  | .fld c o f, ρ => (CE.sem T o ρ).bind fun x => fldD c f x
  | .lc own t src ifs elt, ρ => (CI.sem T src ρ).bind fun xs => (lcD (fun x => (CT.bind t x (wipeD ρ (own.map (·.2)))).bind fun ρ' => (CEs.tests T ifs ρ').bind fun b => if b then (CE.sem T elt ρ').map some else some none) xs).map D.lst
  | .dc own t src k v, ρ => (CI.sem T src ρ).bind fun xs => (dcD v.isNil (fun x => (CT.bind t x (wipeD ρ (own.map (·.2)))).bind fun ρ' => (CE.sem T k ρ').bind fun y => (keyD y).bind fun q => (CE.sem T v ρ').map fun z => (q, z)) [] xs).map D.dct
  | .lstr src, ρ => (CI.sem T src ρ).map D.lst
  | .sc a, ρ => (CE.sem T a ρ).bind scD
def CEs.sem (T : Tab) : CEs → Env → Option (List D)
  | .nil, _ => some []
  | .cons e es, ρ => (CE.sem T e ρ).bind fun x => (CEs.sem T es ρ).map fun xs => x :: xs
def CEs.bop (T : Tab) (k : Bool) : CEs → Env → Option D
  | .nil, _ => none
  | .cons e .nil, ρ => CE.sem T e ρ
  | .cons e es, ρ => (CE.sem T e ρ).bind fun x => (truD x).bind fun b => if b = k then CEs.bop T k es ρ else some x
def CEs.tests (T : Tab) : CEs → Env → Option Bool
  | .nil, _ => some true
  | .cons e es, ρ => (CE.sem T e ρ).bind fun x => (truD x).bind fun b => if b then CEs.tests T es ρ else some false
def CO.sem (T : Tab) : CO → Env → Option (Option Int)
  | .none, _ => some none
  | .some e, ρ => (CE.sem T e ρ).bind fun x => match x with
    | .int i => some (some i)
    | _ => none
def CI.sem (T : Tab) : CI → Env → Option (List D)
  | .seq e, ρ => (CE.sem T e ρ).bind seqD
  | .rng1 a, ρ => (CE.sem T a ρ).bind fun x => match x with
    | .int i => rngD 0 i
    | _ => none
  | .rng2 a b, ρ => (CE.sem T a ρ).bind fun x => (CE.sem T b ρ).bind fun y => match x, y with
    | .int i, .int j => rngD i j
    | _, _ => none
  | .enum e, ρ => (CE.sem T e ρ).bind fun x => match x with
    | .lst xs => some (enumD 0 xs)
    | .tup xs => some (enumD 0 xs)
    | _ => none
  | .zip a b, ρ => (CE.sem T a ρ).bind fun x => (CE.sem T b ρ).bind fun y => match x, y with
    | .lst xs, .lst ys => some (zipD xs ys)
    | _, _ => none
end
/-! ### statements -/
inductive O | nx (ρ : Env) | bk (ρ : Env) | ct (ρ : Env) | rt (d : D)
mutual
inductive CS
  | skip | asg (t : CT) (e : CE) | par (i j : Nat) (a b : CE) | aug (i : Nat) (op : BOp) (e : CE)
  | setix (i : Nat) (k e : CE) | augix (i : Nat) (k : CE) (op : BOp) (e : CE)
  | app (i : Nat) (e : CE) | ext (i : Nat) (e : CE) | upd (i j : Nat)
  | appAt (i : Nat) (k e : CE) | sdApp (i : Nat) (k e : CE) | appPop (i j : Nat) (k : CE)
  | ret (e : CE) | retv (i : Nat) | retN | ife (c : CE) (a b : CB) | whl (c : CE) (b : CB) | fr (t : CT) (src : CI) (b : CB)
  | brk | cnt | nev | expr (e : CE) | setf (i c : Nat) (f : Str) (e : CE)
inductive CB | nil | cons (s : CS) (b : CB)
end
def FUEL : Nat := 1000000000
def whlD (c : Env → Option Bool) (b : Env → Option O) : Nat → Env → Option O
  | 0, _ => none
  | n + 1, ρ => (c ρ).bind fun k => if k then (b ρ).bind fun o => match o with
      | .nx ρ' => whlD c b n ρ'
      | .ct ρ' => whlD c b n ρ'
      | .bk ρ' => some (.nx ρ')
      | .rt d => some (.rt d)
    else some (.nx ρ)
def frD (t : D → Env → Option Env) (b : Env → Option O) : List D → Env → Option O
  | [], ρ => some (.nx ρ)
  | x :: xs, ρ => (t x ρ).bind fun ρ1 => (b ρ1).bind fun o => match o with
      | .nx ρ' => frD t b xs ρ'
      | .ct ρ' => frD t b xs ρ'
      | .bk ρ' => some (.nx ρ')
      | .rt d => some (.rt d)
def augD : BOp → D → D → Option D
  | .add, .int i, .int j => some (.int (i + j))
  | .sub, .int i, .int j => some (.int (i - j))
  | _, _, _ => none
def setD : D → D → D → Option D
  | .lst xs, .int i, d => (L2.ixN xs.length i).map fun j => .lst (xs.set j d)
  | .dct kvs, k, d => (keyD k).bind fun q => if kvs.length < LIM then some (.dct (putKD q d kvs)) else none
  | _, _, _ => none
def appD : D → D → Option D
  | .lst xs, d => if xs.length < LIM then some (.lst (xs ++ [d])) else none
  | _, _ => none
def extD : D → D → Option D
  | .lst xs, .lst ys => if xs.length + ys.length ≤ LIM then some (.lst (xs ++ ys)) else none
  | _, _ => none
def updD : D → D → Option D
  | .dct kvs, .dct ls => if kvs.length + ls.length ≤ LIM then some (.dct (putAllD kvs ls)) else none
  | _, _ => none
/-- the first entry of that key is changed -/
def modK (k : Key) (f : D → Option D) : List (Key × D) → Option (List (Key × D))
  | [] => none
  | (j, x) :: r => if j = k then (f x).map fun y => (j, y) :: r else (modK k f r).map fun r' => (j, x) :: r'
def appAtD : D → D → D → Option D
  | .dct kvs, k, d => (keyD k).bind fun q => (modK q (fun x => appD x d) kvs).map D.dct
  | _, _, _ => none
def putFD (f : Str) (v : D) : List (Str × D) → List (Str × D)
  | [] => [(f, v)]
  | (g, x) :: r => if g = f then (g, v) :: r else (g, x) :: putFD f v r
def setfD (c : Nat) (f : Str) : D → D → Option D
  | .ins c' fs, y => if c = c' ∧ fs.length < 100 then some (.ins c' (putFD f y fs)) else none
  | _, _ => none
def sdD : D → D → D → Option D
  | .dct kvs, k, d => (keyD k).bind fun q => match lookK q kvs with
    | some x => (appD x d).map fun y => .dct (putKD q y kvs)
    | none => if kvs.length < LIM then some (.dct (putKD q (.lst [d]) kvs)) else none
  | _, _, _ => none
def popD : D → D → Option (D × D)
  | .lst xs, .int i => (L2.ixN xs.length i).bind fun j => (xs[j]?).map fun x => (x, .lst (xs.eraseIdx j))
  | _, _ => none
def upS (ρ : Env) (i : Nat) (f : D → Option D) : Option O := ((ρ[i]?).bind id).bind fun x => (f x).map fun y => .nx (ρ.set i (some y))
mutual
def CS.run (T : Tab) : CS → Env → Option O
  | .skip, ρ => some (.nx ρ)
  | .asg t e, ρ => (CE.sem T e ρ).bind fun x => (CT.bind t x ρ).map O.nx
  | .par i j a b, ρ => (CE.sem T a ρ).bind fun x => (CE.sem T b ρ).map fun y => .nx ((ρ.set i (some x)).set j (some y))
  | .aug i op e, ρ => ((ρ[i]?).bind id).bind fun x => (CE.sem T e ρ).bind fun y => (augD op x y).map fun z => .nx (ρ.set i (some z))
  | .setix i k e, ρ => (CE.sem T e ρ).bind fun y => (CE.sem T k ρ).bind fun z => upS ρ i fun x => setD x z y
  | .augix i k op e, ρ => (CE.sem T k ρ).bind fun z => (CE.sem T e ρ).bind fun y => upS ρ i fun x => (ixD x z).bind fun w => (augD op w y).bind fun v => setD x z v
  | .app i e, ρ => (CE.sem T e ρ).bind fun y => upS ρ i fun x => appD x y
  | .ext i e, ρ => (CE.sem T e ρ).bind fun y => upS ρ i fun x => extD x y
  | .upd i j, ρ => ((ρ[j]?).bind id).bind fun y => upS ρ i fun x => updD x y
  | .appAt i k e, ρ => (CE.sem T k ρ).bind fun z => (CE.sem T e ρ).bind fun y => upS ρ i fun x => appAtD x z y
  | .sdApp i k e, ρ => (CE.sem T k ρ).bind fun z => (CE.sem T e ρ).bind fun y => upS ρ i fun x => sdD x z y
  | .appPop i j k, ρ => (CE.sem T k ρ).bind fun z => ((ρ[j]?).bind id).bind fun w => (popD w z).bind fun p => upS (ρ.set j (some p.2)) i fun x => appD x p.1
  | .ret e, ρ => (CE.sem T e ρ).map O.rt
  | .retv i, ρ => ((ρ[i]?).bind id).map O.rt
  | .retN, _ => some (.rt .non)
  | .ife c a b, ρ => (CE.sem T c ρ).bind fun x => (truD x).bind fun k => if k then CB.run T a ρ else CB.run T b ρ
  | .whl c b, ρ => whlD (fun ρ => (CE.sem T c ρ).bind truD) (fun ρ => CB.run T b ρ) FUEL ρ
  | .fr t src b, ρ => (CI.sem T src ρ).bind fun xs => frD (fun x ρ => CT.bind t x ρ) (fun ρ => CB.run T b ρ) xs ρ
  | .brk, ρ => some (.bk ρ)
  | .cnt, ρ => some (.ct ρ)
  | .nev, _ => none
  | .expr e, ρ => (CE.sem T e ρ).map fun _ => .nx ρ
  | .setf i c f e, ρ => (CE.sem T e ρ).bind fun y => upS ρ i fun x => setfD c f x y
def CB.run (T : Tab) : CB → Env → Option O
  | .nil, ρ => some (.nx ρ)
  | .cons s b, ρ => (CS.run T s ρ).bind fun o => match o with
    | .nx ρ' => CB.run T b ρ'
    | .bk ρ' => some (.bk ρ')
    | .ct ρ' => some (.ct ρ')
    | .rt d => some (.rt d)
end
/-- a def: how many names, how many parameters, the body -/
structure CF where
  n : Nat
  np : Nat
  body : CB
def CF.sem (T : Tab) (f : CF) (ds : List D) : Option D := if ds.length = f.np then
    match CB.run T f.body (ds.map some ++ List.replicate (f.n - f.np) none) with
    | some (.rt d) => some d
    | some (.nx _) => some .non
    | _ => none
  else none
/-- an __init__: the instance that is made, behind it -/
def CF.init (T : Tab) (f : CF) (c : Nat) (ds : List D) : Option D := if ds.length + 1 = f.np then
    match CB.run T f.body (some (.ins c []) :: ds.map some ++ List.replicate (f.n - f.np) none) with
    | some (.nx ρ) => (ρ[0]?).bind id
    | _ => none
  else none
end PV

set_option Elab.async false
set_option linter.all false
set_option maxRecDepth 100000
set_option maxHeartbeats 2000000
/-! PV1: what deep data stand for in the abstract heap. -/
namespace PV
open PySem L2
open Evl (Ex)

section
variable (K : PySem.W.Frag) (cl : Nat → Addr) (H : Hp) (A : Addr → Prop)
/-- a list, a tuple at a: tracked within A, or written -/
def LAt (a : Addr) (vs : List V) : Prop := (Rd H a (.lst vs) ∧ A a) ∨ ∀ H', SqL K H' a vs
def TAt (a : Addr) (vs : List V) : Prop := (Rd H a (.tup vs) ∧ A a) ∨ ∀ H', SqT K H' a vs
mutual
def Rep : D → V → Prop
  | .non, v => v = .non
  | .bl b, v => v = .bl b
  | .int i, v => v = .int i
  | .str s, v => v = .str s
  | .lst ds, v => ∃ a vs, v = .ref a ∧ LAt K H A a vs ∧ Reps ds vs
  | .tup ds, v => ∃ a vs, v = .ref a ∧ TAt K H A a vs ∧ Reps ds vs
  | .dct kvs, v => ∃ a ps, v = .ref a ∧ (H a = some (.dK ps) ∧ A a) ∧ RepK kvs ps
  | .ins c fs, v => ∃ a dx ps, v = .ref a ∧ (H a = some (.ins (cl c) dx ps) ∧ A a) ∧ RepF fs ps
def Reps : List D → List V → Prop
  | [], vs => vs = []
  | d :: ds, vs => ∃ v r, vs = v :: r ∧ Rep d v ∧ Reps ds r
def RepK : List (Key × D) → List (Key × V) → Prop
  | [], ps => ps = []
  | (k, d) :: r, ps => ∃ v q, ps = (k, v) :: q ∧ Rep d v ∧ RepK r q
def RepF : List (Str × D) → List (Str × V) → Prop
  | [], ps => ps = []
  | (k, d) :: r, ps => ∃ v q, ps = (k, v) :: q ∧ Rep d v ∧ RepF r q
end
end
section
variable {K : PySem.W.Frag} {cl : Nat → Addr} {H H' : Hp} {A A' B B' Z Z' : Addr → Prop}
/-- H' stands as H within A -/
def Agr (A : Addr → Prop) (H H' : Hp) : Prop := ∀ a o, A a → H a = some o → H' a = some o
theorem Agr.of_ex (e : Ex H H') : Agr A H H' := fun a o _ h => e a o h
theorem Rd.agr {a : Addr} {u : HO} (g : Agr A H H') (ha : A a) (h : Rd H a u) : Rd H' a u := by
  rcases h with h | ⟨o, h⟩
  · exact .inl (g a _ ha h)
  · exact .inr ⟨o, g a _ ha h⟩
theorem LAt.mono {a : Addr} {vs : List V} (g : Agr A H H') (s : ∀ a, A a → A' a) (h : LAt K H A a vs) : LAt K H' A' a vs := by
  rcases h with ⟨h, ha⟩ | h
  · exact .inl ⟨Rd.agr g ha h, s a ha⟩
  · exact .inr h
theorem TAt.mono {a : Addr} {vs : List V} (g : Agr A H H') (s : ∀ a, A a → A' a) (h : TAt K H A a vs) : TAt K H' A' a vs := by
  rcases h with ⟨h, ha⟩ | h
  · exact .inl ⟨Rd.agr g ha h, s a ha⟩
  · exact .inr h
theorem LAt.sq {a : Addr} {vs : List V} (h : LAt K H A a vs) : SqL K H a vs := by
  rcases h with ⟨h, _⟩ | h
  · exact .inl h
  · exact h H
theorem TAt.sq {a : Addr} {vs : List V} (h : TAt K H A a vs) : SqT K H a vs := by
  rcases h with ⟨h, _⟩ | h
  · exact .inl h
  · exact h H
mutual
theorem Rep.mono (g : Agr A H H') (s : ∀ a, A a → A' a) : ∀ (d : D) (v : V), Rep K cl H A d v → Rep K cl H' A' d v
  | .non, _, h => h
  | .bl _, _, h => h
  | .int _, _, h => h
  | .str _, _, h => h
  | .lst ds, v, h => by
    obtain ⟨a, vs, e, l, r⟩ := h
    exact ⟨a, vs, e, l.mono g s, Reps.mono g s ds vs r⟩
  | .tup ds, v, h => by
    obtain ⟨a, vs, e, l, r⟩ := h
    exact ⟨a, vs, e, l.mono g s, Reps.mono g s ds vs r⟩
  | .dct kvs, v, h => by
    obtain ⟨a, ps, e, l, r⟩ := h
    exact ⟨a, ps, e, ⟨g a _ l.2 l.1, s a l.2⟩, RepK.mono g s kvs ps r⟩
  | .ins c fs, v, h => by
    obtain ⟨a, dx, ps, e, l, r⟩ := h
    exact ⟨a, dx, ps, e, ⟨g a _ l.2 l.1, s a l.2⟩, RepF.mono g s fs ps r⟩
theorem Reps.mono (g : Agr A H H') (s : ∀ a, A a → A' a) : ∀ (ds : List D) (vs : List V), Reps K cl H A ds vs → Reps K cl H' A' ds vs
  | [], _, h => h
  | d :: ds, _, h => by
    obtain ⟨v, r, e, h1, h2⟩ := h
    exact ⟨v, r, e, Rep.mono g s d v h1, Reps.mono g s ds r h2⟩
theorem RepK.mono (g : Agr A H H') (s : ∀ a, A a → A' a) : ∀ (ds : List (Key × D)) (vs : List (Key × V)), RepK K cl H A ds vs → RepK K cl H' A' ds vs
  | [], _, h => h
  | (k, d) :: ds, _, h => by
    obtain ⟨v, r, e, h1, h2⟩ := h
    exact ⟨v, r, e, Rep.mono g s d v h1, RepK.mono g s ds r h2⟩
theorem RepF.mono (g : Agr A H H') (s : ∀ a, A a → A' a) : ∀ (ds : List (Str × D)) (vs : List (Str × V)), RepF K cl H A ds vs → RepF K cl H' A' ds vs
  | [], _, h => h
  | (k, d) :: ds, _, h => by
    obtain ⟨v, r, e, h1, h2⟩ := h
    exact ⟨v, r, e, Rep.mono g s d v h1, RepF.mono g s ds r h2⟩
end
theorem Reps.length : ∀ {ds : List D} {vs : List V}, Reps K cl H A ds vs → vs.length = ds.length
  | [], vs, h => by
    cases (show vs = [] from h)
    rfl
  | d :: ds, _, h => by
    obtain ⟨v, r, e, _, h2⟩ := h
    rw [e, List.length_cons, List.length_cons, Reps.length h2]
theorem Reps.get : ∀ {ds : List D} {vs : List V} {i : Nat} {d : D}, Reps K cl H A ds vs → ds[i]? = some d → ∃ v, vs[i]? = some v ∧ Rep K cl H A d v
  | [], _, i, _, _, e => by simp at e
  | d :: ds, _, 0, x, h, e => by
    obtain ⟨v, r, rfl, h1, h2⟩ := h
    simp at e
    subst e
    exact ⟨v, rfl, h1⟩
  | d :: ds, _, i + 1, x, h, e => by
    obtain ⟨v, r, rfl, h1, h2⟩ := h
    obtain ⟨w, e1, e2⟩ := Reps.get h2 (i := i) (by simpa using e)
    exact ⟨w, by simpa using e1, e2⟩
theorem Reps.append : ∀ {ds es : List D} {vs ws : List V}, Reps K cl H A ds vs → Reps K cl H A es ws → Reps K cl H A (ds ++ es) (vs ++ ws)
  | [], _, _, _, h, g => by
    rw [show _ = [] from h]
    exact g
  | d :: ds, _, _, _, h, g => by
    obtain ⟨v, r, rfl, h1, h2⟩ := h
    exact ⟨v, _, rfl, h1, Reps.append h2 g⟩
theorem Reps.take : ∀ {ds : List D} {vs : List V} (n : Nat), Reps K cl H A ds vs → Reps K cl H A (ds.take n) (vs.take n)
  | _, _, 0, _ => rfl
  | [], _, n + 1, h => by
    rw [show _ = [] from h]
    rfl
  | d :: ds, _, n + 1, h => by
    obtain ⟨v, r, rfl, h1, h2⟩ := h
    exact ⟨v, _, rfl, h1, Reps.take n h2⟩
theorem Reps.drop : ∀ {ds : List D} {vs : List V} (n : Nat), Reps K cl H A ds vs → Reps K cl H A (ds.drop n) (vs.drop n)
  | _, _, 0, h => h
  | [], _, n + 1, h => by
    rw [show _ = [] from h]
    rfl
  | d :: ds, _, n + 1, h => by
    obtain ⟨v, r, rfl, h1, h2⟩ := h
    exact Reps.drop n h2
theorem Reps.set : ∀ {ds : List D} {vs : List V} (n : Nat) {d : D} {v : V}, Reps K cl H A ds vs → Rep K cl H A d v → Reps K cl H A (ds.set n d) (vs.set n v)
  | [], _, n, _, _, h, _ => by
    rw [show _ = [] from h]
    exact rfl
  | d :: ds, _, 0, _, _, h, g => by
    obtain ⟨v, r, rfl, h1, h2⟩ := h
    exact ⟨_, r, rfl, g, h2⟩
  | d :: ds, _, n + 1, _, _, h, g => by
    obtain ⟨v, r, rfl, h1, h2⟩ := h
    exact ⟨v, _, rfl, h1, Reps.set n h2 g⟩
theorem Reps.at {ds : List D} {vs : List V} {i : Int} {d : D} (h : Reps K cl H A ds vs) (e : atI ds i = some d) : ∃ v, atI vs i = some v ∧ Rep K cl H A d v := by
  unfold atI at e ⊢
  rw [h.length]
  cases q : ixN ds.length i with
  | none => rw [q] at e; cases e
  | some j =>
    rw [q] at e
    exact h.get e
theorem Reps.cut {ds : List D} {vs : List V} (lo hi : Option Int) (h : Reps K cl H A ds vs) : Reps K cl H A (cutD ds lo hi) (cutV vs lo hi) := by
  unfold cutD cutV
  rw [h.length]
  exact (h.drop _).take _
theorem Reps.ints : ∀ {ds : List D} {vs : List V} {ns : List Int}, Reps K cl H A ds vs → intsD ds = some ns → vs = ns.map V.int
  | [], _, _, h, e => by
    cases e
    exact h
  | .int i :: ds, _, _, h, e => by
    obtain ⟨v, r, rfl, h1, h2⟩ := h
    obtain ⟨ms, e1, rfl⟩ := Option.map_eq_some_iff.mp (show (intsD ds).map (i :: ·) = some _ from e)
    rw [show v = V.int i from h1, Reps.ints h2 e1]
    rfl
  | .non :: _, _, _, _, e => by cases e
  | .bl _ :: _, _, _, _, e => by cases e
  | .str _ :: _, _, _, _, e => by cases e
  | .lst _ :: _, _, _, _, e => by cases e
  | .tup _ :: _, _, _, _, e => by cases e
  | .dct _ :: _, _, _, _, e => by cases e
  | .ins _ _ :: _, _, _, _, e => by cases e
theorem Reps.strs : ∀ {ds : List D} {vs : List V} {ns : List Str}, Reps K cl H A ds vs → strsD ds = some ns → vs = ns.map V.str
  | [], _, _, h, e => by
    cases e
    exact h
  | .str i :: ds, _, _, h, e => by
    obtain ⟨v, r, rfl, h1, h2⟩ := h
    obtain ⟨ms, e1, rfl⟩ := Option.map_eq_some_iff.mp (show (strsD ds).map (i :: ·) = some _ from e)
    rw [show v = V.str i from h1, Reps.strs h2 e1]
    rfl
  | .non :: _, _, _, _, e => by cases e
  | .bl _ :: _, _, _, _, e => by cases e
  | .int _ :: _, _, _, _, e => by cases e
  | .lst _ :: _, _, _, _, e => by cases e
  | .tup _ :: _, _, _, _, e => by cases e
  | .dct _ :: _, _, _, _, e => by cases e
  | .ins _ _ :: _, _, _, _, e => by cases e
theorem Reps.bools : ∀ {ds : List D} {vs : List V} {ns : List Bool}, Reps K cl H A ds vs → boolsD ds = some ns → vs = ns.map V.bl
  | [], _, _, h, e => by
    cases e
    exact h
  | .bl i :: ds, _, _, h, e => by
    obtain ⟨v, r, rfl, h1, h2⟩ := h
    obtain ⟨ms, e1, rfl⟩ := Option.map_eq_some_iff.mp (show (boolsD ds).map (i :: ·) = some _ from e)
    rw [show v = V.bl i from h1, Reps.bools h2 e1]
    rfl
  | .non :: _, _, _, _, e => by cases e
  | .str _ :: _, _, _, _, e => by cases e
  | .int _ :: _, _, _, _, e => by cases e
  | .lst _ :: _, _, _, _, e => by cases e
  | .tup _ :: _, _, _, _, e => by cases e
  | .dct _ :: _, _, _, _, e => by cases e
  | .ins _ _ :: _, _, _, _, e => by cases e
theorem reps_ints : ∀ (ns : List Int), Reps K cl H A (ns.map D.int) (ns.map V.int)
  | [] => rfl
  | n :: ns => ⟨_, _, rfl, rfl, reps_ints ns⟩
theorem reps_strs : ∀ (ns : List Str), Reps K cl H A (ns.map D.str) (ns.map V.str)
  | [] => rfl
  | n :: ns => ⟨_, _, rfl, rfl, reps_strs ns⟩
theorem Rep.flatV {d : D} {v : V} (h : Rep K cl H A d v) (f : d.flat = true) : L2.flatV v = true := by
  cases d <;> first | (rw [show v = _ from h]; rfl) | cases f
/-! == -/
mutual
theorem Rep.dp : ∀ (d : D) (v : V), Rep K cl H A d v → d.pln = true → Dp K H v d.toPy
  | .non, v, h, _ => by rw [show v = _ from h]; exact .non
  | .bl b, v, h, _ => by rw [show v = _ from h]; exact .bl b
  | .int i, v, h, _ => by rw [show v = _ from h]; exact .int i
  | .str s, v, h, _ => by rw [show v = _ from h]; exact .str s
  | .lst ds, v, h, p => by
    obtain ⟨a, vs, rfl, l, r⟩ := h
    exact .lst l.sq (Reps.dp ds vs r p)
  | .tup ds, v, h, p => by
    obtain ⟨a, vs, rfl, l, r⟩ := h
    exact .tup l.sq (Reps.dp ds vs r p)
  | .dct _, _, _, p => by cases p
  | .ins _ _, _, _, p => by cases p
theorem Reps.dp : ∀ (ds : List D) (vs : List V), Reps K cl H A ds vs → D.plns ds = true → DpAll K H vs (D.toPys ds)
  | [], _, h, _ => by rw [show _ = [] from h]; exact .nil
  | d :: ds, _, h, p => by
    obtain ⟨v, r, rfl, h1, h2⟩ := h
    have p2 : (D.pln d && D.plns ds) = true := p
    obtain ⟨p3, p4⟩ := Bool.and_eq_true_iff.mp p2
    exact .cons (Rep.dp d v h1 p3) (Reps.dp ds r h2 p4)
end
mutual
theorem eqv_py : ∀ (a b : D), a.pln = true → b.pln = true → D.eqv a b = PyData.eqv a.toPy b.toPy
  | .non, b, _, hb => by cases b <;> first | rfl | cases hb
  | .bl _, b, _, hb => by cases b <;> first | rfl | cases hb
  | .int _, b, _, hb => by cases b <;> first | rfl | cases hb
  | .str _, b, _, hb => by cases b <;> first | rfl | cases hb
  | .lst xs, b, ha, hb => by
    cases b with
    | lst ys => exact eqvs_py xs ys ha hb
    | _ => first | rfl | cases hb
  | .tup xs, b, ha, hb => by
    cases b with
    | tup ys => exact eqvs_py xs ys ha hb
    | _ => first | rfl | cases hb
  | .dct _, _, ha, _ => by cases ha
  | .ins _ _, _, ha, _ => by cases ha
theorem eqvs_py : ∀ (a b : List D), D.plns a = true → D.plns b = true → D.eqvs a b = PyData.eqvAll (D.toPys a) (D.toPys b)
  | [], [], _, _ => rfl
  | [], _ :: _, _, _ => rfl
  | _ :: _, [], _, _ => rfl
  | x :: xs, y :: ys, ha, hb => by
    obtain ⟨a1, a2⟩ := Bool.and_eq_true_iff.mp (show (D.pln x && D.plns xs) = true from ha)
    obtain ⟨b1, b2⟩ := Bool.and_eq_true_iff.mp (show (D.pln y && D.plns ys) = true from hb)
    show (D.eqv x y && D.eqvs xs ys) = (PyData.eqv x.toPy y.toPy && PyData.eqvAll (D.toPys xs) (D.toPys ys))
    rw [eqv_py x y a1 b1, eqvs_py xs ys a2 b2]
end

/-! ### what is owned -/
def notMut : D → Bool
  | .lst _ => false
  | .dct _ => false
  | .ins _ _ => false
  | _ => true
def All3 (P : D → V → List Addr → Prop) : List D → List V → List (List Addr) → Prop
  | [], [], [] => True
  | d :: ds, v :: vs, F :: Fs => P d v F ∧ All3 P ds vs Fs
  | _, _, _ => False
def RepO (K : PySem.W.Frag) (cl : Nat → Addr) (H : Hp) (Z : Addr → Prop) : Nat → D → V → List Addr → Prop
  | 0, d, v, F => F = [] ∧ Rep K cl H Z d v
  | n + 1, d, v, F => (notMut d = true ∧ F = [] ∧ Rep K cl H Z d v) ∨ ∃ a Fs, v = .ref a ∧ F = a :: Fs.flatten ∧
      ((∃ ds vs, d = .lst ds ∧ H a = some (.lst vs) ∧ All3 (RepO K cl H Z n) ds vs Fs) ∨
       (∃ kvs ps, d = .dct kvs ∧ H a = some (.dK ps) ∧ kvs.map (·.1) = ps.map (·.1) ∧ All3 (RepO K cl H Z n) (kvs.map (·.2)) (ps.map (·.2)) Fs) ∨
       (∃ c dx fs ps, d = .ins c fs ∧ H a = some (.ins (cl c) dx ps) ∧ fs.map (·.1) = ps.map (·.1) ∧ All3 (RepO K cl H Z n) (fs.map (·.2)) (ps.map (·.2)) Fs))
theorem All3.imp {P Q : D → V → List Addr → Prop} : ∀ {ds : List D} {vs : List V} {Fs : List (List Addr)}, (∀ d v F, F ∈ Fs → P d v F → Q d v F) → All3 P ds vs Fs → All3 Q ds vs Fs
  | [], [], [], _, _ => trivial
  | d :: ds, v :: vs, F :: Fs, h, ⟨h1, h2⟩ => ⟨h d v F (List.mem_cons_self) h1, All3.imp (fun d v G hG => h d v G (List.mem_cons_of_mem _ hG)) h2⟩
  | [], _ :: _, _, _, h => h.elim
  | [], [], _ :: _, _, h => h.elim
  | _ :: _, [], _, _, h => h.elim
  | _ :: _, _ :: _, [], _, h => h.elim
theorem All3.length {P : D → V → List Addr → Prop} : ∀ {ds : List D} {vs : List V} {Fs : List (List Addr)}, All3 P ds vs Fs → vs.length = ds.length ∧ Fs.length = ds.length
  | [], [], [], _ => ⟨rfl, rfl⟩
  | d :: ds, v :: vs, F :: Fs, ⟨h1, h2⟩ => by
    obtain ⟨e1, e2⟩ := All3.length h2
    exact ⟨by rw [List.length_cons, List.length_cons, e1], by rw [List.length_cons, List.length_cons, e2]⟩
  | [], _ :: _, _, h => h.elim
  | [], [], _ :: _, h => h.elim
  | _ :: _, [], _, h => h.elim
  | _ :: _, _ :: _, [], h => h.elim
theorem RepO.mono : ∀ (n : Nat) {d : D} {v : V} {F : List Addr}, Agr (fun a => Z a ∨ a ∈ F) H H' → (∀ a, Z a → Z' a) → RepO K cl H Z n d v F → RepO K cl H' Z' n d v F
  | 0, d, v, F, g, s, ⟨e, h⟩ => ⟨e, Rep.mono (fun a o ha => g a o (.inl ha)) s d v h⟩
  | n + 1, d, v, F, g, s, h => by
    rcases h with ⟨m, e, h⟩ | ⟨a, Fs, e1, e2, h⟩
    · exact .inl ⟨m, e, Rep.mono (fun a o ha => g a o (.inl ha)) s d v h⟩
    · refine .inr ⟨a, Fs, e1, e2, ?_⟩
      have ga : ∀ o, H a = some o → H' a = some o := fun o => g a o (.inr (by rw [e2]; exact List.mem_cons_self))
      have gs : ∀ d v G, G ∈ Fs → RepO K cl H Z n d v G → RepO K cl H' Z' n d v G := fun d v G hG x => RepO.mono n (fun b o hb => g b o (hb.imp id fun hm => by
        rw [e2]
        exact List.mem_cons_of_mem _ (List.mem_flatten.mpr ⟨G, hG, hm⟩))) s x
      rcases h with ⟨ds, vs, ed, ha, hh⟩ | ⟨kvs, ps, ed, ha, ek, hh⟩ | ⟨c, dx, fs, ps, ed, ha, ek, hh⟩
      · exact .inl ⟨ds, vs, ed, ga _ ha, hh.imp gs⟩
      · exact .inr (.inl ⟨kvs, ps, ed, ga _ ha, ek, hh.imp gs⟩)
      · exact .inr (.inr ⟨c, dx, fs, ps, ed, ga _ ha, ek, hh.imp gs⟩)
theorem repK_of : ∀ {kvs : List (Key × D)} {ps : List (Key × V)}, kvs.map (·.1) = ps.map (·.1) → Reps K cl H A (kvs.map (·.2)) (ps.map (·.2)) → RepK K cl H A kvs ps
  | [], [], _, _ => rfl
  | [], _ :: _, e, _ => by cases e
  | _ :: _, [], e, _ => by cases e
  | (k, d) :: r, (j, v) :: q, e, h => by
    obtain ⟨v', r', e', h1, h2⟩ := h
    injection e' with e1 e2
    have e0 : k :: r.map (·.1) = j :: q.map (·.1) := e
    injection e0 with e3 e4
    subst e1 e3
    exact ⟨v, q, rfl, h1, repK_of e4 (by rw [e2]; exact h2)⟩
theorem repK_to : ∀ {kvs : List (Key × D)} {ps : List (Key × V)}, RepK K cl H A kvs ps → kvs.map (·.1) = ps.map (·.1) ∧ Reps K cl H A (kvs.map (·.2)) (ps.map (·.2))
  | [], _, h => by
    rw [show _ = [] from h]
    exact ⟨rfl, rfl⟩
  | (k, d) :: r, _, h => by
    obtain ⟨v, q, rfl, h1, h2⟩ := h
    obtain ⟨e, h3⟩ := repK_to h2
    exact ⟨by rw [List.map_cons, List.map_cons, e], _, _, rfl, h1, h3⟩
theorem repF_of : ∀ {kvs : List (Str × D)} {ps : List (Str × V)}, kvs.map (·.1) = ps.map (·.1) → Reps K cl H A (kvs.map (·.2)) (ps.map (·.2)) → RepF K cl H A kvs ps
  | [], [], _, _ => rfl
  | [], _ :: _, e, _ => by cases e
  | _ :: _, [], e, _ => by cases e
  | (k, d) :: r, (j, v) :: q, e, h => by
    obtain ⟨v', r', e', h1, h2⟩ := h
    injection e' with e1 e2
    have e0 : k :: r.map (·.1) = j :: q.map (·.1) := e
    injection e0 with e3 e4
    subst e1 e3
    exact ⟨v, q, rfl, h1, repF_of e4 (by rw [e2]; exact h2)⟩
theorem repF_to : ∀ {kvs : List (Str × D)} {ps : List (Str × V)}, RepF K cl H A kvs ps → kvs.map (·.1) = ps.map (·.1) ∧ Reps K cl H A (kvs.map (·.2)) (ps.map (·.2))
  | [], _, h => by
    rw [show _ = [] from h]
    exact ⟨rfl, rfl⟩
  | (k, d) :: r, _, h => by
    obtain ⟨v, q, rfl, h1, h2⟩ := h
    obtain ⟨e, h3⟩ := repF_to h2
    exact ⟨by rw [List.map_cons, List.map_cons, e], _, _, rfl, h1, h3⟩
theorem All3.reps {P : D → V → List Addr → Prop} : ∀ {ds : List D} {vs : List V} {Fs : List (List Addr)}, (∀ d v F, F ∈ Fs → P d v F → Rep K cl H A d v) → All3 P ds vs Fs → Reps K cl H A ds vs
  | [], [], [], _, _ => rfl
  | d :: ds, v :: vs, F :: Fs, h, ⟨h1, h2⟩ => ⟨v, vs, rfl, h d v F List.mem_cons_self h1, All3.reps (fun d v G hG => h d v G (List.mem_cons_of_mem _ hG)) h2⟩
  | [], _ :: _, _, _, h => h.elim
  | [], [], _ :: _, _, h => h.elim
  | _ :: _, [], _, _, h => h.elim
  | _ :: _, _ :: _, [], _, h => h.elim
/-- what is owned may be read -/
theorem RepO.rep : ∀ (n : Nat) {d : D} {v : V} {F : List Addr}, RepO K cl H Z n d v F → Rep K cl H (fun a => Z a ∨ a ∈ F) d v
  | 0, d, v, F, ⟨e, h⟩ => Rep.mono (fun _ _ _ h => h) (fun _ h => .inl h) d v h
  | n + 1, d, v, F, h => by
    rcases h with ⟨m, e, h⟩ | ⟨a, Fs, e1, e2, h⟩
    · exact Rep.mono (fun _ _ _ h => h) (fun _ h => .inl h) d v h
    · have ha : a ∈ F := by rw [e2]; exact List.mem_cons_self
      have sub : ∀ d v G, G ∈ Fs → RepO K cl H Z n d v G → Rep K cl H (fun a => Z a ∨ a ∈ F) d v := fun d v G hG x => Rep.mono (fun _ _ _ h => h) (fun b hb => hb.imp id fun hm => by
        rw [e2]
        exact List.mem_cons_of_mem _ (List.mem_flatten.mpr ⟨G, hG, hm⟩)) d v (RepO.rep n x)
      rcases h with ⟨ds, vs, rfl, hh, q⟩ | ⟨kvs, ps, rfl, hh, ek, q⟩ | ⟨c, dx, fs, ps, rfl, hh, ek, q⟩
      · exact ⟨a, vs, e1, .inl ⟨.inl hh, .inr ha⟩, q.reps sub⟩
      · exact ⟨a, ps, e1, ⟨hh, .inr ha⟩, repK_of ek (q.reps sub)⟩
      · exact ⟨a, dx, ps, e1, ⟨hh, .inr ha⟩, repF_of ek (q.reps sub)⟩
theorem All3.of_reps : ∀ {ds : List D} {vs : List V}, Reps K cl H Z ds vs → All3 (RepO K cl H Z 0) ds vs (ds.map fun _ => [])
  | [], _, h => by
    rw [show _ = [] from h]
    exact trivial
  | d :: ds, _, h => by
    obtain ⟨v, r, rfl, h1, h2⟩ := h
    exact ⟨⟨rfl, h1⟩, All3.of_reps h2⟩
theorem flat_nils {α β : Type} : ∀ (xs : List α), (xs.map fun _ => ([] : List β)).flatten = []
  | [] => rfl
  | x :: xs => by
    show [] ++ (xs.map fun _ => ([] : List β)).flatten = []
    rw [flat_nils xs]
    rfl
theorem RepO.lst1 {a : Addr} {ds : List D} {vs : List V} (h : H a = some (.lst vs)) (r : Reps K cl H Z ds vs) : RepO K cl H Z 1 (.lst ds) (.ref a) [a] :=
  .inr ⟨a, ds.map fun _ => [], rfl, by rw [flat_nils], .inl ⟨ds, vs, rfl, h, All3.of_reps r⟩⟩
theorem RepO.dct1 {a : Addr} {kvs : List (Key × D)} {ps : List (Key × V)} (h : H a = some (.dK ps)) (r : RepK K cl H Z kvs ps) : RepO K cl H Z 1 (.dct kvs) (.ref a) [a] :=
  .inr ⟨a, (kvs.map (·.2)).map fun _ => [], rfl, by rw [flat_nils], .inr (.inl ⟨kvs, ps, rfl, h, (repK_to r).1, All3.of_reps (repK_to r).2⟩)⟩
theorem RepO.ins1 {a dx : Addr} {c : Nat} {kvs : List (Str × D)} {ps : List (Str × V)} (h : H a = some (.ins (cl c) dx ps)) (r : RepF K cl H Z kvs ps) : RepO K cl H Z 1 (.ins c kvs) (.ref a) [a] :=
  .inr ⟨a, (kvs.map (·.2)).map fun _ => [], rfl, by rw [flat_nils], .inr (.inr ⟨c, dx, kvs, ps, rfl, h, (repF_to r).1, All3.of_reps (repF_to r).2⟩)⟩
/-- the top node within A, what it holds within B -/
def Rep2 (K : PySem.W.Frag) (cl : Nat → Addr) (H : Hp) (A B : Addr → Prop) : D → V → Prop
  | .lst ds, v => ∃ a vs, v = .ref a ∧ LAt K H A a vs ∧ Reps K cl H B ds vs
  | .tup ds, v => ∃ a vs, v = .ref a ∧ TAt K H A a vs ∧ Reps K cl H B ds vs
  | .dct kvs, v => ∃ a ps, v = .ref a ∧ (H a = some (.dK ps) ∧ A a) ∧ RepK K cl H B kvs ps
  | .ins c fs, v => ∃ a dx ps, v = .ref a ∧ (H a = some (.ins (cl c) dx ps) ∧ A a) ∧ RepF K cl H B fs ps
  | d, v => Rep K cl H A d v
theorem Rep2.mono {d : D} {v : V} (g : Agr A H H') (s : ∀ a, A a → A' a) (g2 : Agr B H H') (s2 : ∀ a, B a → B' a) (h : Rep2 K cl H A B d v) : Rep2 K cl H' A' B' d v := by
  cases d with
  | lst ds =>
    obtain ⟨a, vs, e, l, r⟩ := h
    exact ⟨a, vs, e, l.mono g s, Reps.mono g2 s2 _ _ r⟩
  | tup ds =>
    obtain ⟨a, vs, e, l, r⟩ := h
    exact ⟨a, vs, e, l.mono g s, Reps.mono g2 s2 _ _ r⟩
  | dct kvs =>
    obtain ⟨a, vs, e, l, r⟩ := h
    exact ⟨a, vs, e, ⟨g a _ l.2 l.1, s a l.2⟩, RepK.mono g2 s2 _ _ r⟩
  | ins c fs =>
    obtain ⟨a, dx, vs, e, l, r⟩ := h
    exact ⟨a, dx, vs, e, ⟨g a _ l.2 l.1, s a l.2⟩, RepF.mono g2 s2 _ _ r⟩
  | _ => exact h
theorem Rep2.rep {d : D} {v : V} (h : Rep2 K cl H A B d v) : Rep K cl H (fun a => A a ∨ B a) d v := by
  cases d with
  | lst ds =>
    obtain ⟨a, vs, e, l, r⟩ := h
    exact ⟨a, vs, e, l.mono (fun _ _ _ h => h) (fun _ h => .inl h), Reps.mono (fun _ _ _ h => h) (fun _ h => .inr h) _ _ r⟩
  | tup ds =>
    obtain ⟨a, vs, e, l, r⟩ := h
    exact ⟨a, vs, e, l.mono (fun _ _ _ h => h) (fun _ h => .inl h), Reps.mono (fun _ _ _ h => h) (fun _ h => .inr h) _ _ r⟩
  | dct kvs =>
    obtain ⟨a, vs, e, l, r⟩ := h
    exact ⟨a, vs, e, ⟨l.1, .inl l.2⟩, RepK.mono (fun _ _ _ h => h) (fun _ h => .inr h) _ _ r⟩
  | ins c fs =>
    obtain ⟨a, dx, vs, e, l, r⟩ := h
    exact ⟨a, dx, vs, e, ⟨l.1, .inl l.2⟩, RepF.mono (fun _ _ _ h => h) (fun _ h => .inr h) _ _ r⟩
  | _ => exact h
theorem Rep.two {d : D} {v : V} (h : Rep K cl H A d v) : Rep2 K cl H A A d v := by
  cases d <;> exact h
end
end PV

set_option Elab.async false
set_option linter.all false
set_option maxRecDepth 100000
set_option maxHeartbeats 2000000
/-! PV2: the reading state, what an expression yields, the operations. -/
namespace PV
open PySem L2
open Evl (Ex)

theorem LIM_le : LIM ≤ sizeLine := by
  rw [sizeLine_eq]
  decide
def New (H H' : Hp) (a : Addr) : Prop := H a = none ∧ H' a ≠ none
theorem New.right {H H1 H2 : Hp} {a : Addr} (h : New H H1 a) (e : Ex H1 H2) : New H H2 a := by
  refine ⟨h.1, fun z => h.2 ?_⟩
  cases q : H1 a with
  | none => rfl
  | some o =>
    rw [e a o q] at z
    cases z
theorem New.left {H H1 H2 : Hp} {a : Addr} (h : New H1 H2 a) (e : Ex H H1) : New H H2 a := by
  refine ⟨?_, h.2⟩
  cases q : H a with
  | none => rfl
  | some o =>
    have := h.1
    rw [e a o q] at this
    cases this
theorem ex_there {H H' : Hp} {a : Addr} (e : Ex H H') (h : H a ≠ none) : H' a ≠ none := by
  cases q : H a with
  | none => exact absurd q h
  | some o =>
    rw [e a o q]
    exact fun z => by cases z
theorem new_of {H H' : Hp} {a : Addr} (h : H' a ≠ none) : H a ≠ none ∨ New H H' a := by
  by_cases q : H a = none
  · exact .inr ⟨q, h⟩
  · exact .inl q
def zn (FF : Nat → List Addr) (Z : Addr → Prop) (S : List Nat) : Addr → Prop := fun a => Z a ∨ ∃ i ∈ S, a ∈ FF i

structure RSt (K : PySem.W.Frag) (cl : Nat → Addr) (Γ : List Nat) (FF : Nat → List Addr) (Z : Addr → Prop) (σ : St) (H : Hp) (ρ : Env) : Prop where
  sl : ∀ i d, ρ[i]? = some (some d) → ∃ v, σ[i]? = some (some v) ∧ RepO K cl H Z (Γ.getD i 0) d v (FF i)
  z : ∀ a, Z a → H a ≠ none
  f : ∀ i a, a ∈ FF i → H a ≠ none
  lz : ∀ i, Γ.getD i 0 = 0 → FF i = []
  ln : σ.length = ρ.length
section
variable {K : PySem.W.Frag} {cl : Nat → Addr} {Γ : List Nat} {FF : Nat → List Addr} {Z Z' B B' B0 B1 C0 C1 : Addr → Prop} {σ : St} {H H' H1 H2 : Hp} {ρ : Env}
theorem RSt.ext (r : RSt K cl Γ FF Z σ H ρ) (e : Ex H H') : RSt K cl Γ FF Z σ H' ρ :=
  ⟨fun i d h => let ⟨v, h1, h2⟩ := r.sl i d h; ⟨v, h1, RepO.mono _ (Agr.of_ex e) (fun _ h => h) h2⟩, fun a h => ex_there e (r.z a h), fun i a h => ex_there e (r.f i a h), r.lz, r.ln⟩
theorem RSt.zn_there (r : RSt K cl Γ FF Z σ H ρ) {S : List Nat} {a : Addr} (h : zn FF Z S a) : H a ≠ none := by
  rcases h with h | ⟨i, _, h⟩
  · exact r.z a h
  · exact r.f i a h
theorem zn_mono {S S' : List Nat} (h : ∀ i ∈ S, i ∈ S') {a : Addr} (x : zn FF Z S a) : zn FF Z S' a := by
  rcases x with x | ⟨i, hi, x⟩
  · exact .inl x
  · exact .inr ⟨i, h i hi, x⟩

/-- what an expression of level n has yielded: B0 the zone of the whole, B1 of what it holds -/
def Out (K : PySem.W.Frag) (cl : Nat → Addr) (n : Nat) (B0 B1 : Addr → Prop) (H H' : Hp) (d : D) (v : V) : Prop := match n with
  | 0 => Rep2 K cl H' (fun a => B0 a ∨ New H H' a) (fun a => B1 a ∨ New H H' a) d v
  | n + 1 => ∃ F : List Addr, (∀ a ∈ F, New H H' a) ∧ F.Nodup ∧ RepO K cl H' (fun a => (B1 a ∨ New H H' a) ∧ a ∉ F) (n + 1) d v F
theorem Out.two {n : Nat} {d : D} {v : V} (s : ∀ a, B1 a → B0 a) (o : Out K cl n B0 B1 H H' d v) : Rep2 K cl H' (fun a => B0 a ∨ New H H' a) (fun a => B1 a ∨ New H H' a) d v := by
  cases n with
  | zero => exact o
  | succ n =>
    obtain ⟨F, hF, nd, r⟩ := o
    rcases r with ⟨m, _, r⟩ | ⟨a, Fs, e1, e2, r⟩
    · exact Rep2.mono (fun _ _ _ h => h) (fun a h => h.1.imp (s a) id) (fun _ _ _ h => h) (fun a h => h.1) r.two
    · have ha : New H H' a := hF a (by rw [e2]; exact List.mem_cons_self)
      have sub : ∀ d v G, G ∈ Fs → RepO K cl H' (fun a => (B1 a ∨ New H H' a) ∧ a ∉ F) n d v G → Rep K cl H' (fun a => B1 a ∨ New H H' a) d v := fun d v G hG x =>
        Rep.mono (fun _ _ _ h => h) (fun b hb => by
          rcases hb with hb | hb
          · exact hb.1
          · exact .inr (hF b (by
              rw [e2]
              exact List.mem_cons_of_mem _ (List.mem_flatten.mpr ⟨G, hG, hb⟩)))) d v (RepO.rep n x)
      rcases r with ⟨ds, vs, rfl, hh, q⟩ | ⟨kvs, ps, rfl, hh, ek, q⟩ | ⟨c, dx, fs, ps, rfl, hh, ek, q⟩
      · exact ⟨a, vs, e1, .inl ⟨.inl hh, .inr ha⟩, q.reps sub⟩
      · exact ⟨a, ps, e1, ⟨hh, .inr ha⟩, repK_of ek (q.reps sub)⟩
      · exact ⟨a, dx, ps, e1, ⟨hh, .inr ha⟩, repF_of ek (q.reps sub)⟩
theorem Out.rep {n : Nat} {d : D} {v : V} (s : ∀ a, B1 a → B0 a) (o : Out K cl n B0 B1 H H' d v) : Rep K cl H' (fun a => B0 a ∨ New H H' a) d v :=
  Rep.mono (fun _ _ _ h => h) (fun a h => h.elim id fun h => h.imp (s a) id) d v (o.two s).rep
/-- on to a later heap -/
theorem Rep.on {d : D} {v : V} (e1 : Ex H H1) (e : Ex H1 H2) (s : ∀ a, B a → B' a) (h : Rep K cl H1 (fun a => B a ∨ New H H1 a) d v) : Rep K cl H2 (fun a => B' a ∨ New H H2 a) d v :=
  Rep.mono (Agr.of_ex e) (fun a h => h.imp (s a) fun n => n.right e) d v h
theorem Reps.on {d : List D} {v : List V} (e : Ex H1 H2) (s : ∀ a, B a → B' a) (h : Reps K cl H1 (fun a => B a ∨ New H H1 a) d v) : Reps K cl H2 (fun a => B' a ∨ New H H2 a) d v :=
  Reps.mono (Agr.of_ex e) (fun a h => h.imp (s a) fun n => n.right e) d v h
theorem Rep.since {d : D} {v : V} (e1 : Ex H H1) (s : ∀ a, B a → B' a) (h : Rep K cl H2 (fun a => B a ∨ New H1 H2 a) d v) : Rep K cl H2 (fun a => B' a ∨ New H H2 a) d v :=
  Rep.mono (fun _ _ _ h => h) (fun a h => h.imp (s a) fun n => n.left e1) d v h
theorem Reps.since {d : List D} {v : List V} (e1 : Ex H H1) (s : ∀ a, B a → B' a) (h : Reps K cl H2 (fun a => B a ∨ New H1 H2 a) d v) : Reps K cl H2 (fun a => B' a ∨ New H H2 a) d v :=
  Reps.mono (fun _ _ _ h => h) (fun a h => h.imp (s a) fun n => n.left e1) d v h
theorem Rep2.since {d : D} {v : V} (e1 : Ex H H1) (s : ∀ a, B a → B' a) (s2 : ∀ a, B0 a → B1 a) (h : Rep2 K cl H2 (fun a => B a ∨ New H1 H2 a) (fun a => B0 a ∨ New H1 H2 a) d v) : Rep2 K cl H2 (fun a => B' a ∨ New H H2 a) (fun a => B1 a ∨ New H H2 a) d v :=
  h.mono (fun _ _ _ h => h) (fun a h => h.imp (s a) fun n => n.left e1) (fun _ _ _ h => h) (fun a h => h.imp (s2 a) fun n => n.left e1)
/-- what was yielded later, told from an earlier heap -/
theorem Out.since {n : Nat} {d : D} {v : V} (e1 : Ex H H1) (s : ∀ a, B0 a → C0 a) (s2 : ∀ a, B1 a → C1 a) (o : Out K cl n B0 B1 H1 H2 d v) : Out K cl n C0 C1 H H2 d v := by
  cases n with
  | zero => exact Rep2.since e1 s s2 o
  | succ n =>
    obtain ⟨F, hF, nd, r⟩ := o
    exact ⟨F, fun a h => (hF a h).left e1, nd, RepO.mono _ (fun _ _ _ h => h) (fun a h => ⟨h.1.imp (s2 a) fun n => n.left e1, h.2⟩) r⟩
theorem Out.weak {n : Nat} {d : D} {v : V} (s : ∀ a, B0 a → C0 a) (s2 : ∀ a, B1 a → C1 a) (o : Out K cl n B0 B1 H H2 d v) : Out K cl n C0 C1 H H2 d v := o.since (Evl.Ex.refl H) s s2
/-- a scalar -/
def D.toV : D → V
  | .bl b => .bl b | .int i => .int i | .str s => .str s | _ => .non
theorem rep_flat {d : D} (f : d.flat = true) : Rep K cl H B d d.toV := by
  cases d <;> first | rfl | cases f
theorem Rep.toV {d : D} {v : V} (f : d.flat = true) (h : Rep K cl H B d v) : v = d.toV := by
  cases d <;> first | exact h | cases f
theorem Out.flat {n : Nat} {d : D} (f : d.flat = true) : Out K cl n B0 B1 H H' d d.toV := by
  cases n with
  | zero =>
    show Rep2 K cl H' _ _ d d.toV
    cases d <;> first | rfl | cases f
  | succ n =>
    refine ⟨[], fun a h => (by cases h), List.nodup_nil, .inl ⟨?_, rfl, rep_flat f⟩⟩
    cases d <;> first | rfl | cases f
theorem Out.int {n : Nat} {i : Int} : Out K cl n B0 B1 H H' (.int i) (.int i) := Out.flat (d := .int i) rfl
theorem Out.bl {n : Nat} {i : Bool} : Out K cl n B0 B1 H H' (.bl i) (.bl i) := Out.flat (d := .bl i) rfl
theorem Out.str {n : Nat} {i : Str} : Out K cl n B0 B1 H H' (.str i) (.str i) := Out.flat (d := .str i) rfl
/-- a new list, tuple, dict -/
theorem Out.newL {p : Addr} {ds : List D} {vs : List V} (hB : ∀ a, B a → H a ≠ none) (e : Ex H H2) (hp : H2 p = none) (r : Reps K cl H2 (fun a => B a ∨ New H H2 a) ds vs) : Out K cl 1 B0 B H (upd H2 p (.lst vs)) (.lst ds) (.ref p) := by
  have e3 : Ex H2 (upd H2 p (.lst vs)) := Evl.Ex.new hp
  refine ⟨[p], fun a ha => ?_, by simp, RepO.lst1 upd_same (Reps.mono (Agr.of_ex e3) (fun a ha => ⟨ha.imp id fun n => n.right e3, fun hm => ?_⟩) _ _ r)⟩
  · obtain rfl := List.mem_singleton.mp ha
    exact ⟨Evl.fresh_back e hp, by rw [upd_same]; exact fun z => by cases z⟩
  · obtain rfl := List.mem_singleton.mp hm
    rcases ha with ha | ha
    · exact absurd hp (ex_there e (hB _ ha))
    · exact ha.2 hp
theorem Out.newD {p : Addr} {ds : List (Key × D)} {vs : List (Key × V)} (hB : ∀ a, B a → H a ≠ none) (e : Ex H H2) (hp : H2 p = none) (r : RepK K cl H2 (fun a => B a ∨ New H H2 a) ds vs) : Out K cl 1 B0 B H (upd H2 p (.dK vs)) (.dct ds) (.ref p) := by
  have e3 : Ex H2 (upd H2 p (.dK vs)) := Evl.Ex.new hp
  refine ⟨[p], fun a ha => ?_, by simp, RepO.dct1 upd_same (RepK.mono (Agr.of_ex e3) (fun a ha => ⟨ha.imp id fun n => n.right e3, fun hm => ?_⟩) _ _ r)⟩
  · obtain rfl := List.mem_singleton.mp ha
    exact ⟨Evl.fresh_back e hp, by rw [upd_same]; exact fun z => by cases z⟩
  · obtain rfl := List.mem_singleton.mp hm
    rcases ha with ha | ha
    · exact absurd hp (ex_there e (hB _ ha))
    · exact ha.2 hp
theorem Out.newT {p : Addr} {ds : List D} {vs : List V} (hB : ∀ a, B a → H a ≠ none) (e : Ex H H2) (hp : H2 p = none) (r : Reps K cl H2 (fun a => B a ∨ New H H2 a) ds vs) : Out K cl 0 B0 B H (upd H2 p (.tup vs)) (.tup ds) (.ref p) := by
  have e3 : Ex H2 (upd H2 p (.tup vs)) := Evl.Ex.new hp
  exact ⟨p, vs, rfl, .inl ⟨.inl upd_same, .inr ⟨Evl.fresh_back e hp, by rw [upd_same]; exact fun z => by cases z⟩⟩, Reps.mono (Agr.of_ex e3) (fun a ha => ha.imp id fun n => n.right e3) _ _ r⟩
theorem Out.of2 {d : D} {v : V} (h : Rep2 K cl H' (fun a => B0 a ∨ New H H' a) (fun a => B1 a ∨ New H H' a) d v) : Out K cl 0 B0 B1 H H' d v := h
/-- a part of what is held -/
theorem Out.part {d : D} {v : V} (s : ∀ a, B a → B0 a) (s2 : ∀ a, B a → B1 a) (h : Rep K cl H' (fun a => B a ∨ New H H' a) d v) : Out K cl 0 B0 B1 H H' d v :=
  h.two.mono (fun _ _ _ h => h) (fun a h => h.imp (s a) id) (fun _ _ _ h => h) (fun a h => h.imp (s2 a) id)
end

/-! ### levels and aliases -/
def Tab.lv (T : Tab) (f : Nat) : Nat := match T.fn[f]? with
  | some e => e.lvl
  | none => 0
def CE.lv (T : Tab) : CE → Nat
  | .lst _ => 1 | .dnew => 1 | .dis _ _ => 1 | .dsp _ _ => 1 | .slc _ _ _ => 1
  | .call f _ => T.lv f | .meth f _ _ => T.lv f
  | .bi .list _ => 1 | .bi .sorted _ => 1
  | .lc _ _ _ _ _ => 1 | .lstr _ => 1
  | .dc _ _ _ _ v => if v.isNil then 2 else 1
  | .bin .add _ _ => 1
  | _ => 0
mutual
/-- aliases of the whole, of what it holds -/
def CE.al (Γ : List Nat) : CE → List Nat
  | .var i => if 1 ≤ Γ.getD i 0 then [i] else []
  | .bin .add a b => CE.ac Γ a ++ CE.ac Γ b
  | .bop _ es => CEs.al Γ es
  | .ife _ a b => CE.al Γ a ++ CE.al Γ b
  | .tup es => CEs.al Γ es | .lst es => CEs.al Γ es | .dis _ v => CE.al Γ v | .dsp _ vs => CEs.al Γ vs
  | .ix a _ => CE.ac Γ a | .slc a _ _ => CE.ac Γ a
  | .call _ es => CEs.al Γ es | .meth _ o es => CE.al Γ o ++ CEs.al Γ es | .make _ es => CEs.al Γ es
  | .bi .list (.cons a _) => CE.ac Γ a
  | .bi .tuple (.cons a _) => CE.al Γ a
  | .bm .get1 o _ => CE.ac Γ o
  | .bm .get2 o es => CE.ac Γ o ++ CEs.al Γ es
  | .fld _ o _ => CE.ac Γ o
  | .lc _ _ _ _ elt => CE.al Γ elt
  | .dc _ _ _ _ v => CE.al Γ v
  | .lstr src => CI.al Γ src
  | _ => []
def CE.ac (Γ : List Nat) : CE → List Nat
  | .var i => if 2 ≤ Γ.getD i 0 then [i] else []
  | .bin .add a b => CE.ac Γ a ++ CE.ac Γ b
  | .bop _ es => CEs.ac Γ es
  | .ife _ a b => CE.ac Γ a ++ CE.ac Γ b
  | .tup es => CEs.al Γ es | .lst es => CEs.al Γ es | .dis _ v => CE.al Γ v | .dsp _ vs => CEs.al Γ vs
  | .ix a _ => CE.ac Γ a | .slc a _ _ => CE.ac Γ a
  | .call _ es => CEs.al Γ es | .meth _ o es => CE.al Γ o ++ CEs.al Γ es | .make _ es => CEs.al Γ es
  | .bi .list (.cons a _) => CE.ac Γ a
  | .bi .tuple (.cons a _) => CE.ac Γ a
  | .bm .get1 o _ => CE.ac Γ o
  | .bm .get2 o es => CE.ac Γ o ++ CEs.al Γ es
  | .fld _ o _ => CE.ac Γ o
  | .lc _ _ _ _ elt => CE.al Γ elt
  | .dc _ _ _ _ v => CE.al Γ v
  | .lstr src => CI.al Γ src
  | _ => []
def CEs.al (Γ : List Nat) : CEs → List Nat
  | .nil => []
  | .cons e es => CE.al Γ e ++ CEs.al Γ es
def CEs.ac (Γ : List Nat) : CEs → List Nat
  | .nil => []
  | .cons e es => CE.ac Γ e ++ CEs.ac Γ es
/-- aliases of the items -/
def CI.al (Γ : List Nat) : CI → List Nat
  | .seq e => CE.ac Γ e
  | .rng1 _ => [] | .rng2 _ _ => []
  | .enum e => CE.ac Γ e
  | .zip a b => CE.ac Γ a ++ CE.ac Γ b
end
mutual
theorem CE.sub {Γ : List Nat} : ∀ (c : CE) (i : Nat), i ∈ CE.ac Γ c → i ∈ CE.al Γ c
  | .var j, i, h => by
    unfold CE.ac at h
    unfold CE.al
    split at h
    · rw [if_pos (by omega)]
      exact h
    · cases h
  | .bin op a b, i, h => by cases op <;> exact h
  | .bop _ es, i, h => CEs.sub es i h
  | .ife _ a b, i, h => by
    rcases List.mem_append.mp (show i ∈ CE.ac Γ a ++ CE.ac Γ b from h) with h | h
    · exact List.mem_append.mpr (.inl (CE.sub a i h))
    · exact List.mem_append.mpr (.inr (CE.sub b i h))
  | .bi b es, i, h => by
    cases b <;> first
      | exact h
      | (cases es with
        | nil => exact h
        | cons a es => first | exact h | exact CE.sub a i h)
  | .glob _, _, h => h | .cD _, _, h => h | .neg _, _, h => h | .cmp _ _ _, _, h => h | .cmp2 _ _ _ _ _, _, h => h
  | .not _, _, h => h | .tup _, _, h => h | .lst _, _, h => h | .dnew, _, h => h | .dis _ _, _, h => h | .dsp _ _, _, h => h | .ix _ _, _, h => h | .slc _ _ _, _, h => h
  | .call _ _, _, h => h | .meth _ _ _, _, h => h | .make _ _, _, h => h | .isi _ _, _, h => h | .fld _ _ _, _, h => h | .lc _ _ _ _ _, _, h => h | .dc _ _ _ _ _, _, h => h | .lstr _, _, h => h | .sc _, _, h => h
  | .bm m _ _, _, h => by cases m <;> exact h
theorem CEs.sub {Γ : List Nat} : ∀ (c : CEs) (i : Nat), i ∈ CEs.ac Γ c → i ∈ CEs.al Γ c
  | .nil, _, h => h
  | .cons e es, i, h => by
    rcases List.mem_append.mp (show i ∈ CE.ac Γ e ++ CEs.ac Γ es from h) with h | h
    · exact List.mem_append.mpr (.inl (CE.sub e i h))
    · exact List.mem_append.mpr (.inr (CEs.sub es i h))
end
end PV

set_option Elab.async false
set_option linter.all false
set_option maxRecDepth 100000
set_option maxHeartbeats 2000000
/-! PV3: the operations by values. -/
namespace PV
open PySem L2 PyProof.Rows
open Evl (Ex)

theorem OpR.or {X : Cx} {f : Value → Value → Sem Value} {r r' : R2} (h : OpR X f r) (h' : OpR X f r') : OpR X f (fun x y H Q => r x y H Q ∨ r' x y H Q) := L2.OpR.or h h'
theorem CallR.or {X : Cx} {f : Value} {r r' : List V → Hp → VK → Prop} (h : CallR X f r) (h' : CallR X f r') : CallR X f (fun xs H Q => r xs H Q ∨ r' xs H Q) := by
  intro pins s σ H xs us Q I rv q
  rcases q with q | q
  · exact h pins s σ H xs us Q I rv q
  · exact h' pins s σ H xs us Q I rv q
section
variable {X : Cx}
/-- list + list, of any kind -/
def rCatS (K : PySem.W.Frag) : R2 := fun x y H Q => ∃ l b xs zs, x = .ref l ∧ y = .ref b ∧ SqL K H l xs ∧ SqL K H b zs ∧ xs.length + zs.length ≤ sizeLine ∧ ∀ p, H p = none → Q (.ref p) (upd H p (.lst (xs ++ zs)))
theorem op_catS : OpR X (binaryOp .Add) (rCatS X.K) := by
  rintro pins s σ H _ _ _ _ Q I r1 r2 ⟨l, b, xs, zs, rfl, rfl, sl, sb, sz, q⟩
  cases r1; cases r2
  obtain ⟨us, ru, ⟨⟨c1, d1, dt1, s1⟩, n1, o1, k1, z1, e1⟩, -⟩ := I.list sl
  obtain ⟨ws, rw', ⟨⟨c2, d2, dt2, s2⟩, n2, o2, k2, z2, e2⟩, -⟩ := I.list sb
  dsimp only at k1 z1 e1 k2 z2 e2
  subst k1 z1 e1 k2 z2 e2
  have len1 := ru.length
  have len2 := rw'.length
  have fits : us.toArray.size + ws.toArray.size ≤ sizeLine := by
    simp only [List.size_toArray]
    omega
  refine concat_meets ⟨_, o1, rfl⟩ ⟨_, o2, rfl⟩ noFill_list_add seq_list_add PySem.F.slot_list_add PySem.F.entry_list_add (PySem.F.args_list_add_2 _ _) (list_addW l b us.toArray ws.toArray n1 n2 none none s1 s2 fits) ⟨o1, o2, ?_⟩
  rw [show us.toArray ++ ws.toArray = (us ++ ws).toArray by simp]
  refine ⟨.ref _, _, I.lnew (t' := s.toks) (ru.append rw') ?_, rfl, q _ I.fresh⟩
  exact (List.length_append (as := xs)).symm ▸ sz
def rAddA (K : PySem.W.Frag) : R2 := fun x y H Q => rI0 (fun i j => .int (i + j)) x y H Q ∨ (∃ i j, x = .str i ∧ y = .str j ∧ i.length + j.length ≤ sizeLine ∧ Q (.str (i ++ j)) H) ∨ rCatS K x y H Q
theorem op_addA : OpR X (binaryOp .Add) (rAddA X.K) := OpR.or op_add (OpR.or op_add_str op_catS)
end
section
variable {X : Cx} {cl : Nat → Addr} {H H1 H2 : Hp} {A B Ba Bb B0 B1 : Addr → Prop} {T : Tab}
/-- what a two-place operation needs -/
def BinOk (K : PySem.W.Frag) (cl : Nat → Addr) (n : Nat) (op : BOp) (r : R2) : Prop :=
  ∀ (H0 H : Hp) (Ba Bb : Addr → Prop) (x y : V) (a b d : D), Ex H0 H → (∀ q, Ba q → H0 q ≠ none) → (∀ q, Bb q → H0 q ≠ none) → Rep2 K cl H (fun _ => True) (fun q => Ba q ∨ New H0 H q) a x → Rep2 K cl H (fun _ => True) (fun q => Bb q ∨ New H0 H q) b y →
    binD op a b = some d → ∀ Q : VK, (∀ v H', Ex H0 H' → Out K cl n (fun q => Ba q ∨ Bb q) (fun q => Ba q ∨ Bb q) H0 H' d v → Q v H') → r x y H Q
theorem rep2_int {K : PySem.W.Frag} {i : Int} {x : V} (h : Rep2 K cl H A B (.int i) x) : x = .int i := h
theorem rep2_str {K : PySem.W.Frag} {i : Str} {x : V} (h : Rep2 K cl H A B (.str i) x) : x = .str i := h
theorem rep2_bl {K : PySem.W.Frag} {i : Bool} {x : V} (h : Rep2 K cl H A B (.bl i) x) : x = .bl i := h
theorem rep2_non {K : PySem.W.Frag} {x : V} (h : Rep2 K cl H A B .non x) : x = .non := h
theorem add_ok {K : PySem.W.Frag} : BinOk K cl 1 .add (rAddA K) := by
  intro H0 H Ba Bb x y a b d e ha hb ra rb hd Q hQ
  have hd : addD a b = some d := hd
  cases a with
  | int i =>
    cases b with
    | int j =>
      cases (show x = .int i from ra)
      cases (show y = .int j from rb)
      cases hd
      exact .inl ⟨i, j, rfl, rfl, hQ _ _ e Out.int⟩
    | _ => cases hd
  | str i =>
    cases b with
    | str j =>
      cases (show x = .str i from ra)
      cases (show y = .str j from rb)
      obtain ⟨h1, h2⟩ := Option.ite_none_right_eq_some.mp (show (if i.length + j.length ≤ LIM then some (D.str (i ++ j)) else none) = some d from hd)
      cases h2
      exact .inr (.inl ⟨i, j, rfl, rfl, Nat.le_trans h1 LIM_le, hQ _ _ e Out.str⟩)
    | _ => cases hd
  | lst xs =>
    cases b with
    | lst ys =>
      obtain ⟨p, vs, rfl, lp, rp⟩ := ra
      obtain ⟨q, ws, rfl, lq, rq⟩ := rb
      obtain ⟨h1, h2⟩ := Option.ite_none_right_eq_some.mp (show (if xs.length + ys.length ≤ LIM then some (D.lst (xs ++ ys)) else none) = some d from hd)
      cases h2
      refine .inr (.inr ⟨p, q, vs, ws, rfl, rfl, lp.sq, lq.sq, by rw [rp.length, rq.length]; exact Nat.le_trans h1 LIM_le, fun z hz => hQ _ _ (e.trans (Evl.Ex.new hz)) ?_⟩)
      refine Out.newL (fun a h => h.elim (ha a) (hb a)) e hz (Reps.append (Reps.mono (fun _ _ _ h => h) (fun a h => h.imp .inl id) _ _ rp) (Reps.mono (fun _ _ _ h => h) (fun a h => h.imp .inr id) _ _ rq))
    | _ => cases hd
  | _ => cases b <;> cases hd
/-- those of ints alone -/
theorem int_ok {K : PySem.W.Frag} {op : BOp} {C : Int → Int → Prop} {g : Int → Int → Int} (h : ∀ a b d, binD op a b = some d → ∃ i j, a = .int i ∧ b = .int j ∧ C i j ∧ d = .int (g i j)) : BinOk K cl 0 op (rI C fun i j => .int (g i j)) := by
  intro H0 H Ba Bb x y a b d e ha hb ra rb hd Q hQ
  obtain ⟨i, j, rfl, rfl, hc, rfl⟩ := h a b d hd
  cases (show x = .int i from ra)
  cases (show y = .int j from rb)
  exact ⟨i, j, rfl, rfl, hc, hQ _ _ e Out.int⟩
theorem sub_ok {K : PySem.W.Frag} : BinOk K cl 0 .sub (rI (fun _ _ => True) fun i j => .int (i - j)) := int_ok fun a b d h => by
  cases a with
  | int i => cases b with
    | int j => cases h; exact ⟨i, j, rfl, rfl, trivial, rfl⟩
    | _ => cases h
  | _ => cases b <;> cases h
theorem fdiv_ok {K : PySem.W.Frag} : BinOk K cl 0 .fdiv (rI CDiv fun i j => .int (i / j)) := int_ok fun a b d h => by
  cases a with
  | int i => cases b with
    | int j =>
      obtain ⟨h1, h2⟩ := Option.ite_none_right_eq_some.mp (show (if 0 < j ∧ j < 1073741824 then some (D.int (i / j)) else none) = some d from h)
      cases h2
      exact ⟨i, j, rfl, rfl, h1, rfl⟩
    | _ => cases h
  | _ => cases b <;> cases h
theorem mod_ok {K : PySem.W.Frag} : BinOk K cl 0 .mod (rI (fun _ j => 0 < j) fun i j => .int (i % j)) := int_ok fun a b d h => by
  cases a with
  | int i => cases b with
    | int j =>
      obtain ⟨h1, h2⟩ := Option.ite_none_right_eq_some.mp (show (if 0 < j then some (D.int (i % j)) else none) = some d from h)
      cases h2
      exact ⟨i, j, rfl, rfl, h1, rfl⟩
    | _ => cases h
  | _ => cases b <;> cases h
theorem pow_ok {K : PySem.W.Frag} : BinOk K cl 0 .pow (rI CPow fun i j => .int (i ^ j.toNat)) := int_ok fun a b d h => by
  cases a with
  | int i => cases b with
    | int j =>
      obtain ⟨h1, h2⟩ := Option.ite_none_right_eq_some.mp (show (if 0 ≤ j ∧ j ≤ 1000000 ∧ i.natAbs < 2 ^ 64 then some (D.int (i ^ j.toNat)) else none) = some d from h)
      cases h2
      exact ⟨i, j, rfl, rfl, h1, rfl⟩
    | _ => cases h
  | _ => cases b <;> cases h
/-- times, of ints; a list times an int: tracked lists alone -/
def rMulA : R2 := fun x y H Q => rI CMul (fun i j => .int (i * j)) x y H Q ∨ rRep x y H Q
theorem op_mulA : OpR X (binaryOp .Mult) rMulA := OpR.or op_mul op_rep
theorem op_subA : OpR X (binaryOp .Sub) (rI (fun _ _ => True) fun i j => .int (i - j)) := by
  rintro pins s σ H x y v u Q I rx ry ⟨i, j, e1, e2, -, q⟩
  exact op_sub pins s σ H x y v u Q I rx ry ⟨i, j, e1, e2, q⟩
end
/-! ### comparisons -/
section
variable {X : Cx} {cl : Nat → Addr} {H : Hp} {A B A' B' : Addr → Prop}
def CmpOk (K : PySem.W.Frag) (cl : Nat → Addr) (op : COp) (r : R2) : Prop :=
  ∀ (H : Hp) (A B : Addr → Prop) (x y : V) (a b : D) (k : Bool), Rep K cl H A a x → Rep K cl H B b y → cmpD op a b = some k → ∀ Q : VK, Q (.bl k) H → r x y H Q
def rEqA (K : PySem.W.Frag) : R2 := fun x y H Q => rEq x y H Q ∨ rEqD K x y H Q
def rNeA (K : PySem.W.Frag) : R2 := fun x y H Q => rNe x y H Q ∨ rNeD K x y H Q
theorem op_eqA (hu : X.A.units + 64 < cLine) : OpR X (compareOp .Eq) (rEqA X.K) := OpR.or op_eq (op_eqD hu)
theorem op_neA (hu : X.A.units + 64 < cLine) : OpR X (compareOp .NotEq) (rNeA X.K) := OpR.or op_ne (op_neD hu)
theorem scal_of {K : PySem.W.Frag} {a b : D} {x y : V} (ra : Rep K cl H A a x) (rb : Rep K cl H B b y) (s : D.scalP a b = true) : scal x y = true ∧ decide (x = y) = D.eqv a b := by
  cases a <;> cases b <;> first
    | (cases s; done)
    | (cases (show x = _ from ra)
       cases (show y = _ from rb)
       first
         | exact ⟨rfl, rfl⟩
         | exact ⟨rfl, dec_int⟩
         | exact ⟨rfl, dec_bl⟩
         | exact ⟨rfl, dec_str⟩
         | exact ⟨rfl, by simp [D.eqv]⟩)
theorem eqB_cases {a b : D} {k : Bool} (h : eqB a b = some k) : k = D.eqv a b ∧ (D.scalP a b = true ∨ (a.pln = true ∧ b.pln = true ∧ SeqAt.shaped a.toPy = true ∧ SeqAt.shaped b.toPy = true)) := by
  unfold eqB at h
  obtain ⟨h1, h2⟩ := Option.ite_none_right_eq_some.mp h
  cases h2
  refine ⟨rfl, ?_⟩
  rcases Bool.or_eq_true_iff.mp h1 with h1 | h1
  · exact .inl h1
  · obtain ⟨h2, h3⟩ := Bool.and_eq_true_iff.mp h1
    obtain ⟨h4, h5⟩ := Bool.and_eq_true_iff.mp (show (a.pln && SeqAt.shaped a.toPy) = true from h2)
    obtain ⟨h6, h7⟩ := Bool.and_eq_true_iff.mp (show (b.pln && SeqAt.shaped b.toPy) = true from h3)
    exact .inr ⟨h4, h6, h5, h7⟩
theorem eqA_ok {K : PySem.W.Frag} : CmpOk K cl .eq (rEqA K) := by
  intro H A B x y a b k ra rb h Q q
  obtain ⟨rfl, h | ⟨h1, h2, h3, h4⟩⟩ := eqB_cases (show eqB a b = some k from h)
  · obtain ⟨e1, e2⟩ := scal_of ra rb h
    exact .inl ⟨e1, by rw [e2]; exact q⟩
  · exact .inr ⟨_, _, Rep.dp a x ra h1, Rep.dp b y rb h2, h3, h4, by rw [← eqv_py a b h1 h2]; exact q⟩
theorem neA_ok {K : PySem.W.Frag} : CmpOk K cl .ne (rNeA K) := by
  intro H A B x y a b k ra rb h Q q
  obtain ⟨j, h0, rfl⟩ := Option.map_eq_some_iff.mp (show (eqB a b).map (!·) = some k from h)
  obtain ⟨rfl, h | ⟨h1, h2, h3, h4⟩⟩ := eqB_cases h0
  · obtain ⟨e1, e2⟩ := scal_of ra rb h
    exact .inl ⟨e1, by rw [e2]; exact q⟩
  · exact .inr ⟨_, _, Rep.dp a x ra h1, Rep.dp b y rb h2, h3, h4, by rw [← eqv_py a b h1 h2]; exact q⟩
def rLtA : R2 := fun x y H Q => rI0 (fun i j => .bl (decide (i < j))) x y H Q ∨ ∃ i j, x = .str i ∧ y = .str j ∧ Q (.bl (decide (i.cps.toList < j.cps.toList))) H
theorem op_ltA : OpR X (compareOp .Lt) rLtA := OpR.or op_lt op_lt_str
theorem ltA_ok {K : PySem.W.Frag} : CmpOk K cl .lt rLtA := by
  intro H A B x y a b k ra rb h Q q
  cases a with
  | int i => cases b with
    | int j =>
      cases h
      cases (show x = _ from ra)
      cases (show y = _ from rb)
      exact .inl ⟨i, j, rfl, rfl, q⟩
    | _ => cases h
  | str i => cases b with
    | str j =>
      cases h
      cases (show x = _ from ra)
      cases (show y = _ from rb)
      exact .inr ⟨i, j, rfl, rfl, q⟩
    | _ => cases h
  | _ => cases b <;> cases h
theorem intc_ok {K : PySem.W.Frag} {op : COp} {g : Int → Int → Bool} (h : ∀ a b k, cmpD op a b = some k → ∃ i j, a = .int i ∧ b = .int j ∧ k = g i j) : CmpOk K cl op (rI0 fun i j => .bl (g i j)) := by
  intro H A B x y a b k ra rb hk Q q
  obtain ⟨i, j, rfl, rfl, rfl⟩ := h a b k hk
  cases (show x = _ from ra)
  cases (show y = _ from rb)
  exact ⟨i, j, rfl, rfl, q⟩
theorem le_ok {K : PySem.W.Frag} : CmpOk K cl .le (rI0 fun i j => .bl (decide (i ≤ j))) := intc_ok fun a b k h => by
  cases a with
  | int i => cases b with
    | int j => cases h; exact ⟨i, j, rfl, rfl, rfl⟩
    | _ => cases h
  | _ => cases b <;> cases h
theorem gt_ok {K : PySem.W.Frag} : CmpOk K cl .gt (rI0 fun i j => .bl (decide (j < i))) := intc_ok fun a b k h => by
  cases a with
  | int i => cases b with
    | int j => cases h; exact ⟨i, j, rfl, rfl, rfl⟩
    | _ => cases h
  | _ => cases b <;> cases h
theorem ge_ok {K : PySem.W.Frag} : CmpOk K cl .ge (rI0 fun i j => .bl (decide (j ≤ i))) := intc_ok fun a b k h => by
  cases a with
  | int i => cases b with
    | int j => cases h; exact ⟨i, j, rfl, rfl, rfl⟩
    | _ => cases h
  | _ => cases b <;> cases h
/-- in -/
def rInA (K : PySem.W.Frag) (neg : Bool) : R2 := fun x y H Q =>
  (∃ i j, x = .str i ∧ y = .str j ∧ Q (.bl (if neg then !(!(Builtin.Str.occurrences j i 0 j.length 1).isEmpty) else !(Builtin.Str.occurrences j i 0 j.length 1).isEmpty)) H) ∨
  rIn K neg x y H Q ∨ (∃ d ds, Dp K H x d ∧ Dp K H y (.list ds) ∧ SeqAt.shaped d = true ∧ SeqAt.shaped (.list ds) = true ∧ Q (.bl (if neg then !ds.any (fun z => PyData.eqv z d) else ds.any fun z => PyData.eqv z d)) H) ∨
  ∃ a o, y = .ref a ∧ DGet H a x o ∧ Q (.bl (if neg then !o.isSome else o.isSome)) H
theorem op_in_dct (hu : X.A.units + 1 < cLine) : OpR X (compareOp .In) (fun x y H Q => ∃ a o, y = .ref a ∧ DGet H a x o ∧ Q (.bl o.isSome) H) := by
  intro pins s σ H x y v u Q I rx ry h
  obtain ⟨a, o, rfl, g, q⟩ := h
  cases ry
  exact d_in hu I g rx fun s3 I3 => ⟨.bl o.isSome, H, I3, rfl, q⟩
theorem op_nin_dct (hu : X.A.units + 1 < cLine) : OpR X (compareOp .NotIn) (fun x y H Q => ∃ a o, y = .ref a ∧ DGet H a x o ∧ Q (.bl (!o.isSome)) H) := by
  intro pins s σ H x y v u Q I rx ry h
  obtain ⟨a, o, rfl, g, q⟩ := h
  cases ry
  exact d_notIn hu I g rx fun s3 I3 => ⟨.bl (!o.isSome), H, I3, rfl, q⟩
theorem op_inA (hu : X.A.units + 65 < cLine) : OpR X (compareOp .In) (rInA X.K false) := OpR.or op_in_str (OpR.or op_in_seq (OpR.or (op_inD hu) (op_in_dct (by omega))))
theorem op_ninA (hu : X.A.units + 65 < cLine) : OpR X (compareOp .NotIn) (rInA X.K true) := OpR.or op_notin_str (OpR.or op_notIn_seq (OpR.or (op_notInD hu) (op_nin_dct (by omega))))
theorem inV_eq {K : PySem.W.Frag} : ∀ {xs : List D} {vs : List V} {x : D} {v : V}, Reps K cl H A xs vs → Rep K cl H B x v → x.flat = true → xs.all D.flat = true → inV v vs = xs.any (fun y => D.eqv y x) ∧ vs.all L2.flatV = true
  | [], vs, _, _, h, _, _, _ => by
    cases (show vs = [] from h)
    exact ⟨rfl, rfl⟩
  | y :: ys, _, x, v, h, rx, fx, fs => by
    obtain ⟨w, r, rfl, h1, h2⟩ := h
    obtain ⟨f1, f2⟩ := Bool.and_eq_true_iff.mp (show (D.flat y && ys.all D.flat) = true from fs)
    obtain ⟨i1, i2⟩ := inV_eq h2 rx fx f2
    have e : eqV w v = D.eqv y x := by
      cases y <;> first | (cases f1; done) | (cases x <;> first | (cases fx; done) | (cases (show w = _ from h1); cases (show v = _ from rx); rfl))
    exact ⟨by rw [List.any_cons, ← i1, ← e]; rfl, by rw [List.all_cons, h1.flatV f1, i2]; rfl⟩
theorem any_py {x : D} (hx : x.pln = true) : ∀ {xs : List D}, D.plns xs = true → (D.toPys xs).any (fun z => PyData.eqv z x.toPy) = xs.any fun y => D.eqv y x
  | [], _ => rfl
  | y :: ys, h => by
    obtain ⟨h1, h2⟩ := Bool.and_eq_true_iff.mp (show (D.pln y && D.plns ys) = true from h)
    show (PyData.eqv y.toPy x.toPy || (D.toPys ys).any fun z => PyData.eqv z x.toPy) = _
    rw [any_py hx h2, ← eqv_py y x h1 hx]
    rfl
theorem valV_look {K : PySem.W.Frag} {k : Key} : ∀ {kvs : List (Key × D)} {ps : List (Key × V)}, RepK K cl H A kvs ps → (valV ps k).isSome = (kvs.any fun p => decide (p.1 = k)) ∧
    (∀ d, lookK k kvs = some d → ∃ v, valV ps k = some v ∧ Rep K cl H A d v) ∧ (lookK k kvs = none → valV ps k = none)
  | [], ps, h => by
    cases (show ps = [] from h)
    exact ⟨rfl, fun d h => (by cases h), fun _ => rfl⟩
  | (j, e) :: r, _, h => by
    obtain ⟨v, q, rfl, h1, h2⟩ := h
    obtain ⟨i1, i2, i3⟩ := valV_look (k := k) h2
    by_cases hj : j = k
    · rw [valV_pos (p := (j, v)) hj]
      refine ⟨by simp [hj], fun d hd => ?_, fun hd => ?_⟩
      · have hd : (if j = k then some e else lookK k r) = some d := hd
        rw [if_pos hj] at hd
        cases hd
        exact ⟨v, rfl, h1⟩
      · have hd : (if j = k then some e else lookK k r) = none := hd
        rw [if_pos hj] at hd
        cases hd
    · rw [valV_neg (p := (j, v)) hj]
      refine ⟨by rw [i1]; simp [hj], fun d hd => ?_, fun hd => ?_⟩
      · have hd : (if j = k then some e else lookK k r) = some d := hd
        rw [if_neg hj] at hd
        exact i2 d hd
      · have hd : (if j = k then some e else lookK k r) = none := hd
        rw [if_neg hj] at hd
        exact i3 hd
theorem keyD_rep {K : PySem.W.Frag} {x : D} {v : V} {k : Key} (r : Rep K cl H A x v) (h : keyD x = some k) : v = kV k := by
  cases x <;> first | (cases h; done) | (cases h; cases (show v = _ from r); rfl)
theorem inA_ok' {K : PySem.W.Frag} {neg : Bool} {x y : V} {a b : D} {k : Bool} (ra : Rep K cl H A a x) (rb : Rep K cl H B b y) (h : inB a b = some k) {Q : VK} (q : Q (.bl (if neg then !k else k)) H) : rInA K neg x y H Q := by
  cases b with
  | str t =>
    cases a with
    | str u =>
      cases h
      cases (show x = _ from ra)
      cases (show y = _ from rb)
      refine .inl ⟨u, t, rfl, rfl, ?_⟩
      cases neg <;> exact q
    | _ => cases h
  | lst xs =>
    obtain ⟨p, vs, rfl, lp, rp⟩ := rb
    obtain ⟨h1, h2⟩ := Option.ite_none_right_eq_some.mp (show (if (a.flat && xs.all D.flat || a.okEq && (D.lst xs).okEq) = true then some (xs.any fun y => D.eqv y a) else none) = some k from h)
    cases h2
    rcases Bool.or_eq_true_iff.mp h1 with h1 | h1
    · obtain ⟨f1, f2⟩ := Bool.and_eq_true_iff.mp h1
      obtain ⟨e1, e2⟩ := inV_eq rp ra f1 f2
      refine .inr (.inl ⟨p, vs, rfl, .inl lp.sq, ra.flatV f1, e2, ?_⟩)
      rw [e1]
      exact q
    · obtain ⟨f1, f2⟩ := Bool.and_eq_true_iff.mp h1
      obtain ⟨f3, f4⟩ := Bool.and_eq_true_iff.mp (show (a.pln && SeqAt.shaped a.toPy) = true from f1)
      obtain ⟨f5, f6⟩ := Bool.and_eq_true_iff.mp (show (D.plns xs && SeqAt.shaped (D.lst xs).toPy) = true from f2)
      refine .inr (.inr (.inl ⟨_, _, Rep.dp a x ra f3, .lst lp.sq (Reps.dp xs vs rp f5), f4, f6, ?_⟩))
      rw [any_py f3 f5]
      exact q
  | tup xs =>
    obtain ⟨p, vs, rfl, lp, rp⟩ := rb
    obtain ⟨h1, h2⟩ := Option.ite_none_right_eq_some.mp (show (if (a.flat && xs.all D.flat) = true then some (xs.any fun y => D.eqv y a) else none) = some k from h)
    cases h2
    obtain ⟨f1, f2⟩ := Bool.and_eq_true_iff.mp h1
    obtain ⟨e1, e2⟩ := inV_eq rp ra f1 f2
    refine .inr (.inl ⟨p, vs, rfl, .inr lp.sq, ra.flatV f1, e2, ?_⟩)
    rw [e1]
    exact q
  | dct kvs =>
    obtain ⟨p, ps, rfl, ⟨hp, _⟩, rp⟩ := rb
    have h : (match keyD a with
      | some k => some (kvs.any fun p => decide (p.1 = k))
      | none => none) = some k := h
    cases e : keyD a with
    | none => rw [e] at h; cases h
    | some j =>
      rw [e] at h
      cases h
      obtain ⟨i1, _, _⟩ := valV_look (k := j) rp
      obtain rfl := keyD_rep ra e
      refine .inr (.inr (.inr ⟨p, valV ps j, rfl, DGet.k hp, ?_⟩))
      rw [i1]
      exact q
  | _ => cases h
theorem inA_ok {K : PySem.W.Frag} : CmpOk K cl .in_ (rInA K false) := fun H A B x y a b k ra rb h Q q => inA_ok' ra rb (show inB a b = some k from h) (by exact q)
theorem ninA_ok {K : PySem.W.Frag} : CmpOk K cl .nin (rInA K true) := fun H A B x y a b k ra rb h Q q => by
  obtain ⟨j, h0, rfl⟩ := Option.map_eq_some_iff.mp (show (inB a b).map (!·) = some k from h)
  exact inA_ok' ra rb h0 (by exact q)
end
end PV

set_option Elab.async false
set_option linter.all false
set_option maxRecDepth 100000
set_option maxHeartbeats 2000000
/-! PV4: expressions, construct by construct. -/
namespace PV
open PySem L2 PyProof.Rows
open Evl (Ex)

/-! ### the promises of the table's defs, told by what they compute -/
def spF (K : PySem.W.Frag) (cl : Nat → Addr) (np : Nat) (sem : List D → Option D) (lvl : Nat) : Sp := fun vs H Q _ => vs.length = np ∧ ∃ (ds : List D) (A : Addr → Prop) (d : D), Reps K cl H A ds vs ∧ (∀ a, A a → H a ≠ none) ∧ sem ds = some d ∧
  ∀ v H', Ex H H' → Out K cl lvl A A H H' d v → Q v H'
/-- an __init__'s: the new instance is the first argument -/
def spI (K : PySem.W.Frag) (cl : Nat → Addr) (c : Nat) (np : Nat) (sem : List D → Option D) : Sp := fun vs H Q _ => ∃ (x dx : Addr) (vs' : List V), vs = .ref x :: vs' ∧ vs'.length = np ∧ H x = some (.ins (cl c) dx []) ∧ ∃ (ds : List D) (A : Addr → Prop) (d : D), Reps K cl H A ds vs' ∧ (∀ a, A a → H a ≠ none) ∧ ¬ A x ∧ sem ds = some d ∧
  ∀ H', (∀ a o, H a = some o → a ≠ x → H' a = some o) → H' x ≠ none → Rep2 K cl H' (fun a => a = x) (fun a => A a ∨ New H H' a) d (.ref x) → Q .non H'
structure FnEOk (P : Program) (w : World) (K : PySem.W.Frag) (mg : Str → Option Value) (base : Heap) (cl : Nat → Addr) (k : Nat) (e : FnE) : Prop where
  ok : match e.kind with
    | .fn => ∃ (fa : Addr) (fd : FuncData) (ps : List Str) (j : Nat), j ≤ k ∧ FnOk P w K mg base CX0 j fa fd ps (spF K cl e.np e.sem e.lvl) ∧ mg e.name = some (.ref fa) ∧ PySem.W.keepIn K (.ref fa) = true ∧ Binds K fd ps []
    | .meth c => ∃ (fa : Addr) (fd : FuncData) (ps : List Str) (j : Nat), j ≤ k ∧ FnOk P w K mg base CX0 j fa fd ps (spF K cl (e.np + 1) e.sem e.lvl) ∧ Cls K (cl c) ∧ Meth K (cl c) e.name fa ∧ Binds K fd ps []
    | .mk c => ∃ (fa : Addr) (fd : FuncData) (ps : List Str) (j : Nat), j + 1 ≤ k ∧ FnOk P w K mg base CX0 j fa fd ps (spI K cl c e.np e.sem) ∧ Mk K (cl c) fa ∧ mg e.name = some (.ref (cl c)) ∧ Binds K fd ps [] ∧ e.lvl = 0
def Written (K : PySem.W.Frag) (cl : Nat → Addr) (mg : Str → Option Value) (x : Str) (d : D) : Prop := ∃ u v, mg x = some u ∧ RelV v u ∧ ∀ H A, Rep K cl H A d v
/-- the built-ins' names that the code knows -/
def blNames : List Str := ["len", "list", "tuple", "sorted", "int", "str", "min", "max", "sum", "all", "any", "isinstance", "range", "enumerate", "zip", "bool"]
structure XOk (X : Cx) (cl : Nat → Addr) (T : Tab) (k : Nat) : Prop where
  calm : X.calm = true
  nd : X.N.Nodup
  room : Room k X.A
  bl : ∀ x ∈ blNames, X.mg x = none
  fns : ∀ e ∈ T.fn, FnEOk X.prog X.w X.K X.mg X.base cl k e
  gls : ∀ p ∈ T.gl, Written X.K cl X.mg p.1 p.2
  kind : X.env.scope.kind = .function
  fds : ∀ p ∈ T.fd, Cls X.K (cl p.1) ∧ NoAttr X.K (cl p.1) p.2
theorem XOk.blk {X : Cx} {cl : Nat → Addr} {T : Tab} {k : Nat} (h : XOk X cl T k) {scope : Scope} (hs : scope.kind = .function) (s : Shared) (H : Hp) (C : Addr) (c : List (Str × Addr)) (fp : List Addr) : XOk (X.blk s H scope (compEnvC scope c C X.env) fp) cl T k :=
  ⟨h.calm, h.nd, h.room, h.bl, h.fns, h.gls, hs, h.fds⟩

mutual
/-- what the levels must be -/
def CE.okG (Γ : List Nat) : CE → Bool
  | .bin _ a b => CE.okG Γ a && CE.okG Γ b
  | .neg a => CE.okG Γ a | .cmp _ a b => CE.okG Γ a && CE.okG Γ b
  | .cmp2 _ _ a b c => CE.okG Γ a && CE.okG Γ b && CE.okG Γ c
  | .bop _ es => CEs.okG Γ es | .not a => CE.okG Γ a | .ife c a b => CE.okG Γ c && CE.okG Γ a && CE.okG Γ b
  | .tup es => CEs.okG Γ es | .lst es => CEs.okG Γ es | .dis k v => CE.okG Γ k && CE.okG Γ v | .dsp ks vs => CEs.okG Γ ks && CEs.okG Γ vs
  | .ix a b => CE.okG Γ a && CE.okG Γ b | .slc a lo hi => CE.okG Γ a && CO.okG Γ lo && CO.okG Γ hi
  | .call _ es => CEs.okG Γ es | .meth _ o es => CE.okG Γ o && CEs.okG Γ es | .make _ es => CEs.okG Γ es
  | .bi _ es => CEs.okG Γ es | .isi a _ => CE.okG Γ a | .bm _ o es => CE.okG Γ o && CEs.okG Γ es
  | .fld _ o _ => CE.okG Γ o
  | .lc own _ src ifs elt => CI.okG Γ src && CEs.okG Γ ifs && CE.okG Γ elt && (CI.al Γ src).isEmpty && own.all (fun p => Γ.getD p.2 0 == 0)
  | .dc own _ src k v => CI.okG Γ src && CE.okG Γ k && CE.okG Γ v && (CI.al Γ src).isEmpty && own.all (fun p => Γ.getD p.2 0 == 0)
  | .lstr src => CI.okG Γ src
  | .sc a => CE.okG Γ a
  | .var _ => true | .glob _ => true | .cD _ => true | .dnew => true
def CEs.okG (Γ : List Nat) : CEs → Bool
  | .nil => true
  | .cons e es => CE.okG Γ e && CEs.okG Γ es
def CO.okG (Γ : List Nat) : CO → Bool
  | .none => true
  | .some e => CE.okG Γ e
def CI.okG (Γ : List Nat) : CI → Bool
  | .seq e => CE.okG Γ e | .rng1 a => CE.okG Γ a | .rng2 a b => CE.okG Γ a && CE.okG Γ b | .enum e => CE.okG Γ e | .zip a b => CE.okG Γ a && CE.okG Γ b
end
section
variable (X : Cx) (cl : Nat → Addr) (T : Tab)
/-- the code c says what the expression e does -/
def SE (e : Expr) (c : CE) : Prop := ∃ t, PE X e t ∧ ∀ Γ FF Z σ H ρ, CE.okG Γ c = true → RSt X.K cl Γ FF Z σ H ρ → ∀ d, CE.sem T c ρ = some d → ∀ Q : VK,
  (∀ v H', Ex H H' → Out X.K cl (CE.lv T c) (zn FF Z (CE.al Γ c)) (zn FF Z (CE.ac Γ c)) H H' d v → Q v H') → t σ H Q
def ST (e : Expr) (c : CE) : Prop := ∃ t, PT X e t ∧ ∀ Γ FF Z σ H ρ, CE.okG Γ c = true → RSt X.K cl Γ FF Z σ H ρ → ∀ d k, CE.sem T c ρ = some d → truD d = some k → ∀ Q : Bool → Hp → Prop,
  (∀ H', Ex H H' → Q k H') → t σ H Q
def SA (es : List Expr) (cs : CEs) : Prop := ∃ t, PA X es t ∧ ∀ Γ FF Z σ H ρ, CEs.okG Γ cs = true → RSt X.K cl Γ FF Z σ H ρ → ∀ ds, CEs.sem T cs ρ = some ds → ∀ Q : List V → Hp → Prop,
  (∀ vs H', Ex H H' → Reps X.K cl H' (fun a => zn FF Z (CEs.al Γ cs) a ∨ New H H' a) ds vs → Q vs H') → t σ H Q
end
theorem PE.or {X : Cx} {e : Expr} {t u : TE} (h : PE X e t) (h' : PE X e u) : PE X e (fun σ H Q => t σ H Q ∨ u σ H Q) := ⟨fun pins s σ H Q I q => by
  rcases q with q | q
  · exact h.run pins s σ H Q I q
  · exact h'.run pins s σ H Q I q⟩
theorem PT.or {X : Cx} {e : Expr} {t u : TT} (h : PT X e t) (h' : PT X e u) : PT X e (fun σ H Q => t σ H Q ∨ u σ H Q) := ⟨fun pins s σ H Q I q => by
  rcases q with q | q
  · exact h.run pins s σ H Q I q
  · exact h'.run pins s σ H Q I q⟩

/-! ### shapes of expressions -/
def kindE : Expr → Bool
  | .Starred _ _ => false | .Slice _ _ _ _ => false | .NamedExpr _ _ _ => false | .Set _ _ _ => false | .Await _ _ => false | .Yield _ _ => false | .YieldFrom _ _ => false
  | _ => true
theorem star_ok {e : Expr} (h : kindE e = true) (es : List Expr) (env : PySem.Env) : starEach (e :: es) env = (false, eval e env) :: starEach es env := by
  cases e <;> first | rfl | cases h
theorem back_any : ∀ {es : List Expr}, es.all kindE = true → ∀ (pos : Pos) (env : PySem.Env), (backTo pos (starEach es env)).any (·.1) = false
  | [], _, _, _ => rfl
  | e :: es, h, pos, env => by
    obtain ⟨h1, h2⟩ := Bool.and_eq_true_iff.mp (show (kindE e && es.all kindE) = true from h)
    rw [star_ok h1]
    exact back_any h2 pos env
theorem back_all {es : List Expr} (h : es.all kindE = true) (pos : Pos) (env : PySem.Env) : (backTo pos (starEach es env)).all (fun x => !x.1) = true := by
  have := back_any h pos env
  rw [List.all_eq_not_any_not]
  simpa using this
theorem ix_plain {e : Expr} (h : kindE e = true) : PlainIx e := fun o i => by
  cases e <;> first | rfl | cases h
theorem ix_nosl {e : Expr} (h : kindE e = true) : NoSl e := fun o i => by
  cases e <;> first | rfl | cases h
def kindT : Expr → Bool
  | .BoolOp _ _ _ => false | .IfExp _ _ _ _ => false | .Compare _ _ _ _ => false | .UnaryOp .Not _ _ => false | _ => true
theorem tru_plain {e : Expr} (h : kindT e = true) (env : PySem.Env) (whole : Sem Value) : isTrue e env whole = (do let v ← whole; standAt e.pos; holding [v] (truthy v)) := by
  cases e with
  | UnaryOp op a p => cases op <;> first | rfl | cases h
  | _ => first | rfl | cases h
def noSup : Expr → Bool
  | .Call (.Name _ _) [] [] _ => false
  | _ => true
theorem base_ok {o : Expr} (h : noSup o = true) (m : Str) (env : PySem.Env) (whole : Sem Value) : attributeBase o m env whole = whole := by
  unfold attributeBase
  split
  · cases h
  · rfl
def noSet : Expr → Bool
  | .Set _ _ _ => false
  | _ => true
theorem folded_ok {e : Expr} (h : noSet e = true) (env : PySem.Env) (x : Value) : foldedSetIterable e env x = pure x := by
  cases e <;> first | rfl | cases h
theorem mark_ok {e : Expr} (h : noSet e = true) (op : CmpOp) : behindInMarks op e = false := by
  cases e <;> first | rfl | cases h
def noComp : Expr → Bool
  | .ListComp _ _ _ _ => false | .SetComp _ _ _ _ => false | .DictComp _ _ _ _ _ => false
  | _ => true
theorem swaps_no {e : Expr} (h : noComp e = true) (t : Option Expr) (l : Nat) (env : PySem.Env) : swapsWith e t l env = pure false := by
  cases e <;> first | rfl | cases h

section
variable {X : Cx} {cl : Nat → Addr} {T : Tab} {k : Nat}
theorem ands {a b : Bool} (h : (a && b) = true) : a = true ∧ b = true := Bool.and_eq_true_iff.mp h
/-- a test by a value's truth -/
theorem tru_rep {K : PySem.W.Frag} {H : Hp} {A : Addr → Prop} {d : D} {v : V} {b : Bool} (r : Rep K cl H A d v) (h : truD d = some b) : TruV K v H b := by
  cases d with
  | non => cases h; cases (show v = _ from r); rfl
  | bl x => cases h; cases (show v = _ from r); rfl
  | int i => cases h; cases (show v = _ from r); rfl
  | str s =>
    cases (show v = _ from r)
    obtain ⟨h1, h2⟩ := Option.ite_none_right_eq_some.mp (show (if s.length ≤ LIM then some ((s.length : Int) != 0) else none) = some b from h)
    cases h2
    exact ⟨Nat.le_trans h1 LIM_le, rfl⟩
  | lst xs =>
    cases h
    obtain ⟨a, vs, rfl, l, rs⟩ := r
    refine .inl ⟨vs, l.sq, ?_⟩
    have e := rs.length
    cases xs <;> cases vs <;> first | rfl | cases e
  | tup xs =>
    cases h
    obtain ⟨a, vs, rfl, l, rs⟩ := r
    refine .inr (.inl ⟨vs, l.sq, ?_⟩)
    have e := rs.length
    cases xs <;> cases vs <;> first | rfl | cases e
  | dct xs =>
    cases h
    obtain ⟨a, vs, rfl, l, rs⟩ := r
    refine .inr (.inr ⟨vs, l.1, ?_⟩)
    have e := congrArg List.length (repK_to rs).1
    cases xs <;> cases vs <;> first | rfl | cases e
  | ins _ _ => cases h
/-- from a value to a test -/
theorem ST.of_SE {e : Expr} {c : CE} (h : SE X cl T e c) (p : kindT e = true) : ST X cl T e c := by
  obtain ⟨t, pe, hs⟩ := h
  refine ⟨_, pt_truth pe (tru_plain p X.env), fun Γ FF Z σ H ρ ok r d b e1 e2 Q hQ => ?_⟩
  refine hs Γ FF Z σ H ρ ok r d e1 _ fun v H' e o => ⟨b, ?_, hQ H' e⟩
  exact tru_rep (o.rep fun a h => zn_mono (CE.sub c) h) e2
/-- the scalars -/
theorem SE.flat {e : Expr} {c : CE} {t : TE} (pe : PE X e t) (hs : ∀ Γ FF Z σ H ρ, CE.okG Γ c = true → RSt X.K cl Γ FF Z σ H ρ → ∀ d, CE.sem T c ρ = some d → d.flat = true ∧ ∀ Q : VK, (∀ H', Ex H H' → Q d.toV H') → t σ H Q) : SE X cl T e c :=
  ⟨t, pe, fun Γ FF Z σ H ρ ok r d e1 Q hQ => by
    obtain ⟨f, h⟩ := hs Γ FF Z σ H ρ ok r d e1
    exact h Q fun H' e => hQ _ H' e (Out.flat f)⟩
theorem se_const {d : D} {e : Expr} (f : d.flat = true) (pe : PE X e (tC d.toV)) : SE X cl T e (.cD d) := SE.flat pe fun Γ FF Z σ H ρ ok r d' e1 => by
  cases (show some d = some d' from e1)
  exact ⟨f, fun Q hQ => hQ H (Ex.refl H)⟩
theorem se_var {i : Nat} {x : Str} {pos : Pos} (hN : X.N[i]? = some x) (hv : Vis X.env.scope x) (hd : (x == ("__debug__" : Str)) = false) (hcd : (x == ("__classdict__" : Str)) = false) : SE X cl T (.Name x pos) (.var i) := by
  refine ⟨_, pe_var hN hv hd hcd, fun Γ FF Z σ H ρ ok r d e1 Q hQ => ?_⟩
  have e1 : (ρ[i]?).bind id = some d := e1
  have e2 : ρ[i]? = some (some d) := by
    cases q : ρ[i]? with
    | none => rw [q] at e1; cases e1
    | some o =>
      rw [q] at e1
      have : o = some d := e1
      rw [this]
  obtain ⟨v, h1, h2⟩ := r.sl i d e2
  refine ⟨v, h1, hQ v H (Ex.refl H) ?_⟩
  show Rep2 X.K cl H (fun a => zn FF Z (CE.al Γ (.var i)) a ∨ New H H a) (fun a => zn FF Z (CE.ac Γ (.var i)) a ∨ New H H a) d v
  unfold CE.al CE.ac
  match hg : Γ.getD i 0 with
  | 0 =>
    rw [hg] at h2
    exact h2.2.two.mono (fun _ _ _ h => h) (fun a h => .inl (.inl h)) (fun _ _ _ h => h) (fun a h => .inl (.inl h))
  | n + 1 =>
    rw [hg] at h2
    rw [if_pos (show 1 ≤ n + 1 by omega)]
    have inF : ∀ a, a ∈ FF i → zn FF Z [i] a := fun a h => .inr ⟨i, List.mem_singleton.mpr rfl, h⟩
    rcases h2 with ⟨m, _, h2⟩ | ⟨a, Fs, ev, eF, h2⟩
    · exact h2.two.mono (fun _ _ _ h => h) (fun a h => .inl (.inl h)) (fun _ _ _ h => h) (fun a h => .inl (.inl h))
    · have ha : a ∈ FF i := by rw [eF]; exact List.mem_cons_self
      have sub : ∀ d v G, G ∈ Fs → RepO X.K cl H Z n d v G → Rep X.K cl H (fun a => zn FF Z (if 2 ≤ n + 1 then [i] else []) a ∨ New H H a) d v := fun d v G hG x => by
        match n, x with
        | 0, x => exact Rep.mono (fun _ _ _ h => h) (fun a h => .inl (.inl h)) d v x.2
        | n + 1, x =>
          rw [if_pos (show 2 ≤ n + 1 + 1 by omega)]
          refine Rep.mono (fun _ _ _ h => h) (fun b hb => ?_) d v (RepO.rep (n + 1) x)
          rcases hb with hb | hb
          · exact .inl (.inl hb)
          · refine .inl (inF b ?_)
            rw [eF]
            exact List.mem_cons_of_mem _ (List.mem_flatten.mpr ⟨G, hG, hb⟩)
      rcases h2 with ⟨ds, vs, rfl, hh, q⟩ | ⟨kvs, ps, rfl, hh, ek, q⟩ | ⟨c, dx, fs, ps, rfl, hh, ek, q⟩
      · exact ⟨a, vs, ev, .inl ⟨.inl hh, .inl (inF a ha)⟩, q.reps sub⟩
      · exact ⟨a, ps, ev, ⟨hh, .inl (inF a ha)⟩, repK_of ek (q.reps sub)⟩
      · exact ⟨a, dx, ps, ev, ⟨hh, .inl (inF a ha)⟩, repF_of ek (q.reps sub)⟩
theorem se_glob {i : Nat} {x : Str} {d : D} {pos : Pos} (hT : T.gl[i]? = some (x, d)) (hx : XOk X cl T k) (hg : Gl X x) (hd : (x == ("__debug__" : Str)) = false) : SE X cl T (.Name x pos) (.glob i) := by
  obtain ⟨u, v, h1, h2, h3⟩ := hx.gls _ (List.mem_of_getElem? hT)
  refine ⟨_, pe_glob hg h1 h2 hd, fun Γ FF Z σ H ρ ok r d' e1 Q hQ => ?_⟩
  have e1 : (T.gl[i]?).map (·.2) = some d' := e1
  rw [hT] at e1
  cases e1
  exact hQ v H (Ex.refl H) ((h3 H (fun _ => False)).two.mono (fun _ _ _ h => h) (fun _ h => h.elim) (fun _ _ _ h => h) (fun _ h => h.elim))
/-- one expression and then another -/
theorem two_go {ca cb : CE} {Γ : List Nat} {FF : Nat → List Addr} {Z : Addr → Prop} {σ : L2.St} {H : Hp} {x y : D} {ta tb : TE}
    (ha : ∀ Q : VK, (∀ v H', Ex H H' → Out X.K cl (CE.lv T ca) (zn FF Z (CE.al Γ ca)) (zn FF Z (CE.ac Γ ca)) H H' x v → Q v H') → ta σ H Q)
    (hb : ∀ H1, Ex H H1 → ∀ Q : VK, (∀ v H', Ex H1 H' → Out X.K cl (CE.lv T cb) (zn FF Z (CE.al Γ cb)) (zn FF Z (CE.ac Γ cb)) H1 H' y v → Q v H') → tb σ H1 Q)
    {R : V → V → Hp → Prop} (hR : ∀ v w H', Ex H H' → Rep2 X.K cl H' (fun q => zn FF Z (CE.al Γ ca) q ∨ New H H' q) (fun q => zn FF Z (CE.ac Γ ca) q ∨ New H H' q) x v → Rep2 X.K cl H' (fun q => zn FF Z (CE.al Γ cb) q ∨ New H H' q) (fun q => zn FF Z (CE.ac Γ cb) q ∨ New H H' q) y w → R v w H') :
    ta σ H fun v H1 => tb σ H1 fun w H2 => R v w H2 := by
  refine ha _ fun v H1 e1 o1 => hb H1 e1 _ fun w H2 e2 o2 => hR v w H2 (e1.trans e2) ?_ ?_
  · exact (o1.two fun a h => zn_mono (CE.sub ca) h).mono (Agr.of_ex e2) (fun a h => h.imp id fun n => n.right e2) (Agr.of_ex e2) (fun a h => h.imp id fun n => n.right e2)
  · exact (o2.two fun a h => zn_mono (CE.sub cb) h).since e1 (fun _ h => h) fun _ h => h
end
end PV

set_option Elab.async false
set_option linter.all false
set_option maxRecDepth 100000
set_option maxHeartbeats 2000000
/-! PV5: expressions, construct by construct, further. -/
namespace PV
open PySem L2 PyProof.Rows
open Evl (Ex)
section
variable {X : Cx} {cl : Nat → Addr} {T : Tab} {k : Nat}
theorem bind2 {α β : Type} {a : Option α} {f : α → Option β} {d : β} (h : a.bind f = some d) : ∃ x, a = some x ∧ f x = some d := Option.bind_eq_some_iff.mp h
theorem znl {FF : Nat → List Addr} {Z : Addr → Prop} {S S' : List Nat} {a : Addr} (h : zn FF Z S a) : zn FF Z (S ++ S') a := zn_mono (fun i hi => List.mem_append.mpr (.inl hi)) h
theorem znr {FF : Nat → List Addr} {Z : Addr → Prop} {S S' : List Nat} {a : Addr} (h : zn FF Z S' a) : zn FF Z (S ++ S') a := zn_mono (fun i hi => List.mem_append.mpr (.inr hi)) h
theorem se_add {a b : Expr} {ca cb : CE} {pos : Pos} (ha : SE X cl T a ca) (hb : SE X cl T b cb) : SE X cl T (.BinOp a .Add b pos) (.bin .add ca cb) := by
  obtain ⟨ta, pa, sa⟩ := ha
  obtain ⟨tb, pb, sb⟩ := hb
  refine ⟨_, pe_op op_addA pa pb, fun Γ FF Z σ H ρ ok r d e1 Q hQ => ?_⟩
  obtain ⟨ok1, ok2⟩ := ands (show (CE.okG Γ ca && CE.okG Γ cb) = true from ok)
  obtain ⟨x, ex, e1⟩ := bind2 (show (CE.sem T ca ρ).bind (fun x => (CE.sem T cb ρ).bind fun y => binD .add x y) = some d from e1)
  obtain ⟨y, ey, e1⟩ := bind2 e1
  refine two_go (cl := cl) (T := T) (sa Γ FF Z σ H ρ ok1 r x ex) (fun H1 e => sb Γ FF Z σ H1 ρ ok2 (r.ext e) y ey) fun v w H' e rv rw' => ?_
  refine add_ok H H' _ _ v w x y d e (fun q h => r.zn_there h) (fun q h => r.zn_there h) (rv.mono (fun _ _ _ h => h) (fun _ _ => trivial) (fun _ _ _ h => h) fun _ h => h) (rw'.mono (fun _ _ _ h => h) (fun _ _ => trivial) (fun _ _ _ h => h) fun _ h => h) e1 Q fun v H' e o => hQ v H' e ?_
  exact o.weak (fun a h => h.elim znl znr) (fun a h => h.elim znl znr)
/-- an operation that yields a scalar -/
theorem se_two {a b e : Expr} {ca cb c : CE} {r : R2} {f : D → D → Option D} (pe : ∀ ta tb, PE X a ta → PE X b tb → PE X e (tOp r ta tb)) (hc : ∀ ρ, CE.sem T c ρ = (CE.sem T ca ρ).bind fun x => (CE.sem T cb ρ).bind fun y => f x y) (ho : ∀ Γ, CE.okG Γ c = (CE.okG Γ ca && CE.okG Γ cb))
    (hf : ∀ x y d, f x y = some d → d.flat = true ∧ ∀ H A B v w, Rep X.K cl H A x v → Rep X.K cl H B y w → ∀ Q : VK, Q d.toV H → r v w H Q) (ha : SE X cl T a ca) (hb : SE X cl T b cb) : SE X cl T e c := by
  obtain ⟨ta, pa, sa⟩ := ha
  obtain ⟨tb, pb, sb⟩ := hb
  refine SE.flat (pe _ _ pa pb) fun Γ FF Z σ H ρ ok r d e1 => ?_
  obtain ⟨ok1, ok2⟩ := ands ((ho Γ).symm.trans ok)
  obtain ⟨x, ex, e1⟩ := bind2 ((hc ρ).symm.trans e1)
  obtain ⟨y, ey, e1⟩ := bind2 e1
  obtain ⟨fl, hf⟩ := hf x y d e1
  refine ⟨fl, fun Q hQ => two_go (cl := cl) (T := T) (sa Γ FF Z σ H ρ ok1 r x ex) (fun H1 e => sb Γ FF Z σ H1 ρ ok2 (r.ext e) y ey) fun v w H' e rv rw' => ?_⟩
  exact hf H' _ _ v w rv.rep rw'.rep Q (hQ H' e)
theorem int_two {op : BOp} {C : Int → Int → Prop} {g : Int → Int → Int} (h : ∀ a b d, binD op a b = some d → ∃ i j, a = .int i ∧ b = .int j ∧ C i j ∧ d = .int (g i j)) (x y d : D) (e : binD op x y = some d) :
    d.flat = true ∧ ∀ H A B v w, Rep X.K cl H A x v → Rep X.K cl H B y w → ∀ Q : VK, Q d.toV H → rI C (fun i j => .int (g i j)) v w H Q := by
  obtain ⟨i, j, rfl, rfl, hc, rfl⟩ := h x y d e
  refine ⟨rfl, fun H A B v w rv rw' Q q => ?_⟩
  cases (show v = _ from rv)
  cases (show w = _ from rw')
  exact ⟨i, j, rfl, rfl, hc, q⟩
theorem se_sub {a b : Expr} {ca cb : CE} {pos : Pos} (ha : SE X cl T a ca) (hb : SE X cl T b cb) : SE X cl T (.BinOp a .Sub b pos) (.bin .sub ca cb) :=
  se_two (fun _ _ pa pb => pe_op op_subA pa pb) (fun _ => rfl) (fun _ => rfl) (int_two (C := fun _ _ => True) (g := fun i j => i - j) fun a b d h => by
    cases a with
    | int i => cases b with
      | int j => cases h; exact ⟨i, j, rfl, rfl, trivial, rfl⟩
      | _ => cases h
    | _ => cases b <;> cases h) ha hb
/-- a text times an int -/
def rSmul : R2 := fun x y H Q => ∃ s n, x = .str s ∧ y = .int n ∧ (0 ≤ n ∧ n ≤ 1000 ∧ s.length ≤ 1000) ∧ Q (.str (Txt.mul s n)) H
theorem op_smul : OpR X (binaryOp .Mult) rSmul := by
  rintro pins s σ H x y v u Q I rx ry ⟨a, n, rfl, rfl, ⟨h0, h1, h2⟩, q⟩
  obtain ⟨t, rfl⟩ := rx
  obtain ⟨t', rfl⟩ := ry
  have hb : a.length * n.toNat ≤ 1000 * 1000 := Nat.mul_le_mul h2 (by omega)
  refine SB.mul ⟨by simp; omega, fun hn _ => ?_, fun _ _ => ?_⟩ fun t' k => ⟨.str _, H, I.tok _, ⟨t', rfl⟩, q⟩
  · have : (1000 : Int) ≤ (2 ^ 63 - 1) / n := by
      refine (Int.le_ediv_iff_mul_le (by omega)).mpr ?_
      omega
    omega
  · unfold Builtin.Str.tooLong
    simp
    have := sizeLine_eq
    omega
def rMulS : R2 := fun x y H Q => rI CMul (fun i j => .int (i * j)) x y H Q ∨ rSmul x y H Q
theorem op_mulS : OpR X (binaryOp .Mult) rMulS := OpR.or op_mul op_smul
theorem se_mul {a b : Expr} {ca cb : CE} {pos : Pos} (ha : SE X cl T a ca) (hb : SE X cl T b cb) : SE X cl T (.BinOp a .Mult b pos) (.bin .mul ca cb) :=
  se_two (fun _ _ pa pb => pe_op op_mulS pa pb) (fun _ => rfl) (fun _ => rfl) (fun x y d h => by
    cases x with
    | int i => cases y with
      | int j =>
        obtain ⟨h1, h2⟩ := Option.ite_none_right_eq_some.mp (show (if (-(2 ^ 64) < i ∧ i < 2 ^ 64) ∨ (-(2 ^ 64) < j ∧ j < 2 ^ 64) then some (D.int (i * j)) else none) = some d from h)
        cases h2
        refine ⟨rfl, fun H A B v w rv rw' Q q => ?_⟩
        cases (show v = _ from rv)
        cases (show w = _ from rw')
        exact .inl ⟨i, j, rfl, rfl, h1, q⟩
      | _ => cases h
    | str s => cases y with
      | int n =>
        obtain ⟨h1, h2⟩ := Option.ite_none_right_eq_some.mp (show (if 0 ≤ n ∧ n ≤ 1000 ∧ s.length ≤ 1000 then some (D.str (Txt.mul s n)) else none) = some d from h)
        cases h2
        refine ⟨rfl, fun H A B v w rv rw' Q q => ?_⟩
        cases (show v = _ from rv)
        cases (show w = _ from rw')
        exact .inr ⟨s, n, rfl, rfl, h1, q⟩
      | _ => cases h
    | _ => cases y <;> cases h) ha hb
theorem se_fdiv {a b : Expr} {ca cb : CE} {pos : Pos} (ha : SE X cl T a ca) (hb : SE X cl T b cb) : SE X cl T (.BinOp a .FloorDiv b pos) (.bin .fdiv ca cb) :=
  se_two (fun _ _ pa pb => pe_op op_fdiv pa pb) (fun _ => rfl) (fun _ => rfl) (int_two (C := CDiv) (g := fun i j => i / j) fun a b d h => by
    cases a with
    | int i => cases b with
      | int j =>
        obtain ⟨h1, h2⟩ := Option.ite_none_right_eq_some.mp (show (if 0 < j ∧ j < 1073741824 then some (D.int (i / j)) else none) = some d from h)
        cases h2
        exact ⟨i, j, rfl, rfl, h1, rfl⟩
      | _ => cases h
    | _ => cases b <;> cases h) ha hb
theorem se_mod {a b : Expr} {ca cb : CE} {pos : Pos} (ha : SE X cl T a ca) (hb : SE X cl T b cb) : SE X cl T (.BinOp a .Mod b pos) (.bin .mod ca cb) :=
  se_two (fun _ _ pa pb => pe_op op_mod pa pb) (fun _ => rfl) (fun _ => rfl) (int_two (C := fun _ j => 0 < j) (g := fun i j => i % j) fun a b d h => by
    cases a with
    | int i => cases b with
      | int j =>
        obtain ⟨h1, h2⟩ := Option.ite_none_right_eq_some.mp (show (if 0 < j then some (D.int (i % j)) else none) = some d from h)
        cases h2
        exact ⟨i, j, rfl, rfl, h1, rfl⟩
      | _ => cases h
    | _ => cases b <;> cases h) ha hb
theorem se_pow {a b : Expr} {ca cb : CE} {pos : Pos} (ha : SE X cl T a ca) (hb : SE X cl T b cb) : SE X cl T (.BinOp a .Pow b pos) (.bin .pow ca cb) :=
  se_two (fun _ _ pa pb => pe_op op_pow pa pb) (fun _ => rfl) (fun _ => rfl) (int_two (C := CPow) (g := fun i j => i ^ j.toNat) fun a b d h => by
    cases a with
    | int i => cases b with
      | int j =>
        obtain ⟨h1, h2⟩ := Option.ite_none_right_eq_some.mp (show (if 0 ≤ j ∧ j ≤ 1000000 ∧ i.natAbs < 2 ^ 64 then some (D.int (i ^ j.toNat)) else none) = some d from h)
        cases h2
        exact ⟨i, j, rfl, rfl, h1, rfl⟩
      | _ => cases h
    | _ => cases b <;> cases h) ha hb
/-- one operand, a scalar out -/
theorem se_one {a e : Expr} {ca c : CE} {r : V → Hp → VK → Prop} {t : TE → TE} {f : D → Option D} (pe : ∀ ta, PE X a ta → PE X e (t ta)) (ht : ∀ ta σ H Q, (ta σ H fun x H1 => r x H1 Q) → t ta σ H Q)
    (hc : ∀ ρ, CE.sem T c ρ = (CE.sem T ca ρ).bind f) (ho : ∀ Γ, CE.okG Γ c = CE.okG Γ ca)
    (hf : ∀ x d, f x = some d → d.flat = true ∧ ∀ H A v, Rep X.K cl H A x v → ∀ Q : VK, Q d.toV H → r v H Q) (ha : SE X cl T a ca) : SE X cl T e c := by
  obtain ⟨ta, pa, sa⟩ := ha
  refine SE.flat (pe _ pa) fun Γ FF Z σ H ρ ok r d e1 => ?_
  obtain ⟨x, ex, e1⟩ := bind2 ((hc ρ).symm.trans e1)
  obtain ⟨fl, hf⟩ := hf x d e1
  refine ⟨fl, fun Q hQ => ht ta σ H Q (sa Γ FF Z σ H ρ ((ho Γ).symm.trans ok) r x ex _ fun v H1 e o => ?_)⟩
  exact hf H1 _ v (o.rep fun a h => zn_mono (CE.sub ca) h) Q (hQ H1 e)
theorem se_neg {a : Expr} {ca : CE} {pos : Pos} (ha : SE X cl T a ca) : SE X cl T (.UnaryOp .USub a pos) (.neg ca) :=
  se_one (r := rU fun i => .int (-i)) (fun _ pa => pe_un un_neg pa) (fun _ _ _ _ h => h) (fun _ => rfl) (fun _ => rfl) (fun x d h => by
    cases x <;> first | (cases h; done) | (cases h; exact ⟨rfl, fun H A v rv Q q => ⟨_, rv, q⟩⟩)) ha
theorem se_not {a : Expr} {ca : CE} {pos : Pos} (ha : SE X cl T a ca) : SE X cl T (.UnaryOp .Not a pos) (.not ca) :=
  se_one (r := fun x H Q => ∃ k, TruV X.K x H k ∧ Q (.bl (!k)) H) (fun _ pa => pe_notT pa) (fun _ _ _ _ h => h) (fun _ => rfl) (fun _ => rfl) (fun x d h => by
    obtain ⟨b, e1, rfl⟩ := Option.map_eq_some_iff.mp h
    exact ⟨rfl, fun H A v rv Q q => ⟨b, tru_rep rv e1, q⟩⟩) ha
theorem st_not {a : Expr} {ca : CE} {pos : Pos} (ha : ST X cl T a ca) : ST X cl T (.UnaryOp .Not a pos) (.not ca) := by
  obtain ⟨ta, pa, sa⟩ := ha
  refine ⟨_, pt_not pa, fun Γ FF Z σ H ρ ok r d k e1 e2 Q hQ => ?_⟩
  obtain ⟨x, ex, e1⟩ := bind2 (show (CE.sem T ca ρ).bind (fun x => (truD x).map fun k => D.bl (!k)) = some d from e1)
  obtain ⟨b, e3, rfl⟩ := Option.map_eq_some_iff.mp e1
  cases e2
  exact sa Γ FF Z σ H ρ ok r x b ex e3 _ fun H' e => hQ H' e
/-- comparisons -/
def cOp : COp → CmpOp
  | .eq => .Eq | .ne => .NotEq | .lt => .Lt | .le => .LtE | .gt => .Gt | .ge => .GtE | .in_ => .In | .nin => .NotIn | .isN => .Is | .notN => .IsNot
def isC : V → Bool
  | .non => true
  | .bl _ => true
  | _ => false
theorem op_isC : OpR X (compareOp .Is) (fun x y H Q => isC y = true ∧ Q (.bl (decide (x = y))) H) := by
  intro pins s σ H x y v u Q I rx ry h
  obtain ⟨hc, q⟩ := h
  cases y <;> first | (cases hc; done) | skip
  all_goals
    cases ry
    refine wpAny_is_plain ?_ (fin_bl I q ?_)
    all_goals cases x <;> first
      | (cases rx; rfl)
      | (obtain ⟨t, rfl⟩ := rx; rfl)
      | skip
  rename_i c d
  cases rx
  cases c <;> cases d <;> rfl
theorem op_isntC : OpR X (compareOp .IsNot) (fun x y H Q => isC y = true ∧ Q (.bl (!decide (x = y))) H) := by
  intro pins s σ H x y v u Q I rx ry h
  obtain ⟨hc, q⟩ := h
  cases y <;> first | (cases hc; done) | skip
  all_goals
    cases ry
    refine wpAny_isNot_plain ?_ (fin_bl I q ?_)
    all_goals cases x <;> first
      | (cases rx; rfl)
      | (obtain ⟨t, rfl⟩ := rx; rfl)
      | skip
  rename_i c d
  cases rx
  cases c <;> cases d <;> rfl
def cRead (K : PySem.W.Frag) : COp → R2
  | .eq => rEqA K | .ne => rNeA K | .lt => rLtA | .le => rI0 fun i j => .bl (decide (i ≤ j)) | .gt => rI0 fun i j => .bl (decide (j < i)) | .ge => rI0 fun i j => .bl (decide (j ≤ i))
  | .in_ => rInA K false | .nin => rInA K true
  | .isN => fun x y H Q => isC y = true ∧ Q (.bl (decide (x = y))) H
  | .notN => fun x y H Q => isC y = true ∧ Q (.bl (!decide (x = y))) H
theorem cRead_or (hu : X.A.units + 65 < cLine) : ∀ op : COp, OpR X (compareOp (cOp op)) (cRead X.K op)
  | .eq => op_eqA (by omega) | .ne => op_neA (by omega) | .lt => op_ltA | .le => op_le | .gt => op_gt | .ge => op_ge | .in_ => op_inA hu | .nin => op_ninA hu | .isN => op_isC | .notN => op_isntC
theorem isN_rep {K : PySem.W.Frag} {H : Hp} {A : Addr → Prop} {x : D} {v : V} (r : Rep K cl H A x v) : decide (v = V.non) = isNonD x := by
  cases x with
  | non => cases (show v = _ from r); rfl
  | bl _ => cases (show v = _ from r); exact decide_eq_false (fun z => by cases z)
  | int _ => cases (show v = _ from r); exact decide_eq_false (fun z => by cases z)
  | str _ => cases (show v = _ from r); exact decide_eq_false (fun z => by cases z)
  | lst _ => obtain ⟨a, vs, rfl, _⟩ := r; exact decide_eq_false (fun z => by cases z)
  | tup _ => obtain ⟨a, vs, rfl, _⟩ := r; exact decide_eq_false (fun z => by cases z)
  | dct _ => obtain ⟨a, vs, rfl, _⟩ := r; exact decide_eq_false (fun z => by cases z)
  | ins _ _ => obtain ⟨a, _, vs, rfl, _⟩ := r; exact decide_eq_false (fun z => by cases z)
theorem isB_rep {K : PySem.W.Frag} {H : Hp} {A : Addr → Prop} {x : D} {v : V} {c : Bool} (r : Rep K cl H A x v) : decide (v = V.bl c) = isD x (.bl c) := by
  cases x with
  | non => cases (show v = _ from r); exact decide_eq_false (fun z => by cases z)
  | bl b => cases (show v = _ from r); cases b <;> cases c <;> rfl
  | int _ => cases (show v = _ from r); exact decide_eq_false (fun z => by cases z)
  | str _ => cases (show v = _ from r); exact decide_eq_false (fun z => by cases z)
  | lst _ => obtain ⟨a, vs, rfl, _⟩ := r; exact decide_eq_false (fun z => by cases z)
  | tup _ => obtain ⟨a, vs, rfl, _⟩ := r; exact decide_eq_false (fun z => by cases z)
  | dct _ => obtain ⟨a, vs, rfl, _⟩ := r; exact decide_eq_false (fun z => by cases z)
  | ins _ _ => obtain ⟨a, _, vs, rfl, _⟩ := r; exact decide_eq_false (fun z => by cases z)
/-- a value of the kind that is asks for -/
def isW (y : D) : Prop := y = .non ∨ ∃ c, y = .bl c
theorem is_rep {K : PySem.W.Frag} {H : Hp} {A B : Addr → Prop} {x y : D} {v w : V} (hy : isW y) (rv : Rep K cl H A x v) (rw' : Rep K cl H B y w) : isC w = true ∧ decide (v = w) = isD x y := by
  rcases hy with rfl | ⟨c, rfl⟩
  · cases (show w = _ from rw')
    exact ⟨rfl, isN_rep rv⟩
  · cases (show w = _ from rw')
    exact ⟨rfl, isB_rep rv⟩
/-- op's right side, for is: None, True, False alone -/
def isOk : COp → CE → Bool
  | .isN, .cD .non => true
  | .notN, .cD .non => true
  | .isN, .cD (.bl _) => true
  | .notN, .cD (.bl _) => true
  | .isN, _ => false
  | .notN, _ => false
  | _, _ => true
theorem cmp_read {K : PySem.W.Frag} {op : COp} {H : Hp} {A B : Addr → Prop} {x y : D} {v w : V} {b : Bool} (hn : (op = .isN ∨ op = .notN) → isW y) (rv : Rep K cl H A x v) (rw' : Rep K cl H B y w) (h : cmpD op x y = some b) (Q : VK) (q : Q (.bl b) H) : cRead K op v w H Q := by
  cases op with
  | eq => exact eqA_ok H A B v w x y b rv rw' h Q q
  | ne => exact neA_ok H A B v w x y b rv rw' h Q q
  | lt => exact ltA_ok (K := K) H A B v w x y b rv rw' h Q q
  | le => exact le_ok (K := K) H A B v w x y b rv rw' h Q q
  | gt => exact gt_ok (K := K) H A B v w x y b rv rw' h Q q
  | ge => exact ge_ok (K := K) H A B v w x y b rv rw' h Q q
  | in_ => exact inA_ok H A B v w x y b rv rw' h Q q
  | nin => exact ninA_ok H A B v w x y b rv rw' h Q q
  | isN =>
    have h : some (isD x y) = some b := h
    cases h
    obtain ⟨e1, e2⟩ := is_rep (hn (.inl rfl)) rv rw'
    exact ⟨e1, by rw [e2]; exact q⟩
  | notN =>
    have h : some (!isD x y) = some b := h
    cases h
    obtain ⟨e1, e2⟩ := is_rep (hn (.inr rfl)) rv rw'
    exact ⟨e1, by rw [e2]; exact q⟩
theorem isOk_non {op : COp} {c : CE} {ρ : Env} {y : D} (h : isOk op c = true) (e : CE.sem T c ρ = some y) : (op = .isN ∨ op = .notN) → isW y := by
  intro ho
  rcases ho with rfl | rfl
  all_goals
    cases c with
    | cD d =>
      cases d with
      | non => cases e; exact .inl rfl
      | bl c => cases e; exact .inr ⟨c, rfl⟩
      | _ => cases h
    | _ => cases h
theorem se_cmp {a b : Expr} {ca cb : CE} {pos : Pos} {op : COp} (hx : XOk X cl T k) (hi : isOk op cb = true) (hs : noSet b = true) (ha : SE X cl T a ca) (hb : SE X cl T b cb) : SE X cl T (.Compare a [cOp op] [b] pos) (.cmp op ca cb) := by
  have hu : X.A.units + 65 < cLine := by have := hx.room.un; omega
  obtain ⟨ta, pa, sa⟩ := ha
  obtain ⟨tb, pb, sb⟩ := hb
  refine SE.flat (pe_cmpR (cRead_or hu op) pa pb (mark_ok hs _)) fun Γ FF Z σ H ρ ok r d e1 => ?_
  obtain ⟨ok1, ok2⟩ := ands (show (CE.okG Γ ca && CE.okG Γ cb) = true from ok)
  obtain ⟨x, ex, e1⟩ := bind2 (show (CE.sem T ca ρ).bind (fun x => (CE.sem T cb ρ).bind fun y => (cmpD op x y).map D.bl) = some d from e1)
  obtain ⟨y, ey, e1⟩ := bind2 e1
  obtain ⟨c, e2, rfl⟩ := Option.map_eq_some_iff.mp e1
  refine ⟨rfl, fun Q hQ => two_go (cl := cl) (T := T) (sa Γ FF Z σ H ρ ok1 r x ex) (fun H1 e => sb Γ FF Z σ H1 ρ ok2 (r.ext e) y ey) fun v w H' e rv rw' => ?_⟩
  exact cmp_read (isOk_non hi ey) rv.rep rw'.rep e2 Q (hQ H' e)
theorem st_cmp {a b : Expr} {ca cb : CE} {pos : Pos} {op : COp} (hx : XOk X cl T k) (hi : isOk op cb = true) (hs : noSet b = true) (ha : SE X cl T a ca) (hb : SE X cl T b cb) : ST X cl T (.Compare a [cOp op] [b] pos) (.cmp op ca cb) := by
  have hu : X.A.units + 65 < cLine := by have := hx.room.un; omega
  obtain ⟨ta, pa, sa⟩ := ha
  obtain ⟨tb, pb, sb⟩ := hb
  refine ⟨_, pt_cmpR (cRead_or hu op) pa pb (mark_ok hs _), fun Γ FF Z σ H ρ ok r d c e1 e0 Q hQ => ?_⟩
  obtain ⟨ok1, ok2⟩ := ands (show (CE.okG Γ ca && CE.okG Γ cb) = true from ok)
  obtain ⟨x, ex, e1⟩ := bind2 (show (CE.sem T ca ρ).bind (fun x => (CE.sem T cb ρ).bind fun y => (cmpD op x y).map D.bl) = some d from e1)
  obtain ⟨y, ey, e1⟩ := bind2 e1
  obtain ⟨c', e2, rfl⟩ := Option.map_eq_some_iff.mp e1
  cases e0
  refine two_go (cl := cl) (T := T) (sa Γ FF Z σ H ρ ok1 r x ex) (fun H1 e => sb Γ FF Z σ H1 ρ ok2 (r.ext e) y ey) fun v w H' e rv rw' => ?_
  exact cmp_read (isOk_non hi ey) rv.rep rw'.rep e2 _ ⟨_, rfl, hQ H' e⟩
/-- a op b op c -/
theorem chain_go {a b c : Expr} {ca cb cc : CE} {o1 o2 : COp} {ta tb tc : TE} {Γ : List Nat} {FF : Nat → List Addr} {Z : Addr → Prop} {σ : L2.St} {H : Hp} {ρ : Env} {d : D} (i1 : isOk o1 cb = true) (i2 : isOk o2 cc = true)
    (sa : ∀ Γ FF Z σ H ρ, CE.okG Γ ca = true → RSt X.K cl Γ FF Z σ H ρ → ∀ d, CE.sem T ca ρ = some d → ∀ Q : VK, (∀ v H', Ex H H' → Out X.K cl (CE.lv T ca) (zn FF Z (CE.al Γ ca)) (zn FF Z (CE.ac Γ ca)) H H' d v → Q v H') → ta σ H Q)
    (sb : ∀ Γ FF Z σ H ρ, CE.okG Γ cb = true → RSt X.K cl Γ FF Z σ H ρ → ∀ d, CE.sem T cb ρ = some d → ∀ Q : VK, (∀ v H', Ex H H' → Out X.K cl (CE.lv T cb) (zn FF Z (CE.al Γ cb)) (zn FF Z (CE.ac Γ cb)) H H' d v → Q v H') → tb σ H Q)
    (sc : ∀ Γ FF Z σ H ρ, CE.okG Γ cc = true → RSt X.K cl Γ FF Z σ H ρ → ∀ d, CE.sem T cc ρ = some d → ∀ Q : VK, (∀ v H', Ex H H' → Out X.K cl (CE.lv T cc) (zn FF Z (CE.al Γ cc)) (zn FF Z (CE.ac Γ cc)) H H' d v → Q v H') → tc σ H Q)
    (ok : CE.okG Γ (.cmp2 o1 o2 ca cb cc) = true) (r : RSt X.K cl Γ FF Z σ H ρ) (e1 : CE.sem T (.cmp2 o1 o2 ca cb cc) ρ = some d) : ∃ b, d = .bl b ∧ ∀ Q : VK, (∀ H', Ex H H' → Q (.bl b) H') → tChain (cRead X.K o1) (cRead X.K o2) ta tb tc σ H Q := by
  obtain ⟨ok12, ok3⟩ := ands (show (CE.okG Γ ca && CE.okG Γ cb && CE.okG Γ cc) = true from ok)
  obtain ⟨ok1, ok2⟩ := ands ok12
  obtain ⟨x, ex, e1⟩ := bind2 (show (CE.sem T ca ρ).bind (fun x => (CE.sem T cb ρ).bind fun y => (cmpD o1 x y).bind fun k => if k then (CE.sem T cc ρ).bind fun z => (cmpD o2 y z).map D.bl else some (.bl false)) = some d from e1)
  obtain ⟨y, ey, e1⟩ := bind2 e1
  obtain ⟨c1, e2, e1⟩ := bind2 e1
  cases c1 with
  | false =>
    have e1 : some (D.bl false) = some d := e1
    cases e1
    refine ⟨false, rfl, fun Q hQ => ?_⟩
    refine two_go (cl := cl) (T := T) (sa Γ FF Z σ H ρ ok1 r x ex) (fun H1 e => sb Γ FF Z σ H1 ρ ok2 (r.ext e) y ey) fun v w H' e rv rw' => ?_
    exact cmp_read (isOk_non i1 ey) rv.rep rw'.rep e2 _ ⟨_, rfl, hQ H' e⟩
  | true =>
    obtain ⟨z, ez, e1⟩ := bind2 (show (CE.sem T cc ρ).bind (fun z => (cmpD o2 y z).map D.bl) = some d from e1)
    obtain ⟨c2, e3, rfl⟩ := Option.map_eq_some_iff.mp e1
    refine ⟨c2, rfl, fun Q hQ => ?_⟩
    refine two_go (cl := cl) (T := T) (sa Γ FF Z σ H ρ ok1 r x ex) (fun H1 e => sb Γ FF Z σ H1 ρ ok2 (r.ext e) y ey) fun v w H' e rv rw' => ?_
    refine cmp_read (isOk_non i1 ey) rv.rep rw'.rep e2 _ ⟨_, rfl, ?_⟩
    show tc σ H' _
    refine sc Γ FF Z σ H' ρ ok3 (r.ext e) z ez _ fun u H2 e' o => ?_
    exact cmp_read (isOk_non i2 ez) (Rep.mono (Agr.of_ex e') (fun _ h => h) _ _ rw'.rep) (o.rep fun a h => zn_mono (CE.sub cc) h) e3 Q (hQ H2 (e.trans e'))
theorem last_ok {b c : Expr} (h : noSet c = true) (o1 o2 : CmpOp) : lastMarks [o1, o2] [b, c] = false := by
  show behindInMarks o2 c = false
  exact mark_ok h _
theorem se_cmp2 {a b c : Expr} {ca cb cc : CE} {pos : Pos} {o1 o2 : COp} (hx : XOk X cl T k) (i1 : isOk o1 cb = true) (i2 : isOk o2 cc = true) (hs : noSet c = true) (ha : SE X cl T a ca) (hb : SE X cl T b cb) (hc : SE X cl T c cc) :
    SE X cl T (.Compare a [cOp o1, cOp o2] [b, c] pos) (.cmp2 o1 o2 ca cb cc) := by
  have hu : X.A.units + 65 < cLine := by have := hx.room.un; omega
  obtain ⟨ta, pa, sa⟩ := ha
  obtain ⟨tb, pb, sb⟩ := hb
  obtain ⟨tc, pc, sc⟩ := hc
  refine SE.flat (pe_chain (cRead_or hu o1) (cRead_or hu o2) pa pb pc (last_ok hs _ _)) fun Γ FF Z σ H ρ ok r d e1 => ?_
  obtain ⟨b', rfl, h⟩ := chain_go (a := a) (b := b) (c := c) i1 i2 sa sb sc ok r e1
  exact ⟨rfl, h⟩
theorem st_cmp2 {a b c : Expr} {ca cb cc : CE} {pos : Pos} {o1 o2 : COp} (hx : XOk X cl T k) (i1 : isOk o1 cb = true) (i2 : isOk o2 cc = true) (hs : noSet c = true) (ha : SE X cl T a ca) (hb : SE X cl T b cb) (hc : SE X cl T c cc) :
    ST X cl T (.Compare a [cOp o1, cOp o2] [b, c] pos) (.cmp2 o1 o2 ca cb cc) := by
  have hu : X.A.units + 65 < cLine := by have := hx.room.un; omega
  obtain ⟨ta, pa, sa⟩ := ha
  obtain ⟨tb, pb, sb⟩ := hb
  obtain ⟨tc, pc, sc⟩ := hc
  refine ⟨_, pt_chain (cRead_or hu o1) (cRead_or hu o2) pa pb pc (last_ok hs _ _), fun Γ FF Z σ H ρ ok r d q e1 e0 Q hQ => ?_⟩
  obtain ⟨b', rfl, h⟩ := chain_go (a := a) (b := b) (c := c) i1 i2 sa sb sc ok r e1
  cases e0
  exact h _ fun H' e => ⟨_, rfl, hQ H' e⟩
end
end PV

set_option Elab.async false
set_option linter.all false
set_option maxRecDepth 100000
set_option maxHeartbeats 2000000
/-! PV6: expressions: displays, subscripts, calls, built-ins, fields. -/
namespace PV
open PySem L2 PyProof.Rows
open Evl (Ex)
section
variable {K : PySem.W.Frag} {cl : Nat → Addr} {B0 B1 C0 C1 : Addr → Prop} {H H1 H2 : Hp}
theorem Out.later {n : Nat} {d : D} {v : V} (e1 : Ex H H1) (e2 : Ex H1 H2) (s : ∀ a, B0 a → C0 a ∨ New H H1 a) (s2 : ∀ a, B1 a → C1 a ∨ New H H1 a) (o : Out K cl n B0 B1 H1 H2 d v) : Out K cl n C0 C1 H H2 d v := by
  have f0 : ∀ a, B0 a ∨ New H1 H2 a → C0 a ∨ New H H2 a := fun a h => by
    rcases h with h | h
    · exact (s a h).imp id fun n => n.right e2
    · exact .inr (h.left e1)
  have f1 : ∀ a, B1 a ∨ New H1 H2 a → C1 a ∨ New H H2 a := fun a h => by
    rcases h with h | h
    · exact (s2 a h).imp id fun n => n.right e2
    · exact .inr (h.left e1)
  cases n with
  | zero => exact Rep2.mono (fun _ _ _ h => h) f0 (fun _ _ _ h => h) f1 o
  | succ n =>
    obtain ⟨F, hF, nd, r⟩ := o
    exact ⟨F, fun a h => (hF a h).left e1, nd, RepO.mono _ (fun _ _ _ h => h) (fun a h => ⟨f1 a h.1, h.2⟩) r⟩
theorem Out.down {n : Nat} {d : D} {v : V} (s : ∀ a, B1 a → B0 a) (o : Out K cl n B0 B1 H H1 d v) : Out K cl 0 B0 B1 H H1 d v := o.two s
end
def CEs.len : CEs → Nat
  | .nil => 0
  | .cons _ es => es.len + 1
section
variable {X : Cx} {cl : Nat → Addr} {T : Tab} {k : Nat}
theorem sem_len : ∀ (cs : CEs) {ρ : Env} {ds : List D}, CEs.sem T cs ρ = some ds → ds.length = cs.len
  | .nil, _, _, h => by
    cases (show some [] = some _ from h)
    rfl
  | .cons e es, ρ, ds, h => by
    obtain ⟨x, _, h⟩ := bind2 (show (CE.sem T e ρ).bind (fun x => (CEs.sem T es ρ).map fun xs => x :: xs) = some ds from h)
    obtain ⟨xs, h1, rfl⟩ := Option.map_eq_some_iff.mp h
    show xs.length + 1 = es.len + 1
    rw [sem_len es h1]
theorem sa_nil : SA X cl T [] .nil := ⟨_, pa_nil, fun Γ FF Z σ H ρ ok r ds e1 Q hQ => by
  cases (show some [] = some ds from e1)
  exact hQ [] H (Ex.refl H) rfl⟩
theorem sa_cons {e : Expr} {es : List Expr} {c : CE} {cs : CEs} (he : kindE e = true) (h : SE X cl T e c) (hs : SA X cl T es cs) : SA X cl T (e :: es) (.cons c cs) := by
  obtain ⟨t, pe, s⟩ := h
  obtain ⟨ts, pa, ss⟩ := hs
  refine ⟨_, pa_cons pe pa (star_ok he _ _), fun Γ FF Z σ H ρ ok r ds e1 Q hQ => ?_⟩
  obtain ⟨ok1, ok2⟩ := ands (show (CE.okG Γ c && CEs.okG Γ cs) = true from ok)
  obtain ⟨x, ex, e1⟩ := bind2 (show (CE.sem T c ρ).bind (fun x => (CEs.sem T cs ρ).map fun xs => x :: xs) = some ds from e1)
  obtain ⟨xs, exs, rfl⟩ := Option.map_eq_some_iff.mp e1
  refine s Γ FF Z σ H ρ ok1 r x ex _ fun v H1 e1 o1 => ss Γ FF Z σ H1 ρ ok2 (r.ext e1) xs exs _ fun vs H2 e2 rs => hQ _ _ (e1.trans e2) ⟨v, vs, rfl, ?_, ?_⟩
  · exact Rep.on e1 e2 (fun a h => znl h) (o1.rep fun a h => zn_mono (CE.sub c) h)
  · exact Reps.since e1 (fun a h => znr h) rs
/-! ### and, or -/
def bOp : Bool → BoolOp
  | true => .And
  | false => .Or
def SB (X : Cx) (cl : Nat → Addr) (T : Tab) (b : Bool) (pos : Pos) (es : List Expr) (cs : CEs) : Prop := ∃ t, PE X (.BoolOp (bOp b) es pos) t ∧ ∀ Γ FF Z σ H ρ, CEs.okG Γ cs = true → RSt X.K cl Γ FF Z σ H ρ → ∀ d, CEs.bop T b cs ρ = some d → ∀ Q : VK,
  (∀ v H', Ex H H' → Out X.K cl 0 (zn FF Z (CEs.al Γ cs)) (zn FF Z (CEs.ac Γ cs)) H H' d v → Q v H') → t σ H Q
def SBT (X : Cx) (cl : Nat → Addr) (T : Tab) (b : Bool) (pos : Pos) (es : List Expr) (cs : CEs) : Prop := ∃ t, PW X (.BoolOp (bOp b) es pos) t ∧ ∀ Γ FF Z σ H ρ, CEs.okG Γ cs = true → RSt X.K cl Γ FF Z σ H ρ → ∀ d c, CEs.bop T b cs ρ = some d → truD d = some c → ∀ Q : Bool → Hp → Prop,
  (∀ H', Ex H H' → Q c H') → t σ H Q
theorem sb_one {b : Bool} {pos : Pos} {e : Expr} {c : CE} (h : SE X cl T e c) : SB X cl T b pos [e] (.cons c .nil) := by
  obtain ⟨t, pe, s⟩ := h
  refine ⟨_, pe_one pe, fun Γ FF Z σ H ρ ok r d e1 Q hQ => ?_⟩
  obtain ⟨ok1, _⟩ := ands (show (CE.okG Γ c && CEs.okG Γ .nil) = true from ok)
  refine s Γ FF Z σ H ρ ok1 r d e1 Q fun v H' e o => hQ v H' e ?_
  exact (o.down fun a h => zn_mono (CE.sub c) h).weak (fun a h => znl h) (fun a h => znl h)
theorem sb_cons {b : Bool} {pos : Pos} {e e' : Expr} {es : List Expr} {c c' : CE} {cs : CEs} (h : SE X cl T e c) (hs : SB X cl T b pos (e' :: es) (.cons c' cs)) : SB X cl T b pos (e :: e' :: es) (.cons c (.cons c' cs)) := by
  obtain ⟨t, pe, s⟩ := h
  obtain ⟨ts, ps, ss⟩ := hs
  cases b with
  | true =>
    refine ⟨_, pe_andT pe ps, fun Γ FF Z σ H ρ ok r d e1 Q hQ => ?_⟩
    obtain ⟨ok1, ok2⟩ := ands (show (CE.okG Γ c && CEs.okG Γ (.cons c' cs)) = true from ok)
    obtain ⟨x, ex, e1⟩ := bind2 (show (CE.sem T c ρ).bind (fun x => (truD x).bind fun b => if b = true then CEs.bop T true (.cons c' cs) ρ else some x) = some d from e1)
    obtain ⟨q, eq, e1⟩ := bind2 e1
    refine s Γ FF Z σ H ρ ok1 r x ex _ fun v H1 e2 o1 => ⟨q, tru_rep (o1.rep fun a h => zn_mono (CE.sub c) h) eq, ?_⟩
    cases q with
    | true =>
      refine iteT ?_
      exact ss Γ FF Z σ H1 ρ ok2 (r.ext e2) d e1 Q fun w H2 e3 o2 => hQ w H2 (e2.trans e3) (o2.since e2 (fun a h => znr h) fun a h => znr h)
    | false =>
      refine iteF ?_
      cases (show some x = some d from e1)
      exact hQ v H1 e2 ((o1.down fun a h => zn_mono (CE.sub c) h).weak (fun a h => znl h) (fun a h => znl h))
  | false =>
    refine ⟨_, pe_orT pe ps, fun Γ FF Z σ H ρ ok r d e1 Q hQ => ?_⟩
    obtain ⟨ok1, ok2⟩ := ands (show (CE.okG Γ c && CEs.okG Γ (.cons c' cs)) = true from ok)
    obtain ⟨x, ex, e1⟩ := bind2 (show (CE.sem T c ρ).bind (fun x => (truD x).bind fun b => if b = false then CEs.bop T false (.cons c' cs) ρ else some x) = some d from e1)
    obtain ⟨q, eq, e1⟩ := bind2 e1
    refine s Γ FF Z σ H ρ ok1 r x ex _ fun v H1 e2 o1 => ⟨q, tru_rep (o1.rep fun a h => zn_mono (CE.sub c) h) eq, ?_⟩
    cases q with
    | false =>
      refine iteF ?_
      exact ss Γ FF Z σ H1 ρ ok2 (r.ext e2) d e1 Q fun w H2 e3 o2 => hQ w H2 (e2.trans e3) (o2.since e2 (fun a h => znr h) fun a h => znr h)
    | true =>
      refine iteT ?_
      cases (show some x = some d from e1)
      exact hQ v H1 e2 ((o1.down fun a h => zn_mono (CE.sub c) h).weak (fun a h => znl h) (fun a h => znl h))
theorem se_bop {b : Bool} {pos : Pos} {es : List Expr} {cs : CEs} (h : SB X cl T b pos es cs) : SE X cl T (.BoolOp (bOp b) es pos) (.bop b cs) := h
theorem sbt_one {b : Bool} {pos : Pos} {e : Expr} {c : CE} (h : ST X cl T e c) : SBT X cl T b pos [e] (.cons c .nil) := by
  obtain ⟨t, pe, s⟩ := h
  refine ⟨t, by cases b; exact pw_or1 pe; exact pw_and1 pe, fun Γ FF Z σ H ρ ok r d q e1 e2 Q hQ => ?_⟩
  obtain ⟨ok1, _⟩ := ands (show (CE.okG Γ c && CEs.okG Γ .nil) = true from ok)
  exact s Γ FF Z σ H ρ ok1 r d q e1 e2 Q hQ
theorem sbt_cons {b : Bool} {pos : Pos} {e e' : Expr} {es : List Expr} {c c' : CE} {cs : CEs} (h : ST X cl T e c) (hs : SBT X cl T b pos (e' :: es) (.cons c' cs)) : SBT X cl T b pos (e :: e' :: es) (.cons c (.cons c' cs)) := by
  obtain ⟨t, pe, s⟩ := h
  obtain ⟨ts, ps, ss⟩ := hs
  cases b with
  | true =>
    refine ⟨_, pw_and pe ps, fun Γ FF Z σ H ρ ok r d q e1 e2 Q hQ => ?_⟩
    obtain ⟨ok1, ok2⟩ := ands (show (CE.okG Γ c && CEs.okG Γ (.cons c' cs)) = true from ok)
    obtain ⟨x, ex, e1⟩ := bind2 (show (CE.sem T c ρ).bind (fun x => (truD x).bind fun b => if b = true then CEs.bop T true (.cons c' cs) ρ else some x) = some d from e1)
    obtain ⟨p, ep, e1⟩ := bind2 e1
    refine s Γ FF Z σ H ρ ok1 r x p ex ep _ fun H1 e3 => ?_
    cases p with
    | true =>
      refine iteT ?_
      exact ss Γ FF Z σ H1 ρ ok2 (r.ext e3) d q e1 e2 Q fun H2 e4 => hQ H2 (e3.trans e4)
    | false =>
      refine iteF ?_
      cases (show some x = some d from e1)
      rw [ep] at e2
      cases e2
      exact hQ H1 e3
  | false =>
    refine ⟨_, pw_or pe ps, fun Γ FF Z σ H ρ ok r d q e1 e2 Q hQ => ?_⟩
    obtain ⟨ok1, ok2⟩ := ands (show (CE.okG Γ c && CEs.okG Γ (.cons c' cs)) = true from ok)
    obtain ⟨x, ex, e1⟩ := bind2 (show (CE.sem T c ρ).bind (fun x => (truD x).bind fun b => if b = false then CEs.bop T false (.cons c' cs) ρ else some x) = some d from e1)
    obtain ⟨p, ep, e1⟩ := bind2 e1
    refine s Γ FF Z σ H ρ ok1 r x p ex ep _ fun H1 e3 => ?_
    cases p with
    | false =>
      refine iteF ?_
      exact ss Γ FF Z σ H1 ρ ok2 (r.ext e3) d q e1 e2 Q fun H2 e4 => hQ H2 (e3.trans e4)
    | true =>
      refine iteT ?_
      cases (show some x = some d from e1)
      rw [ep] at e2
      cases e2
      exact hQ H1 e3
theorem st_bop {b : Bool} {pos : Pos} {es : List Expr} {cs : CEs} (h : SBT X cl T b pos es cs) : ST X cl T (.BoolOp (bOp b) es pos) (.bop b cs) := by
  obtain ⟨t, pw, s⟩ := h
  exact ⟨t, pw.pt, s⟩
/-! ### a if c else b, displays -/
theorem se_ife {c a b : Expr} {cc ca cb : CE} {pos : Pos} (hc : ST X cl T c cc) (ha : SE X cl T a ca) (hb : SE X cl T b cb) : SE X cl T (.IfExp c a b pos) (.ife cc ca cb) := by
  obtain ⟨tc, pc, sc⟩ := hc
  obtain ⟨ta, pa, sa⟩ := ha
  obtain ⟨tb, pb, sb⟩ := hb
  refine ⟨_, pe_ifExp pc pa pb, fun Γ FF Z σ H ρ ok r d e1 Q hQ => ?_⟩
  obtain ⟨ok12, ok3⟩ := ands (show (CE.okG Γ cc && CE.okG Γ ca && CE.okG Γ cb) = true from ok)
  obtain ⟨ok1, ok2⟩ := ands ok12
  obtain ⟨x, ex, e1⟩ := bind2 (show (CE.sem T cc ρ).bind (fun x => (truD x).bind fun k => if k then CE.sem T ca ρ else CE.sem T cb ρ) = some d from e1)
  obtain ⟨q, eq, e1⟩ := bind2 e1
  refine sc Γ FF Z σ H ρ ok1 r x q ex eq _ fun H1 e2 => ?_
  cases q with
  | true =>
    refine iteT (sa Γ FF Z σ H1 ρ ok2 (r.ext e2) d e1 Q fun v H2 e3 o => hQ v H2 (e2.trans e3) ?_)
    exact (o.down fun a h => zn_mono (CE.sub ca) h).since e2 (fun a h => znl h) (fun a h => znl h)
  | false =>
    refine iteF (sb Γ FF Z σ H1 ρ ok3 (r.ext e2) d e1 Q fun v H2 e3 o => hQ v H2 (e2.trans e3) ?_)
    exact (o.down fun a h => zn_mono (CE.sub cb) h).since e2 (fun a h => znr h) (fun a h => znr h)
theorem small_len {n : Nat} (h : n ≤ 1000) : n ≤ sizeLine := Nat.le_trans h (by rw [sizeLine_eq]; decide)
theorem se_tup {es : List Expr} {cs : CEs} {kk : Nat} {pos : Pos} (hl : cs.len ≤ 1000) (h : SA X cl T es cs) : SE X cl T (.Tuple es kk pos) (.tup cs) := by
  obtain ⟨t, pa, s⟩ := h
  refine ⟨_, pe_tup pa, fun Γ FF Z σ H ρ ok r d e1 Q hQ => ?_⟩
  obtain ⟨ds, e2, rfl⟩ := Option.map_eq_some_iff.mp (show (CEs.sem T cs ρ).map D.tup = some d from e1)
  refine s Γ FF Z σ H ρ ok r ds e2 _ fun vs H1 e rs => ⟨?_, fun p hp => hQ _ _ (e.trans (Evl.Ex.new hp)) (Out.newT (fun a h => r.zn_there h) e hp rs)⟩
  rw [rs.length, sem_len cs e2]
  exact small_len hl
theorem se_lst {es : List Expr} {cs : CEs} {pos : Pos} (hl : cs.len ≤ 1000) (h : SA X cl T es cs) : SE X cl T (.List es pos) (.lst cs) := by
  obtain ⟨t, pa, s⟩ := h
  refine ⟨_, pe_lst pa, fun Γ FF Z σ H ρ ok r d e1 Q hQ => ?_⟩
  obtain ⟨ds, e2, rfl⟩ := Option.map_eq_some_iff.mp (show (CEs.sem T cs ρ).map D.lst = some d from e1)
  refine s Γ FF Z σ H ρ ok r ds e2 _ fun vs H1 e rs => ⟨?_, fun p hp => hQ _ _ (e.trans (Evl.Ex.new hp)) (Out.newL (fun a h => r.zn_there h) e hp rs)⟩
  rw [rs.length, sem_len cs e2]
  exact small_len hl
theorem se_dnew {pos : Pos} : SE X cl T (.Dict [] [] pos) .dnew := ⟨_, pe_dnewK, fun Γ FF Z σ H ρ ok r d e1 Q hQ => by
  cases (show some (D.dct []) = some d from e1)
  exact fun p hp => hQ _ _ (Evl.Ex.new hp) (Out.newD (fun a h => r.zn_there h) (Ex.refl H) hp rfl)⟩
theorem se_dis {a b : Expr} {ca cb : CE} {pos : Pos} (ha : SE X cl T a ca) (hb : SE X cl T b cb) : SE X cl T (.Dict [some a] [b] pos) (.dis ca cb) := by
  obtain ⟨ta, pa, sa⟩ := ha
  obtain ⟨tb, pb, sb⟩ := hb
  refine ⟨_, pe_disp (pps_cons pa pb pps_nil) rfl rfl (fun z => by cases z) (by show 1 ≤ 15; decide), fun Γ FF Z σ H ρ ok r d e1 Q hQ => ?_⟩
  obtain ⟨ok1, ok2⟩ := ands (show (CE.okG Γ ca && CE.okG Γ cb) = true from ok)
  obtain ⟨x, ex, e1⟩ := bind2 (show (CE.sem T ca ρ).bind (fun x => (CE.sem T cb ρ).bind fun y => (keyD x).map fun q => D.dct [(q, y)]) = some d from e1)
  obtain ⟨y, ey, e1⟩ := bind2 e1
  obtain ⟨q, eq, rfl⟩ := Option.map_eq_some_iff.mp e1
  intro p hp
  have e0 : Ex H (upd H p (.dK [])) := Evl.Ex.new hp
  refine sa Γ FF Z σ _ ρ ok1 (r.ext e0) x ex _ fun v H1 e1 o1 => sb Γ FF Z σ H1 ρ ok2 ((r.ext e0).ext e1) y ey _ fun w H2 e2 o2 => ?_
  have hp2 : H2 p = some (.dK []) := e2 _ _ (e1 _ _ upd_same)
  obtain rfl := keyD_rep (o1.rep fun a h => zn_mono (CE.sub ca) h) eq
  refine ⟨hp2, [(q, w)], rfl, by show 1 ≤ 15; decide, ?_⟩
  have em : mergeK [] [(q, w)] = [(q, w)] := rfl
  rw [em]
  have eH : Ex H H2 := (e0.trans e1).trans e2
  refine hQ _ _ (Evl.Ex.mut eH hp) ?_
  have rw2 : Rep X.K cl H2 (fun a => zn FF Z (CE.al Γ cb) a ∨ New H1 H2 a) y w := o2.rep fun a h => zn_mono (CE.sub cb) h
  have ne : ∀ a, zn FF Z (CE.al Γ cb) a ∨ New H1 H2 a → a ≠ p := fun a h z => by
    subst z
    rcases h with h | h
    · exact r.zn_there h hp
    · exact absurd h.1 (by
        rw [e1 _ _ upd_same]
        exact fun z => by cases z)
  have g : Agr (fun a => zn FF Z (CE.al Γ cb) a ∨ New H1 H2 a) H2 (upd H2 p (.dK [(q, w)])) := fun a o ha h => by
    rw [upd_ne (ne a ha)]
    exact h
  refine ⟨[p], fun a ha => ?_, by simp, RepO.dct1 upd_same ⟨w, [], rfl, Rep.mono g (fun a h => ⟨?_, fun hm => ne a h (List.mem_singleton.mp hm)⟩) _ _ rw2, rfl⟩⟩
  · obtain rfl := List.mem_singleton.mp ha
    exact ⟨hp, by rw [upd_same]; exact fun z => by cases z⟩
  · rcases h with h | h
    · exact .inl h
    · refine .inr ⟨(h.left (e0.trans e1)).1, ?_⟩
      rw [upd_ne (ne a (.inr h))]
      exact h.2
/-! ### subscripts -/
theorem se_ix {a b : Expr} {ca cb : CE} {pos : Pos} (hx : XOk X cl T k) (hk : kindE b = true) (ha : SE X cl T a ca) (hb : SE X cl T b cb) : SE X cl T (.Subscript a b pos) (.ix ca cb) := by
  have hu : X.A.units + 1 < cLine := by have := hx.room.un; omega
  obtain ⟨ta, pa, sa⟩ := ha
  obtain ⟨tb, pb, sb⟩ := hb
  refine ⟨_, PE.or (pe_ix ix_seq pa pb (ix_plain hk)) (pe_dget hu pa pb (ix_nosl hk)), fun Γ FF Z σ H ρ ok r d e1 Q hQ => ?_⟩
  obtain ⟨ok1, ok2⟩ := ands (show (CE.okG Γ ca && CE.okG Γ cb) = true from ok)
  obtain ⟨x, ex, e1⟩ := bind2 (show (CE.sem T ca ρ).bind (fun x => (CE.sem T cb ρ).bind fun y => ixD x y) = some d from e1)
  obtain ⟨y, ey, e1⟩ := bind2 e1
  have fin : ∀ v H', Ex H H' → Rep X.K cl H' (fun a => zn FF Z (CE.ac Γ ca) a ∨ New H H' a) d v → Q v H' := fun v H' e rv => hQ v H' e (Out.part (fun _ h => h) (fun _ h => h) rv)
  have go : ∀ R : V → V → Hp → Prop, (∀ v w H', Ex H H' → Rep2 X.K cl H' (fun q => zn FF Z (CE.al Γ ca) q ∨ New H H' q) (fun q => zn FF Z (CE.ac Γ ca) q ∨ New H H' q) x v → Rep2 X.K cl H' (fun q => zn FF Z (CE.al Γ cb) q ∨ New H H' q) (fun q => zn FF Z (CE.ac Γ cb) q ∨ New H H' q) y w → R v w H') → ta σ H fun v H1 => tb σ H1 fun w H2 => R v w H2 := fun R hR =>
    two_go (cl := cl) (T := T) (sa Γ FF Z σ H ρ ok1 r x ex) (fun H1 e => sb Γ FF Z σ H1 ρ ok2 (r.ext e) y ey) hR
  cases x with
  | lst xs => cases y with
    | int i =>
      refine .inl (go _ fun v w H' e rv rw' => ?_)
      cases (show w = _ from rw')
      obtain ⟨p, vs, rfl, lp, rs⟩ := rv
      obtain ⟨u, eu, ru⟩ := rs.at (show atI xs i = some d from e1)
      exact .inl ⟨p, vs, i, u, rfl, rfl, lp.sq, eu, fin u H' e ru⟩
    | _ => cases e1
  | tup xs => cases y with
    | int i =>
      refine .inl (go _ fun v w H' e rv rw' => ?_)
      cases (show w = _ from rw')
      obtain ⟨p, vs, rfl, lp, rs⟩ := rv
      obtain ⟨u, eu, ru⟩ := rs.at (show atI xs i = some d from e1)
      exact .inr (.inl ⟨p, vs, i, u, rfl, rfl, lp.sq, eu, fin u H' e ru⟩)
    | _ => cases e1
  | str s => cases y with
    | int i =>
      refine .inl (go _ fun v w H' e rv rw' => ?_)
      cases (show w = _ from rw')
      cases (show v = _ from rv)
      obtain ⟨h1, h2⟩ := Option.ite_none_right_eq_some.mp (show (if s.length ≤ LIM then (atI s.cps.toList i).map fun c => D.str ⟨#[c]⟩ else none) = some d from e1)
      obtain ⟨c, h3, rfl⟩ := Option.map_eq_some_iff.mp h2
      exact .inr (.inr ⟨s, i, c, rfl, rfl, Nat.le_trans h1 LIM_le, h3, fin _ H' e rfl⟩)
    | _ => cases e1
  | dct kvs =>
    have hk : ∃ q, keyD y = some q ∧ lookK q kvs = some d := by
      cases y with
      | int i => exact ⟨_, rfl, e1⟩
      | str i => exact ⟨_, rfl, e1⟩
      | _ => cases e1
    obtain ⟨q, hq, hl⟩ := hk
    refine .inr (go (fun x y H2 => ∃ a v, x = .ref a ∧ DGet H2 a y (some v) ∧ Q v H2) fun v w H' e rv rw' => ?_)
    obtain ⟨p, ps, rfl, ⟨hp, _⟩, rs⟩ := rv
    obtain rfl := keyD_rep rw'.rep hq
    obtain ⟨_, h2, _⟩ := valV_look (k := q) rs
    obtain ⟨u, eu, ru⟩ := h2 d hl
    exact ⟨p, u, rfl, by rw [← eu]; exact DGet.k hp, fin u H' e ru⟩
  | _ => cases e1
def SO (X : Cx) (cl : Nat → Addr) (T : Tab) (e : Option Expr) (c : CO) : Prop := ∃ t, PO X e t ∧ ∀ Γ FF Z σ H ρ, CO.okG Γ c = true → RSt X.K cl Γ FF Z σ H ρ → ∀ d, CO.sem T c ρ = some d → ∀ Q : Option Int → Hp → Prop, (∀ H', Ex H H' → Q d H') → t σ H Q
theorem so_none : SO X cl T none .none := ⟨_, po_none, fun Γ FF Z σ H ρ ok r d e1 Q hQ => by
  cases (show some none = some d from e1)
  exact hQ H (Ex.refl H)⟩
theorem so_some {e : Expr} {c : CE} (h : SE X cl T e c) : SO X cl T (some e) (.some c) := by
  obtain ⟨t, pe, s⟩ := h
  refine ⟨_, po_some pe, fun Γ FF Z σ H ρ ok r d e1 Q hQ => ?_⟩
  obtain ⟨x, ex, e1⟩ := bind2 (show (CE.sem T c ρ).bind (fun x => match x with
    | .int i => some (some i)
    | _ => none) = some d from e1)
  refine s Γ FF Z σ H ρ ok r x ex _ fun v H1 e o => ?_
  cases x with
  | int i =>
    cases e1
    cases (show v = _ from o.rep fun a h => zn_mono (CE.sub c) h)
    exact ⟨i, rfl, hQ H1 e⟩
  | _ => cases e1
theorem se_slc {a : Expr} {lo hi : Option Expr} {ca : CE} {cl' ch : CO} {pos p2 : Pos} (ha : SE X cl T a ca) (hl : SO X cl T lo cl') (hh : SO X cl T hi ch) : SE X cl T (.Subscript a (.Slice lo hi none p2) pos) (.slc ca cl' ch) := by
  obtain ⟨ta, pa, sa⟩ := ha
  obtain ⟨tl, pl, sl⟩ := hl
  obtain ⟨th, ph, sh⟩ := hh
  refine ⟨_, pe_slice (SlR.or sl_list sl_str) pa pl ph, fun Γ FF Z σ H ρ ok r d e1 Q hQ => ?_⟩
  obtain ⟨ok12, ok3⟩ := ands (show (CE.okG Γ ca && CO.okG Γ cl' && CO.okG Γ ch) = true from ok)
  obtain ⟨ok1, ok2⟩ := ands ok12
  obtain ⟨x, ex, e1⟩ := bind2 (show (CE.sem T ca ρ).bind (fun x => (CO.sem T cl' ρ).bind fun l => (CO.sem T ch ρ).bind fun h => slcD x l h) = some d from e1)
  obtain ⟨l, el, e1⟩ := bind2 e1
  obtain ⟨u, eu, e1⟩ := bind2 e1
  refine sa Γ FF Z σ H ρ ok1 r x ex _ fun v H1 e2 o1 => sl Γ FF Z σ H1 ρ ok2 (r.ext e2) l el _ fun H2 e3 => sh Γ FF Z σ H2 ρ ok3 ((r.ext e2).ext e3) u eu _ fun H3 e4 => ?_
  have e23 : Ex H1 H3 := e3.trans e4
  have rv : Rep2 X.K cl H3 (fun a => zn FF Z (CE.al Γ ca) a ∨ New H H3 a) (fun a => zn FF Z (CE.ac Γ ca) a ∨ New H H3 a) x v := (o1.two fun a h => zn_mono (CE.sub ca) h).mono (Agr.of_ex e23) (fun a h => h.imp id fun n => n.right e23) (Agr.of_ex e23) (fun a h => h.imp id fun n => n.right e23)
  cases x with
  | lst xs =>
    cases (show some (D.lst (cutD xs l u)) = some d from e1)
    obtain ⟨p, vs, rfl, lp, rs⟩ := rv
    exact .inl ⟨p, vs, rfl, lp.sq, fun q hq => hQ _ _ ((e2.trans e23).trans (Evl.Ex.new hq)) (Out.newL (fun a h => r.zn_there h) (e2.trans e23) hq (rs.cut l u))⟩
  | str s =>
    cases (show v = _ from rv)
    obtain ⟨h1, h2⟩ := Option.ite_none_right_eq_some.mp (show (if s.length ≤ LIM then some (D.str ⟨(cutD s.cps.toList l u).toArray⟩) else none) = some d from e1)
    cases h2
    refine .inr ⟨s, rfl, Nat.le_trans h1 LIM_le, ?_⟩
    exact hQ _ _ (e2.trans e23) Out.str
  | _ => cases e1
/-! ### fields -/
theorem repF_look {K : PySem.W.Frag} {H : Hp} {A : Addr → Prop} {f : Str} : ∀ {fs : List (Str × D)} {ps : List (Str × V)}, RepF K cl H A fs ps → (∀ d, fs.lookup f = some d → ∃ v, ps.lookup f = some v ∧ Rep K cl H A d v) ∧ (fs.lookup f = none → ps.lookup f = none)
  | [], ps, h => by
    cases (show ps = [] from h)
    exact ⟨fun d h => (by cases h), fun _ => rfl⟩
  | (g, e) :: r, _, h => by
    obtain ⟨v, q, rfl, h1, h2⟩ := h
    obtain ⟨i1, i2⟩ := repF_look (f := f) h2
    simp only [List.lookup]
    cases hb : f == g with
    | true => exact ⟨fun d hd => ⟨v, rfl, (by cases hd; exact h1)⟩, fun hd => (by cases hd)⟩
    | false => exact ⟨i1, i2⟩
theorem se_fld {o : Expr} {co : CE} {c : Nat} {f : Str} {pos : Pos} (hx : XOk X cl T k) (hf : (c, f) ∈ T.fd) (hs : noSup o = true) (ho : SE X cl T o co) : SE X cl T (.Attribute o f pos) (.fld c co f) := by
  obtain ⟨t, pe, s⟩ := ho
  obtain ⟨h1, h2⟩ := hx.fds _ hf
  refine ⟨_, pe_fld pe (base_ok hs _ _ _), fun Γ FF Z σ H ρ ok r d e1 Q hQ => ?_⟩
  obtain ⟨x, ex, e1⟩ := bind2 (show (CE.sem T co ρ).bind (fun x => fldD c f x) = some d from e1)
  refine s Γ FF Z σ H ρ ok r x ex _ fun v H1 e o => ?_
  have rv := o.two fun a h => zn_mono (CE.sub co) h
  cases x with
  | ins c' fs =>
    obtain ⟨h3, h4⟩ := Option.ite_none_right_eq_some.mp (show (if c = c' then fs.lookup f else none) = some d from e1)
    subst h3
    obtain ⟨p, dx, ps, rfl, ⟨hp, _⟩, rs⟩ := rv
    obtain ⟨u, eu, ru⟩ := (repF_look rs).1 d h4
    exact ⟨p, cl c, dx, ps, u, rfl, hp, h1, h2, eu, hQ u H1 e (Out.part (fun _ h => h) (fun _ h => h) ru)⟩
  | _ => cases e1
/-! ### calls -/
theorem call_go {e : FnE} {Γ : List Nat} {FF : Nat → List Addr} {Z : Addr → Prop} {σ : L2.St} {H H1 : Hp} {ρ : Env} {S : List Nat} {ds : List D} {vs : List V} {d : D} {np : Nat} (r : RSt X.K cl Γ FF Z σ H ρ) (e1 : Ex H H1) (rs : Reps X.K cl H1 (fun a => zn FF Z S a ∨ New H H1 a) ds vs) (hl : vs.length = np)
    (hd : e.sem ds = some d) {Q : VK} (hQ : ∀ v H', Ex H H' → Out X.K cl e.lvl (zn FF Z S) (zn FF Z S) H H' d v → Q v H') {E : XK} : spF X.K cl np e.sem e.lvl vs H1 Q E := by
  refine ⟨hl, ds, _, d, rs, fun a h => ?_, hd, fun v H' e2 o => hQ v H' (e1.trans e2) (o.later e1 e2 (fun _ h => h) fun _ h => h)⟩
  rcases h with h | h
  · exact ex_there e1 (r.zn_there h)
  · exact h.2
theorem se_call {f : Nat} {e : FnE} {es : List Expr} {x : Expr} {cs : CEs} {p pos : Pos} (hx : XOk X cl T k) (hT : T.fn[f]? = some e) (hk : e.kind = .fn) (hg : Gl X e.name) (hd : (e.name == ("__debug__" : Str)) = false) (hl : cs.len = e.np) (hs : (x :: es).all kindE = true) (h : SA X cl T (x :: es) cs) :
    SE X cl T (.Call (.Name e.name p) (x :: es) [] pos) (.call f cs) := by
  obtain ⟨t, pa, s⟩ := h
  have := (hx.fns e (List.mem_of_getElem? hT)).ok
  rw [hk] at this
  obtain ⟨fa, fd, ps, j, hj, F, hm, kp, hb⟩ := this
  obtain ⟨k1, k2⟩ := ands (show (kindE x && es.all kindE) = true from hs)
  refine ⟨_, pe_call F (hx.room.mono hj) hg hm kp hb .nil pass0 pa hd (star_ok k1 _ _) (back_any k2 _ _), fun Γ FF Z σ H ρ ok r d e1 Q hQ => ?_⟩
  obtain ⟨ds, e2, e1⟩ := bind2 (show (CEs.sem T cs ρ).bind (fun ds => T.call f ds) = some d from e1)
  have e1 : e.sem ds = some d := by
    unfold Tab.call at e1
    rw [hT] at e1
    exact e1
  have hlv : CE.lv T (.call f cs) = e.lvl := by
    show Tab.lv T f = _
    unfold Tab.lv
    rw [hT]
  rw [hlv] at hQ
  refine s Γ FF Z σ H ρ ok r ds e2 _ fun vs H1 e3 rs => ?_
  show spF X.K cl e.np e.sem e.lvl (vs ++ []) H1 Q E0
  rw [List.append_nil]
  exact call_go r e3 rs (by rw [rs.length, sem_len cs e2, hl]) e1 hQ
theorem se_call0 {f : Nat} {e : FnE} {p pos : Pos} (hx : XOk X cl T k) (hT : T.fn[f]? = some e) (hk : e.kind = .fn) (hg : Gl X e.name) (hd : (e.name == ("__debug__" : Str)) = false) (hl : 0 = e.np) :
    SE X cl T (.Call (.Name e.name p) [] [] pos) (.call f .nil) := by
  have := (hx.fns e (List.mem_of_getElem? hT)).ok
  rw [hk] at this
  obtain ⟨fa, fd, ps, j, hj, F, hm, kp, hb⟩ := this
  refine ⟨_, pe_call0 F (hx.room.mono hj) hg hm kp hb .nil pass0 hd, fun Γ FF Z σ H ρ ok r d e1 Q hQ => ?_⟩
  obtain ⟨ds, e2, e1⟩ := bind2 (show (CEs.sem T .nil ρ).bind (fun ds => T.call f ds) = some d from e1)
  cases (show some [] = some ds from e2)
  have e1 : e.sem [] = some d := by
    unfold Tab.call at e1
    rw [hT] at e1
    exact e1
  have hlv : CE.lv T (.call f .nil) = e.lvl := by
    show Tab.lv T f = _
    unfold Tab.lv
    rw [hT]
  rw [hlv] at hQ
  exact call_go (S := []) (E := E0) r (Ex.refl H) (ds := []) rfl (by rw [← hl]; rfl) e1 hQ
theorem meth_tree {o : Expr} {es : List Expr} {m : Str} {apos pos : Pos} (env : PySem.Env) (hs : noSup o = true) (hk : es.all kindE = true) (hn : es.length ≤ 20) (hl : (apos.endLine == pos.line) = true) : eval (.Call (.Attribute o m apos) es [] pos) env =
    (eval o env >>= fun x => standAt apos.atName >>= fun _ => holding [x] (getMethod x m (plainOf o env)) >>= fun | (f, first) => callWith pos f first (backTo pos (starEach es env)) (backToKw pos (keywordEach [] env))) := by
  rw [arm_eval_Call, base_ok hs]
  have hf : methodCallForm (es.length + ([] : List Keyword).length) (backTo pos (starEach es env)) (backToKw pos (keywordEach [] env)) = true := by
    unfold methodCallForm
    rw [back_all hk]
    show (true && true && decide (es.length + 0 + 0 < 30)) = true
    simp only [Bool.true_and, decide_eq_true_eq]
    omega
  have e : ∀ ov, methodCall o m apos pos env ov (es.length + ([] : List Keyword).length) (backTo pos (starEach es env)) (backToKw pos (keywordEach [] env)) = _ := fun ov => mcall_line hf hl
  simp only [e]
theorem se_meth {f c : Nat} {e : FnE} {o : Expr} {co : CE} {es : List Expr} {x : Expr} {cs : CEs} {apos pos : Pos} (hx : XOk X cl T k) (hT : T.fn[f]? = some e) (hk : e.kind = .meth c) (hl : cs.len = e.np) (hs : (x :: es).all kindE = true) (hn : (x :: es).length ≤ 20) (hp : (apos.endLine == pos.line) = true) (hb : noSup o = true)
    (ho : SE X cl T o co) (h : SA X cl T (x :: es) cs) : SE X cl T (.Call (.Attribute o e.name apos) (x :: es) [] pos) (.meth f co cs) := by
  obtain ⟨to, po, so⟩ := ho
  obtain ⟨t, pa, s⟩ := h
  have := (hx.fns e (List.mem_of_getElem? hT)).ok
  rw [hk] at this
  obtain ⟨fa, fd, ps, j, hj, F, C, M, hb'⟩ := this
  obtain ⟨k1, k2⟩ := ands (show (kindE x && es.all kindE) = true from hs)
  refine ⟨_, pe_meth po C M F (hx.room.mono hj) hb' .nil pass0 pa (star_ok k1 _ _) (back_any k2 _ _) (meth_tree X.env hb hs hn hp), fun Γ FF Z σ H ρ ok r d e1 Q hQ => ?_⟩
  obtain ⟨ok1, ok2⟩ := ands (show (CE.okG Γ co && CEs.okG Γ cs) = true from ok)
  obtain ⟨q, eq, e1⟩ := bind2 (show (CE.sem T co ρ).bind (fun x => (CEs.sem T cs ρ).bind fun ds => T.callM f x ds) = some d from e1)
  obtain ⟨ds, e2, e1⟩ := bind2 e1
  have hlv : CE.lv T (.meth f co cs) = e.lvl := by
    show Tab.lv T f = _
    unfold Tab.lv
    rw [hT]
  rw [hlv] at hQ
  unfold Tab.callM at e1
  rw [hT] at e1
  simp only [hk] at e1
  refine so Γ FF Z σ H ρ ok1 r q eq _ fun v H1 e3 o1 => ?_
  have rv := o1.rep fun a h => zn_mono (CE.sub co) h
  cases q with
  | ins c' fs =>
    obtain ⟨⟨rfl, hlook⟩, h4⟩ := Option.ite_none_right_eq_some.mp e1
    obtain ⟨p, dx, pp, rfl, ⟨hp', zp⟩, rs⟩ := id rv
    refine ⟨p, dx, pp, rfl, hp', (repF_look rs).2 (Option.isNone_iff_eq_none.mp hlook), ?_⟩
    refine s Γ FF Z σ H1 ρ ok2 (r.ext e3) ds e2 _ fun vs H2 e4 rs2 => ?_
    show spF X.K cl (e.np + 1) e.sem e.lvl (.ref p :: (vs ++ [])) H2 Q E0
    rw [List.append_nil]
    refine call_go (S := CE.al Γ co ++ CEs.al Γ cs) (ds := .ins c fs :: ds) r (e3.trans e4) ⟨_, vs, rfl, Rep.on e3 e4 (fun a h => znl h) rv, Reps.since e3 (fun a h => znr h) rs2⟩ ?_ h4 hQ
    rw [List.length_cons, rs2.length, sem_len cs e2, hl]
  | _ => cases e1
theorem se_meth0 {f c : Nat} {e : FnE} {o : Expr} {co : CE} {apos pos : Pos} (hx : XOk X cl T k) (hT : T.fn[f]? = some e) (hk : e.kind = .meth c) (hl : 0 = e.np) (hp : (apos.endLine == pos.line) = true) (hb : noSup o = true)
    (ho : SE X cl T o co) : SE X cl T (.Call (.Attribute o e.name apos) [] [] pos) (.meth f co .nil) := by
  obtain ⟨to, po, so⟩ := ho
  have := (hx.fns e (List.mem_of_getElem? hT)).ok
  rw [hk] at this
  obtain ⟨fa, fd, ps, j, hj, F, C, M, hb'⟩ := this
  refine ⟨_, pe_meth0 po C M F (hx.room.mono hj) hb' .nil pass0 (meth_tree X.env hb rfl (by show 0 ≤ 20; decide) hp), fun Γ FF Z σ H ρ ok r d e1 Q hQ => ?_⟩
  obtain ⟨ok1, ok2⟩ := ands (show (CE.okG Γ co && CEs.okG Γ .nil) = true from ok)
  obtain ⟨q, eq, e1⟩ := bind2 (show (CE.sem T co ρ).bind (fun x => (CEs.sem T .nil ρ).bind fun ds => T.callM f x ds) = some d from e1)
  obtain ⟨ds, e2, e1⟩ := bind2 e1
  cases (show some [] = some ds from e2)
  have hlv : CE.lv T (.meth f co .nil) = e.lvl := by
    show Tab.lv T f = _
    unfold Tab.lv
    rw [hT]
  rw [hlv] at hQ
  unfold Tab.callM at e1
  rw [hT] at e1
  simp only [hk] at e1
  refine so Γ FF Z σ H ρ ok1 r q eq _ fun v H1 e3 o1 => ?_
  have rv := o1.rep fun a h => zn_mono (CE.sub co) h
  cases q with
  | ins c' fs =>
    obtain ⟨⟨rfl, hlook⟩, h4⟩ := Option.ite_none_right_eq_some.mp e1
    obtain ⟨p, dx, pp, rfl, ⟨hp', zp⟩, rs⟩ := id rv
    refine ⟨p, dx, pp, rfl, hp', (repF_look rs).2 (Option.isNone_iff_eq_none.mp hlook), ?_⟩
    show spF X.K cl (e.np + 1) e.sem e.lvl [.ref p] H1 Q E0
    exact call_go (S := CE.al Γ co ++ CEs.al Γ .nil) (ds := [.ins c fs]) r e3 ⟨_, [], rfl, Rep.mono (fun _ _ _ h => h) (fun a h => h.imp (fun z => znl z) id) _ _ rv, rfl⟩ (by rw [← hl]; rfl) h4 hQ
  | _ => cases e1
theorem se_make {f c : Nat} {e : FnE} {es : List Expr} {x : Expr} {cs : CEs} {p pos : Pos} (hx : XOk X cl T k) (hT : T.fn[f]? = some e) (hk : e.kind = .mk c) (hg : Gl X e.name) (hd : (e.name == ("__debug__" : Str)) = false) (hl : cs.len = e.np) (hs : (x :: es).all kindE = true) (h : SA X cl T (x :: es) cs) :
    SE X cl T (.Call (.Name e.name p) (x :: es) [] pos) (.make f cs) := by
  obtain ⟨t, pa, s⟩ := h
  have := (hx.fns e (List.mem_of_getElem? hT)).ok
  rw [hk] at this
  obtain ⟨fa, fd, ps, j, hj, F, M, hm, hb, hlv⟩ := this
  obtain ⟨k1, k2⟩ := ands (show (kindE x && es.all kindE) = true from hs)
  refine ⟨_, pe_make M F (hx.room.mono hj) hg hm hb .nil pass0 pa hd (star_ok k1 _ _) (back_any k2 _ _), fun Γ FF Z σ H ρ ok r d e1 Q hQ => ?_⟩
  obtain ⟨ds, e2, e1⟩ := bind2 (show (CEs.sem T cs ρ).bind (fun ds => T.call f ds) = some d from e1)
  have e1 : e.sem ds = some d := by
    unfold Tab.call at e1
    rw [hT] at e1
    exact e1
  refine s Γ FF Z σ H ρ ok r ds e2 _ fun vs H1 e3 rs => ?_
  intro y dx hy hdx ne
  have e4 : Ex H1 (upd (upd H1 dx (.own y)) y (.ins (cl c) dx [])) := fun a o ha => by
    rw [upd_ne (ne_of_none ha hy), upd_ne (ne_of_none ha hdx)]
    exact ha
  show spI X.K cl c e.np e.sem (.ref y :: (vs ++ [])) _ _ E0
  rw [List.append_nil]
  refine ⟨y, dx, vs, rfl, by rw [rs.length, sem_len cs e2, hl], upd_same, ds, _, d, Reps.mono (Agr.of_ex e4) (fun _ h => h) _ _ rs, fun a h => ?_, fun h => ?_, e1, fun H' keep there rd => ⟨rfl, ?_⟩⟩
  · rcases h with h | h
    · exact ex_there e4 (ex_there e3 (r.zn_there h))
    · exact ex_there e4 h.2
  · rcases h with h | h
    · exact absurd hy (ex_there e3 (r.zn_there h))
    · exact h.2 hy
  · have e5 : Ex H1 H' := fun a o ha => keep a o (e4 a o ha) (ne_of_none ha hy)
    have e6 : Ex H H' := e3.trans e5
    refine hQ _ H' e6 ?_
    show Rep2 X.K cl H' _ _ d (.ref y)
    refine rd.mono (fun _ _ _ h => h) (fun a h => ?_) (fun _ _ _ h => h) (fun a h => ?_)
    · subst h
      exact .inr ⟨Evl.fresh_back e3 hy, there⟩
    · rcases h with h | h
      · exact h.imp id fun n => n.right e5
      · refine .inr ⟨?_, h.2⟩
        cases q : H a with
        | none => rfl
        | some o =>
          have := h.1
          rw [e4 a o (e3 a o q)] at this
          cases this
end
end PV

set_option Elab.async false
set_option linter.all false
set_option maxRecDepth 100000
set_option maxHeartbeats 2000000
/-! PV7: built-ins, sorting, join, get. -/
namespace PV
open PySem L2 PyProof.Rows
open Evl (Ex)

/-! ### sorting -/
section
variable {α : Type} {le : α → α → Bool}
theorem insS_perm (x : α) : ∀ l : List α, (insS le x l).Perm (x :: l)
  | [] => .refl _
  | y :: r => by
    show (if le x y then x :: y :: r else y :: insS le x r).Perm (x :: y :: r)
    by_cases h : le x y = true
    · rw [if_pos h]
    · rw [if_neg h]
      exact ((insS_perm x r).cons y).trans (.swap x y r)
theorem sortS_perm : ∀ l : List α, (sortS le l).Perm l
  | [] => .refl _
  | x :: r => (insS_perm x _).trans ((sortS_perm r).cons x)
theorem insS_sorted (tot : ∀ a b, le a b = true ∨ le b a = true) (tr : ∀ a b c, le a b = true → le b c = true → le a c = true) (x : α) : ∀ l : List α, l.Pairwise (fun a b => le a b = true) → (insS le x l).Pairwise (fun a b => le a b = true)
  | [], _ => by
    show [x].Pairwise _
    simp
  | y :: r, h => by
    obtain ⟨h1, h2⟩ := List.pairwise_cons.mp h
    show (if le x y then x :: y :: r else y :: insS le x r).Pairwise _
    by_cases hx : le x y = true
    · rw [if_pos hx]
      refine List.pairwise_cons.mpr ⟨fun z hz => ?_, h⟩
      rcases List.mem_cons.mp hz with rfl | hz
      · exact hx
      · exact tr _ _ _ hx (h1 z hz)
    · rw [if_neg hx]
      refine List.pairwise_cons.mpr ⟨fun z hz => ?_, insS_sorted tot tr x r h2⟩
      rcases List.mem_cons.mp ((insS_perm x r).mem_iff.mp hz) with rfl | hz
      · exact (tot z y).resolve_left hx
      · exact h1 z hz
theorem sortS_sorted (tot : ∀ a b, le a b = true ∨ le b a = true) (tr : ∀ a b c, le a b = true → le b c = true → le a c = true) : ∀ l : List α, (sortS le l).Pairwise (fun a b => le a b = true)
  | [] => .nil
  | x :: r => insS_sorted tot tr x _ (sortS_sorted tot tr r)
theorem sorted_unique (anti : ∀ a b, le a b = true → le b a = true → a = b) : ∀ {l m : List α}, l.Perm m → l.Pairwise (fun a b => le a b = true) → m.Pairwise (fun a b => le a b = true) → l = m
  | [], m, p, _, _ => (List.nil_perm.mp p).symm
  | x :: l, [], p, _, _ => absurd p.length_eq (by simp)
  | x :: l, y :: m, p, hl, hm => by
    obtain ⟨h1, h2⟩ := List.pairwise_cons.mp hl
    obtain ⟨g1, g2⟩ := List.pairwise_cons.mp hm
    have e : x = y := by
      have hx : x ∈ y :: m := p.mem_iff.mp List.mem_cons_self
      have hy : y ∈ x :: l := p.mem_iff.mpr List.mem_cons_self
      rcases List.mem_cons.mp hx with e | hx
      · exact e
      · rcases List.mem_cons.mp hy with e | hy
        · exact e.symm
        · exact anti x y (h1 y hy) (g1 x hx)
    subst e
    rw [sorted_unique anti (List.perm_cons x |>.mp p) h2 g2]
end
theorem leI_tot (a b : Int) : decide (a ≤ b) = true ∨ decide (b ≤ a) = true := by
  simp only [decide_eq_true_eq]
  omega
theorem leI_tr (a b c : Int) (h : decide (a ≤ b) = true) (g : decide (b ≤ c) = true) : decide (a ≤ c) = true := by
  simp only [decide_eq_true_eq] at *
  omega
theorem leI_anti (a b : Int) (h : decide (a ≤ b) = true) (g : decide (b ≤ a) = true) : a = b := by
  simp only [decide_eq_true_eq] at *
  omega
theorem lt_tri : ∀ (a b : List Nat), a < b ∨ a = b ∨ b < a
  | [], [] => .inr (.inl rfl)
  | [], _ :: _ => .inl (by exact List.Lex.nil)
  | _ :: _, [] => .inr (.inr (by exact List.Lex.nil))
  | x :: a, y :: b => by
    rcases Nat.lt_trichotomy x y with h | h | h
    · exact .inl (List.Lex.rel h)
    · subst h
      rcases lt_tri a b with h | h | h
      · exact .inl (List.Lex.cons h)
      · subst h
        exact .inr (.inl rfl)
      · exact .inr (.inr (List.Lex.cons h))
    · exact .inr (.inr (List.Lex.rel h))
theorem lt_irr : ∀ (a : List Nat), ¬ a < a
  | [], h => by cases h
  | x :: a, h => by
    cases h with
    | rel h => exact Nat.lt_irrefl _ h
    | cons h => exact lt_irr a h
theorem lt_tr : ∀ {a b c : List Nat}, a < b → b < c → a < c
  | [], _, [], h, g => by cases g
  | [], _, _ :: _, h, g => List.Lex.nil
  | x :: a, [], _, h, g => by cases h
  | x :: a, y :: b, [], h, g => by cases g
  | x :: a, y :: b, z :: c, h, g => by
    cases h with
    | rel h => cases g with
      | rel g => exact List.Lex.rel (Nat.lt_trans h g)
      | cons g => exact List.Lex.rel h
    | cons h => cases g with
      | rel g => exact List.Lex.rel g
      | cons g => exact List.Lex.cons (lt_tr h g)
theorem leStr_tot (a b : Str) : leStr a b = true ∨ leStr b a = true := by
  unfold leStr
  simp only [decide_eq_true_eq]
  by_cases h : b.cps.toList < a.cps.toList
  · exact .inr fun g => lt_irr _ (lt_tr h g)
  · exact .inl h
theorem leStr_tr (a b c : Str) (h : leStr a b = true) (g : leStr b c = true) : leStr a c = true := by
  unfold leStr at *
  simp only [decide_eq_true_eq] at *
  intro x
  rcases lt_tri b.cps.toList a.cps.toList with q | q | q
  · exact h q
  · rw [← q] at x
    exact g x
  · exact g (lt_tr x q)
theorem str_ext {a b : Str} (h : a.cps.toList = b.cps.toList) : a = b := by
  cases a
  cases b
  simp only [Str.mk.injEq]
  exact Array.toList_inj.mp h
theorem leStr_anti (a b : Str) (h : leStr a b = true) (g : leStr b a = true) : a = b := by
  unfold leStr at *
  simp only [decide_eq_true_eq] at *
  rcases lt_tri a.cps.toList b.cps.toList with q | q | q
  · exact absurd q g
  · exact str_ext q
  · exact absurd q h
theorem rising_pw : ∀ (p : Str) (l : List Str), risingS p l = true → (p :: l).Pairwise (fun a b => leStr a b = true)
  | p, [], _ => by simp
  | p, x :: r, h => by
    obtain ⟨h1, h2⟩ := Bool.and_eq_true_iff.mp (show (!Spec.ltCps x.cps.toList p.cps.toList && risingS x r) = true from h)
    have ih := rising_pw x r h2
    have hp : leStr p x = true := by
      unfold leStr
      rw [ltCps_eq] at h1
      simpa using h1
    refine List.pairwise_cons.mpr ⟨fun z hz => ?_, ih⟩
    rcases List.mem_cons.mp hz with rfl | hz
    · exact hp
    · exact leStr_tr _ _ _ hp ((List.pairwise_cons.mp ih).1 z hz)
theorem sortedS_pw : ∀ (l : List Str), sortedS l = true → l.Pairwise (fun a b => leStr a b = true)
  | [], _ => .nil
  | x :: r, h => rising_pw x r h
theorem sort_ints {ns ms : List Int} (p : ms.Perm ns) (h : ms.Pairwise (· ≤ ·)) : ms = sortS (fun a b => decide (a ≤ b)) ns :=
  sorted_unique leI_anti (p.trans (sortS_perm ns).symm) (h.imp fun x => decide_eq_true x) (sortS_sorted leI_tot leI_tr ns)
theorem sort_strs {ns ms : List Str} (p : ms.Perm ns) (h : sortedS ms = true) : ms = sortS leStr ns :=
  sorted_unique leStr_anti (p.trans (sortS_perm ns).symm) (sortedS_pw ms h) (sortS_sorted leStr_tot leStr_tr ns)

section
variable {X : Cx} {cl : Nat → Addr} {T : Tab} {k : Nat}
/-- a built-in by its name, a scalar out -/
theorem se_biB {b : Bi} {x : Str} {id : String} {r : List V → Hp → VK → Prop} {e : Expr} {es : List Expr} {cs : CEs} {p pos : Pos} (hx : XOk X cl T k) (hc : CallR X (.builtin id) r) (hn : x ∈ blNames) (hv : bootBuiltins x = some (.builtin id)) (hg : Gl X x) (h1 : x ≠ "__name__") (h2 : (x == ("__debug__" : Str)) = false) (hs : (e :: es).all kindE = true)
    (hf : ∀ ds d, biD b ds = some d → d.flat = true ∧ ∀ H A vs, Reps X.K cl H A ds vs → ∀ Q : VK, Q d.toV H → r vs H Q) (h : SA X cl T (e :: es) cs) : SE X cl T (.Call (.Name x p) (e :: es) [] pos) (.bi b cs) := by
  obtain ⟨t, pa, s⟩ := h
  obtain ⟨k1, k2⟩ := ands (show (kindE e && es.all kindE) = true from hs)
  refine SE.flat (pe_callB hc hg (hx.bl x hn) hv pa h1 h2 (star_ok k1 _ _) (back_any k2 _ _)) fun Γ FF Z σ H ρ ok r d e1 => ?_
  obtain ⟨ds, e2, e1⟩ := bind2 (show (CEs.sem T cs ρ).bind (fun ds => biD b ds) = some d from e1)
  obtain ⟨fl, hf⟩ := hf ds d e1
  exact ⟨fl, fun Q hQ => s Γ FF Z σ H ρ ok r ds e2 _ fun vs H1 e3 rs => hf H1 _ vs rs Q (hQ H1 e3)⟩
theorem se_biT {b : Bi} {x : Str} {id : String} {r : List V → Hp → VK → Prop} {e : Expr} {es : List Expr} {cs : CEs} {p pos : Pos} (hx : XOk X cl T k) (hc : CallR X (.type id) r) (hn : x ∈ blNames) (hv : bootBuiltins x = some (.type id)) (hg : Gl X x) (h1 : x ≠ "__name__") (h2 : (x == ("__debug__" : Str)) = false) (hs : (e :: es).all kindE = true)
    (hf : ∀ ds d, biD b ds = some d → d.flat = true ∧ ∀ H A vs, Reps X.K cl H A ds vs → ∀ Q : VK, Q d.toV H → r vs H Q) (h : SA X cl T (e :: es) cs) : SE X cl T (.Call (.Name x p) (e :: es) [] pos) (.bi b cs) := by
  obtain ⟨t, pa, s⟩ := h
  obtain ⟨k1, k2⟩ := ands (show (kindE e && es.all kindE) = true from hs)
  refine SE.flat (pe_callTy hc hg (hx.bl x hn) hv pa h1 h2 (star_ok k1 _ _) (back_any k2 _ _)) fun Γ FF Z σ H ρ ok r d e1 => ?_
  obtain ⟨ds, e2, e1⟩ := bind2 (show (CEs.sem T cs ρ).bind (fun ds => biD b ds) = some d from e1)
  obtain ⟨fl, hf⟩ := hf ds d e1
  exact ⟨fl, fun Q hQ => s Γ FF Z σ H ρ ok r ds e2 _ fun vs H1 e3 rs => hf H1 _ vs rs Q (hQ H1 e3)⟩
/-- one argument: the list of arguments -/
theorem reps1 {K : PySem.W.Frag} {H : Hp} {A : Addr → Prop} {d : D} {vs : List V} (h : Reps K cl H A [d] vs) : ∃ v, vs = [v] ∧ Rep K cl H A d v := by
  obtain ⟨v, r, rfl, h1, h2⟩ := h
  cases (show r = [] from h2)
  exact ⟨v, rfl, h1⟩
theorem reps2 {K : PySem.W.Frag} {H : Hp} {A : Addr → Prop} {d e : D} {vs : List V} (h : Reps K cl H A [d, e] vs) : ∃ v w, vs = [v, w] ∧ Rep K cl H A d v ∧ Rep K cl H A e w := by
  obtain ⟨v, r, rfl, h1, h2⟩ := h
  obtain ⟨w, rfl, h3⟩ := reps1 h2
  exact ⟨v, w, rfl, h1, h3⟩
theorem len_ok (ds : List D) (d : D) (h : biD .len ds = some d) : d.flat = true ∧ ∀ H A vs, Reps X.K cl H A ds vs → ∀ Q : VK, Q d.toV H →
    ((∃ x n, vs = [x] ∧ LenV X.K x H n ∧ Q (.int n) H) ∨ ∃ a kvs, vs = [V.ref a] ∧ H a = some (.dK kvs) ∧ Q (.int kvs.length) H) := by
  cases ds with
  | nil => cases h
  | cons a t => cases t with
    | cons b t => cases a <;> cases h
    | nil => cases a with
      | lst xs =>
        cases h
        refine ⟨rfl, fun H A vs rs Q q => ?_⟩
        obtain ⟨v, rfl, a, ws, rfl, l, rw'⟩ := reps1 rs
        exact .inl ⟨_, _, rfl, .inl ⟨ws, l.sq, rfl⟩, by rw [rw'.length]; exact q⟩
      | tup xs =>
        cases h
        refine ⟨rfl, fun H A vs rs Q q => ?_⟩
        obtain ⟨v, rfl, a, ws, rfl, l, rw'⟩ := reps1 rs
        exact .inl ⟨_, _, rfl, .inr ⟨ws, l.sq, rfl⟩, by rw [rw'.length]; exact q⟩
      | dct kvs =>
        cases h
        refine ⟨rfl, fun H A vs rs Q q => ?_⟩
        obtain ⟨v, rfl, a, ws, rfl, l, rw'⟩ := reps1 rs
        have e := congrArg List.length (repK_to rw').1
        rw [List.length_map, List.length_map] at e
        exact .inr ⟨a, ws, rfl, l.1, by rw [← e]; exact q⟩
      | str s =>
        obtain ⟨h1, h2⟩ := Option.ite_none_right_eq_some.mp (show (if s.length ≤ LIM then some (D.int s.length) else none) = some d from h)
        cases h2
        refine ⟨rfl, fun H A vs rs Q q => ?_⟩
        obtain ⟨v, rfl, r⟩ := reps1 rs
        cases (show v = _ from r)
        exact .inl ⟨_, _, rfl, ⟨Nat.le_trans h1 LIM_le, rfl⟩, q⟩
      | _ => cases h
theorem se_len {e : Expr} {cs : CEs} {p pos : Pos} (hx : XOk X cl T k) (hg : Gl X "len") (hs : kindE e = true) (h : SA X cl T [e] cs) : SE X cl T (.Call (.Name "len" p) [e] [] pos) (.bi .len cs) :=
  se_biB hx (CallR.or call_len call_lenD) (by decide +kernel) boot_len hg (by decide +kernel) (by decide +kernel) (by simp [hs]) len_ok h
theorem int_okb (ds : List D) (d : D) (h : biD .int_ ds = some d) : d.flat = true ∧ ∀ H A vs, Reps X.K cl H A ds vs → ∀ Q : VK, Q d.toV H →
    ((∃ i, vs = [.int i] ∧ Q (.int i) H) ∨ ∃ k, vs = [.bl k] ∧ Q (.int (if k then 1 else 0)) H) := by
  cases ds with
  | nil => cases h
  | cons a t => cases t with
    | cons b t => cases a <;> cases h
    | nil => cases a with
      | int i =>
        cases h
        refine ⟨rfl, fun H A vs rs Q q => ?_⟩
        obtain ⟨v, rfl, r⟩ := reps1 rs
        cases (show v = _ from r)
        exact .inl ⟨_, rfl, q⟩
      | bl i =>
        cases h
        refine ⟨rfl, fun H A vs rs Q q => ?_⟩
        obtain ⟨v, rfl, r⟩ := reps1 rs
        cases (show v = _ from r)
        exact .inr ⟨_, rfl, q⟩
      | _ => cases h
theorem se_int {e : Expr} {cs : CEs} {p pos : Pos} (hx : XOk X cl T k) (hg : Gl X "int") (hs : kindE e = true) (h : SA X cl T [e] cs) : SE X cl T (.Call (.Name "int" p) [e] [] pos) (.bi .int_ cs) :=
  se_biT hx call_int1 (by decide +kernel) boot_int hg (by decide +kernel) (by decide +kernel) (by simp [hs]) int_okb h
theorem log2_small {i : Int} (h : i.natAbs < 1000000000000000000) : i.natAbs.log2 < 1920 := by
  by_cases h0 : i.natAbs = 0
  · rw [h0]; decide
  · have : i.natAbs < 2 ^ 1920 := Nat.lt_trans h (by decide)
    exact (Nat.log2_lt h0).mpr this
theorem se_str {e : Expr} {cs : CEs} {p pos : Pos} (hx : XOk X cl T k) (hg : Gl X "str") (hs : kindE e = true) (h : SA X cl T [e] cs) : SE X cl T (.Call (.Name "str" p) [e] [] pos) (.bi .str_ cs) :=
  se_biT hx call_str_int (by decide +kernel) boot_str hg (by decide +kernel) (by decide +kernel) (by simp [hs]) (fun ds d h => by
    match ds, h with
    | [.int i], h =>
      obtain ⟨h1, h2⟩ := Option.ite_none_right_eq_some.mp (show (if i.natAbs < 1000000000000000000 then some (D.str (toString i)) else none) = some d from h)
      cases h2
      refine ⟨rfl, fun H A vs rs Q q => ?_⟩
      obtain ⟨v, rfl, r⟩ := reps1 rs
      cases (show v = _ from r)
      exact ⟨i, rfl, log2_small h1, q⟩) h
theorem se_min2 {e f : Expr} {cs : CEs} {p pos : Pos} (hx : XOk X cl T k) (hg : Gl X "min") (hs : kindE e = true) (hs2 : kindE f = true) (h : SA X cl T [e, f] cs) : SE X cl T (.Call (.Name "min" p) [e, f] [] pos) (.bi .min2 cs) :=
  se_biB hx (call_min2 hx.calm) (by decide +kernel) boot_min hg (by decide +kernel) (by decide +kernel) (by simp [hs, hs2]) (fun ds d h => by
    match ds, h with
    | [.int i, .int j], h =>
      cases h
      refine ⟨rfl, fun H A vs rs Q q => ?_⟩
      obtain ⟨v, w, rfl, r, r'⟩ := reps2 rs
      cases (show v = _ from r)
      cases (show w = _ from r')
      exact ⟨i, j, rfl, q⟩) h
theorem se_max2 {e f : Expr} {cs : CEs} {p pos : Pos} (hx : XOk X cl T k) (hg : Gl X "max") (hs : kindE e = true) (hs2 : kindE f = true) (h : SA X cl T [e, f] cs) : SE X cl T (.Call (.Name "max" p) [e, f] [] pos) (.bi .max2 cs) :=
  se_biB hx (call_max2 hx.calm) (by decide +kernel) boot_max hg (by decide +kernel) (by decide +kernel) (by simp [hs, hs2]) (fun ds d h => by
    match ds, h with
    | [.int i, .int j], h =>
      cases h
      refine ⟨rfl, fun H A vs rs Q q => ?_⟩
      obtain ⟨v, w, rfl, r, r'⟩ := reps2 rs
      cases (show v = _ from r)
      cases (show w = _ from r')
      exact ⟨i, j, rfl, q⟩) h
theorem se_sum {e : Expr} {cs : CEs} {p pos : Pos} (hx : XOk X cl T k) (hg : Gl X "sum") (hs : kindE e = true) (h : SA X cl T [e] cs) : SE X cl T (.Call (.Name "sum" p) [e] [] pos) (.bi .sum cs) :=
  se_biB hx (cr_sum hx.calm) (by decide +kernel) boot_sum hg (by decide +kernel) (by decide +kernel) (by simp [hs]) (fun ds d h => by
    match ds, h with
    | [.lst xs], h =>
      obtain ⟨ns, h1, rfl⟩ := Option.map_eq_some_iff.mp (show (intsD xs).map (fun ns => D.int ns.sum) = some d from h)
      refine ⟨rfl, fun H A vs rs Q q => ?_⟩
      obtain ⟨v, rfl, a, ws, rfl, l, rw'⟩ := reps1 rs
      obtain rfl := Reps.ints rw' h1
      exact ⟨a, ns, rfl, l.sq, q⟩) h
theorem se_all {e : Expr} {cs : CEs} {p pos : Pos} (hx : XOk X cl T k) (hg : Gl X "all") (hs : kindE e = true) (h : SA X cl T [e] cs) : SE X cl T (.Call (.Name "all" p) [e] [] pos) (.bi .all cs) :=
  se_biB hx (cr_all hx.calm) (by decide +kernel) boot_all hg (by decide +kernel) (by decide +kernel) (by simp [hs]) (fun ds d h => by
    match ds, h with
    | [.lst xs], h =>
      obtain ⟨ns, h1, rfl⟩ := Option.map_eq_some_iff.mp (show (boolsD xs).map (fun bs => D.bl (bs.all id)) = some d from h)
      refine ⟨rfl, fun H A vs rs Q q => ?_⟩
      obtain ⟨v, rfl, a, ws, rfl, l, rw'⟩ := reps1 rs
      obtain rfl := Reps.bools rw' h1
      exact ⟨a, ns, rfl, l.sq, q⟩) h
theorem se_any {e : Expr} {cs : CEs} {p pos : Pos} (hx : XOk X cl T k) (hg : Gl X "any") (hs : kindE e = true) (h : SA X cl T [e] cs) : SE X cl T (.Call (.Name "any" p) [e] [] pos) (.bi .any cs) :=
  se_biB hx (cr_any hx.calm) (by decide +kernel) boot_any hg (by decide +kernel) (by decide +kernel) (by simp [hs]) (fun ds d h => by
    match ds, h with
    | [.lst xs], h =>
      obtain ⟨ns, h1, rfl⟩ := Option.map_eq_some_iff.mp (show (boolsD xs).map (fun bs => D.bl (bs.any id)) = some d from h)
      refine ⟨rfl, fun H A vs rs Q q => ?_⟩
      obtain ⟨v, rfl, a, ws, rfl, l, rw'⟩ := reps1 rs
      obtain rfl := Reps.bools rw' h1
      exact ⟨a, ns, rfl, l.sq, q⟩) h
/-! ### list, tuple, sorted: of one value -/
theorem sa_one {e : Expr} {c : CE} (he : kindE e = true) (h : SE X cl T e c) : ∃ t, PA X [e] t ∧ ∀ Γ FF Z σ H ρ, CE.okG Γ c = true → RSt X.K cl Γ FF Z σ H ρ → ∀ d, CE.sem T c ρ = some d → ∀ Q : List V → Hp → Prop,
    (∀ v H', Ex H H' → Rep2 X.K cl H' (fun a => zn FF Z (CE.al Γ c) a ∨ New H H' a) (fun a => zn FF Z (CE.ac Γ c) a ∨ New H H' a) d v → Q [v] H') → t σ H Q := by
  obtain ⟨t, pe, s⟩ := h
  refine ⟨_, pa_cons pe pa_nil (star_ok he _ _), fun Γ FF Z σ H ρ ok r d e1 Q hQ => ?_⟩
  exact s Γ FF Z σ H ρ ok r d e1 _ fun v H1 e o => hQ v H1 e (o.two fun a h => zn_mono (CE.sub c) h)
theorem repK_keys {K : PySem.W.Frag} {H : Hp} {A B : Addr → Prop} : ∀ {kvs : List (Key × D)} {ps : List (Key × V)}, RepK K cl H A kvs ps → Reps K cl H B (kvs.map fun p => keyV p.1) (ps.map fun p => kV p.1)
  | [], ps, h => by
    cases (show ps = [] from h)
    exact rfl
  | (q, d) :: r, _, h => by
    obtain ⟨v, w, rfl, h1, h2⟩ := h
    refine ⟨kV q, _, rfl, ?_, repK_keys h2⟩
    cases q <;> exact rfl
def rListA (K : PySem.W.Frag) : List V → Hp → VK → Prop := fun xs H Q => (∃ p ys, xs = [.ref p] ∧ (SqL K H p ys ∨ SqT K H p ys) ∧ ∀ l, H l = none → Q (.ref l) (upd H l (.lst ys))) ∨ rListD xs H Q
theorem se_list {e : Expr} {c : CE} {p pos : Pos} (hx : XOk X cl T k) (hg : Gl X "list") (he : kindE e = true) (h : SE X cl T e c) : SE X cl T (.Call (.Name "list" p) [e] [] pos) (.bi .list (.cons c .nil)) := by
  obtain ⟨t, pa, s⟩ := sa_one he h
  refine ⟨_, pe_callTy (r := rListA X.K) (CallR.or call_list_of (call_list_dK hx.calm)) hg (hx.bl _ (by decide +kernel)) boot_list pa (by decide +kernel) (by decide +kernel) (star_ok he _ _) rfl, fun Γ FF Z σ H ρ ok r d e1 Q hQ => ?_⟩
  obtain ⟨ok1, _⟩ := ands (show (CE.okG Γ c && CEs.okG Γ .nil) = true from ok)
  obtain ⟨ds, e2, e1⟩ := bind2 (show (CEs.sem T (.cons c .nil) ρ).bind (fun ds => biD .list ds) = some d from e1)
  obtain ⟨x, ex, e2⟩ := bind2 (show (CE.sem T c ρ).bind (fun x => (CEs.sem T .nil ρ).map fun xs => x :: xs) = some ds from e2)
  cases (show some [x] = some ds from e2)
  refine s Γ FF Z σ H ρ ok1 r x ex _ fun v H1 e3 rv => ?_
  cases x with
  | lst xs =>
    cases (show some (D.lst xs) = some d from e1)
    obtain ⟨a, vs, rfl, l, rs⟩ := rv
    exact .inl ⟨a, vs, rfl, .inl l.sq, fun q hq => hQ _ _ (e3.trans (Evl.Ex.new hq)) (Out.newL (fun a h => r.zn_there h) e3 hq rs)⟩
  | tup xs =>
    cases (show some (D.lst xs) = some d from e1)
    obtain ⟨a, vs, rfl, l, rs⟩ := rv
    exact .inl ⟨a, vs, rfl, .inr l.sq, fun q hq => hQ _ _ (e3.trans (Evl.Ex.new hq)) (Out.newL (fun a h => r.zn_there h) e3 hq rs)⟩
  | dct kvs =>
    cases (show some (D.lst (kvs.map fun p => keyV p.1)) = some d from e1)
    obtain ⟨a, ps, rfl, l, rs⟩ := rv
    exact .inr ⟨a, ps, rfl, l.1, fun q hq => hQ _ _ (e3.trans (Evl.Ex.new hq)) (Out.newL (fun a h => r.zn_there h) e3 hq (repK_keys rs))⟩
  | _ => cases e1
theorem se_tuple {e : Expr} {c : CE} {p pos : Pos} (hx : XOk X cl T k) (hg : Gl X "tuple") (he : kindE e = true) (h : SE X cl T e c) : SE X cl T (.Call (.Name "tuple" p) [e] [] pos) (.bi .tuple (.cons c .nil)) := by
  obtain ⟨t, pa, s⟩ := sa_one he h
  refine ⟨_, pe_callTy call_tuple_of hg (hx.bl _ (by decide +kernel)) boot_tuple pa (by decide +kernel) (by decide +kernel) (star_ok he _ _) rfl, fun Γ FF Z σ H ρ ok r d e1 Q hQ => ?_⟩
  obtain ⟨ok1, _⟩ := ands (show (CE.okG Γ c && CEs.okG Γ .nil) = true from ok)
  obtain ⟨ds, e2, e1⟩ := bind2 (show (CEs.sem T (.cons c .nil) ρ).bind (fun ds => biD .tuple ds) = some d from e1)
  obtain ⟨x, ex, e2⟩ := bind2 (show (CE.sem T c ρ).bind (fun x => (CEs.sem T .nil ρ).map fun xs => x :: xs) = some ds from e2)
  cases (show some [x] = some ds from e2)
  refine s Γ FF Z σ H ρ ok1 r x ex _ fun v H1 e3 rv => ?_
  cases x with
  | lst xs =>
    cases (show some (D.tup xs) = some d from e1)
    obtain ⟨a, vs, rfl, l, rs⟩ := rv
    exact ⟨a, vs, rfl, .inl ⟨l.sq, fun q hq => hQ _ _ (e3.trans (Evl.Ex.new hq)) (Out.newT (fun a h => r.zn_there h) e3 hq rs)⟩⟩
  | tup xs =>
    cases (show some (D.tup xs) = some d from e1)
    obtain ⟨a, vs, rfl, l, rs⟩ := rv
    exact ⟨a, vs, rfl, .inr ⟨l.sq, hQ _ _ e3 ⟨a, vs, rfl, l, rs⟩⟩⟩
  | _ => cases e1
theorem strs_keys : ∀ {kvs : List (Key × D)} {ss : List Str}, strsD (kvs.map fun p => keyV p.1) = some ss → kvs.map (·.1) = ss.map Sum.inr
  | [], _, h => by cases h; rfl
  | (.inr x, d) :: r, ss, h => by
    obtain ⟨ms, h1, rfl⟩ := Option.map_eq_some_iff.mp (show (strsD (r.map fun p => keyV p.1)).map (x :: ·) = some ss from h)
    rw [List.map_cons, List.map_cons, strs_keys h1]
  | (.inl x, d) :: r, ss, h => by cases h
theorem ints_keys : ∀ {kvs : List (Key × D)} {ss : List Int}, intsD (kvs.map fun p => keyV p.1) = some ss → kvs.map (·.1) = ss.map Sum.inl
  | [], _, h => by cases h; rfl
  | (.inl x, d) :: r, ss, h => by
    obtain ⟨ms, h1, rfl⟩ := Option.map_eq_some_iff.mp (show (intsD (r.map fun p => keyV p.1)).map (x :: ·) = some ss from h)
    rw [List.map_cons, List.map_cons, ints_keys h1]
  | (.inr x, d) :: r, ss, h => by cases h
theorem sortD_cases {xs ys : List D} (h : sortD xs = some ys) : (∃ ns, intsD xs = some ns ∧ ys = (sortS (fun a b => decide (a ≤ b)) ns).map D.int) ∨ ∃ ss, strsD xs = some ss ∧ ss.length < 64 ∧ ys = (sortS leStr ss).map D.str := by
  unfold sortD at h
  cases q : intsD xs with
  | some ns =>
    rw [q] at h
    cases h
    exact .inl ⟨ns, rfl, rfl⟩
  | none =>
    rw [q] at h
    cases q2 : strsD xs with
    | none => rw [q2] at h; cases h
    | some ss =>
      rw [q2] at h
      obtain ⟨h1, h2⟩ := Option.ite_none_right_eq_some.mp (show (if ss.length < 64 then some ((sortS leStr ss).map D.str) else none) = some ys from h)
      cases h2
      exact .inr ⟨ss, rfl, h1, rfl⟩
def rSortA (K : PySem.W.Frag) : List V → Hp → VK → Prop := fun xs H Q => rSortedI K xs H Q ∨ rSortedS K xs H Q ∨
  (∃ (a : Addr) (kvs : List (Key × V)) (ks : List Str), xs = [.ref a] ∧ Rd H a (.dK kvs) ∧ kvs.map (·.1) = ks.map Sum.inr ∧ ks.length < 64 ∧ ∀ ys p, ys.Perm ks → sortedS ys = true → H p = none → Q (.ref p) (upd H p (.lst (ys.map V.str)))) ∨
  (∃ (a : Addr) (kvs : List (Key × V)) (ks : List Int), xs = [.ref a] ∧ Rd H a (.dK kvs) ∧ kvs.map (·.1) = ks.map Sum.inl ∧ ks.length < 64 ∧ ∀ (ys : List Int) (p : Addr), ys.Perm ks → ys.Pairwise (· ≤ ·) → H p = none → Q (.ref p) (upd H p (.lst (ys.map V.int))))
theorem se_sorted {e : Expr} {c : CE} {p pos : Pos} (hx : XOk X cl T k) (hg : Gl X "sorted") (he : kindE e = true) (h : SE X cl T e c) : SE X cl T (.Call (.Name "sorted" p) [e] [] pos) (.bi .sorted (.cons c .nil)) := by
  obtain ⟨t, pa, s⟩ := sa_one he h
  refine ⟨_, pe_callB (r := rSortA X.K) (CallR.or cr_sortedI (CallR.or cr_sortedS (CallR.or (call_sortedD hx.calm) (call_sortedDI hx.calm)))) hg (hx.bl _ (by decide +kernel)) boot_sorted pa (by decide +kernel) (by decide +kernel) (star_ok he _ _) rfl, fun Γ FF Z σ H ρ ok r d e1 Q hQ => ?_⟩
  obtain ⟨ok1, _⟩ := ands (show (CE.okG Γ c && CEs.okG Γ .nil) = true from ok)
  obtain ⟨ds, e2, e1⟩ := bind2 (show (CEs.sem T (.cons c .nil) ρ).bind (fun ds => biD .sorted ds) = some d from e1)
  obtain ⟨x, ex, e2⟩ := bind2 (show (CE.sem T c ρ).bind (fun x => (CEs.sem T .nil ρ).map fun xs => x :: xs) = some ds from e2)
  cases (show some [x] = some ds from e2)
  refine s Γ FF Z σ H ρ ok1 r x ex _ fun v H1 e3 rv => ?_
  have none_there : ∀ a, zn FF Z [] a → H a ≠ none := fun a h => r.zn_there h
  have fin : ∀ q (ys : List D) (vs : List V), H1 q = none → Reps X.K cl H1 (fun a => zn FF Z [] a ∨ New H H1 a) ys vs → d = .lst ys → Q (.ref q) (upd H1 q (.lst vs)) := fun q ys vs hq rs ed => by
    subst ed
    exact hQ _ _ (e3.trans (Evl.Ex.new hq)) (Out.newL none_there e3 hq rs)
  cases x with
  | lst xs =>
    obtain ⟨ys, h1, rfl⟩ := Option.map_eq_some_iff.mp (show (sortD xs).map D.lst = some d from e1)
    obtain ⟨a, vs, rfl, l, rs⟩ := rv
    rcases sortD_cases h1 with ⟨ns, h2, rfl⟩ | ⟨ss, h2, h3, rfl⟩
    · obtain rfl := Reps.ints rs h2
      refine .inl ⟨a, ns, rfl, l.sq, fun ms q hp hs hq => fin q _ _ hq ?_ rfl⟩
      rw [sort_ints hp hs]
      exact reps_ints _
    · obtain rfl := Reps.strs rs h2
      refine .inr (.inl ⟨a, ss, rfl, l.sq, h3, fun ms q hp hs hq => fin q _ _ hq ?_ rfl⟩)
      rw [sort_strs hp hs]
      exact reps_strs _
  | dct kvs =>
    obtain ⟨h0, e1⟩ := Option.ite_none_right_eq_some.mp (show (if kvs.length < 64 then (sortD (kvs.map fun p => keyV p.1)).map D.lst else none) = some d from e1)
    obtain ⟨ys, h1, rfl⟩ := Option.map_eq_some_iff.mp e1
    obtain ⟨a, ps, rfl, l, rs⟩ := rv
    have ek := (repK_to rs).1
    rcases sortD_cases h1 with ⟨ns, h2, rfl⟩ | ⟨ss, h2, h3, rfl⟩
    · have e4 := ints_keys h2
      refine .inr (.inr (.inr ⟨a, ps, ns, rfl, .inl l.1, ek.symm.trans e4, ?_, fun ms q hp hs hq => fin q _ _ hq ?_ rfl⟩))
      · have := congrArg List.length e4
        rw [List.length_map, List.length_map] at this
        omega
      · rw [sort_ints hp hs]
        exact reps_ints _
    · have e4 := strs_keys h2
      refine .inr (.inr (.inl ⟨a, ps, ss, rfl, .inl l.1, ek.symm.trans e4, h3, fun ms q hp hs hq => fin q _ _ hq ?_ rfl⟩))
      rw [sort_strs hp hs]
      exact reps_strs _
  | _ => cases e1
end
end PV

set_option Elab.async false
set_option linter.all false
set_option maxRecDepth 100000
set_option maxHeartbeats 2000000
/-! PV8: isinstance, join, get, scalars; targets; what is gone through; comprehensions. -/
namespace PV
open PySem L2 PyProof.Rows
open Evl (Ex)
section
variable {X : Cx} {cl : Nat → Addr} {T : Tab} {k : Nat}
def tyName : Ty → String
  | .tint => "int" | .tbool => "bool" | .tstr => "str" | .tlist => "list" | .ttuple => "tuple"
theorem seq_k {K : PySem.W.Frag} {a : Addr} {vs : List V} (h : ∀ H', SqL K H' a vs) : ∃ o, K.lookup a = some o ∧ o.cls = .type "list" := by
  rcases h (fun _ => none) with h | ⟨o, its, n, h1, h2, _⟩
  · rcases h with h | ⟨o, h⟩ <;> cases h
  · exact ⟨o, h1, h2⟩
theorem sqt_k {K : PySem.W.Frag} {a : Addr} {vs : List V} (h : ∀ H', SqT K H' a vs) : ∃ o, K.lookup a = some o ∧ o.cls = .type "tuple" := by
  rcases h (fun _ => none) with h | ⟨o, its, n, h1, h2, _⟩
  · rcases h with h | ⟨o, h⟩ <;> cases h
  · exact ⟨o, h1, h2⟩
/-- a value's type -/
def dTy : D → String
  | .non => "NoneType" | .bl _ => "bool" | .int _ => "int" | .str _ => "str" | .lst _ => "list" | .tup _ => "tuple" | .dct _ => "dict" | .ins _ _ => ""
theorem tyx_of {K : PySem.W.Frag} {H : Hp} {A : Addr → Prop} {d : D} {v : V} (r : Rep K cl H A d v) (hi : ∀ c fs, d ≠ .ins c fs) : TyX K H v (.type (dTy d)) := by
  cases d with
  | non => cases (show v = _ from r); exact .base .non
  | bl b => cases (show v = _ from r); exact .base (.bl b)
  | int i => cases (show v = _ from r); exact .base (.int i)
  | str i => cases (show v = _ from r); exact .base (.str i)
  | lst xs =>
    obtain ⟨a, vs, rfl, l, _⟩ := r
    rcases l with ⟨l | ⟨o, l⟩, _⟩ | l
    · exact .base (.lst l)
    · exact .base (.frz l)
    · obtain ⟨o, h1, h2⟩ := seq_k l
      exact .kList h1 h2
  | tup xs =>
    obtain ⟨a, vs, rfl, l, _⟩ := r
    rcases l with ⟨l | ⟨o, l⟩, _⟩ | l
    · exact .base (.tup l)
    · exact .fTuple l
    · obtain ⟨o, h1, h2⟩ := sqt_k l
      exact .kTuple h1 h2
  | dct kvs =>
    obtain ⟨a, vs, rfl, l, _⟩ := r
    exact .base (.dK l.1)
  | ins c fs => exact absurd rfl (hi c fs)
theorem kitB_ok : ∀ (t : Ty) (d : D) (b : Bool), isiD t d = some b → (∀ c fs, d ≠ .ins c fs) ∧ kitB (dTy d) (tyName t) = some b := by
  intro t d b h
  cases d with
  | ins c fs => cases t <;> cases h
  | _ =>
    refine ⟨fun c fs z => (by cases z), ?_⟩
    cases t <;> (cases h; simp only [dTy, tyName]; decide +kernel)
theorem boot_ty : ∀ t : Ty, bootBuiltins (Str.ofString (tyName t)) = some (.type (tyName t))
  | .tint => boot_int | .tbool => boot_bool | .tstr => boot_str | .tlist => boot_list | .ttuple => boot_tuple
theorem se_isi {e : Expr} {c : CE} {t : Ty} {p p2 pos : Pos} (hx : XOk X cl T k) (hg : Gl X "isinstance") (hg2 : Gl X (Str.ofString (tyName t))) (hs : kindE e = true) (h : SE X cl T e c) :
    SE X cl T (.Call (.Name "isinstance" p) [e, .Name (Str.ofString (tyName t)) p2] [] pos) (.isi c t) := by
  obtain ⟨te, pe, s⟩ := h
  have n1 : Str.ofString (tyName t) ∈ blNames := by cases t <;> decide +kernel
  have n2 : Str.ofString (tyName t) ≠ "__name__" := by cases t <;> decide +kernel
  have n3 : (Str.ofString (tyName t) == ("__debug__" : Str)) = false := by cases t <;> decide +kernel
  refine SE.flat (pe_callB call_isi hg (hx.bl _ (by decide +kernel)) boot_isinstance (pa_cons pe (pa_cons (pe_bltn (v := .ty (tyName t)) hg2 (hx.bl _ n1) (boot_ty t) rfl n2 n3) pa_nil rfl) (star_ok hs _ _)) (by decide +kernel) (by decide +kernel) (star_ok hs _ _) rfl) fun Γ FF Z σ H ρ ok r d e1 => ?_
  obtain ⟨x, ex, e1⟩ := bind2 (show (CE.sem T c ρ).bind (fun x => (isiD t x).map D.bl) = some d from e1)
  obtain ⟨b, eb, rfl⟩ := Option.map_eq_some_iff.mp e1
  obtain ⟨ni, kb⟩ := kitB_ok t x b eb
  refine ⟨rfl, fun Q hQ => s Γ FF Z σ H ρ ok r x ex _ fun v H1 e o => ?_⟩
  exact ⟨v, .ty (tyName t), .type (dTy x), .type (tyName t), b, rfl, .ty _, tyx_of (o.rep fun a h => zn_mono (CE.sub c) h) ni, kit_ty kb, hQ H1 e⟩
theorem se_sc {e : Expr} {c : CE} (h : SE X cl T e c) : SE X cl T e (.sc c) := by
  obtain ⟨te, pe, s⟩ := h
  refine SE.flat pe fun Γ FF Z σ H ρ ok r d e1 => ?_
  obtain ⟨x, ex, e1⟩ := bind2 (show (CE.sem T c ρ).bind scD = some d from e1)
  have e2 : x = d ∧ d.flat = true := by
    cases x <;> first | (cases e1; done) | (cases e1; exact ⟨rfl, rfl⟩)
  obtain ⟨rfl, fl⟩ := e2
  refine ⟨fl, fun Q hQ => s Γ FF Z σ H ρ ok r x ex _ fun v H1 e o => ?_⟩
  obtain rfl := Rep.toV fl (o.rep fun a h => zn_mono (CE.sub c) h)
  exact hQ H1 e
theorem st_sc {e : Expr} {c : CE} (h : ST X cl T e c) : ST X cl T e (.sc c) := by
  obtain ⟨te, pe, s⟩ := h
  refine ⟨te, pe, fun Γ FF Z σ H ρ ok r d q e1 e2 Q hQ => ?_⟩
  obtain ⟨x, ex, e1⟩ := bind2 (show (CE.sem T c ρ).bind scD = some d from e1)
  have e3 : x = d := by
    cases x <;> first | (cases e1; done) | (cases e1; rfl)
  subst e3
  exact s Γ FF Z σ H ρ ok r x q ex e2 Q hQ
theorem se_join {o e : Expr} {co c : CE} {apos pos : Pos} (hb : noSup o = true) (hp : (apos.endLine == pos.line) = true) (hs : kindE e = true) (ho : SE X cl T o co) (h : SE X cl T e c) : SE X cl T (.Call (.Attribute o "join" apos) [e] [] pos) (.bm .join co (.cons c .nil)) := by
  obtain ⟨to, po, so⟩ := ho
  obtain ⟨te, pe, s⟩ := h
  refine SE.flat (pe_join po pe (star_ok hs _ _) (base_ok hb _ _ _) hp) fun Γ FF Z σ H ρ ok r d e1 => ?_
  obtain ⟨ok1, ok2⟩ := ands (show (CE.okG Γ co && CEs.okG Γ (.cons c .nil)) = true from ok)
  obtain ⟨ok2, _⟩ := ands (show (CE.okG Γ c && CEs.okG Γ .nil) = true from ok2)
  obtain ⟨y, ey, e1⟩ := bind2 (show (CE.sem T co ρ).bind (fun x => (CEs.sem T (.cons c .nil) ρ).bind fun ds => bmD .join x ds) = some d from e1)
  obtain ⟨ds, e2, e1⟩ := bind2 e1
  obtain ⟨x, ex, e2⟩ := bind2 (show (CE.sem T c ρ).bind (fun x => (CEs.sem T .nil ρ).map fun xs => x :: xs) = some ds from e2)
  cases (show some [x] = some ds from e2)
  cases y with
  | str sep =>
    cases x with
    | lst xs =>
      have e1 : (match strsD xs with
        | some ss => if (ss.map (·.length)).sum + ss.length * sep.length ≤ LIM then some (D.str (Str.join sep ss)) else none
        | none => none) = some d := e1
      cases q : strsD xs with
      | none => rw [q] at e1; cases e1
      | some ss =>
        rw [q] at e1
        obtain ⟨h1, h2⟩ := Option.ite_none_right_eq_some.mp e1
        cases h2
        refine ⟨rfl, fun Q hQ => so Γ FF Z σ H ρ ok1 r _ ey _ fun v H1 e3 o1 => ?_⟩
        cases (show v = _ from o1.rep fun a h => zn_mono (CE.sub co) h)
        refine ⟨⟨sep, rfl⟩, s Γ FF Z σ H1 ρ ok2 (r.ext e3) _ ex _ fun w H2 e4 o2 => ?_⟩
        obtain ⟨a, vs, rfl, l, rs⟩ := o2.rep fun a h => zn_mono (CE.sub c) h
        obtain rfl := Reps.strs rs q
        refine ⟨sep, a, ss, rfl, rfl, .inl l.sq, ?_, by rw [TL.join_eq]; exact hQ H2 (e3.trans e4)⟩
        have := LIM_le
        unfold LIM at *
        omega
    | _ => cases e1
  | _ => cases x <;> cases e1
theorem m1_of {o e : Expr} {m : Str} {apos pos : Pos} (hb : noSup o = true) (hp : (apos.endLine == pos.line) = true) (hs : kindE e = true) : M1 X o m apos e pos := by
  refine ⟨base_ok hb _ _ _, ?_, hp, ?_⟩
  · rw [back_all (by simp [hs])]
    rfl
  · rw [star_ok hs]
    rfl
theorem m2_of {o e f : Expr} {m : Str} {apos pos : Pos} (hb : noSup o = true) (hp : (apos.endLine == pos.line) = true) (hs : kindE e = true) (hs2 : kindE f = true) : M2 X o m apos e f pos := by
  refine ⟨base_ok hb _ _ _, ?_, hp, ?_⟩
  · rw [back_all (by simp [hs, hs2])]
    rfl
  · rw [star_ok hs, star_ok hs2]
    rfl
theorem se_get1 {o e : Expr} {co c : CE} {apos pos : Pos} (hx : XOk X cl T k) (hb : noSup o = true) (hp : (apos.endLine == pos.line) = true) (hs : kindE e = true) (ho : SE X cl T o co) (h : SE X cl T e c) : SE X cl T (.Call (.Attribute o "get" apos) [e] [] pos) (.bm .get1 co (.cons c .nil)) := by
  have hu : X.A.units + 1 < cLine := by have := hx.room.un; omega
  obtain ⟨to, po, so⟩ := ho
  obtain ⟨te, pe, s⟩ := h
  refine ⟨_, pe_dget1 hu po pe (m1_of hb hp hs), fun Γ FF Z σ H ρ ok r d e1 Q hQ => ?_⟩
  obtain ⟨ok1, ok2⟩ := ands (show (CE.okG Γ co && CEs.okG Γ (.cons c .nil)) = true from ok)
  obtain ⟨ok2, _⟩ := ands (show (CE.okG Γ c && CEs.okG Γ .nil) = true from ok2)
  obtain ⟨y, ey, e1⟩ := bind2 (show (CE.sem T co ρ).bind (fun x => (CEs.sem T (.cons c .nil) ρ).bind fun ds => bmD .get1 x ds) = some d from e1)
  obtain ⟨ds, e2, e1⟩ := bind2 e1
  obtain ⟨x, ex, e2⟩ := bind2 (show (CE.sem T c ρ).bind (fun x => (CEs.sem T .nil ρ).map fun xs => x :: xs) = some ds from e2)
  cases (show some [x] = some ds from e2)
  cases y with
  | dct kvs =>
    obtain ⟨q, h1, rfl⟩ := Option.map_eq_some_iff.mp (show (keyD x).map (fun k => (lookK k kvs).getD .non) = some d from e1)
    refine so Γ FF Z σ H ρ ok1 r _ ey _ fun v H1 e3 o1 => ?_
    obtain ⟨a, ps, rfl, ⟨hp', _⟩, rs⟩ := o1.two fun a h => zn_mono (CE.sub co) h
    refine ⟨a, rfl, .inl ⟨ps, .inl hp'⟩, s Γ FF Z σ H1 ρ ok2 (r.ext e3) _ ex _ fun w H2 e4 o2 => ?_⟩
    obtain rfl := keyD_rep (o2.rep fun a h => zn_mono (CE.sub c) h) h1
    refine ⟨valV ps q, DGet.k (e4 _ _ hp'), ?_⟩
    obtain ⟨_, i2, i3⟩ := valV_look (k := q) rs
    cases hl : lookK q kvs with
    | none =>
      rw [i3 hl]
      rw [hl] at hQ
      exact hQ _ H2 (e3.trans e4) (Out.flat (d := .non) rfl)
    | some u =>
      obtain ⟨w, ew, rw'⟩ := i2 u hl
      rw [ew]
      rw [hl] at hQ
      exact hQ _ H2 (e3.trans e4) (Out.part (fun _ h => h) (fun _ h => h) (Rep.on e3 e4 (fun _ h => h) rw'))
  | _ => cases x <;> cases e1
/-! ### targets -/
mutual
def CT.slots : CT → List Nat
  | .nm i => [i]
  | .tp ts => CTs.slots ts
def CTs.slots : CTs → List Nat
  | .nil => []
  | .cons t ts => CT.slots t ++ CTs.slots ts
end
/-- behind a store: the slots S hold what is told, the others stand -/
structure Stored (K : PySem.W.Frag) (cl : Nat → Addr) (H : Hp) (A : Addr → Prop) (S : List Nat) (σ σ' : L2.St) (ρ ρ' : Env) : Prop where
  len : σ'.length = σ.length
  lenr : ρ'.length = ρ.length
  off : ∀ i, i ∉ S → σ'[i]? = σ[i]? ∧ ρ'[i]? = ρ[i]?
  on : ∀ i ∈ S, ∀ d, ρ'[i]? = some (some d) → ∃ v, σ'[i]? = some (some v) ∧ Rep K cl H A d v
theorem Stored.trans {K : PySem.W.Frag} {H : Hp} {A : Addr → Prop} {S S' : List Nat} {σ σ1 σ2 : L2.St} {ρ ρ1 ρ2 : Env} (a : Stored K cl H A S σ σ1 ρ ρ1) (b : Stored K cl H A S' σ1 σ2 ρ1 ρ2) : Stored K cl H A (S ++ S') σ σ2 ρ ρ2 := by
  refine ⟨b.len.trans a.len, b.lenr.trans a.lenr, fun i hi => ?_, fun i hi d hd => ?_⟩
  · have h1 : i ∉ S := fun h => hi (List.mem_append.mpr (.inl h))
    have h2 : i ∉ S' := fun h => hi (List.mem_append.mpr (.inr h))
    exact ⟨(b.off i h2).1.trans (a.off i h1).1, (b.off i h2).2.trans (a.off i h1).2⟩
  · by_cases h2 : i ∈ S'
    · exact b.on i h2 d hd
    · rcases List.mem_append.mp hi with h | h
      · rw [(b.off i h2).2] at hd
        obtain ⟨v, e, r⟩ := a.on i h d hd
        exact ⟨v, (b.off i h2).1.trans e, r⟩
      · exact absurd h h2
def SG (X : Cx) (cl : Nat → Addr) (tg : Expr) (t : CT) : Prop := ∃ g, PG X tg g ∧ ∀ (A : Addr → Prop) (H : Hp) (d : D) (v : V) (σ : L2.St) (ρ ρ' : Env), Rep X.K cl H A d v → CT.bind t d ρ = some ρ' → σ.length = ρ.length →
  ∀ Q : L2.St → Hp → Prop, (∀ σ', Stored X.K cl H A t.slots σ σ' ρ ρ' → Q σ' H) → g v σ H Q
def SGs (X : Cx) (cl : Nat → Addr) (tg : List Expr) (t : CTs) : Prop := ∃ g, PGs X tg g ∧ ∀ (A : Addr → Prop) (H : Hp) (ds : List D) (vs : List V) (σ : L2.St) (ρ ρ' : Env), Reps X.K cl H A ds vs → CTs.bind t ds ρ = some ρ' → σ.length = ρ.length →
  ∀ Q : L2.St → Hp → Prop, (∀ σ', Stored X.K cl H A t.slots σ σ' ρ ρ' → Q σ' H) → g vs σ H Q
theorem sg_nm {i : Nat} {x : Str} {pos : Pos} (hN : X.N.Nodup) (hi : X.N[i]? = some x) (hx : Loc X.env.scope x) (hf : X.fn x = true ∨ X.env.scope.names.lookup x = some .local) : SG X cl (.Name x pos) (.nm i) := by
  refine ⟨_, pg_name hN hi hx hf, fun A H d v σ ρ ρ' r e hl Q hQ => ?_⟩
  cases (show some (ρ.set i (some d)) = some ρ' from e)
  refine hQ _ ⟨by simp, by simp, fun j hj => ?_, fun j hj d' hd => ?_⟩
  · have ne : i ≠ j := fun z => hj (by rw [z]; exact List.mem_singleton.mpr rfl)
    exact ⟨List.getElem?_set_ne ne, List.getElem?_set_ne ne⟩
  · obtain rfl := List.mem_singleton.mp (show j ∈ [i] from hj)
    by_cases hlt : j < ρ.length
    · rw [List.getElem?_set_self hlt] at hd
      cases hd
      exact ⟨v, List.getElem?_set_self (by rw [hl]; exact hlt), r⟩
    · rw [List.getElem?_eq_none (by simpa using hlt)] at hd
      cases hd
theorem sgs_nil : SGs X cl [] .nil := by
  refine ⟨_, pgs_nil, fun A H ds vs σ ρ ρ' r e hl Q hQ => ?_⟩
  cases ds with
  | nil =>
    cases (show some ρ = some ρ' from e)
    cases (show vs = [] from r)
    exact ⟨rfl, hQ σ ⟨rfl, rfl, fun i _ => ⟨rfl, rfl⟩, fun i hi => by cases hi⟩⟩
  | cons _ _ => cases e
def kindG : Expr → Bool
  | .Name _ _ => true
  | .Tuple _ _ _ => true
  | _ => false
theorem assignEach_cons {e : Expr} (h : kindG e = true) (es : List Expr) (env : PySem.Env) : (assignEach (e :: es) env).map (·.2) = assign e env :: (assignEach es env).map (·.2) ∧ (assignEach (e :: es) env).map (·.1) = false :: (assignEach es env).map (·.1) := by
  cases e <;> first | exact ⟨rfl, rfl⟩ | cases h
theorem assignEach_hd {e : Expr} (h : kindG e = true) (es : List Expr) (env : PySem.Env) : ∃ f, assignEach (e :: es) env = (false, f) :: assignEach es env := by
  cases e <;> first | exact ⟨_, rfl⟩ | cases h
theorem assignEach_all : ∀ {es : List Expr} (h : es.all kindG = true) (env : PySem.Env), (assignEach es env).length = es.length ∧ (assignEach es env).findIdx? (·.1) = none
  | [], _, _ => ⟨rfl, rfl⟩
  | e :: es, h, env => by
    obtain ⟨h1, h2⟩ := ands (show (kindG e && es.all kindG) = true from h)
    obtain ⟨i1, i2⟩ := assignEach_all h2 env
    obtain ⟨f, ef⟩ := assignEach_hd h1 es env
    rw [ef]
    refine ⟨congrArg Nat.succ i1, ?_⟩
    rw [List.findIdx?_cons, i2]
    rfl
def CTs.len : CTs → Nat
  | .nil => 0
  | .cons _ ts => ts.len + 1
theorem bindlen : ∀ (ts : CTs) {ds : List D} {ρ ρ' : Env}, CTs.bind ts ds ρ = some ρ' → ds.length = ts.len
  | .nil, [], _, _, _ => rfl
  | .nil, _ :: _, _, _, h => by cases h
  | .cons t ts, [], _, _, h => by cases h
  | .cons t ts, d :: ds, ρ, ρ', h => by
    obtain ⟨ρ1, e1, e2⟩ := bind2 (show (CT.bind t d ρ).bind (fun ρ' => CTs.bind ts ds ρ') = some ρ' from h)
    exact congrArg Nat.succ (bindlen ts e2)
theorem sgs_cons {e : Expr} {es : List Expr} {t : CT} {ts : CTs} (he : kindG e = true) (h : SG X cl e t) (hs : SGs X cl es ts) : SGs X cl (e :: es) (.cons t ts) := by
  obtain ⟨g, pg, s⟩ := h
  obtain ⟨gs, pgs, ss⟩ := hs
  refine ⟨_, pgs_cons pg pgs (assignEach_cons he es X.env).1, fun A H ds vs σ ρ ρ' r e hl Q hQ => ?_⟩
  cases ds with
  | nil => cases e
  | cons d ds =>
    obtain ⟨v, vs', rfl, h1, h2⟩ := r
    obtain ⟨ρ1, e1, e2⟩ := bind2 (show (CT.bind t d ρ).bind (fun ρ' => CTs.bind ts ds ρ') = some ρ' from e)
    refine ⟨v, vs', rfl, s A H d v σ ρ ρ1 h1 e1 hl _ fun σ1 st => ss A H ds vs' σ1 ρ1 ρ' h2 e2 (by rw [st.len, st.lenr, hl]) Q fun σ2 st2 => hQ σ2 (st.trans st2)⟩
theorem sg_tp {es : List Expr} {kk : Nat} {ts : CTs} {pos : Pos} (hc : X.calm = true) (hk : es.all kindG = true) (hl : ts.len = es.length) (h : SGs X cl es ts) : SG X cl (.Tuple es kk pos) (.tp ts) := by
  obtain ⟨g, pg, s⟩ := h
  obtain ⟨a1, a2⟩ := assignEach_all hk X.env
  refine ⟨_, pg_tup hc pg a1 a2, fun A H d v σ ρ ρ' r e hle Q hQ => ?_⟩
  cases d with
  | tup ds =>
    obtain ⟨a, vs, rfl, l, rs⟩ := r
    exact ⟨a, vs, rfl, l.sq, by rw [rs.length, bindlen ts e, hl], s A H ds vs σ ρ ρ' rs e hle Q hQ⟩
  | _ => cases e
end
end PV

set_option Elab.async false
set_option linter.all false
set_option maxRecDepth 100000
set_option maxHeartbeats 2000000
/-! PV9: what is gone through. -/
namespace PV
open PySem L2 PyProof.Rows
open Evl (Ex)
/-! ### enumerate(tuple) -/
/-- the tuple at a, each item in a new pair -/
def IteT (K : PySem.W.Frag) (a : Addr) : It where
  go i H := ∃ (ys : List V) (y : V), SqT K H a ys ∧ ys[i]? = some y
  yld i H v H' := ∃ T y, v = .ref T ∧ H T = none ∧ H' = upd H T (.tup [.int (i : Nat), y]) ∧ ∀ ys, SqT K H a ys → ys[i]? = some y
  stop i H := ∃ ys : List V, SqT K H a ys ∧ ys.length ≤ i
/-- how the two cells of an enumerate over the tuple at a stand when i items have been drawn -/
structure EnAt (a e it : Addr) (i : Nat) (h : Heap) : Prop where
  en : ∃ last, IsEnum h e it ((i : Nat) : Int) last
  pt : h.IsTupleIter it a i
  ne : e ≠ it
theorem EnAt.two {e it b : Addr} (m : b ∈ [e, it]) : b = e ∨ b = it := by
  cases m with
  | head => exact .inl rfl
  | tail _ m => exact .inr (List.mem_singleton.mp m)
theorem EnAt.cell {a e it b : Addr} {i : Nat} {h : Heap} (st : EnAt a e it i h) (m : b ∈ [e, it]) : ∃ o, h.get? b = some o ∧ ∀ v, o.data ≠ .cell v := by
  rcases EnAt.two m with m | m <;> subst m
  · exact st.en.elim fun _ q => ⟨_, q, by intro v z; cases z⟩
  · exact st.pt.elim fun o q => ⟨o, q.1, by intro v z; rw [q.2.2] at z; cases z⟩
theorem EnAt.low {a e it b : Addr} {i : Nat} {h : Heap} (st : EnAt a e it i h) (m : b ∈ [e, it]) : b < h.objs.size := (st.cell m).elim fun _ q => Heap.lt_size q.1
theorem EnAt.kept {a e it : Addr} {i : Nat} {h h' : Heap} (st : EnAt a e it i h) (k : ∀ b ∈ [e, it], ∀ o, h.get? b = some o → h'.get? b = some o) : EnAt a e it i h' where
  en := st.en.imp fun _ q => k e (.head _) _ q
  pt := st.pt.at (k it (.tail _ (.head _)))
  ne := st.ne
/-- the tuple itself is none of the two cells -/
theorem EnAt.apart {a e it : Addr} {i : Nat} {h : Heap} {items : Array Value} (st : EnAt a e it i h) (t : h.IsTuple a items) : a ∉ [e, it] := by
  intro m
  obtain ⟨last, q⟩ := st.en
  obtain ⟨oi, i1, i2, i3⟩ := st.pt
  obtain ⟨ot, t1, t2, t3⟩ := t
  rcases EnAt.two m with m | m <;> subst m
  · cases t1.symm.trans q
    exact nomatch Value.type.inj t2
  · cases t1.symm.trans i1
    exact nomatch Value.type.inj (t2.symm.trans i2)
section
variable {P : Program} {w : World} {A : Around} {E : Value → Shared → Prop} {s : Shared} {a e it : Addr} {i : Nat} {items : Array Value}
/-- one more item: the pair is new, the rest of the heap stands -/
theorem EnAt.step {x : Value} {Q : Option Value → Shared → Prop} (hd : A.in1.handled = none) (st : EnAt a e it i s.heap) (t : s.heap.IsTuple a items) (hx : items[i]? = some x)
    (hQ : ∀ h' tk, IsEnumOut h' e it ((i : Int) + 1) x s.heap.objs.size → h'.IsTupleIter it a (i + 1) → h'.get? s.heap.objs.size = some { cls := .type "tuple", data := .seq #[.int i tk, x] } →
      (∀ b o, b ∉ [e, it] → s.heap.get? b = some o → h'.get? b = some o) → Q (some (.ref s.heap.objs.size)) { s with heap := h', toks := tk + 1 }) :
    wpAny (model P w) A (pyNext (.ref e)) Q E s := by
  have far := st.apart t
  obtain ⟨last, q⟩ := st.en
  have na : a ≠ it := fun z => far (z ▸ .tail _ (.head _))
  have dr := Draws.tuple (prog := P) (w := w) (A := A.in1) hd it a na items
  have lt : i < items.size := Nat.lt_of_not_le fun z => by rw [Array.getElem?_eq_none z] at hx; cases hx
  refine wpAny_pyNext_enum_itemD dr q ⟨st.pt, t⟩ lt st.ne ?_ fun y h' tk hy ho hs hT _ hk => ?_
  · intro m
    rcases List.mem_cons.mp m with m | m
    · exact st.ne m
    · exact far (List.mem_singleton.mp m ▸ .head _)
  · cases (hy : items[i]? = some y).symm.trans hx
    exact hQ h' tk ho hs.1 hT fun b o nb => hk b o (fun z => nb (z ▸ .head _)) fun z => nb (z ▸ .tail _ (.head _))
/-- no more items -/
theorem EnAt.over {Q : Option Value → Shared → Prop} (hd : A.in1.handled = none) (st : EnAt a e it i s.heap) (t : s.heap.IsTuple a items) (hx : items[i]? = none)
    (hQ : ∀ h', (∀ b o, b ≠ it → s.heap.get? b = some o → h'.get? b = some o) → Q none { s with heap := h' }) : wpAny (model P w) A (pyNext (.ref e)) Q E s := by
  have dr : Draws P w A.in1 it [it, a] 0 (fun _ _ => False) fun _ h => h.IsTupleIter it a i ∧ h.IsTuple a items :=
    { live := fun _ _ q => q.1.imp fun _ z => z.1
      frame := fun _ _ _ q k => ⟨q.1.at (k it (.head _)), q.2.at (k a (.tail _ (.head _)))⟩
      item := fun _ _ _ _ z => absurd z (Nat.not_lt_zero _)
      done := fun _ _ _ q r => wpAny_nextOf_tuple_end hd q.1 q.2 hx r }
  exact st.en.elim fun _ q => wpAny_pyNext_enum_endD dr q ⟨st.pt, t⟩ fun h' k => hQ h' k
end
theorem turn_enumT {P : Program} {w : World} {K : PySem.W.Frag} {elts : List Expr} {kk : Nat} {tpos : Pos} (a e it : Addr) : Turn P w K (.Tuple elts kk tpos) (IteT K a) [e, it] e (EnAt a e it) where
  mem := .head _
  obj _ _ st _ m := st.cell m
  keep _ _ _ st k := st.kept k
  self _ _ _ _ _ st q := st.en.elim fun _ z => wpAny_pyIter_enum z q
  item := by
    rintro X rfl rfl rfl calm i pins s σ H E I fr st ⟨ys, y, hy, hi⟩
    obtain ⟨cs, rs, tp, -⟩ := I.tuple hy
    obtain ⟨c, hc, rc⟩ := rs.get hi
    have none_here : H s.heap.objs.size = none := I.hok.fresh (Nat.le_refl _)
    refine st.step (I.ok.hd calm) (show s.heap.IsTuple a cs.toArray from tp) (x := c) (by simpa using hc) fun g tk out nxt pair same => ⟨_, rfl, ?_⟩
    refine wpAny_letOwnedTupleGo_enum (s := { s with heap := g, toks := tk + 1 }) out fun g' en' sb => ?_
    have up : ∀ b o, b ∉ [e, it] → s.heap.get? b = some o → g'.get? b = some o := fun b o m q => (sb.2 b fun z => m (z ▸ .head _)).trans (same b o m q)
    have pair' : g'.get? s.heap.objs.size = _ := (sb.2 _ (Nat.ne_of_gt (st.low (.head _)))).trans pair
    have ok : ObjOk X.prog X.w (upd H s.heap.objs.size (.tup [.int (i : Nat), y])) g' s.heap.objs.size (.tup [.int (i : Nat), y]) := ⟨show 2 ≤ sizeLine by decide, _, .cons ⟨tk, rfl⟩ (.cons rc .nil), _, pair', rfl, _, rfl⟩
    refine ⟨V.ref s.heap.objs.size, _, I.turnedNew (ch := [e, it]) up fr (Nat.le_refl _) ok, rfl, ⟨_, y, rfl, none_here, rfl, fun zs hz => I.tuple_inj hz hy ▸ hi⟩, ⟨⟨c, ?_⟩, nxt.at fun o q => (sb.2 it st.ne.symm).trans q, st.ne⟩, fun b m => ?_⟩
    · exact (Int.natCast_add i 1) ▸ en'
    · exact (upd_ne (Nat.ne_of_lt (st.low m))).trans (fr b m).1
  done := by
    rintro X rfl rfl rfl calm i pins s σ H E I fr st ⟨ys, hy, hi⟩
    obtain ⟨cs, rs, tp, -⟩ := I.tuple hy
    have short : cs.toArray[i]? = none := by
      rw [List.getElem?_toArray]
      exact List.getElem?_eq_none (rs.length ▸ hi)
    refine st.over (I.ok.hd calm) (show s.heap.IsTuple a cs.toArray from tp) short fun g k => ⟨rfl, ?_⟩
    have f := fr it (.tail _ (.head _))
    exact I.turned (t' := s.toks) k f.1 f.2.1 f.2.2.2.1 f.2.2.2.2.1 f.2.2.2.2.2
set_option maxHeartbeats 1000000 in
/-- enumerate over the tuple at t makes an iterator of it and the enumerate itself -/
theorem meets_enumT (t : Addr) (items : Array Value) : Meets (Builtin.«enumerate.__new__» ⟨[.type "enumerate", .ref t], []⟩) fun _ R s => s.heap.IsTuple t items ∧
    R (.ok (.ret (.ref (s.heap.objs.size + 1)))) { s with heap := (s.heap.push { cls := .type "tuple_iterator", data := .fields #[.ref t, .int 0 0] }).push { cls := .type "enumerate", data := .fields #[.none, .bool false, .ref s.heap.objs.size, rawInt 0, .none, .none] } } := by
  refine .of_wp fun prog w A R s h => ?_
  rcases s with ⟨hp, gn, dn, tk, os⟩
  rcases h with ⟨tp, post⟩
  have post := (Heap.size_push (h := hp) (o := { cls := .type "tuple_iterator", data := .fields #[.ref t, .int 0 0] })) ▸ post
  have sb := sub_enumerate
  have go : ∀ {A' : Around} {E Q : Value → Shared → Prop}, Q (.ref hp.objs.size) ⟨hp.push { cls := .type "tuple_iterator", data := .fields #[.ref t, .int 0 0] }, gn, dn, tk, os⟩ → wpAny (model prog w) A' (pyIter (.ref t)) Q E ⟨hp, gn, dn, tk, os⟩ :=
    fun q => (begins_tuple t items).iter prog w _ _ ⟨hp, gn, dn, tk, os⟩ _ tp q
  wp_walk using go
  refine wpAny_stack_any fun _ => wpAny_pure ?_
  split
  · next c _ _ _ _ _ => cases (c == Value.type "enumerate") <;> (wp_walk using go; exact ⟨_, rfl, post⟩)
  · wp_walk using go; exact ⟨_, rfl, post⟩
/-- the call, told by the two new cells -/
theorem call_enumT {prog : Program} {w : World} {A : Around} {E Q : Value → Shared → Prop} {s : Shared} {t : Addr} {items : Array Value} (tp : s.heap.IsTuple t items)
    (h : ∀ h', EnAt t (s.heap.objs.size + 1) s.heap.objs.size 0 h' → (∀ b o, s.heap.get? b = some o → h'.get? b = some o) → Q (.ref (s.heap.objs.size + 1)) { s with heap := h' }) :
    wpAny (model prog w) A (call (.type "enumerate") [.ref t]) Q E s := by
  refine callType_new F.called_enumerate (by decide) (F.typeCall_enumerate_1 _) (F.newCall_enumerate_1 _) (fun o => F.args_object_init_2 o _) F.entry_enumerate_new (meets_enumT t items) ⟨tp, ?_⟩
  have n1 : (s.heap.push { cls := .type "tuple_iterator", data := .fields #[.ref t, .int 0 0] }).objs.size = s.heap.objs.size + 1 := Heap.size_push ..
  have c2 := n1 ▸ Heap.get?_push_size (s.heap.push { cls := .type "tuple_iterator", data := .fields #[.ref t, .int 0 0] }) (o := { cls := .type "enumerate", data := .fields #[.none, .bool false, .ref s.heap.objs.size, rawInt 0, .none, .none] }) rfl
  have c1 := Heap.get?_push_size s.heap (o := { cls := .type "tuple_iterator", data := .fields #[.ref t, .int 0 0] }) rfl
  exact ⟨⟨_, c2, rfl⟩, h _ ⟨⟨.none, c2⟩, ⟨_, Heap.get?_push_of_some _ c1, rfl, rfl⟩, Nat.succ_ne_self _⟩ fun _ _ q => Heap.get?_push_of_some _ (Heap.get?_push_of_some _ q)⟩
def iEnumA (K : PySem.W.Frag) (ta : TA) : TI := fun σ H R => ta σ H fun vs H1 => ∃ a xs, vs = [.ref a] ∧ ((SqL K H1 a xs ∧ R (Ite K a) H1) ∨ (SqT K H1 a xs ∧ R (IteT K a) H1))
/-- two cells above all the others are free -/
theorem two_free {X : Cx} {pins : List (Addr × Obj)} {σ : L2.St} {H : Hp} {s : Shared} (I : Inv X pins σ H s) (b : Addr) (m : b ∈ [s.heap.objs.size + 1, s.heap.objs.size]) : FpOk X pins H b := by
  have up : s.heap.objs.size ≤ b := by
    rcases EnAt.two m with m | m <;> subst m
    · exact Nat.le_succ _
    · exact Nat.le_refl _
  exact I.fpOk up (I.hok.fresh up)
theorem pi_enumA {X : Cx} {e : Expr} {ta : TA} {p pos tpos : Pos} {elts : List Expr} {kk : Nat} (hg : Gl X "enumerate") (hm : X.mg "enumerate" = none) (ha : PA X [e] ta) (hs : starEach [e] X.env = [(false, eval e X.env)]) :
    PI X (.Tuple elts kk tpos) (.Call (.Name "enumerate" p) [e] [] pos) (iEnumA X.K ta) where
  run pins s σ H R I h := by
    refine Call_ (ld_blt I hg hm boot_enumerate (PyProof.Rows.callWith_type1 (thn (ha.run pos pins s σ H _ I h) fun us s1 z => ?_) hs rfl))
    obtain ⟨_, H1, I1, rs, a, xs, rfl, way⟩ := z
    cases rs with
    | cons r rs =>
      cases rs
      cases r
      have free := two_free I1
      rcases way with ⟨sq, fin⟩ | ⟨sq, fin⟩
      · obtain ⟨cs, -, lp, -⟩ := I1.list sq
        refine call_enumerate_list lp.isList fun g c2 c1 _ up => wpAny_pyIter_enum c2 ?_
        exact ⟨_, [s1.heap.objs.size + 1, s1.heap.objs.size], _, _, H1, rfl, I1.kept (t' := s1.toks) up, turn_enum a _ s1.heap.objs.size, ⟨⟨.none, c2⟩, c1, Nat.succ_ne_self _⟩, free, fin⟩
      · obtain ⟨cs, -, tp, -⟩ := I1.tuple sq
        refine call_enumT (show s1.heap.IsTuple a cs.toArray from tp) fun g st up => st.en.elim fun _ c2 => wpAny_pyIter_enum c2 ?_
        exact ⟨_, [s1.heap.objs.size + 1, s1.heap.objs.size], _, _, H1, rfl, I1.kept (t' := s1.toks) up, turn_enumT a _ s1.heap.objs.size, st, free, fin⟩
/-! ### the items, as long as the heap stands on S -/
structure GoesD (K : PySem.W.Frag) (cl : Nat → Addr) (J : It) (S B : Addr → Prop) (H1 : Hp) (xs : List D) : Prop where
  go : ∀ H i d, Agr S H1 H → xs[i]? = some d → J.go i H ∧ ∀ x H', J.yld i H x H' → Ex H H' ∧ Rep K cl H' (fun a => B a ∨ New H H' a) d x
  stop : ∀ H i, Agr S H1 H → xs.length ≤ i → J.stop i H
section
variable {K : PySem.W.Frag} {cl : Nat → Addr} {S B : Addr → Prop} {H1 : Hp}
theorem LAt.stand {a : Addr} {vs : List V} {H : Hp} (g : Agr S H1 H) (l : LAt K H1 S a vs) : SqL K H a vs := (l.mono g fun _ h => h).sq
theorem TAt.stand {a : Addr} {vs : List V} {H : Hp} (g : Agr S H1 H) (l : TAt K H1 S a vs) : SqT K H a vs := (l.mono g fun _ h => h).sq
theorem goes_list {a : Addr} {vs : List V} {ds : List D} (sb : ∀ a, B a → S a) (l : LAt K H1 S a vs) (r : Reps K cl H1 B ds vs) : GoesD K cl (Itl K a) S B H1 ds := by
  refine ⟨fun H i d g e => ?_, fun H i g hi => ⟨vs, l.stand g, by rw [r.length]; exact hi⟩⟩
  obtain ⟨v, ev, rv⟩ := r.get e
  refine ⟨⟨vs, v, l.stand g, ev⟩, fun x H' y => ?_⟩
  obtain ⟨rfl, y⟩ := y
  have := y vs (l.stand g)
  rw [ev] at this
  cases this
  exact ⟨Ex.refl _, Rep.mono (fun a o h => g a o (sb a h)) (fun a h => .inl h) d _ rv⟩
theorem goes_tup {a : Addr} {vs : List V} {ds : List D} (sb : ∀ a, B a → S a) (l : TAt K H1 S a vs) (r : Reps K cl H1 B ds vs) : GoesD K cl (Itt K a) S B H1 ds := by
  refine ⟨fun H i d g e => ?_, fun H i g hi => ⟨vs, l.stand g, by rw [r.length]; exact hi⟩⟩
  obtain ⟨v, ev, rv⟩ := r.get e
  refine ⟨⟨vs, v, l.stand g, ev⟩, fun x H' y => ?_⟩
  obtain ⟨rfl, y⟩ := y
  have := y vs (l.stand g)
  rw [ev] at this
  cases this
  exact ⟨Ex.refl _, Rep.mono (fun a o h => g a o (sb a h)) (fun a h => .inl h) d _ rv⟩
theorem goes_str {s : Str} : GoesD K cl (Its s) S B H1 (charsD s) := by
  have hl : (charsD s).length = s.cps.size := by simp [charsD]
  refine ⟨fun H i d g e => ?_, fun H i g hi => by show s.cps.size ≤ i; rw [← hl]; exact hi⟩
  have hlt : i < s.cps.size := by rw [← hl]; exact (List.getElem?_eq_some_iff.mp e).1
  refine ⟨hlt, fun x H' y => ?_⟩
  obtain ⟨rfl, c, hc, rfl⟩ := y
  refine ⟨Ex.refl _, ?_⟩
  have : (charsD s)[i]? = some (.str ⟨#[c]⟩) := by
    have h2 : s.cps.toList[i]? = some c := by simpa using hc
    unfold charsD
    rw [List.getElem?_map, h2]
    rfl
  rw [e] at this
  cases this
  rfl
theorem goes_rng {lo hi : Int} {xs : List D} (h : rngD lo hi = some xs) : GoesD K cl (Itr lo (hi - lo).toNat) S B H1 xs := by
  obtain ⟨_, h⟩ := Option.ite_none_right_eq_some.mp h
  cases h
  refine ⟨fun H i d g e => ?_, fun H i g hi' => (by
    rw [List.length_map, List.length_range] at hi'
    exact hi')⟩
  have hlt : i < (hi - lo).toNat := by simpa using (List.getElem?_eq_some_iff.mp e).1
  refine ⟨hlt, fun x H' y => ?_⟩
  obtain ⟨rfl, rfl⟩ := y
  refine ⟨Ex.refl _, ?_⟩
  rw [List.getElem?_map, List.getElem?_range hlt] at e
  cases e
  rfl
theorem enumD_get : ∀ (xs : List D) (n i : Nat), (enumD n xs)[i]? = (xs[i]?).map fun d => .tup [.int ((n + i : Nat) : Int), d]
  | [], n, i => by simp [enumD]
  | x :: xs, n, 0 => by simp [enumD]
  | x :: xs, n, i + 1 => by
    have := enumD_get xs (n + 1) i
    show (enumD (n + 1) xs)[i]? = _
    rw [this, show n + 1 + i = n + (i + 1) by omega]
    rfl
theorem enumD_len : ∀ (xs : List D) (n : Nat), (enumD n xs).length = xs.length
  | [], _ => rfl
  | x :: xs, n => congrArg Nat.succ (enumD_len xs (n + 1))
theorem pair_rep {H : Hp} {T : Addr} {d e : D} {v w : V} (hT : H T = none) (h1 : Rep K cl H B d v) (h2 : Rep K cl H B e w) : Rep K cl (upd H T (.tup [v, w])) (fun a => B a ∨ New H (upd H T (.tup [v, w])) a) (.tup [d, e]) (.ref T) := by
  have ex : Ex H (upd H T (.tup [v, w])) := Evl.Ex.new hT
  refine ⟨T, [v, w], rfl, .inl ⟨.inl upd_same, .inr ⟨hT, by rw [upd_same]; exact fun z => by cases z⟩⟩, v, [w], rfl, ?_, w, [], rfl, ?_, rfl⟩
  · exact Rep.mono (Agr.of_ex ex) (fun a h => .inl h) _ _ h1
  · exact Rep.mono (Agr.of_ex ex) (fun a h => .inl h) _ _ h2
theorem goes_enumL {a : Addr} {vs : List V} {ds : List D} (sb : ∀ a, B a → S a) (l : LAt K H1 S a vs) (r : Reps K cl H1 B ds vs) : GoesD K cl (Ite K a) S B H1 (enumD 0 ds) := by
  refine ⟨fun H i d g e => ?_, fun H i g hi => ⟨vs, l.stand g, by rw [r.length, ← enumD_len ds 0]; exact hi⟩⟩
  rw [enumD_get] at e
  obtain ⟨d0, e0, rfl⟩ := Option.map_eq_some_iff.mp e
  obtain ⟨v, ev, rv⟩ := r.get e0
  refine ⟨⟨vs, v, l.stand g, ev⟩, fun x H' y => ?_⟩
  obtain ⟨T, w, rfl, hT, rfl, y⟩ := y
  have := y vs (l.stand g)
  rw [ev] at this
  cases this
  refine ⟨Evl.Ex.new hT, pair_rep hT ?_ (Rep.mono (fun a o h => g a o (sb a h)) (fun a h => h) _ _ rv)⟩
  rw [Nat.zero_add]
  rfl
theorem goes_enumT {a : Addr} {vs : List V} {ds : List D} (sb : ∀ a, B a → S a) (l : TAt K H1 S a vs) (r : Reps K cl H1 B ds vs) : GoesD K cl (IteT K a) S B H1 (enumD 0 ds) := by
  refine ⟨fun H i d g e => ?_, fun H i g hi => ⟨vs, l.stand g, by rw [r.length, ← enumD_len ds 0]; exact hi⟩⟩
  rw [enumD_get] at e
  obtain ⟨d0, e0, rfl⟩ := Option.map_eq_some_iff.mp e
  obtain ⟨v, ev, rv⟩ := r.get e0
  refine ⟨⟨vs, v, l.stand g, ev⟩, fun x H' y => ?_⟩
  obtain ⟨T, w, rfl, hT, rfl, y⟩ := y
  have := y vs (l.stand g)
  rw [ev] at this
  cases this
  refine ⟨Evl.Ex.new hT, pair_rep hT ?_ (Rep.mono (fun a o h => g a o (sb a h)) (fun a h => h) _ _ rv)⟩
  rw [Nat.zero_add]
  rfl
theorem zipD_get : ∀ (xs ys : List D) (i : Nat) (d : D), (zipD xs ys)[i]? = some d → ∃ x y, xs[i]? = some x ∧ ys[i]? = some y ∧ d = .tup [x, y]
  | [], _, i, d, h => by simp [zipD] at h
  | _ :: _, [], i, d, h => by simp [zipD] at h
  | x :: xs, y :: ys, 0, d, h => by
    simp [zipD] at h
    exact ⟨x, y, rfl, rfl, h.symm⟩
  | x :: xs, y :: ys, i + 1, d, h => by
    obtain ⟨a, b, h1, h2, h3⟩ := zipD_get xs ys i d (by simpa [zipD] using h)
    exact ⟨a, b, by simpa using h1, by simpa using h2, h3⟩
theorem zipD_len : ∀ (xs ys : List D), (zipD xs ys).length = min xs.length ys.length
  | [], _ => by simp [zipD]
  | _ :: _, [] => by simp [zipD]
  | x :: xs, y :: ys => by
    simp only [zipD, List.length_cons, zipD_len xs ys]
    omega
theorem goes_zip {a b : Addr} {vs ws : List V} {ds es : List D} (sb : ∀ a, B a → S a) (l : LAt K H1 S a vs) (r : Reps K cl H1 B ds vs) (l2 : LAt K H1 S b ws) (r2 : Reps K cl H1 B es ws) : GoesD K cl (Itz K a b) S B H1 (zipD ds es) := by
  refine ⟨fun H i d g e => ?_, fun H i g hi => ⟨vs, ws, l.stand g, l2.stand g, ?_⟩⟩
  · obtain ⟨d1, d2, h1, h2, rfl⟩ := zipD_get ds es i d e
    obtain ⟨v, ev, rv⟩ := r.get h1
    obtain ⟨w, ew, rw'⟩ := r2.get h2
    refine ⟨⟨vs, ws, v, w, l.stand g, l2.stand g, ev, ew⟩, fun x H' y => ?_⟩
    obtain ⟨T, v', w', rfl, hT, rfl, y1, y2⟩ := y
    have z1 := y1 vs (l.stand g)
    rw [ev] at z1
    cases z1
    have z2 := y2 ws (l2.stand g)
    rw [ew] at z2
    cases z2
    exact ⟨Evl.Ex.new hT, pair_rep hT (Rep.mono (fun a o h => g a o (sb a h)) (fun a h => h) _ _ rv) (Rep.mono (fun a o h => g a o (sb a h)) (fun a h => h) _ _ rw')⟩
  · rw [zipD_len] at hi
    rw [r.length, r2.length]
    omega
end
/-! ### a size -/
def HB (K : PySem.W.Frag) (H : Hp) : Prop := (∀ a xs, SqL K H a xs → xs.length ≤ sizeLine) ∧ (∀ a xs, SqT K H a xs → xs.length ≤ sizeLine)
theorem hb_of {X : Cx} {pins : List (Addr × Obj)} {σ : L2.St} {H : Hp} {s : Shared} (I : Inv X pins σ H s) : HB X.K H :=
  ⟨fun a xs h => let ⟨its, rv, _, hz⟩ := I.list h; hz, fun a xs h => let ⟨its, rv, _, hz⟩ := I.tuple h; hz⟩
theorem pi_big {X : Cx} {tg iter : Expr} {wi : TI} (h : PI X tg iter wi) : PI X tg iter (fun σ H R => wi σ H fun J H' => HB X.K H' → R J H') := ⟨fun pins s σ H R I q => by
  refine thn (h.run pins s σ H _ I q) fun v s1 h1 => thn h1 fun itv s2 h2 => ?_
  obtain ⟨it, fp, tn, J, H', e, I2, T, st, fk, r⟩ := h2
  exact ⟨it, fp, tn, J, H', e, I2, T, st, fk, r (hb_of I2)⟩⟩
theorem pi_or {X : Cx} {tg iter : Expr} {t u : TI} (h : PI X tg iter t) (h' : PI X tg iter u) : PI X tg iter (fun σ H Q => t σ H Q ∨ u σ H Q) := ⟨fun pins s σ H Q I q => by
  rcases q with q | q
  · exact h.run pins s σ H Q I q
  · exact h'.run pins s σ H Q I q⟩
/-- aliases of what is gone through -/
def CI.src (Γ : List Nat) : CI → List Nat
  | .seq e => CE.al Γ e
  | .rng1 _ => [] | .rng2 _ _ => []
  | .enum e => CE.al Γ e
  | .zip a b => CE.al Γ a ++ CE.al Γ b
def SI (X : Cx) (cl : Nat → Addr) (T : Tab) (tg iter : Expr) (c : CI) : Prop := ∃ wi, PI X tg iter wi ∧ ∀ Γ FF Z σ H ρ, CI.okG Γ c = true → RSt X.K cl Γ FF Z σ H ρ → ∀ xs, CI.sem T c ρ = some xs → ∀ R : It → Hp → Prop,
  (∀ J H', Ex H H' → xs.length ≤ sizeLine → GoesD X.K cl J (fun a => zn FF Z (CI.src Γ c) a ∨ New H H' a) (fun a => zn FF Z (CI.al Γ c) a ∨ New H H' a) H' xs → R J H') → wi σ H R
section
variable {X : Cx} {cl : Nat → Addr} {T : Tab} {k : Nat}
theorem LAt.len {K : PySem.W.Frag} {H : Hp} {A : Addr → Prop} {a : Addr} {vs : List V} (l : LAt K H A a vs) (h : HB K H) : vs.length ≤ sizeLine := h.1 _ _ l.sq
theorem si_seq {tg e : Expr} {c : CE} (h : SE X cl T e c) : SI X cl T tg e (.seq c) := by
  obtain ⟨t, pe, s⟩ := h
  refine ⟨_, pi_or (pi_big (pi_list pe)) (pi_or (pi_big (pi_tup pe)) (pi_big (pi_str pe))), fun Γ FF Z σ H ρ ok r xs e1 R hR => ?_⟩
  obtain ⟨x, ex, e1⟩ := bind2 (show (CE.sem T c ρ).bind seqD = some xs from e1)
  have sub : ∀ H', ∀ a, zn FF Z (CE.ac Γ c) a ∨ New H H' a → zn FF Z (CE.al Γ c) a ∨ New H H' a := fun H' a h => h.imp (fun h => zn_mono (CE.sub c) h) id
  cases x with
  | lst ds =>
    cases (show some ds = some xs from e1)
    refine .inl (s Γ FF Z σ H ρ ok r _ ex _ fun v H1 e2 o => ?_)
    obtain ⟨a, vs, rfl, l, rs⟩ := o.two fun a h => zn_mono (CE.sub c) h
    exact ⟨a, rfl, ⟨vs, l.sq⟩, fun hb => hR _ H1 e2 (by rw [← rs.length]; exact hb.1 _ _ l.sq) (goes_list (sub H1) l rs)⟩
  | tup ds =>
    cases (show some ds = some xs from e1)
    refine .inr (.inl (s Γ FF Z σ H ρ ok r _ ex _ fun v H1 e2 o => ?_))
    obtain ⟨a, vs, rfl, l, rs⟩ := o.two fun a h => zn_mono (CE.sub c) h
    exact ⟨a, rfl, ⟨vs, l.sq⟩, fun hb => hR _ H1 e2 (by rw [← rs.length]; exact hb.2 _ _ l.sq) (goes_tup (sub H1) l rs)⟩
  | str q =>
    obtain ⟨h1, h2⟩ := Option.ite_none_right_eq_some.mp (show (if q.length ≤ LIM then some (charsD q) else none) = some xs from e1)
    cases h2
    refine .inr (.inr (s Γ FF Z σ H ρ ok r _ ex _ fun v H1 e2 o => ?_))
    obtain rfl := (show v = _ from o.two fun a h => zn_mono (CE.sub c) h)
    refine ⟨q, rfl, fun hb => hR _ H1 e2 ?_ goes_str⟩
    have : (charsD q).length = q.length := by simp [charsD]; rfl
    rw [this]
    exact Nat.le_trans h1 LIM_le
  | _ => cases e1
theorem rng_bd {i j : Int} {xs : List D} (h : rngD i j = some xs) : (-1000000 ≤ i ∧ i ≤ 1000000 ∧ -1000000 ≤ j ∧ j ≤ 1000000) ∧ xs.length ≤ sizeLine := by
  obtain ⟨h, h2⟩ := Option.ite_none_right_eq_some.mp h
  refine ⟨h, ?_⟩
  cases h2
  rw [sizeLine_eq, List.length_map, List.length_range]
  omega
theorem si_rng1 {tg e : Expr} {c : CE} {p pos : Pos} (hx : XOk X cl T k) (hg : Gl X "range") (he : kindE e = true) (h : SE X cl T e c) : SI X cl T tg (.Call (.Name "range" p) [e] [] pos) (.rng1 c) := by
  obtain ⟨t, pa, s⟩ := sa_one he h
  refine ⟨_, pi_range1 hg (hx.bl _ (by decide +kernel)) pa (star_ok he _ _), fun Γ FF Z σ H ρ ok r xs e1 R hR => ?_⟩
  obtain ⟨x, ex, e1⟩ := bind2 (show (CE.sem T c ρ).bind (fun x => match x with
    | .int i => rngD 0 i
    | _ => none) = some xs from e1)
  cases x with
  | int i =>
    refine s Γ FF Z σ H ρ ok r _ ex _ fun v H1 e2 rv => ?_
    cases (show v = _ from rv)
    obtain ⟨b, lz⟩ := rng_bd e1
    refine ⟨i, rfl, by omega, by omega, hR _ H1 e2 lz ?_⟩
    have := goes_rng (K := X.K) (cl := cl) (S := fun a => zn FF Z (CI.src Γ (.rng1 c)) a ∨ New H H1 a) (B := fun a => zn FF Z (CI.al Γ (.rng1 c)) a ∨ New H H1 a) (H1 := H1) e1
    rw [Int.sub_zero] at this
    exact this
  | _ => cases e1
theorem si_rng2 {tg e f : Expr} {c c2 : CE} {p pos : Pos} (hx : XOk X cl T k) (hg : Gl X "range") (he : kindE e = true) (hf : kindE f = true) (h : SE X cl T e c) (h2 : SE X cl T f c2) : SI X cl T tg (.Call (.Name "range" p) [e, f] [] pos) (.rng2 c c2) := by
  obtain ⟨t, pa, s⟩ := sa_cons he h (sa_cons hf h2 sa_nil)
  refine ⟨_, pi_range2 hg (hx.bl _ (by decide +kernel)) pa (by rw [star_ok he, star_ok hf]; rfl) (star_ok hf _ _), fun Γ FF Z σ H ρ ok r xs e1 R hR => ?_⟩
  obtain ⟨x, ex, e1⟩ := bind2 (show (CE.sem T c ρ).bind (fun x => (CE.sem T c2 ρ).bind fun y => match x, y with
    | .int i, .int j => rngD i j
    | _, _ => none) = some xs from e1)
  obtain ⟨y, ey, e1⟩ := bind2 e1
  cases x with
  | int i =>
    cases y with
    | int j =>
      have es : CEs.sem T (.cons c (.cons c2 .nil)) ρ = some [.int i, .int j] := by
        show (CE.sem T c ρ).bind (fun x => (CEs.sem T (.cons c2 .nil) ρ).map fun xs => x :: xs) = _
        rw [ex]
        show ((CE.sem T c2 ρ).bind (fun x => (CEs.sem T .nil ρ).map fun xs => x :: xs)).map _ = _
        rw [ey]
        rfl
      have ok' : CEs.okG Γ (.cons c (.cons c2 .nil)) = true := by
        obtain ⟨a, b⟩ := ands (show (CE.okG Γ c && CE.okG Γ c2) = true from ok)
        show (CE.okG Γ c && (CE.okG Γ c2 && true)) = true
        rw [a, b]
        rfl
      refine s Γ FF Z σ H ρ ok' r _ es _ fun vs H1 e2 rv => ?_
      obtain ⟨v, w, rfl, r1, r2⟩ := reps2 rv
      cases (show v = _ from r1)
      cases (show w = _ from r2)
      obtain ⟨b, lz⟩ := rng_bd e1
      exact ⟨i, j, rfl, by omega, hR _ H1 e2 lz (goes_rng e1)⟩
    | _ => cases e1
  | _ => cases y <;> cases e1
theorem si_enum {elts : List Expr} {kk : Nat} {tpos : Pos} {e : Expr} {c : CE} {p pos : Pos} (hx : XOk X cl T k) (hg : Gl X "enumerate") (he : kindE e = true) (h : SE X cl T e c) : SI X cl T (.Tuple elts kk tpos) (.Call (.Name "enumerate" p) [e] [] pos) (.enum c) := by
  obtain ⟨t, pa, s⟩ := sa_one he h
  refine ⟨_, pi_big (pi_enumA hg (hx.bl _ (by decide +kernel)) pa (star_ok he _ _)), fun Γ FF Z σ H ρ ok r xs e1 R hR => ?_⟩
  obtain ⟨x, ex, e1⟩ := bind2 (show (CE.sem T c ρ).bind (fun x => match x with
    | .lst xs => some (enumD 0 xs)
    | .tup xs => some (enumD 0 xs)
    | _ => none) = some xs from e1)
  have sub : ∀ H', ∀ a, zn FF Z (CE.ac Γ c) a ∨ New H H' a → zn FF Z (CE.al Γ c) a ∨ New H H' a := fun H' a h => h.imp (fun h => zn_mono (CE.sub c) h) id
  cases x with
  | lst ds =>
    cases (show some (enumD 0 ds) = some xs from e1)
    refine s Γ FF Z σ H ρ ok r _ ex _ fun v H1 e2 rv => ?_
    obtain ⟨a, vs, rfl, l, rs⟩ := rv
    exact ⟨a, vs, rfl, .inl ⟨l.sq, fun hb => hR _ H1 e2 (by rw [enumD_len, ← rs.length]; exact hb.1 _ _ l.sq) (goes_enumL (sub H1) l rs)⟩⟩
  | tup ds =>
    cases (show some (enumD 0 ds) = some xs from e1)
    refine s Γ FF Z σ H ρ ok r _ ex _ fun v H1 e2 rv => ?_
    obtain ⟨a, vs, rfl, l, rs⟩ := rv
    exact ⟨a, vs, rfl, .inr ⟨l.sq, fun hb => hR _ H1 e2 (by rw [enumD_len, ← rs.length]; exact hb.2 _ _ l.sq) (goes_enumT (sub H1) l rs)⟩⟩
  | _ => cases e1
theorem si_zip {elts : List Expr} {kk : Nat} {tpos : Pos} {e f : Expr} {c c2 : CE} {p pos : Pos} (hx : XOk X cl T k) (hg : Gl X "zip") (he : kindE e = true) (hf : kindE f = true) (h : SE X cl T e c) (h2 : SE X cl T f c2) : SI X cl T (.Tuple elts kk tpos) (.Call (.Name "zip" p) [e, f] [] pos) (.zip c c2) := by
  obtain ⟨te, pe, s⟩ := h
  obtain ⟨tf, pf, s2⟩ := h2
  refine ⟨_, pi_big (pi_zip hg (hx.bl _ (by decide +kernel)) (pa_cons pe (pa_cons pf pa_nil (star_ok hf _ _)) (star_ok he _ _)) (star_ok he _ _) (back_any (by simp [hf]) _ _)), fun Γ FF Z σ H ρ ok r xs e1 R hR => ?_⟩
  obtain ⟨ok1, ok2⟩ := ands (show (CE.okG Γ c && CE.okG Γ c2) = true from ok)
  obtain ⟨x, ex, e1⟩ := bind2 (show (CE.sem T c ρ).bind (fun x => (CE.sem T c2 ρ).bind fun y => match x, y with
    | .lst xs, .lst ys => some (zipD xs ys)
    | _, _ => none) = some xs from e1)
  obtain ⟨y, ey, e1⟩ := bind2 e1
  cases x with
  | lst ds =>
    cases y with
    | lst es =>
      cases (show some (zipD ds es) = some xs from e1)
      refine s Γ FF Z σ H ρ ok1 r _ ex _ fun v H1 e2 o1 => s2 Γ FF Z σ H1 ρ ok2 (r.ext e2) _ ey _ fun w H2 e3 o2 => ?_
      have q1 := (o1.two fun a h => zn_mono (CE.sub c) h).mono (Agr.of_ex e3) (fun a h => h.imp id fun n => n.right e3) (Agr.of_ex e3) (fun a h => h.imp id fun n => n.right e3)
      have q2 := (o2.two fun a h => zn_mono (CE.sub c2) h).since e2 (fun _ h => h) (fun _ h => h)
      obtain ⟨a, vs, rfl, l, rs⟩ := q1
      obtain ⟨b, ws, rfl, l2, rs2⟩ := q2
      refine ⟨a, b, vs, ws, rfl, l.sq, l2.sq, fun hb => hR _ H2 (e2.trans e3) ?_ (goes_zip ?_ (l.mono (fun _ _ _ h => h) ?_) (Reps.mono (fun _ _ _ h => h) ?_ _ _ rs) (l2.mono (fun _ _ _ h => h) ?_) (Reps.mono (fun _ _ _ h => h) ?_ _ _ rs2))⟩
      · have := hb.1 _ _ l.sq
        have e4 := rs.length
        rw [zipD_len]
        omega
      · refine fun a h => h.imp (fun h => zn_mono (fun i hi => ?_) h) id
        rcases List.mem_append.mp (show i ∈ CE.ac Γ c ++ CE.ac Γ c2 from hi) with hi | hi
        · exact List.mem_append.mpr (.inl (CE.sub c i hi))
        · exact List.mem_append.mpr (.inr (CE.sub c2 i hi))
      · exact fun a h => h.imp (fun h => zn_mono (fun i hi => List.mem_append.mpr (.inl hi)) h) id
      · exact fun a h => h.imp (fun h => zn_mono (fun i hi => List.mem_append.mpr (.inl hi)) h) id
      · exact fun a h => h.imp (fun h => zn_mono (fun i hi => List.mem_append.mpr (.inr hi)) h) id
      · exact fun a h => h.imp (fun h => zn_mono (fun i hi => List.mem_append.mpr (.inr hi)) h) id
    | _ => cases e1
  | _ => cases y <;> cases e1
end
end PV

set_option Elab.async false
set_option linter.all false
set_option maxRecDepth 100000
set_option maxHeartbeats 2000000
/-! PV10: comprehensions. -/
namespace PV
open PySem L2 PyProof.Rows
open Evl (Ex)
abbrev Blk := Shared × Hp × Addr × List (Str × Addr) × List Addr
abbrev bkC (X : Cx) (scope : Scope) (i : Blk) : Cx := X.blk i.1 i.2.1 scope (compEnvC scope i.2.2.2.1 i.2.2.1 X.env) i.2.2.2.2
section
variable {X : Cx} {cl : Nat → Addr} {T : Tab} {k : Nat} {scope : Scope}
theorem seB_all {e : Expr} {c : CE} (h : ∀ i : Blk, SE (bkC X scope i) cl T e c) : ∃ t, (∀ i : Blk, PE (bkC X scope i) e t) ∧ ∀ Γ FF Z σ H ρ, CE.okG Γ c = true → RSt X.K cl Γ FF Z σ H ρ → ∀ d, CE.sem T c ρ = some d → ∀ Q : VK,
    (∀ v H', Ex H H' → Out X.K cl (CE.lv T c) (zn FF Z (CE.al Γ c)) (zn FF Z (CE.ac Γ c)) H H' d v → Q v H') → t σ H Q := by
  obtain ⟨f, hf⟩ := Classical.axiomOfChoice h
  refine ⟨fun σ H Q => ∀ i, f i σ H Q, fun i => ⟨fun pins s σ H Q I q => (hf i).1.run pins s σ H Q I (q i)⟩, fun Γ FF Z σ H ρ ok r d e1 Q hQ i => (hf i).2 Γ FF Z σ H ρ ok r d e1 Q hQ⟩
theorem sgB_all {tg : Expr} {t : CT} (h : ∀ i : Blk, SG (bkC X scope i) cl tg t) : ∃ g, (∀ i : Blk, PG (bkC X scope i) tg g) ∧ ∀ (A : Addr → Prop) (H : Hp) (d : D) (v : V) (σ : L2.St) (ρ ρ' : Env), Rep X.K cl H A d v → CT.bind t d ρ = some ρ' → σ.length = ρ.length →
    ∀ Q : L2.St → Hp → Prop, (∀ σ', Stored X.K cl H A t.slots σ σ' ρ ρ' → Q σ' H) → g v σ H Q := by
  obtain ⟨f, hf⟩ := Classical.axiomOfChoice h
  exact ⟨fun v σ H Q => ∀ i, f i v σ H Q, fun i => ⟨fun pins s σ H x v Q I r q => (hf i).1.run pins s σ H x v Q I r (q i)⟩, fun A H d v σ ρ ρ' r e hl Q hQ i => (hf i).2 A H d v σ ρ ρ' r e hl Q hQ⟩
/-- the tests of a clause -/
def STs (X : Cx) (cl : Nat → Addr) (T : Tab) (ifs : List Expr) (cs : CEs) : Prop := ∃ t, PTs X ifs t ∧ ∀ Γ FF Z σ H ρ, CEs.okG Γ cs = true → RSt X.K cl Γ FF Z σ H ρ → ∀ b, CEs.tests T cs ρ = some b → ∀ Q : Bool → Hp → Prop,
  (∀ H', Ex H H' → Q b H') → t σ H Q
theorem sts_nil : STs X cl T [] .nil := ⟨_, pts_nil, fun Γ FF Z σ H ρ ok r b e1 Q hQ => by
  cases (show some true = some b from e1)
  exact hQ H (Ex.refl H)⟩
theorem sts_one {e : Expr} {c : CE} (h : ST X cl T e c) : STs X cl T [e] (.cons c .nil) := by
  obtain ⟨t, pt, s⟩ := h
  refine ⟨_, pts_one pt, fun Γ FF Z σ H ρ ok r b e1 Q hQ => ?_⟩
  obtain ⟨ok1, _⟩ := ands (show (CE.okG Γ c && CEs.okG Γ .nil) = true from ok)
  obtain ⟨x, ex, e1⟩ := bind2 (show (CE.sem T c ρ).bind (fun x => (truD x).bind fun b => if b then CEs.tests T .nil ρ else some false) = some b from e1)
  obtain ⟨q, eq, e1⟩ := bind2 e1
  have : q = b := by
    cases q with
    | true => cases (show some true = some b from e1); rfl
    | false => cases (show some false = some b from e1); rfl
  subst this
  exact s Γ FF Z σ H ρ ok1 r x q ex eq Q hQ
theorem stsB_all {ifs : List Expr} {cs : CEs} (h : ∀ i : Blk, STs (bkC X scope i) cl T ifs cs) : ∃ t, (∀ i : Blk, PTs (bkC X scope i) ifs t) ∧ ∀ Γ FF Z σ H ρ, CEs.okG Γ cs = true → RSt X.K cl Γ FF Z σ H ρ → ∀ b, CEs.tests T cs ρ = some b → ∀ Q : Bool → Hp → Prop,
    (∀ H', Ex H H' → Q b H') → t σ H Q := by
  obtain ⟨f, hf⟩ := Classical.axiomOfChoice h
  exact ⟨fun σ H Q => ∀ i, f i σ H Q, fun i => ⟨fun pins s σ H Q I q => (hf i).1.run pins s σ H Q I (q i)⟩, fun Γ FF Z σ H ρ ok r d e1 Q hQ i => (hf i).2 Γ FF Z σ H ρ ok r d e1 Q hQ⟩
/-! ### wiped slots -/
theorem wipeD_length (ρ : Env) : ∀ vs : List Nat, (wipeD ρ vs).length = ρ.length
  | [] => rfl
  | v :: vs => by unfold wipeD; rw [List.length_set, wipeD_length ρ vs]
theorem wipeD_some {ρ : Env} {i : Nat} {x : D} {vs : List Nat} : (wipeD ρ vs)[i]? = some (some x) → ρ[i]? = some (some x) ∧ i ∉ vs := by
  induction vs with
  | nil => exact fun h => ⟨h, List.not_mem_nil⟩
  | cons v vs ih =>
    intro h
    have h : ((wipeD ρ vs).set v none)[i]? = some (some x) := h
    rw [List.getElem?_set] at h
    split at h
    · split at h <;> cases h
    · next far => exact (ih h).imp id fun q m => (List.mem_cons.mp m).elim (fun z => far z.symm) q
theorem wipe_in {σ : L2.St} {i : Nat} : ∀ {vs : List Nat}, i ∈ vs → i < σ.length → (wipe σ vs)[i]? = some none
  | v :: vs, h, hl => by
    unfold wipe
    by_cases hi : v = i
    · subst hi
      exact List.getElem?_set_self (by rw [wipe_length]; exact hl)
    · rw [List.getElem?_set_ne hi]
      rcases List.mem_cons.mp h with h | h
      · exact absurd h.symm hi
      · exact wipe_in h hl
theorem wipe_eq {σ σ2 : L2.St} {vs : List Nat} (hl : σ2.length = σ.length) (h : ∀ i, i ∉ vs → σ2[i]? = (wipe σ vs)[i]?) : wipe σ2 vs = wipe σ vs := by
  refine List.ext_getElem? fun i => ?_
  by_cases hi : i ∈ vs
  · by_cases hlt : i < σ.length
    · rw [wipe_in hi hlt, wipe_in hi (by rw [hl]; exact hlt)]
    · rw [List.getElem?_eq_none (by rw [wipe_length, hl]; omega), List.getElem?_eq_none (by rw [wipe_length]; omega)]
  · rw [wipe_out hi, h i hi]
/-- the state within a block's turn -/
theorem blk_st {K : PySem.W.Frag} {Γ : List Nat} {FF : Nat → List Addr} {Z Z' : Addr → Prop} {σ σ2 : L2.St} {H H2 : Hp} {ρ ρ' : Env} {own : List (Str × Nat)} {t : CT} (r : RSt K cl Γ FF Z σ H ρ) (e : Ex H H2) (sub : ∀ a, Z a → Z' a) (hz : ∀ a, Z' a → H2 a ≠ none)
    (ho : own.all (fun p => Γ.getD p.2 0 == 0) = true) (hs : ∀ i ∈ t.slots, i ∈ own.map (·.2)) (st : Stored K cl H2 Z' t.slots (wipe σ (own.map (·.2))) σ2 (wipeD ρ (own.map (·.2))) ρ') : RSt K cl Γ FF Z' σ2 H2 ρ' := by
  refine ⟨fun i d h => ?_, hz, fun i a h => ex_there e (r.f i a h), r.lz, by rw [st.len, st.lenr, wipe_length, wipeD_length, r.ln]⟩
  by_cases hi : i ∈ t.slots
  · obtain ⟨v, h1, h2⟩ := st.on i hi d h
    have g0 : Γ.getD i 0 = 0 := by
      obtain ⟨p, hp, rfl⟩ := List.mem_map.mp (hs i hi)
      have := List.all_eq_true.mp ho p hp
      simpa using this
    refine ⟨v, h1, ?_⟩
    rw [g0]
    exact ⟨r.lz i g0, h2⟩
  · obtain ⟨o1, o2⟩ := st.off i hi
    rw [o2] at h
    obtain ⟨h1, h2⟩ := wipeD_some h
    obtain ⟨v, h3, h4⟩ := r.sl i d h1
    refine ⟨v, by rw [o1, wipe_out h2]; exact h3, RepO.mono _ (Agr.of_ex e) sub h4⟩
def lcF (T : Tab) (own : List (Str × Nat)) (t : CT) (ifs : CEs) (elt : CE) (ρ : Env) : D → Option (Option D) := fun x => (CT.bind t x (wipeD ρ (own.map (·.2)))).bind fun ρ' => (CEs.tests T ifs ρ').bind fun b => if b then (CE.sem T elt ρ').map some else some none
def dcF (T : Tab) (own : List (Str × Nat)) (t : CT) (ck cv : CE) (ρ : Env) : D → Option (Key × D) := fun x => (CT.bind t x (wipeD ρ (own.map (·.2)))).bind fun ρ' => (CE.sem T ck ρ').bind fun y => (keyD y).bind fun q => (CE.sem T cv ρ').map fun z => (q, z)
def consO : Option D → List D → List D
  | some y, ys => y :: ys
  | none, ys => ys
theorem lcD_cons {f : D → Option (Option D)} {x : D} {r rs : List D} (h : lcD f (x :: r) = some rs) : ∃ o ys, f x = some o ∧ lcD f r = some ys ∧ rs = consO o ys := by
  unfold lcD at h
  obtain ⟨o, e, h⟩ := bind2 h
  obtain ⟨ys, e2, rfl⟩ := Option.map_eq_some_iff.mp h
  refine ⟨o, ys, e, e2, ?_⟩
  cases o <;> rfl
/-- what a list comprehension's parts are -/
def LcP (X : Cx) (cl : Nat → Addr) (T : Tab) (scope : Scope) (tg iter elt : Expr) (ifs : List Expr) (c : CE) (vs : List Nat) : Prop := ∃ wi g tt te, PI X tg iter wi ∧ (∀ i : Blk, PG (bkC X scope i) tg g) ∧ (∀ i : Blk, PTs (bkC X scope i) ifs tt) ∧ (∀ i : Blk, PE (bkC X scope i) elt te) ∧
  ∀ Γ FF Z σ H ρ, CE.okG Γ c = true → RSt X.K cl Γ FF Z σ H ρ → ∀ d, CE.sem T c ρ = some d → ∀ Q : VK,
    (∀ v H', Ex H H' → Out X.K cl (CE.lv T c) (zn FF Z (CE.al Γ c)) (zn FF Z (CE.ac Γ c)) H H' d v → Q v H') → tLc wi g tt te vs σ H Q
theorem getD_drop {xs : List D} {i : Nat} (h : i < xs.length) : ∃ x, xs[i]? = some x ∧ xs.drop i = x :: xs.drop (i + 1) := ⟨xs[i], List.getElem?_eq_getElem h, List.drop_eq_getElem_cons h⟩
/-- what zone a block's turn reads -/
def zb (Z : Addr → Prop) (H : Hp) (P : Addr) (H2 : Hp) : Addr → Prop := fun a => Z a ∨ (New H H2 a ∧ a ≠ P)
theorem item_zone {FF : Nat → List Addr} {Z : Addr → Prop} {al : List Nat} {H H1 H' H2 : Hp} {P a : Addr} (e0 : Ex H H1) (e1 : Ex H1 H') (e2 : Ex H' H2) (hP1 : H1 P = none) (hP : H' P ≠ none) (hal : al = []) (h : (zn FF Z al a ∨ New H H1 a) ∨ New H' H2 a) : zb Z H P H2 a := by
  rcases h with (h | h) | h
  · subst hal
    rcases h with h | ⟨i, hi, _⟩
    · exact .inl h
    · cases hi
  · exact .inr ⟨h.right (e1.trans e2), fun z => h.2 (by rw [z]; exact hP1)⟩
  · exact .inr ⟨h.left (e0.trans e1), fun z => hP (by rw [← z]; exact h.1)⟩
theorem lc_parts {tg iter elt : Expr} {ifs : List Expr} {own : List (Str × Nat)} {t : CT} {src : CI} {cs : CEs} {ce : CE}
    (hi : SI X cl T tg iter src) (hg : ∀ i : Blk, SG (bkC X scope i) cl tg t) (ht : ∀ i : Blk, STs (bkC X scope i) cl T ifs cs) (he : ∀ i : Blk, SE (bkC X scope i) cl T elt ce) (hs : ∀ i ∈ t.slots, i ∈ own.map (·.2)) :
    LcP X cl T scope tg iter elt ifs (.lc own t src cs ce) (own.map (·.2)) := by
  obtain ⟨wi, pi, si⟩ := hi
  obtain ⟨g, pg, sg⟩ := sgB_all hg
  obtain ⟨tt, pt, st⟩ := stsB_all ht
  obtain ⟨te, pe, se⟩ := seB_all he
  refine ⟨wi, g, tt, te, pi, pg, pt, pe, fun Γ FF Z σ H ρ ok r d e1 Q hQ => ?_⟩
  have hl := r.ln
  obtain ⟨ok, ok5⟩ := ands (show (CI.okG Γ src && CEs.okG Γ cs && CE.okG Γ ce && (CI.al Γ src).isEmpty && own.all (fun p => Γ.getD p.2 0 == 0)) = true from ok)
  obtain ⟨ok, ok4⟩ := ands ok
  obtain ⟨ok, ok3⟩ := ands ok
  obtain ⟨ok1, ok2⟩ := ands ok
  have hal : CI.al Γ src = [] := List.isEmpty_iff.mp ok4
  obtain ⟨xs, ex, e1⟩ := bind2 (show (CI.sem T src ρ).bind (fun xs => (lcD (lcF T own t cs ce ρ) xs).map D.lst) = some d from e1)
  obtain ⟨tot, e2, rfl⟩ := Option.map_eq_some_iff.mp e1
  refine si Γ FF Z σ H ρ ok1 r xs ex _ fun J H1 e0 hz G P hP => ?_
  have hP0 : H P = none := Evl.fresh_back e0 hP
  have znP : ∀ {S : List Nat} {a : Addr}, zn FF Z S a → a ≠ P := fun h z => r.zn_there h (by rw [z]; exact hP0)
  refine ⟨fun i m H' => m = xs.length - i ∧ i ≤ xs.length ∧ Ex H1 H' ∧ ∃ dn rs acc, lcD (lcF T own t cs ce ρ) (xs.drop i) = some rs ∧ dn ++ rs = tot ∧ H' P = some (.lst acc) ∧ acc.length ≤ i ∧ Reps X.K cl H' (fun a => zn FF Z (CE.al Γ ce) a ∨ (New H H' a ∧ a ≠ P)) dn acc,
    ⟨xs.length, by simp, Nat.zero_le _, Evl.Ex.new hP, [], tot, [], by simpa using e2, rfl, upd_same, Nat.le_refl _, rfl⟩, ?_⟩
  rintro i m H' ⟨rfl, hi, e3, dn, rs, acc, e4, e5, hp, hacc, rp⟩
  by_cases hlt : i < xs.length
  · obtain ⟨x, hx, hd⟩ := getD_drop hlt
    rw [hd] at e4
    obtain ⟨o, ys, ef, e6, rfl⟩ := lcD_cons e4
    obtain ⟨ρ', eb, ef⟩ := bind2 (show (CT.bind t x (wipeD ρ (own.map (·.2)))).bind (fun ρ' => (CEs.tests T cs ρ').bind fun b => if b then (CE.sem T ce ρ').map some else some none) = some o from ef)
    obtain ⟨b, et, ef⟩ := bind2 ef
    obtain ⟨go, yl⟩ := G.go H' i x (Agr.of_ex e3) hx
    refine .inr ⟨go, _, fun H4 h => ⟨xs.length - (i + 1), by omega, h⟩, fun v H2 y => ?_⟩
    obtain ⟨e7, rv⟩ := yl v H2 y
    have eA : Ex H H2 := (e0.trans e3).trans e7
    have hp2 : H2 P = some (.lst acc) := e7 _ _ hp
    have rv' : Rep X.K cl H2 (zb Z H P H2) x v := Rep.mono (fun _ _ _ h => h) (fun a h => item_zone e0 e3 e7 hP (by rw [hp]; exact fun z => by cases z) hal h) _ _ rv
    refine sg (zb Z H P H2) H2 x v _ _ ρ' rv' eb (by rw [wipe_length, wipeD_length, hl]) _ fun σ2 sd => ?_
    have hw : wipe σ2 (own.map (·.2)) = wipe σ (own.map (·.2)) := wipe_eq (sd.len.trans (wipe_length _ _)) fun j hj => (sd.off j fun h => hj (hs j h)).1
    refine ⟨hw, ?_⟩
    have rS : RSt X.K cl Γ FF (zb Z H P H2) σ2 H2 ρ' := blk_st r eA (fun a h => .inl h) (fun a h => h.elim (fun h => ex_there eA (r.z a h)) fun h => h.1.2) ok5 hs sd
    refine st Γ FF _ σ2 H2 ρ' ok2 rS b et _ fun H3 e8 => ?_
    have rp3 : ∀ {H4 : Hp}, Ex H' H4 → Reps X.K cl H4 (fun a => zn FF Z (CE.al Γ ce) a ∨ (New H H4 a ∧ a ≠ P)) dn acc := fun e => Reps.mono (Agr.of_ex e) (fun a h => h.imp id fun h => ⟨h.1.right e, h.2⟩) _ _ rp
    cases b with
    | false =>
      rw [if_neg Bool.false_ne_true]
      cases (show some none = some o from ef)
      exact ⟨rfl, hlt, (e3.trans e7).trans e8, dn, ys, acc, e6, e5, e8 _ _ hp2, by omega, rp3 (e7.trans e8)⟩
    | true =>
      rw [if_pos rfl]
      obtain ⟨z, ez, rfl⟩ := Option.map_eq_some_iff.mp (show (CE.sem T ce ρ').map some = some o from ef)
      refine se Γ FF _ σ2 H3 ρ' ok3 (rS.ext e8) z ez _ fun w H4 e9 ow => ?_
      have hp4 : H4 P = some (.lst acc) := e9 _ _ (e8 _ _ hp2)
      refine ⟨acc, hp4, by omega, rfl, hlt, Evl.Ex.mut (((e3.trans e7).trans e8).trans e9) hP, dn ++ [z], ys, acc ++ [w], e6, by rw [← e5, List.append_assoc]; rfl, upd_same, by rw [List.length_append]; exact Nat.succ_le_succ hacc, ?_⟩
      have rw' : Rep X.K cl H4 (fun a => zn FF Z (CE.al Γ ce) a ∨ (New H H4 a ∧ a ≠ P)) z w := by
        refine Rep.mono (fun _ _ _ h => h) (fun a h => ?_) _ _ (ow.rep fun a h => zn_mono (CE.sub ce) h)
        rcases h with (h | ⟨j, hj, h⟩) | h
        · rcases h with h | h
          · exact .inl (.inl h)
          · exact .inr ⟨h.1.right (e8.trans e9), h.2⟩
        · exact .inl (.inr ⟨j, hj, h⟩)
        · refine .inr ⟨h.left (eA.trans e8), fun z => ?_⟩
          have := h.1
          rw [z, e8 _ _ hp2] at this
          cases this
      have mv : ∀ {dd : List D} {vv : List V}, Reps X.K cl H4 (fun a => zn FF Z (CE.al Γ ce) a ∨ (New H H4 a ∧ a ≠ P)) dd vv → Reps X.K cl (upd H4 P (.lst (acc ++ [w]))) (fun a => zn FF Z (CE.al Γ ce) a ∨ (New H (upd H4 P (.lst (acc ++ [w]))) a ∧ a ≠ P)) dd vv := fun h => by
        have np : ∀ a, zn FF Z (CE.al Γ ce) a ∨ (New H H4 a ∧ a ≠ P) → a ≠ P := fun a h => h.elim znP fun h => h.2
        refine Reps.mono (fun a o ha h => by rw [upd_ne (np a ha)]; exact h) (fun a h => h.imp id fun h => ⟨⟨h.1.1, by rw [upd_ne h.2]; exact h.1.2⟩, h.2⟩) _ _ h
      exact mv ((rp3 ((e7.trans e8).trans e9)).append ⟨w, [], rfl, rw', rfl⟩)
  · have : i = xs.length := by omega
    subst this
    rw [List.drop_length] at e4
    cases (show some [] = some rs from e4)
    rw [List.append_nil] at e5
    subst e5
    refine .inl ⟨G.stop H' _ (Agr.of_ex e3) (Nat.le_refl _), hQ _ _ (e0.trans e3) ?_⟩
    refine ⟨[P], fun a ha => ?_, by simp, RepO.lst1 hp (Reps.mono (fun _ _ _ h => h) (fun a h => ⟨?_, fun hm => ?_⟩) _ _ rp)⟩
    · obtain rfl := List.mem_singleton.mp ha
      exact ⟨hP0, by rw [hp]; exact fun z => by cases z⟩
    · exact h.imp id fun h => h.1
    · obtain rfl := List.mem_singleton.mp hm
      rcases h with h | h
      · exact znP h rfl
      · exact h.2 rfl
/-! ### dict comprehensions -/
def DcP (X : Cx) (cl : Nat → Addr) (T : Tab) (scope : Scope) (tg iter kx vx : Expr) (c : CE) (vs : List Nat) : Prop := ∃ wi g tk tv, PI X tg iter wi ∧ (∀ i : Blk, PG (bkC X scope i) tg g) ∧ (∀ i : Blk, PE (bkC X scope i) kx tk) ∧ (∀ i : Blk, PE (bkC X scope i) vx tv) ∧
  ∀ Γ FF Z σ H ρ, CE.okG Γ c = true → RSt X.K cl Γ FF Z σ H ρ → ∀ d, CE.sem T c ρ = some d → ∀ Q : VK,
    (∀ v H', Ex H H' → Out X.K cl (CE.lv T c) (zn FF Z (CE.al Γ c)) (zn FF Z (CE.ac Γ c)) H H' d v → Q v H') → tDc wi g tYes tk tv vs σ H Q
theorem repK_any {K : PySem.W.Frag} {H : Hp} {A : Addr → Prop} {q : Key} : ∀ {kvs : List (Key × D)} {ps : List (Key × V)}, RepK K cl H A kvs ps → (kvs.any fun p => decide (p.1 = q)) = (ps.any fun p => decide (p.1 = q))
  | [], ps, h => by
    cases (show ps = [] from h)
    rfl
  | (j, d) :: r, _, h => by
    obtain ⟨v, w, rfl, h1, h2⟩ := h
    rw [List.any_cons, List.any_cons, repK_any h2]
theorem repK_app {K : PySem.W.Frag} {H : Hp} {A : Addr → Prop} : ∀ {kvs kvs2 : List (Key × D)} {ps ps2 : List (Key × V)}, RepK K cl H A kvs ps → RepK K cl H A kvs2 ps2 → RepK K cl H A (kvs ++ kvs2) (ps ++ ps2)
  | [], _, ps, _, h, g => by
    cases (show ps = [] from h)
    exact g
  | (j, d) :: r, _, _, _, h, g => by
    obtain ⟨v, w, rfl, h1, h2⟩ := h
    exact ⟨v, _, rfl, h1, repK_app h2 g⟩
theorem repK_map {K : PySem.W.Frag} {H : Hp} {A : Addr → Prop} {q : Key} {d : D} {v : V} (hv : Rep K cl H A d v) : ∀ {kvs : List (Key × D)} {ps : List (Key × V)}, RepK K cl H A kvs ps → RepK K cl H A (kvs.map fun p => if p.1 = q then (p.1, d) else p) (ps.map fun p => if p.1 = q then (p.1, v) else p)
  | [], ps, h => by
    cases (show ps = [] from h)
    exact rfl
  | (j, e) :: r, _, h => by
    obtain ⟨w, ws, rfl, h1, h2⟩ := h
    have ih := repK_map (q := q) hv h2
    rw [List.map_cons, List.map_cons]
    by_cases hj : j = q
    · rw [if_pos hj, if_pos hj]
      exact ⟨v, _, rfl, hv, ih⟩
    · rw [if_neg hj, if_neg hj]
      exact ⟨w, _, rfl, h1, ih⟩
theorem repK_put {K : PySem.W.Frag} {H : Hp} {A : Addr → Prop} {q : Key} {d : D} {v : V} {kvs : List (Key × D)} {ps : List (Key × V)} (h : RepK K cl H A kvs ps) (hv : Rep K cl H A d v) : RepK K cl H A (putKD q d kvs) (putK ps q v) := by
  unfold putKD putK
  rw [repK_any h]
  split
  · exact repK_map hv h
  · exact repK_app h ⟨v, [], rfl, hv, rfl⟩
theorem dc_parts1 {tg iter kx vx : Expr} {own : List (Str × Nat)} {t : CT} {src : CI} {ck ce : CE}
    (hi : SI X cl T tg iter src) (hg : ∀ i : Blk, SG (bkC X scope i) cl tg t) (hk : ∀ i : Blk, SE (bkC X scope i) cl T kx ck) (he : ∀ i : Blk, SE (bkC X scope i) cl T vx ce) (hs : ∀ i ∈ t.slots, i ∈ own.map (·.2)) (hn : ce.isNil = false) :
    DcP X cl T scope tg iter kx vx (.dc own t src ck ce) (own.map (·.2)) := by
  obtain ⟨wi, pi, si⟩ := hi
  obtain ⟨g, pg, sg⟩ := sgB_all hg
  obtain ⟨tk, pk, sk⟩ := seB_all hk
  obtain ⟨te, pe, se⟩ := seB_all he
  refine ⟨wi, g, tk, te, pi, pg, pk, pe, fun Γ FF Z σ H ρ ok r d e1 Q hQ => ?_⟩
  have hl := r.ln
  obtain ⟨ok, ok5⟩ := ands (show (CI.okG Γ src && CE.okG Γ ck && CE.okG Γ ce && (CI.al Γ src).isEmpty && own.all (fun p => Γ.getD p.2 0 == 0)) = true from ok)
  obtain ⟨ok, ok4⟩ := ands ok
  obtain ⟨ok, ok3⟩ := ands ok
  obtain ⟨ok1, ok2⟩ := ands ok
  have hal : CI.al Γ src = [] := List.isEmpty_iff.mp ok4
  obtain ⟨xs, ex, e1⟩ := bind2 (show (CI.sem T src ρ).bind (fun xs => (dcD ce.isNil (dcF T own t ck ce ρ) [] xs).map D.dct) = some d from e1)
  obtain ⟨tot, e2, rfl⟩ := Option.map_eq_some_iff.mp e1
  rw [hn] at e2
  have hlv : CE.lv T (.dc own t src ck ce) = 1 := by
    show (if ce.isNil then 2 else 1) = 1
    rw [hn]
    rfl
  rw [hlv] at hQ
  refine si Γ FF Z σ H ρ ok1 r xs ex _ fun J H1 e0 hz G P hP => ?_
  have hP0 : H P = none := Evl.fresh_back e0 hP
  have znP : ∀ {S : List Nat} {a : Addr}, zn FF Z S a → a ≠ P := fun h z => r.zn_there h (by rw [z]; exact hP0)
  refine ⟨fun i m H' => m = xs.length - i ∧ i ≤ xs.length ∧ Ex H1 H' ∧ ∃ dn acc, dcD false (dcF T own t ck ce ρ) dn (xs.drop i) = some tot ∧ H' P = some (.dK acc) ∧ acc.length ≤ i ∧ RepK X.K cl H' (fun a => zn FF Z (CE.al Γ ce) a ∨ (New H H' a ∧ a ≠ P)) dn acc,
    ⟨xs.length, by simp, Nat.zero_le _, Evl.Ex.new hP, [], [], by simpa using e2, upd_same, Nat.le_refl _, rfl⟩, ?_⟩
  rintro i m H' ⟨rfl, hi, e3, dn, acc, e4, hp, hacc, rp⟩
  by_cases hlt : i < xs.length
  · obtain ⟨x, hx, hd⟩ := getD_drop hlt
    rw [hd] at e4
    unfold dcD at e4
    obtain ⟨p, ef, e4⟩ := bind2 e4
    have e4 : dcD false (dcF T own t ck ce ρ) (putKD p.1 p.2 dn) (xs.drop (i + 1)) = some tot := e4
    obtain ⟨ρ', eb, ef⟩ := bind2 (show (CT.bind t x (wipeD ρ (own.map (·.2)))).bind (fun ρ' => (CE.sem T ck ρ').bind fun y => (keyD y).bind fun q => (CE.sem T ce ρ').map fun z => (q, z)) = some p from ef)
    obtain ⟨y, ey, ef⟩ := bind2 ef
    obtain ⟨q, eq, ef⟩ := bind2 ef
    obtain ⟨z, ez, rfl⟩ := Option.map_eq_some_iff.mp ef
    obtain ⟨go, yl⟩ := G.go H' i x (Agr.of_ex e3) hx
    refine .inr ⟨go, _, fun H4 h => ⟨xs.length - (i + 1), by omega, h⟩, fun v H2 y' => ?_⟩
    obtain ⟨e7, rv⟩ := yl v H2 y'
    have eA : Ex H H2 := (e0.trans e3).trans e7
    have hp2 : H2 P = some (.dK acc) := e7 _ _ hp
    have rv' : Rep X.K cl H2 (zb Z H P H2) x v := Rep.mono (fun _ _ _ h => h) (fun a h => item_zone e0 e3 e7 hP (by rw [hp]; exact fun z => by cases z) hal h) _ _ rv
    refine sg (zb Z H P H2) H2 x v _ _ ρ' rv' eb (by rw [wipe_length, wipeD_length, hl]) _ fun σ2 sd => ?_
    have hw : wipe σ2 (own.map (·.2)) = wipe σ (own.map (·.2)) := wipe_eq (sd.len.trans (wipe_length _ _)) fun j hj => (sd.off j fun h => hj (hs j h)).1
    refine ⟨hw, ?_⟩
    have rS : RSt X.K cl Γ FF (zb Z H P H2) σ2 H2 ρ' := blk_st r eA (fun a h => .inl h) (fun a h => h.elim (fun h => ex_there eA (r.z a h)) fun h => h.1.2) ok5 hs sd
    have rp3 : ∀ {H4 : Hp}, Ex H' H4 → RepK X.K cl H4 (fun a => zn FF Z (CE.al Γ ce) a ∨ (New H H4 a ∧ a ≠ P)) dn acc := fun e => RepK.mono (Agr.of_ex e) (fun a h => h.imp id fun h => ⟨h.1.right e, h.2⟩) _ _ rp
    show tk σ2 H2 _
    refine sk Γ FF _ σ2 H2 ρ' ok2 rS y ey _ fun u H3 e8 ou => se Γ FF _ σ2 H3 ρ' ok3 (rS.ext e8) z ez _ fun w H4 e9 ow => ?_
    have hp4 : H4 P = some (.dK acc) := e9 _ _ (e8 _ _ hp2)
    obtain rfl := keyD_rep (ou.rep fun a h => zn_mono (CE.sub ck) h) eq
    refine ⟨acc, q, rfl, hp4, by omega, rfl, hlt, Evl.Ex.mut (((e3.trans e7).trans e8).trans e9) hP, putKD q z dn, putK acc q w, e4, upd_same, ?_, ?_⟩
    · have := length_putK acc q w
      omega
    · have rw' : Rep X.K cl H4 (fun a => zn FF Z (CE.al Γ ce) a ∨ (New H H4 a ∧ a ≠ P)) z w := by
        refine Rep.mono (fun _ _ _ h => h) (fun a h => ?_) _ _ (ow.rep fun a h => zn_mono (CE.sub ce) h)
        rcases h with (h | ⟨j, hj, h⟩) | h
        · rcases h with h | h
          · exact .inl (.inl h)
          · exact .inr ⟨h.1.right (e8.trans e9), h.2⟩
        · exact .inl (.inr ⟨j, hj, h⟩)
        · refine .inr ⟨h.left (eA.trans e8), fun z => ?_⟩
          have := h.1
          rw [z, e8 _ _ hp2] at this
          cases this
      have np : ∀ a, zn FF Z (CE.al Γ ce) a ∨ (New H H4 a ∧ a ≠ P) → a ≠ P := fun a h => h.elim znP fun h => h.2
      exact RepK.mono (fun a o ha h => by rw [upd_ne (np a ha)]; exact h) (fun a h => h.imp id fun h => ⟨⟨h.1.1, by rw [upd_ne h.2]; exact h.1.2⟩, h.2⟩) _ _ (repK_put (rp3 ((e7.trans e8).trans e9)) rw')
  · have : i = xs.length := by omega
    subst this
    rw [List.drop_length] at e4
    cases (show some dn = some tot from e4)
    refine .inl ⟨G.stop H' _ (Agr.of_ex e3) (Nat.le_refl _), hQ _ _ (e0.trans e3) ?_⟩
    refine ⟨[P], fun a ha => ?_, by simp, RepO.dct1 hp (RepK.mono (fun _ _ _ h => h) (fun a h => ⟨?_, fun hm => ?_⟩) _ _ rp)⟩
    · obtain rfl := List.mem_singleton.mp ha
      exact ⟨hP0, by rw [hp]; exact fun z => by cases z⟩
    · exact h.imp id fun h => h.1
    · obtain rfl := List.mem_singleton.mp hm
      rcases h with h | h
      · exact znP h rfl
      · exact h.2 rfl
/-- keys with new empty lists at L -/
def NewLs (K : PySem.W.Frag) (H0 H : Hp) (P : Addr) (kd : List (Key × D)) (ps : List (Key × V)) (L : List Addr) : Prop :=
  kd.map (·.1) = ps.map (·.1) ∧ kd.map (·.2) = L.map (fun _ => D.lst []) ∧ ps.map (·.2) = L.map V.ref ∧ L.Nodup ∧ ∀ a ∈ L, New H0 H a ∧ a ≠ P ∧ H a = some (.lst [])
theorem all3_news {K : PySem.W.Frag} {H : Hp} {Z : Addr → Prop} : ∀ {L : List Addr}, (∀ a ∈ L, H a = some (.lst [])) → All3 (RepO K cl H Z 1) (L.map fun _ => D.lst []) (L.map V.ref) (L.map fun a => [a])
  | [], _ => trivial
  | a :: L, h => ⟨.inr ⟨a, [], rfl, rfl, .inl ⟨[], [], rfl, h a List.mem_cons_self, trivial⟩⟩, all3_news fun b hb => h b (List.mem_cons_of_mem _ hb)⟩
theorem flat_ones {α : Type} : ∀ (L : List α), (L.map fun a => [a]).flatten = L
  | [] => rfl
  | a :: L => congrArg (a :: ·) (flat_ones L)
theorem nil_new {K : PySem.W.Frag} {B0 B1 : Addr → Prop} {H H' : Hp} {v : V} (o : Out K cl 1 B0 B1 H H' (.lst []) v) : ∃ a, v = .ref a ∧ New H H' a ∧ H' a = some (.lst []) := by
  obtain ⟨F, hF, nd, r⟩ := o
  rcases r with ⟨m, _⟩ | ⟨a, Fs, e1, e2, r⟩
  · cases m
  · refine ⟨a, e1, hF a (by rw [e2]; exact List.mem_cons_self), ?_⟩
    rcases r with ⟨ds, vs, ed, ha, hh⟩ | ⟨kvs, ps, ed, _⟩ | ⟨c, dx, fs, ps, ed, _⟩
    · cases ed
      have := hh.length.1
      cases vs with
      | nil => exact ha
      | cons _ _ => cases this
    · cases ed
    · cases ed
theorem dc_parts2 {tg iter kx vx : Expr} {own : List (Str × Nat)} {t : CT} {src : CI} {ck : CE}
    (hi : SI X cl T tg iter src) (hg : ∀ i : Blk, SG (bkC X scope i) cl tg t) (hk : ∀ i : Blk, SE (bkC X scope i) cl T kx ck) (he : ∀ i : Blk, SE (bkC X scope i) cl T vx (.lst .nil)) (hs : ∀ i ∈ t.slots, i ∈ own.map (·.2)) :
    DcP X cl T scope tg iter kx vx (.dc own t src ck (.lst .nil)) (own.map (·.2)) := by
  obtain ⟨wi, pi, si⟩ := hi
  obtain ⟨g, pg, sg⟩ := sgB_all hg
  obtain ⟨tk, pk, sk⟩ := seB_all hk
  obtain ⟨te, pe, se⟩ := seB_all he
  refine ⟨wi, g, tk, te, pi, pg, pk, pe, fun Γ FF Z σ H ρ ok r d e1 Q hQ => ?_⟩
  have hl := r.ln
  obtain ⟨ok, ok5⟩ := ands (show (CI.okG Γ src && CE.okG Γ ck && CE.okG Γ (.lst .nil) && (CI.al Γ src).isEmpty && own.all (fun p => Γ.getD p.2 0 == 0)) = true from ok)
  obtain ⟨ok, ok4⟩ := ands ok
  obtain ⟨ok, ok3⟩ := ands ok
  obtain ⟨ok1, ok2⟩ := ands ok
  have hal : CI.al Γ src = [] := List.isEmpty_iff.mp ok4
  obtain ⟨xs, ex, e1⟩ := bind2 (show (CI.sem T src ρ).bind (fun xs => (dcD true (dcF T own t ck (.lst .nil) ρ) [] xs).map D.dct) = some d from e1)
  obtain ⟨tot, e2, rfl⟩ := Option.map_eq_some_iff.mp e1
  refine si Γ FF Z σ H ρ ok1 r xs ex _ fun J H1 e0 hz G P hP => ?_
  have hP0 : H P = none := Evl.fresh_back e0 hP
  refine ⟨fun i m H' => m = xs.length - i ∧ i ≤ xs.length ∧ Ex H1 H' ∧ ∃ dn acc L, dcD true (dcF T own t ck (.lst .nil) ρ) dn (xs.drop i) = some tot ∧ H' P = some (.dK acc) ∧ acc.length ≤ i ∧ NewLs X.K H H' P dn acc L,
    ⟨xs.length, by simp, Nat.zero_le _, Evl.Ex.new hP, [], [], [], by simpa using e2, upd_same, Nat.le_refl _, rfl, rfl, rfl, List.nodup_nil, fun a h => by cases h⟩, ?_⟩
  rintro i m H' ⟨rfl, hi, e3, dn, acc, L, e4, hp, hacc, n1, n2, n3, n4, n5⟩
  by_cases hlt : i < xs.length
  · obtain ⟨x, hx, hd⟩ := getD_drop hlt
    rw [hd] at e4
    unfold dcD at e4
    obtain ⟨p, ef, e4⟩ := bind2 e4
    obtain ⟨hnk, e4⟩ := Option.ite_none_left_eq_some.mp e4
    obtain ⟨ρ', eb, ef⟩ := bind2 (show (CT.bind t x (wipeD ρ (own.map (·.2)))).bind (fun ρ' => (CE.sem T ck ρ').bind fun y => (keyD y).bind fun q => (CE.sem T (.lst .nil) ρ').map fun z => (q, z)) = some p from ef)
    obtain ⟨y, ey, ef⟩ := bind2 ef
    obtain ⟨q, eq, ef⟩ := bind2 ef
    cases (show some (q, D.lst []) = some p from ef)
    have hnk : (dn.any fun p => decide (p.1 = q)) = false := Bool.eq_false_iff.mpr fun h => hnk h
    have hnk2 : (acc.any fun p => decide (p.1 = q)) = false := by
      have h1 : ∀ {α : Type} (l : List (Key × α)), (l.any fun p => decide (p.1 = q)) = ((l.map (·.1)).any fun j => decide (j = q)) := fun l => by rw [List.any_map]; rfl
      rw [h1, ← n1, ← h1]
      exact hnk
    have e4 : dcD true (dcF T own t ck (.lst .nil) ρ) (dn ++ [(q, .lst [])]) (xs.drop (i + 1)) = some tot := by
      have : putKD q (.lst []) dn = dn ++ [(q, .lst [])] := by
        unfold putKD
        rw [hnk, if_neg Bool.false_ne_true]
      rw [← this]
      exact e4
    obtain ⟨go, yl⟩ := G.go H' i x (Agr.of_ex e3) hx
    refine .inr ⟨go, _, fun H4 h => ⟨xs.length - (i + 1), by omega, h⟩, fun v H2 y' => ?_⟩
    obtain ⟨e7, rv⟩ := yl v H2 y'
    have eA : Ex H H2 := (e0.trans e3).trans e7
    have hp2 : H2 P = some (.dK acc) := e7 _ _ hp
    have rv' : Rep X.K cl H2 (zb Z H P H2) x v := Rep.mono (fun _ _ _ h => h) (fun a h => item_zone e0 e3 e7 hP (by rw [hp]; exact fun z => by cases z) hal h) _ _ rv
    refine sg (zb Z H P H2) H2 x v _ _ ρ' rv' eb (by rw [wipe_length, wipeD_length, hl]) _ fun σ2 sd => ?_
    have hw : wipe σ2 (own.map (·.2)) = wipe σ (own.map (·.2)) := wipe_eq (sd.len.trans (wipe_length _ _)) fun j hj => (sd.off j fun h => hj (hs j h)).1
    refine ⟨hw, ?_⟩
    have rS : RSt X.K cl Γ FF (zb Z H P H2) σ2 H2 ρ' := blk_st r eA (fun a h => .inl h) (fun a h => h.elim (fun h => ex_there eA (r.z a h)) fun h => h.1.2) ok5 hs sd
    show tk σ2 H2 _
    refine sk Γ FF _ σ2 H2 ρ' ok2 rS y ey _ fun u H3 e8 ou => se Γ FF _ σ2 H3 ρ' ok3 (rS.ext e8) (.lst []) rfl _ fun w H4 e9 ow => ?_
    have hp4 : H4 P = some (.dK acc) := e9 _ _ (e8 _ _ hp2)
    obtain rfl := keyD_rep (ou.rep fun a h => zn_mono (CE.sub ck) h) eq
    obtain ⟨a, rfl, na, ha⟩ := nil_new ow
    have haP : a ≠ P := fun z => by
      have := na.1
      rw [z, e8 _ _ hp2] at this
      cases this
    have haL : a ∉ L := fun hm => by
      obtain ⟨_, _, h3⟩ := n5 a hm
      have := na.1
      rw [e8 _ _ (e7 _ _ h3)] at this
      cases this
    have hput : putK acc q (.ref a) = acc ++ [(q, .ref a)] := by
      unfold putK
      rw [hnk2, if_neg Bool.false_ne_true]
    refine ⟨acc, q, rfl, hp4, by omega, rfl, hlt, Evl.Ex.mut (((e3.trans e7).trans e8).trans e9) hP, dn ++ [(q, .lst [])], putK acc q (.ref a), L ++ [a], e4, upd_same, ?_, ?_⟩
    · have := length_putK acc q (.ref a)
      omega
    · rw [hput]
      refine ⟨by simp [n1], by simp [n2], by simp [n3], ?_, fun b hb => ?_⟩
      · rw [List.nodup_append]
        refine ⟨n4, by simp, fun b hb c hc => ?_⟩
        obtain rfl := List.mem_singleton.mp hc
        exact fun z => haL (by rw [← z]; exact hb)
      · have hbP : b ≠ P ∧ New H H4 b ∧ H4 b = some (.lst []) := by
          rcases List.mem_append.mp hb with hb | hb
          · obtain ⟨h1, h2, h3⟩ := n5 b hb
            have eB := (e7.trans e8).trans e9
            exact ⟨h2, h1.right eB, eB _ _ h3⟩
          · obtain rfl := List.mem_singleton.mp hb
            exact ⟨haP, na.left (eA.trans e8), ha⟩
        obtain ⟨h1, h2, h3⟩ := hbP
        exact ⟨⟨h2.1, by rw [upd_ne h1]; exact h2.2⟩, h1, by rw [upd_ne h1]; exact h3⟩
  · have : i = xs.length := by omega
    subst this
    rw [List.drop_length] at e4
    cases (show some dn = some tot from e4)
    refine .inl ⟨G.stop H' _ (Agr.of_ex e3) (Nat.le_refl _), hQ _ _ (e0.trans e3) ?_⟩
    refine ⟨P :: L, fun a ha => ?_, ?_, .inr ⟨P, L.map fun a => [a], rfl, by rw [flat_ones], .inr (.inl ⟨_, acc, rfl, hp, n1, ?_⟩)⟩⟩
    · rcases List.mem_cons.mp ha with rfl | ha
      · exact ⟨hP0, by rw [hp]; exact fun z => by cases z⟩
      · exact (n5 a ha).1
    · exact List.nodup_cons.mpr ⟨fun h => (n5 P h).2.1 rfl, n4⟩
    · rw [n2, n3]
      exact all3_news fun a ha => (n5 a ha).2.2
/-! ### as values -/
theorem se_lc {tg iter elt : Expr} {ifs : List Expr} {c : CE} {own : List (Str × Nat)} {pos : Pos} (hx : XOk X cl T k) (ok : BlkOk X.N X.env.scope scope own) (hN : noSet iter = true) (h : LcP X cl T scope tg iter elt ifs c (own.map (·.2))) :
    SE X cl T (.ListComp elt [⟨tg, iter, ifs, 0⟩] scope pos) c := by
  obtain ⟨wi, g, tt, te, pi, pg, pt, pe, s⟩ := h
  exact ⟨_, pe_lc hx.calm hx.nd pi ok (fun s H C c fp => pg (s, H, C, c, fp)) (fun s H C c fp => pt (s, H, C, c, fp)) (fun s H C c fp => pe (s, H, C, c, fp)) (fun x => folded_ok hN _ x), s⟩
theorem se_dc {tg iter kx vx : Expr} {c : CE} {own : List (Str × Nat)} {pos : Pos} (hx : XOk X cl T k) (ok : BlkOk X.N X.env.scope scope own) (hN : noSet iter = true) (h : DcP X cl T scope tg iter kx vx c (own.map (·.2))) :
    SE X cl T (.DictComp kx vx [⟨tg, iter, [], 0⟩] scope pos) c := by
  obtain ⟨wi, g, tk, te, pi, pg, pk, pe, s⟩ := h
  exact ⟨_, pe_dc hx.calm hx.nd pi ok (fun s H C c fp => pg (s, H, C, c, fp)) (fun s H C c fp => pts_nil) (fun s H C c fp => pk (s, H, C, c, fp)) (fun s H C c fp => pe (s, H, C, c, fp)) (fun x => folded_ok hN _ x), s⟩
theorem sw_trueD {kx vx : Expr} {gs : List Comprehension} {scope : Scope} {pos py : Pos} {y : Str} {l : Nat} {env : PySem.Env} (hk : env.scope.kind = .function) (hy : env.scope.names.lookup y = some .local) (hl : (py.line == pos.line) = true)
    (ha : (scope.names.any fun (n, k) => n == y && (k == .local || k == .cell)) = false) : swapsWith (.DictComp kx vx gs scope pos) (some (.Name y py)) l env = pure true := by
  unfold swapsWith
  have bk : env.blockKind = .function := by
    rw [Env.blockKind, hk]
    rfl
  simp only [bk, show env.kindOf y = some .local from hy, ha, hl, Expr.pos]
  rfl
/-- the name of a local takes the new dict: the comprehension's own assignment, on one line -/
theorem ps_setDc {i : Nat} {y : Str} {py : Pos} {kx vx tg iter : Expr} {scope : Scope} {own : List (Str × Nat)} {pos spos : Pos} {wi : TI} {g : TG} {tk tv : TE} (hc : X.calm = true) (hN : X.N.Nodup) (hy : X.N[i]? = some y) (hyl : X.env.scope.names.lookup y = some .local)
    (hsw : swapsWith (.DictComp kx vx [⟨tg, iter, [], 0⟩] scope pos) (some (.Name y py)) spos.line X.env = pure true) (hi : PI X tg iter wi) (ok : BlkOk X.N X.env.scope scope own)
    (pg : ∀ b : Blk, PG (bkC X scope b) tg g) (pk : ∀ b : Blk, PE (bkC X scope b) kx tk) (pv : ∀ b : Blk, PE (bkC X scope b) vx tv) (hs : ∀ x, foldedSetIterable iter X.env x = pure x) :
    PS X (.Assign [.Name y py] (.DictComp kx vx [⟨tg, iter, [], 0⟩] scope pos) spos) (tAsg (tDc wi g tYes tk tv (own.map (·.2))) (gName i)) where
  run pins s σ H Post inv h := by
    rw [exec_Assign_Name_used (hs := hsw)]
    have h : tDc wi g tYes tk tv (own.map (·.2)) σ H (fun x H1 => gName i x σ H1 Post.nx) := h
    apply wpAny_bind
    refine wpAny_standAt (wpAny_bind ?_)
    show wpAny _ X.A (do let _ ← comprehension (.DictComp kx vx [⟨tg, iter, [], 0⟩] scope pos) scope X.env (firstIterPos [⟨tg, iter, [], 0⟩] pos) newDict false (eval iter X.env) (some (assign (.Name y py) X.env))) _ _ s
    refine wpAny_bind (thn (dc_core (Qf := fun _ s' => SP X pins Post .next s') hc hN inv hi ok (fun s H C c fp => pg (s, H, C, c, fp)) (fun _ _ _ _ _ => pts_nil) (fun s H C c fp => pk (s, H, C, c, fp)) (fun s H C c fp => pv (s, H, C, c, fp)) hs h
      fun L C s' m H' inv' q ns fp => ?_) fun _ _ done => wpAny_pure (wpAny_pure done))
    show wpAny _ _ (assign (.Name y py) X.env (Value.ref L)) _ _ _
    refine wpAny_assign_Name (store_ok2 (v := V.ref L) inv' hN hy (.inl hyl) rfl (fun s2 inv2 told => ?_) (.inr hyl))
    obtain ⟨a, same, place⟩ := told
    have apart : C ≠ a := place.elim (fun z => z ▸ fp.2.1) fun z w => fp.2.2.2.2.1 y a z w.symm
    exact ⟨m, ns.sameBut same apart, fun h3 same3 => ⟨_, H', inv2.turned (t' := s2.toks) (fun b _ hb e => (same3.2 b hb).trans e) fp.1 fp.2.1 fp.2.2.2.1 fp.2.2.2.2.1 fp.2.2.2.2.2, q⟩⟩
/-- list(range(..)) -/
theorem reps_rg {K : PySem.W.Frag} {H : Hp} {A : Addr → Prop} {i j : Int} {xs : List D} (h : rngD i j = some xs) : Reps K cl H A xs (rgV i j) := by
  obtain ⟨_, h⟩ := Option.ite_none_right_eq_some.mp h
  cases h
  have : ∀ (l : List Nat), Reps K cl H A (l.map fun k : Nat => D.int (i + (k : Int))) (l.map fun k : Nat => V.int (i + (k : Int))) := fun l => by
    induction l with
    | nil => exact rfl
    | cons a l ih => exact ⟨_, _, rfl, rfl, ih⟩
  exact this _
theorem rgOk {i j : Int} {xs : List D} (h : rngD i j = some xs) : RgOk i j := by
  obtain ⟨h, _⟩ := Option.ite_none_right_eq_some.mp h
  exact ⟨by omega, by omega, by omega, by omega, by omega⟩
theorem se_lstr1 {e : Expr} {c : CE} {p p2 pos pos2 : Pos} (hx : XOk X cl T k) (hg : Gl X "list") (hg2 : Gl X "range") (he : kindE e = true) (h : SE X cl T e c) :
    SE X cl T (.Call (.Name "list" p) [.Call (.Name "range" p2) [e] [] pos2] [] pos) (.lstr (.rng1 c)) := by
  obtain ⟨t, pe, s⟩ := h
  refine ⟨_, pe_listRg hx.calm hg (hx.bl _ (by decide +kernel)) (prg_1 hg2 (hx.bl _ (by decide +kernel)) pe (star_ok he _ _)), fun Γ FF Z σ H ρ ok r d e1 Q hQ => ?_⟩
  obtain ⟨xs, e2, rfl⟩ := Option.map_eq_some_iff.mp (show (CI.sem T (.rng1 c) ρ).map D.lst = some d from e1)
  obtain ⟨x, ex, e2⟩ := bind2 (show (CE.sem T c ρ).bind (fun x => match x with
    | .int i => rngD 0 i
    | _ => none) = some xs from e2)
  cases x with
  | int i =>
    refine s Γ FF Z σ H ρ ok r _ ex _ fun v H1 e3 o => ?_
    cases (show v = _ from o.rep fun a h => zn_mono (CE.sub c) h)
    exact ⟨i, rfl, rgOk e2, fun q hq => hQ _ _ (e3.trans (Evl.Ex.new hq)) (Out.newL (fun a h => r.zn_there h) e3 hq (reps_rg e2))⟩
  | _ => cases e2
theorem se_lstr2 {e f : Expr} {c c2 : CE} {p p2 pos pos2 : Pos} (hx : XOk X cl T k) (hg : Gl X "list") (hg2 : Gl X "range") (he : kindE e = true) (hf : kindE f = true) (h : SE X cl T e c) (h2 : SE X cl T f c2) :
    SE X cl T (.Call (.Name "list" p) [.Call (.Name "range" p2) [e, f] [] pos2] [] pos) (.lstr (.rng2 c c2)) := by
  obtain ⟨t, pe, s⟩ := h
  obtain ⟨t2, pe2, s2⟩ := h2
  refine ⟨_, pe_listRg hx.calm hg (hx.bl _ (by decide +kernel)) (prg_2 hg2 (hx.bl _ (by decide +kernel)) pe pe2 (star_ok he _ _) (star_ok hf _ _) (back_any (by simp [hf]) _ _)), fun Γ FF Z σ H ρ ok r d e1 Q hQ => ?_⟩
  obtain ⟨xs, e2, rfl⟩ := Option.map_eq_some_iff.mp (show (CI.sem T (.rng2 c c2) ρ).map D.lst = some d from e1)
  obtain ⟨x, ex, e2⟩ := bind2 (show (CE.sem T c ρ).bind (fun x => (CE.sem T c2 ρ).bind fun y => match x, y with
    | .int i, .int j => rngD i j
    | _, _ => none) = some xs from e2)
  obtain ⟨y, ey, e2⟩ := bind2 e2
  obtain ⟨ok1, ok2⟩ := ands (show (CE.okG Γ c && CE.okG Γ c2) = true from ok)
  cases x with
  | int i =>
    cases y with
    | int j =>
      refine s Γ FF Z σ H ρ ok1 r _ ex _ fun v H1 e3 o => s2 Γ FF Z σ H1 ρ ok2 (r.ext e3) _ ey _ fun w H2 e4 o2 => ?_
      cases (show v = _ from o.rep fun a h => zn_mono (CE.sub c) h)
      cases (show w = _ from o2.rep fun a h => zn_mono (CE.sub c2) h)
      exact ⟨i, j, rfl, rfl, rgOk e2, fun q hq => hQ _ _ ((e3.trans e4).trans (Evl.Ex.new hq)) (Out.newL (fun a h => r.zn_there h) (e3.trans e4) hq (reps_rg e2))⟩
    | _ => cases e2
  | _ => cases y <;> cases e2
end
end PV

set_option Elab.async false
set_option linter.all false
set_option maxRecDepth 100000
set_option maxHeartbeats 2000000
/-! PV11: statements. -/
namespace PV
open PySem L2 PyProof.Rows
open Evl (Ex)
/-! ### the writing state -/
structure WSt (K : PySem.W.Frag) (cl : Nat → Addr) (Γ : List Nat) (A : Addr → Prop) (H0 : Hp) (FF : Nat → List Addr) (Z : Addr → Prop) (σ : L2.St) (H : Hp) (ρ : Env) : Prop where
  r : RSt K cl Γ FF Z σ H ρ
  disj : ∀ i j a, i ≠ j → a ∈ FF i → a ∉ FF j
  nd : ∀ i, (FF i).Nodup
  dz : ∀ i a, a ∈ FF i → ¬ Z a
  nf : ∀ i a, a ∈ FF i → H0 a = none
  zz : ∀ a, Z a → A a ∨ New H0 H a
  ex : Ex H0 H
/-- marks: slot i is stored, slot i's object is changed -/
def wa (i : Nat) : Nat := 2 * i + 1
def wm (i : Nat) : Nat := 2 * i
/-- what stays -/
structure Step (W : List Nat) (FF : Nat → List Addr) (Z : Addr → Prop) (H : Hp) (FF' : Nat → List Addr) (Z' : Addr → Prop) (H' : Hp) : Prop where
  z : ∀ a, Z a → Z' a
  zo : ∀ a o, Z a → H a = some o → H' a = some o
  f : ∀ i, wa i ∉ W → FF' i = FF i
  fo : ∀ i, wm i ∉ W → wa i ∉ W → ∀ a o, a ∈ FF i → H a = some o → H' a = some o
section
variable {K : PySem.W.Frag} {cl : Nat → Addr} {Γ : List Nat} {A : Addr → Prop} {H0 H H' H'' : Hp} {FF FF' FF'' : Nat → List Addr} {Z Z' Z'' : Addr → Prop} {σ σ' : L2.St} {ρ ρ' : Env} {W W' : List Nat}
theorem Step.refl : Step W FF Z H FF Z H := ⟨fun _ h => h, fun _ _ _ h => h, fun _ _ => rfl, fun _ _ _ _ _ _ h => h⟩
theorem Step.trans (a : Step W FF Z H FF' Z' H') (b : Step W FF' Z' H' FF'' Z'' H'') : Step W FF Z H FF'' Z'' H'' :=
  ⟨fun x h => b.z x (a.z x h), fun x o h e => b.zo x o (a.z x h) (a.zo x o h e), fun i h => (b.f i h).trans (a.f i h), fun i h h2 x o hx e => b.fo i h h2 x o (by rw [a.f i h2]; exact hx) (a.fo i h h2 x o hx e)⟩
theorem Step.weak (h : ∀ i, i ∈ W → i ∈ W') (a : Step W FF Z H FF' Z' H') : Step W' FF Z H FF' Z' H' :=
  ⟨a.z, a.zo, fun i hi => a.f i fun x => hi (h _ x), fun i hi h2 => a.fo i (fun x => hi (h _ x)) fun x => h2 (h _ x)⟩
theorem Step.ext (e : Ex H H') : Step W FF Z H FF Z H' := ⟨fun _ h => h, fun _ _ _ h => e _ _ h, fun _ _ => rfl, fun _ _ _ _ _ _ h => e _ _ h⟩
theorem WSt.ext (w : WSt K cl Γ A H0 FF Z σ H ρ) (e : Ex H H') : WSt K cl Γ A H0 FF Z σ H' ρ :=
  ⟨w.r.ext e, w.disj, w.nd, w.dz, w.nf, fun a h => (w.zz a h).imp id fun n => n.right e, w.ex.trans e⟩
/-- what is loose is frozen -/
theorem WSt.freeze (w : WSt K cl Γ A H0 FF Z σ H ρ) (e : Ex H H') : WSt K cl Γ A H0 FF (fun a => Z a ∨ New H H' a) σ H' ρ := by
  have w1 := w.ext e
  refine ⟨⟨fun i d h => ?_, fun a h => h.elim (w1.r.z a) fun h => h.2, w1.r.f, w1.r.lz, w1.r.ln⟩, w.disj, w.nd, fun i a h z => ?_, w.nf, fun a h => ?_, w1.ex⟩
  · obtain ⟨v, h1, h2⟩ := w1.r.sl i d h
    exact ⟨v, h1, RepO.mono _ (fun _ _ _ h => h) (fun _ h => .inl h) h2⟩
  · rcases z with z | z
    · exact w.dz i a h z
    · exact w.r.f i a h z.1
  · rcases h with h | h
    · exact w1.zz a h
    · exact .inr (h.left w.ex)
theorem Step.freeze (e : Ex H H') : Step W FF Z H FF (fun a => Z a ∨ New H H' a) H' := ⟨fun _ h => .inl h, fun _ _ _ h => e _ _ h, fun _ _ => rfl, fun _ _ _ _ _ _ h => e _ _ h⟩
def upF (FF : Nat → List Addr) (i : Nat) (F : List Addr) : Nat → List Addr := fun j => if j = i then F else FF j
theorem upF_same {i : Nat} {F : List Addr} : upF FF i F i = F := if_pos rfl
theorem upF_ne {i j : Nat} {F : List Addr} (h : j ≠ i) : upF FF i F j = FF j := if_neg h
/-- a slot is written, its own objects may change -/
theorem WSt.put {i : Nat} {F : List Addr} (w : WSt K cl Γ A H0 FF Z σ H ρ) (hs : ∀ j, j ≠ i → σ'[j]? = σ[j]? ∧ ρ'[j]? = ρ[j]?) (hl : σ'.length = ρ'.length)
    (hv : ∀ d, ρ'[i]? = some (some d) → ∃ v, σ'[i]? = some (some v) ∧ RepO K cl H' Z' (Γ.getD i 0) d v F)
    (hH : ∀ a o, a ∉ FF i → H a = some o → H' a = some o) (hZ : ∀ a, Z a → Z' a) (hZ' : ∀ a, Z' a → Z a ∨ New H H' a) (hZF : ∀ a, a ∈ F → ¬ Z' a)
    (hF : ∀ a, a ∈ F → (a ∈ FF i ∨ New H H' a) ∧ H' a ≠ none) (hnd : F.Nodup) (h0 : Γ.getD i 0 = 0 → F = []) (hFi : ∀ a, a ∈ FF i → H' a ≠ none) :
    WSt K cl Γ A H0 (upF FF i F) Z' σ' H' ρ' ∧ Step [wa i] FF Z H (upF FF i F) Z' H' := by
  have zo : ∀ a o, Z a → H a = some o → H' a = some o := fun a o h e => hH a o (fun hm => w.dz i a hm h) e
  have fo : ∀ j, j ≠ i → ∀ a o, a ∈ FF j → H a = some o → H' a = some o := fun j hj a o h e => hH a o (fun hm => w.disj j i a hj h hm) e
  have there : ∀ a, H a ≠ none → H' a ≠ none := fun a h => by
    by_cases hm : a ∈ FF i
    · exact hFi a hm
    · cases q : H a with
      | none => exact absurd q h
      | some o =>
        rw [hH a o hm q]
        exact fun z => by cases z
  have nn : ∀ a, H0 a ≠ none → a ∉ FF i := fun a h hm => h (w.nf i a hm)
  refine ⟨⟨⟨fun j d h => ?_, fun a h => ?_, fun j a h => ?_, fun j h => ?_, hl⟩, fun j k a hjk h1 h2 => ?_, fun j => ?_, fun j a h z => ?_, fun j a h => ?_, fun a h => ?_, fun a o h => ?_⟩, ⟨hZ, zo, fun j hj => ?_, fun j _ hj => ?_⟩⟩
  · by_cases hj : j = i
    · subst hj
      rw [upF_same]
      exact hv d h
    · rw [upF_ne hj]
      rw [(hs j hj).2] at h
      obtain ⟨v, h1, h2⟩ := w.r.sl j d h
      refine ⟨v, by rw [(hs j hj).1]; exact h1, RepO.mono _ (fun a o ha e => ?_) hZ h2⟩
      rcases ha with ha | ha
      · exact zo a o ha e
      · exact fo j hj a o ha e
  · rcases hZ' a h with h | h
    · exact there a (w.r.z a h)
    · exact h.2
  · by_cases hj : j = i
    · subst hj
      rw [upF_same] at h
      exact (hF a h).2
    · rw [upF_ne hj] at h
      exact there a (w.r.f j a h)
  · by_cases hj : j = i
    · subst hj
      rw [upF_same]
      exact h0 h
    · rw [upF_ne hj]
      exact w.r.lz j h
  · by_cases hj : j = i
    · subst hj
      rw [upF_same] at h1
      rw [upF_ne (fun z => hjk z.symm)] at h2
      rcases (hF a h1).1 with h | h
      · exact w.disj j k a hjk h h2
      · exact w.r.f k a h2 h.1
    · rw [upF_ne hj] at h1
      by_cases hk : k = i
      · subst hk
        rw [upF_same] at h2
        rcases (hF a h2).1 with h | h
        · exact w.disj j k a hjk h1 h
        · exact w.r.f j a h1 h.1
      · rw [upF_ne hk] at h2
        exact w.disj j k a hjk h1 h2
  · by_cases hj : j = i
    · subst hj
      rw [upF_same]
      exact hnd
    · rw [upF_ne hj]
      exact w.nd j
  · by_cases hj : j = i
    · subst hj
      rw [upF_same] at h
      exact hZF a h z
    · rw [upF_ne hj] at h
      rcases hZ' a z with z | z
      · exact w.dz j a h z
      · exact w.r.f j a h z.1
  · by_cases hj : j = i
    · subst hj
      rw [upF_same] at h
      rcases (hF a h).1 with h | h
      · exact w.nf j a h
      · exact (h.left w.ex).1
    · rw [upF_ne hj] at h
      exact w.nf j a h
  · rcases hZ' a h with h | h
    · refine (w.zz a h).imp id fun n => ⟨n.1, there a n.2⟩
    · exact .inr (h.left w.ex)
  · exact hH a o (nn a (by rw [h]; exact fun z => by cases z)) (w.ex a o h)
  · exact upF_ne fun z => hj (by rw [z]; exact List.mem_singleton.mpr rfl)
  · exact fo j fun z => hj (by rw [z]; exact List.mem_singleton.mpr rfl)
/-- slots of level 0 are stored -/
theorem WSt.stored {S : List Nat} (w : WSt K cl Γ A H0 FF Z σ H ρ) (h0 : ∀ i ∈ S, Γ.getD i 0 = 0) (st : Stored K cl H Z S σ σ' ρ ρ') : WSt K cl Γ A H0 FF Z σ' H ρ' := by
  refine ⟨⟨fun i d h => ?_, w.r.z, w.r.f, w.r.lz, by rw [st.len, st.lenr, w.r.ln]⟩, w.disj, w.nd, w.dz, w.nf, w.zz, w.ex⟩
  by_cases hi : i ∈ S
  · obtain ⟨v, h1, h2⟩ := st.on i hi d h
    refine ⟨v, h1, ?_⟩
    rw [h0 i hi]
    exact ⟨w.r.lz i (h0 i hi), h2⟩
  · obtain ⟨o1, o2⟩ := st.off i hi
    rw [o2] at h
    obtain ⟨v, h1, h2⟩ := w.r.sl i d h
    exact ⟨v, by rw [o1]; exact h1, h2⟩
end
/-! ### what is written, what the levels must be -/
mutual
def CS.wr : CS → List Nat
  | .asg t _ => t.slots.map wa | .par i j _ _ => [wa i, wa j] | .aug i _ _ => [wa i] | .setix i _ _ => [wm i] | .augix i _ _ _ => [wm i]
  | .app i _ => [wm i] | .ext i _ => [wm i] | .upd i _ => [wm i] | .appAt i _ _ => [wm i] | .sdApp i _ _ => [wm i] | .appPop i j _ => [wm i, wm j]
  | .setf i _ _ _ => [wm i] | .ife _ a b => CB.wr a ++ CB.wr b | .whl _ b => CB.wr b | .fr t _ b => t.slots.map wa ++ CB.wr b
  | _ => []
def CB.wr : CB → List Nat
  | .nil => []
  | .cons s b => CS.wr s ++ CB.wr b
end
def CE.isSc : CE → Bool
  | .sc _ => true | .cD d => d.flat | .cmp _ _ _ => true | .cmp2 _ _ _ _ _ => true | .not _ => true
  | _ => false
theorem isSc_flat {T : Tab} {ρ : Env} {d : D} : ∀ {c : CE}, c.isSc = true → CE.sem T c ρ = some d → d.flat = true
  | .sc a, _, h => by
    obtain ⟨x, ex, e1⟩ := bind2 (show (CE.sem T a ρ).bind scD = some d from h)
    cases x <;> first | (cases e1; done) | (cases e1; rfl)
  | .cD e, hs, h => by
    cases (show some e = some d from h)
    exact hs
  | .cmp op a b, _, h => by
    obtain ⟨x, ex, h⟩ := bind2 (show (CE.sem T a ρ).bind (fun x => (CE.sem T b ρ).bind fun y => (cmpD op x y).map D.bl) = some d from h)
    obtain ⟨y, ey, h⟩ := bind2 h
    obtain ⟨z, _, rfl⟩ := Option.map_eq_some_iff.mp h
    rfl
  | .cmp2 o1 o2 a b c, _, h => by
    obtain ⟨x, ex, h⟩ := bind2 (show (CE.sem T a ρ).bind (fun x => (CE.sem T b ρ).bind fun y => (cmpD o1 x y).bind fun k =>
      if k then (CE.sem T c ρ).bind fun z => (cmpD o2 y z).map D.bl else some (.bl false)) = some d from h)
    obtain ⟨y, ey, h⟩ := bind2 h
    obtain ⟨q, eq, h⟩ := bind2 h
    cases q with
    | true =>
      obtain ⟨z, ez, h⟩ := bind2 (show (CE.sem T c ρ).bind (fun z => (cmpD o2 y z).map D.bl) = some d from h)
      obtain ⟨w, _, rfl⟩ := Option.map_eq_some_iff.mp h
      rfl
    | false =>
      cases (show some (D.bl false) = some d from h)
      rfl
  | .not a, _, h => by
    obtain ⟨x, ex, h⟩ := bind2 (show (CE.sem T a ρ).bind (fun x => (truD x).map fun k => D.bl (!k)) = some d from h)
    obtain ⟨w, _, rfl⟩ := Option.map_eq_some_iff.mp h
    rfl
def asgOk (T : Tab) (Γ : List Nat) : CT → CE → Bool
  | .nm i, e => if Γ.getD i 0 = 0 then (CE.al Γ e).isEmpty else e.isSc || (Γ.getD i 0 == CE.lv T e && (CE.ac Γ e).isEmpty)
  | .tp ts, e => (CE.al Γ e).isEmpty && (CTs.slots ts).all fun i => Γ.getD i 0 == 0
def retOk (T : Tab) (lvl : Nat) (e : CE) : Bool := lvl == 0 || e.isSc || CE.lv T e == lvl
mutual
def CS.okG (T : Tab) (Γ : List Nat) (lvl : Nat) : CS → Bool
  | .skip => true | .brk => true | .cnt => true | .nev => true | .retN => true
  | .asg t e => CE.okG Γ e && asgOk T Γ t e
  | .aug i op e => CE.okG Γ e && Γ.getD i 0 == 0
  | .setix i k e => CE.okG Γ k && CE.okG Γ e && Γ.getD i 0 == 1 && (CE.al Γ e).isEmpty
  | .augix i k op e => CE.okG Γ k && CE.okG Γ e && Γ.getD i 0 == 1
  | .app i e => CE.okG Γ e && Γ.getD i 0 == 1 && (CE.al Γ e).isEmpty
  | .ext i e => CE.okG Γ e && Γ.getD i 0 == 1 && CE.lv T e == 1 && (CE.ac Γ e).isEmpty
  | .upd i j => Γ.getD i 0 == 1 && Γ.getD j 0 == 0
  | .appAt i k e => CE.okG Γ k && CE.okG Γ e && Γ.getD i 0 == 2 && (CE.al Γ e).isEmpty
  | .ret e => CE.okG Γ e && retOk T lvl e
  | .retv i => Γ.getD i 0 == lvl && lvl != 0
  | .ife c a b => CE.okG Γ c && CB.okG T Γ lvl a && CB.okG T Γ lvl b
  | .whl c b => CE.okG Γ c && CB.okG T Γ lvl b
  | .fr t src b => CI.okG Γ src && (CI.al Γ src).isEmpty && (CI.src Γ src).all (fun i => !(t.slots.map wa ++ CB.wr b).contains (wm i) && !(t.slots.map wa ++ CB.wr b).contains (wa i)) && t.slots.all (fun i => Γ.getD i 0 == 0) && CB.okG T Γ lvl b
  | .expr e => CE.okG Γ e
  | .setf i _ _ e => CE.okG Γ e && Γ.getD i 0 == 1 && (CE.al Γ e).isEmpty
  | _ => false
def CB.okG (T : Tab) (Γ : List Nat) (lvl : Nat) : CB → Bool
  | .nil => true
  | .cons s b => CS.okG T Γ lvl s && CB.okG T Γ lvl b
end
/-- what the end wants -/
def Fin (K : PySem.W.Frag) (cl : Nat → Addr) (Γ : List Nat) (lvl : Nat) (A : Addr → Prop) (H0 : Hp) (W : List Nat) (FF : Nat → List Addr) (Z : Addr → Prop) (H : Hp) (D : Ends) : O → Prop
  | .nx ρ' => ∀ FF' Z' σ' H', WSt K cl Γ A H0 FF' Z' σ' H' ρ' → Step W FF Z H FF' Z' H' → D.nx σ' H'
  | .bk ρ' => ∀ FF' Z' σ' H', WSt K cl Γ A H0 FF' Z' σ' H' ρ' → Step W FF Z H FF' Z' H' → D.bk σ' H'
  | .ct ρ' => ∀ FF' Z' σ' H', WSt K cl Γ A H0 FF' Z' σ' H' ρ' → Step W FF Z H FF' Z' H' → D.ct σ' H'
  | .rt d => ∀ v H', Ex H0 H' → Out K cl lvl A A H0 H' d v → D.rt v H'
def SS (X : Cx) (cl : Nat → Addr) (T : Tab) (Γ : List Nat) (lvl : Nat) (s : Stmt) (c : CS) : Prop := ∃ t, PS X s t ∧ ∀ A H0 FF Z σ H ρ, CS.okG T Γ lvl c = true → WSt X.K cl Γ A H0 FF Z σ H ρ → ∀ o, CS.run T c ρ = some o → ∀ D, Fin X.K cl Γ lvl A H0 c.wr FF Z H D o → t D σ H
def SBs (X : Cx) (cl : Nat → Addr) (T : Tab) (Γ : List Nat) (lvl : Nat) (ss : List Stmt) (c : CB) : Prop := ∃ t, PSs X ss t ∧ ∀ A H0 FF Z σ H ρ, CB.okG T Γ lvl c = true → WSt X.K cl Γ A H0 FF Z σ H ρ → ∀ o, CB.run T c ρ = some o → ∀ D, Fin X.K cl Γ lvl A H0 c.wr FF Z H D o → t D σ H
section
variable {X : Cx} {cl : Nat → Addr} {T : Tab} {k : Nat} {Γ : List Nat} {lvl : Nat}
theorem Fin.step {K : PySem.W.Frag} {A : Addr → Prop} {H0 H H' : Hp} {W W' : List Nat} {FF FF' : Nat → List Addr} {Z Z' : Addr → Prop} {D : Ends} {o : O} (h : Fin K cl Γ lvl A H0 W FF Z H D o) (hw : ∀ i, i ∈ W' → i ∈ W) (s : Step W FF Z H FF' Z' H') : Fin K cl Γ lvl A H0 W' FF' Z' H' D o := by
  cases o with
  | nx ρ' => exact fun FF2 Z2 σ2 H2 w st => h FF2 Z2 σ2 H2 w (s.trans (st.weak hw))
  | bk ρ' => exact fun FF2 Z2 σ2 H2 w st => h FF2 Z2 σ2 H2 w (s.trans (st.weak hw))
  | ct ρ' => exact fun FF2 Z2 σ2 H2 w st => h FF2 Z2 σ2 H2 w (s.trans (st.weak hw))
  | rt d => exact h
theorem sbs_nil : SBs X cl T Γ lvl [] .nil := ⟨_, pss_nil, fun A H0 FF Z σ H ρ ok w o e D f => by
  cases (show some (O.nx ρ) = some o from e)
  exact f FF Z σ H w Step.refl⟩
theorem sbs_cons {s : Stmt} {ss : List Stmt} {c : CS} {cs : CB} (h : SS X cl T Γ lvl s c) (hs : SBs X cl T Γ lvl ss cs) : SBs X cl T Γ lvl (s :: ss) (.cons c cs) := by
  obtain ⟨t, ps, g⟩ := h
  obtain ⟨u, pss, gs⟩ := hs
  refine ⟨_, pss_cons ps pss, fun A H0 FF Z σ H ρ ok w o e D f => ?_⟩
  obtain ⟨ok1, ok2⟩ := ands (show (CS.okG T Γ lvl c && CB.okG T Γ lvl cs) = true from ok)
  unfold CB.run at e
  obtain ⟨o1, e1, e⟩ := bind2 e
  have wl : ∀ i, i ∈ c.wr → i ∈ (CB.cons c cs).wr := fun i h => List.mem_append.mpr (.inl h)
  have wr : ∀ i, i ∈ cs.wr → i ∈ (CB.cons c cs).wr := fun i h => List.mem_append.mpr (.inr h)
  refine g A H0 FF Z σ H ρ ok1 w o1 e1 _ ?_
  cases o1 with
  | nx ρ1 => exact fun FF1 Z1 σ1 H1 w1 s1 => gs A H0 FF1 Z1 σ1 H1 ρ1 ok2 w1 o e D (f.step wr (s1.weak wl))
  | bk ρ1 =>
    cases e
    exact fun FF1 Z1 σ1 H1 w1 s1 => f FF1 Z1 σ1 H1 w1 (s1.weak wl)
  | ct ρ1 =>
    cases e
    exact fun FF1 Z1 σ1 H1 w1 s1 => f FF1 Z1 σ1 H1 w1 (s1.weak wl)
  | rt d =>
    cases e
    exact f
theorem ss_skip {pos : Pos} : SS X cl T Γ lvl (.Pass pos) .skip := ⟨_, ps_pass, fun A H0 FF Z σ H ρ ok w o e D f => by
  cases (show some (O.nx ρ) = some o from e)
  exact f FF Z σ H w Step.refl⟩
theorem ss_doc {x j pos pos'} : SS X cl T Γ lvl (.Expr (.Constant (.str x) j pos) pos') .skip := ⟨_, ps_doc, fun A H0 FF Z σ H ρ ok w o e D f => by
  cases (show some (O.nx ρ) = some o from e)
  exact f FF Z σ H w Step.refl⟩
theorem ss_brk {pos : Pos} : SS X cl T Γ lvl (.Break pos) .brk := ⟨_, ps_break, fun A H0 FF Z σ H ρ ok w o e D f => by
  cases (show some (O.bk ρ) = some o from e)
  exact f FF Z σ H w Step.refl⟩
theorem ss_cnt {pos : Pos} : SS X cl T Γ lvl (.Continue pos) .cnt := ⟨_, ps_continue, fun A H0 FF Z σ H ρ ok w o e D f => by
  cases (show some (O.ct ρ) = some o from e)
  exact f FF Z σ H w Step.refl⟩
theorem ss_nev {s : Stmt} : SS X cl T Γ lvl s .nev := ⟨_, ps_never, fun A H0 FF Z σ H ρ ok w o e D f => by cases e⟩
theorem ss_expr {e : Expr} {c : CE} {pos : Pos} (hn : noComp e = true) (h : SE X cl T e c) : SS X cl T Γ lvl (.Expr e pos) (.expr c) := by
  obtain ⟨t, pe, s⟩ := h
  refine ⟨_, ps_expr pe (swaps_no hn _ _ _), fun A H0 FF Z σ H ρ ok w o e D f => ?_⟩
  obtain ⟨d, ed, rfl⟩ := Option.map_eq_some_iff.mp (show (CE.sem T c ρ).map (fun _ => O.nx ρ) = some o from e)
  exact s Γ FF Z σ H ρ ok w.r d ed _ fun v H1 e1 o1 => f FF Z σ H1 (w.ext e1) (Step.ext e1)
theorem ss_if {c : Expr} {a b : List Stmt} {cc : CE} {ca cb : CB} {pos : Pos} (hc : ST X cl T c cc) (ha : SBs X cl T Γ lvl a ca) (hb : SBs X cl T Γ lvl b cb) : SS X cl T Γ lvl (.If c a b pos) (.ife cc ca cb) := by
  obtain ⟨tc, pc, sc⟩ := hc
  obtain ⟨ta, pa, sa⟩ := ha
  obtain ⟨tb, pb, sb⟩ := hb
  refine ⟨_, ps_if pc pa pb, fun A H0 FF Z σ H ρ ok w o e D f => ?_⟩
  obtain ⟨ok, ok3⟩ := ands (show (CE.okG Γ cc && CB.okG T Γ lvl ca && CB.okG T Γ lvl cb) = true from ok)
  obtain ⟨ok1, ok2⟩ := ands ok
  obtain ⟨x, ex, e⟩ := bind2 (show (CE.sem T cc ρ).bind (fun x => (truD x).bind fun k => if k then CB.run T ca ρ else CB.run T cb ρ) = some o from e)
  obtain ⟨q, eq, e⟩ := bind2 e
  refine sc Γ FF Z σ H ρ ok1 w.r x q ex eq _ fun H1 e1 => ?_
  cases q with
  | true => exact iteT (sa A H0 FF Z σ H1 ρ ok2 (w.ext e1) o e D (f.step (fun i h => List.mem_append.mpr (.inl h)) (Step.ext e1)))
  | false => exact iteF (sb A H0 FF Z σ H1 ρ ok3 (w.ext e1) o e D (f.step (fun i h => List.mem_append.mpr (.inr h)) (Step.ext e1)))
theorem ss_while {c : Expr} {b : List Stmt} {cc : CE} {cb : CB} {pos : Pos} (hp : PassesOwn (model X.prog X.w) X.A X.env X.xe) (hc : ST X cl T c cc) (hb : SBs X cl T Γ lvl b cb) : SS X cl T Γ lvl (.While c b [] pos) (.whl cc cb) := by
  obtain ⟨tc, pc, sc⟩ := hc
  obtain ⟨tb, pb, sb⟩ := hb
  refine ⟨_, ps_while hp pc pb, fun A H0 FF Z σ H ρ ok w o e D f => ?_⟩
  obtain ⟨ok1, ok2⟩ := ands (show (CE.okG Γ cc && CB.okG T Γ lvl cb) = true from ok)
  refine ⟨fun m σ' H' => ∃ FF' Z' ρ', WSt X.K cl Γ A H0 FF' Z' σ' H' ρ' ∧ Step cb.wr FF Z H FF' Z' H' ∧ whlD (fun ρ => (CE.sem T cc ρ).bind truD) (fun ρ => CB.run T cb ρ) m ρ' = some o, ⟨FUEL, FF, Z, ρ, w, Step.refl, e⟩, ?_⟩
  rintro m σ' H' ⟨FF', Z', ρ', w', s', e'⟩
  cases m with
  | zero => cases e'
  | succ n =>
    unfold whlD at e'
    obtain ⟨q, eq, e'⟩ := bind2 e'
    obtain ⟨x, ex, eq⟩ := bind2 eq
    refine sc Γ FF' Z' σ' H' ρ' ok1 w'.r x q ex eq _ fun H1 e1 => ?_
    cases q with
    | false =>
      refine iteF ?_
      cases (show some (O.nx ρ') = some o from e')
      exact f FF' Z' σ' H1 (w'.ext e1) (s'.trans (Step.ext e1))
    | true =>
      refine iteT ?_
      obtain ⟨o', eo, e'⟩ := bind2 e'
      refine ⟨fun σ2 H2 => ∃ FF2 Z2 ρ2, WSt X.K cl Γ A H0 FF2 Z2 σ2 H2 ρ2 ∧ Step cb.wr FF Z H FF2 Z2 H2 ∧ whlD (fun ρ => (CE.sem T cc ρ).bind truD) (fun ρ => CB.run T cb ρ) n ρ2 = some o, fun σ2 H2 h => ⟨n, Nat.lt_succ_self n, h⟩, ?_⟩
      refine sb A H0 FF' Z' σ' H1 ρ' ok2 (w'.ext e1) o' eo _ ?_
      have s1 : Step cb.wr FF Z H FF' Z' H1 := s'.trans (Step.ext e1)
      cases o' with
      | nx ρ2 => exact fun FF2 Z2 σ2 H2 w2 s2 => ⟨FF2, Z2, ρ2, w2, s1.trans s2, e'⟩
      | ct ρ2 => exact fun FF2 Z2 σ2 H2 w2 s2 => ⟨FF2, Z2, ρ2, w2, s1.trans s2, e'⟩
      | bk ρ2 =>
        cases (show some (O.nx ρ2) = some o from e')
        exact fun FF2 Z2 σ2 H2 w2 s2 => f FF2 Z2 σ2 H2 w2 (s1.trans s2)
      | rt d =>
        cases (show some (O.rt d) = some o from e')
        exact f
theorem not_contains {l : List Nat} {i : Nat} (h : (!l.contains i) = true) : i ∉ l := fun hm => by
  rw [List.contains_iff_mem.mpr hm] at h
  cases h
theorem ss_for {tg iter : Expr} {b : List Stmt} {t : CT} {src : CI} {cb : CB} {pos : Pos} (hx : XOk X cl T k) (hp : PassesOwn (model X.prog X.w) X.A X.env X.xe) (hN : noSet iter = true) (hi : SI X cl T tg iter src) (hg : SG X cl tg t) (hb : SBs X cl T Γ lvl b cb) :
    SS X cl T Γ lvl (.For tg iter b [] pos) (.fr t src cb) := by
  obtain ⟨wi, pi, si⟩ := hi
  obtain ⟨g, pg, sg⟩ := hg
  obtain ⟨tb, pb, sb⟩ := hb
  refine ⟨_, ps_for hp hx.calm pi pg pb (fun x => folded_ok hN _ x), fun A H0 FF Z σ H ρ ok w o e D f => ?_⟩
  obtain ⟨ok, ok5⟩ := ands (show (CI.okG Γ src && (CI.al Γ src).isEmpty && (CI.src Γ src).all (fun i => !(t.slots.map wa ++ CB.wr cb).contains (wm i) && !(t.slots.map wa ++ CB.wr cb).contains (wa i)) && t.slots.all (fun i => Γ.getD i 0 == 0) && CB.okG T Γ lvl cb) = true from ok)
  obtain ⟨ok, ok4⟩ := ands ok
  obtain ⟨ok, ok3⟩ := ands ok
  obtain ⟨ok1, ok2⟩ := ands ok
  have hal : CI.al Γ src = [] := List.isEmpty_iff.mp ok2
  obtain ⟨xs, ex, e⟩ := bind2 (show (CI.sem T src ρ).bind (fun xs => frD (fun x ρ => CT.bind t x ρ) (fun ρ => CB.run T cb ρ) xs ρ) = some o from e)
  refine si Γ FF Z σ H ρ ok1 w.r xs ex _ fun J H1 e1 hz G => ?_
  have hW : (CS.fr t src cb).wr = t.slots.map wa ++ cb.wr := rfl
  rw [hW] at f
  have w1 := w.freeze e1
  have s1 : Step (t.slots.map wa ++ cb.wr) FF Z H FF (fun a => Z a ∨ New H H1 a) H1 := Step.freeze e1
  refine ⟨fun i m σ' H' => m = xs.length - i ∧ i ≤ xs.length ∧ ∃ FF' Z' ρ', WSt X.K cl Γ A H0 FF' Z' σ' H' ρ' ∧ Step (t.slots.map wa ++ cb.wr) FF (fun a => Z a ∨ New H H1 a) H1 FF' Z' H' ∧ frD (fun x ρ => CT.bind t x ρ) (fun ρ => CB.run T cb ρ) (xs.drop i) ρ' = some o,
    ⟨xs.length, by simp, Nat.zero_le _, FF, _, ρ, w1, Step.refl, by simpa using e⟩, ?_⟩
  rintro i m σ' H' ⟨rfl, hi, FF', Z', ρ', w', s', e'⟩
  have agr : Agr (fun a => zn FF Z (CI.src Γ src) a ∨ New H H1 a) H1 H' := fun a o' ha h => by
    rcases ha with (ha | ⟨j, hj, ha⟩) | ha
    · exact s'.zo a o' (.inl ha) h
    · obtain ⟨n1, n2⟩ := ands (List.all_eq_true.mp ok3 j hj)
      exact s'.fo j (not_contains n1) (not_contains n2) a o' ha h
    · exact s'.zo a o' (.inr ha) h
  by_cases hlt : i < xs.length
  · obtain ⟨x, hx', hd⟩ := getD_drop hlt
    rw [hd] at e'
    unfold frD at e'
    obtain ⟨ρ1, eb, e'⟩ := bind2 e'
    obtain ⟨o', eo, e'⟩ := bind2 e'
    obtain ⟨go, yl⟩ := G.go H' i x agr hx'
    refine .inr ⟨go, fun σ2 H2 => ∃ FF2 Z2 ρ2, WSt X.K cl Γ A H0 FF2 Z2 σ2 H2 ρ2 ∧ Step (t.slots.map wa ++ cb.wr) FF (fun a => Z a ∨ New H H1 a) H1 FF2 Z2 H2 ∧ frD (fun x ρ => CT.bind t x ρ) (fun ρ => CB.run T cb ρ) (xs.drop (i + 1)) ρ2 = some o,
      fun σ2 H2 h => ⟨xs.length - (i + 1), by omega, rfl, hlt, h⟩, fun v H2 y => ?_⟩
    obtain ⟨e7, rv⟩ := yl v H2 y
    have w2 := w'.freeze e7
    have rv' : Rep X.K cl H2 (fun a => Z' a ∨ New H' H2 a) x v := Rep.mono (fun _ _ _ h => h) (fun a h => by
      rcases h with (h | h) | h
      · rw [hal] at h
        rcases h with h | ⟨j, hj, _⟩
        · exact .inl (s'.z a (.inl h))
        · cases hj
      · exact .inl (s'.z a (.inr h))
      · exact .inr h) _ _ rv
    refine sg _ H2 x v σ' ρ' ρ1 rv' eb w'.r.ln _ fun σ2 sd => ?_
    have w3 := w2.stored (fun j hj => by have := List.all_eq_true.mp ok4 j hj; simpa using this) sd
    have s3 : Step (t.slots.map wa ++ cb.wr) FF (fun a => Z a ∨ New H H1 a) H1 FF' (fun a => Z' a ∨ New H' H2 a) H2 := s'.trans (Step.freeze e7)
    refine sb A H0 FF' _ σ2 H2 ρ1 ok5 w3 o' eo _ ?_
    have wk : ∀ j, j ∈ cb.wr → j ∈ t.slots.map wa ++ cb.wr := fun j h => List.mem_append.mpr (.inr h)
    cases o' with
    | nx ρ2 => exact fun FF2 Z2 σ2 H2 w2 s2 => ⟨FF2, Z2, ρ2, w2, s3.trans (s2.weak wk), e'⟩
    | ct ρ2 => exact fun FF2 Z2 σ2 H2 w2 s2 => ⟨FF2, Z2, ρ2, w2, s3.trans (s2.weak wk), e'⟩
    | bk ρ2 =>
      cases (show some (O.nx ρ2) = some o from e')
      exact fun FF2 Z2 σ2 H2 w2 s2 => f FF2 Z2 σ2 H2 w2 ((s1.trans s3).trans (s2.weak wk))
    | rt d =>
      cases (show some (O.rt d) = some o from e')
      exact f
  · have : i = xs.length := by omega
    subst this
    rw [List.drop_length] at e'
    cases (show some (O.nx ρ') = some o from e')
    exact .inl ⟨G.stop H' _ agr (Nat.le_refl _), f FF' Z' σ' H' w' (s1.trans s')⟩
end
end PV

set_option Elab.async false
set_option linter.all false
set_option maxRecDepth 100000
set_option maxHeartbeats 2000000
/-! PV12: stores, changes in place, return. -/
namespace PV
open PySem L2 PyProof.Rows
open Evl (Ex)
section
variable {X : Cx} {cl : Nat → Addr} {T : Tab} {k : Nat} {Γ : List Nat} {lvl : Nat}
theorem set_other {α : Type} {l : List α} {i j : Nat} {x : α} (h : j ≠ i) : (l.set i x)[j]? = l[j]? := List.getElem?_set_ne (Ne.symm h)
theorem set_same {α : Type} {l : List (Option α)} {i : Nat} {x : Option α} {d : α} (h : (l.set i x)[i]? = some (some d)) : i < l.length ∧ x = some d := by
  by_cases hl : i < l.length
  · rw [List.getElem?_set_self hl] at h
    exact ⟨hl, Option.some.inj h⟩
  · rw [List.getElem?_eq_none (by simpa using hl)] at h
    cases h
theorem emptyNil {S : List Nat} (h : S.isEmpty = true) : S = [] := List.isEmpty_iff.mp h
theorem zn_nil {FF : Nat → List Addr} {Z : Addr → Prop} {a : Addr} (h : zn FF Z [] a) : Z a := by
  rcases h with h | ⟨i, hi, _⟩
  · exact h
  · cases hi
/-- a value goes into a slot -/
theorem put_nm {K : PySem.W.Frag} {A : Addr → Prop} {H0 H H' : Hp} {FF : Nat → List Addr} {Z : Addr → Prop} {σ : L2.St} {ρ : Env} {i : Nat} {c : CE} {d : D} {v : V} (w : WSt K cl Γ A H0 FF Z σ H ρ) (e : Ex H H')
    (ok : asgOk T Γ (.nm i) c = true) (hsc : c.isSc = true → d.flat = true) (o : Out K cl (CE.lv T c) (zn FF Z (CE.al Γ c)) (zn FF Z (CE.ac Γ c)) H H' d v) :
    ∃ FF' Z', WSt K cl Γ A H0 FF' Z' (σ.set i (some v)) H' (ρ.set i (some d)) ∧ Step [wa i] FF Z H FF' Z' H' := by
  have hln : (σ.set i (some v)).length = (ρ.set i (some d)).length := by rw [List.length_set, List.length_set, w.r.ln]
  have hs : ∀ j, j ≠ i → (σ.set i (some v))[j]? = σ[j]? ∧ (ρ.set i (some d))[j]? = ρ[j]? := fun j h => ⟨set_other h, set_other h⟩
  have ok : (if Γ.getD i 0 = 0 then (CE.al Γ c).isEmpty else c.isSc || (Γ.getD i 0 == CE.lv T c && (CE.ac Γ c).isEmpty)) = true := ok
  by_cases h0 : Γ.getD i 0 = 0
  · rw [if_pos h0] at ok
    have hal := emptyNil ok
    have hac : CE.ac Γ c = [] := by
      cases h : CE.ac Γ c with
      | nil => rfl
      | cons j r =>
        have := CE.sub c j (by rw [h]; exact List.mem_cons_self)
        rw [hal] at this
        cases this
    have w1 := w.freeze e
    refine ⟨FF, _, w1.stored (S := [i]) (fun j hj => by obtain rfl := List.mem_singleton.mp hj; exact h0) ⟨List.length_set, List.length_set, fun j hj => hs j fun z => hj (List.mem_singleton.mpr z), fun j hj d' hd => ?_⟩, (Step.freeze e)⟩
    obtain rfl := List.mem_singleton.mp hj
    obtain ⟨h1, h2⟩ := set_same hd
    cases h2
    refine ⟨v, List.getElem?_set_self (by rw [w.r.ln]; exact h1), Rep.mono (fun _ _ _ h => h) (fun a h => ?_) _ _ (o.rep fun a h => zn_mono (CE.sub c) h)⟩
    rw [hal] at h
    exact h.imp zn_nil id
  · rw [if_neg h0] at ok
    have key : ∃ n F, Γ.getD i 0 = n + 1 ∧ (∀ a ∈ F, New H H' a) ∧ F.Nodup ∧ RepO K cl H' (fun a => (Z a ∨ New H H' a) ∧ a ∉ F) (n + 1) d v F := by
      obtain ⟨n, hn⟩ : ∃ n, Γ.getD i 0 = n + 1 := ⟨Γ.getD i 0 - 1, by omega⟩
      rcases Bool.or_eq_true_iff.mp ok with ok | ok
      · have fl := hsc ok
        obtain rfl := Rep.toV fl (o.rep fun a h => zn_mono (CE.sub c) h)
        obtain ⟨F, h1, h2, h3⟩ := (Out.flat (K := K) (cl := cl) (n := n + 1) (B0 := Z) (B1 := Z) (H := H) (H' := H') fl)
        exact ⟨n, F, hn, h1, h2, h3⟩
      · obtain ⟨ok1, ok2⟩ := ands ok
        have hlv : Γ.getD i 0 = CE.lv T c := by simpa using ok1
        have hac := emptyNil ok2
        rw [← hlv, hn] at o
        obtain ⟨F, hF, nd, r⟩ := o
        exact ⟨n, F, hn, hF, nd, RepO.mono _ (fun _ _ _ h => h) (fun a h => ⟨h.1.imp (fun h => by rw [hac] at h; exact zn_nil h) id, h.2⟩) r⟩
    obtain ⟨n, F, hlv, hF, nd, r⟩ := key
    obtain ⟨wp, sp⟩ := w.put (σ' := σ.set i (some v)) (ρ' := ρ.set i (some d)) (H' := H') (Z' := fun a => (Z a ∨ New H H' a) ∧ a ∉ F) (i := i) (F := F) hs hln
        (fun d' hd => by
          obtain ⟨h1, h2⟩ := set_same hd
          cases h2
          refine ⟨v, List.getElem?_set_self (by rw [w.r.ln]; exact h1), ?_⟩
          rw [hlv]
          exact r)
        (fun a o _ h => e a o h) (fun a h => ⟨.inl h, fun hm => w.r.z a h (hF a hm).1⟩) (fun a h => h.1) (fun a h z => z.2 h) (fun a h => ⟨.inr (hF a h), (hF a h).2⟩) nd (fun z => absurd z h0) (fun a h => ex_there e (w.r.f i a h))
    exact ⟨_, _, wp, sp⟩
theorem ss_nm_of {i : Nat} {c : CE} {t : TS} {te : TE} {s : Stmt} (ps : PS X s (tAsg te (gName i))) (hs : ∀ FF Z σ H ρ, CE.okG Γ c = true → RSt X.K cl Γ FF Z σ H ρ → ∀ d, CE.sem T c ρ = some d → ∀ Q : VK,
    (∀ v H', Ex H H' → Out X.K cl (CE.lv T c) (zn FF Z (CE.al Γ c)) (zn FF Z (CE.ac Γ c)) H H' d v → Q v H') → te σ H Q) : SS X cl T Γ lvl s (.asg (.nm i) c) := by
  refine ⟨_, ps, fun A H0 FF Z σ H ρ ok w o e D f => ?_⟩
  obtain ⟨ok1, ok2⟩ := ands (show (CE.okG Γ c && asgOk T Γ (.nm i) c) = true from ok)
  obtain ⟨d, ed, e⟩ := bind2 (show (CE.sem T c ρ).bind (fun x => (CT.bind (.nm i) x ρ).map O.nx) = some o from e)
  cases (show some (O.nx (ρ.set i (some d))) = some o from e)
  refine hs FF Z σ H ρ ok1 w.r d ed _ fun v H1 e1 o1 => ?_
  obtain ⟨FF', Z', w', s'⟩ := put_nm w e1 ok2 (fun h => isSc_flat h ed) o1
  exact f FF' Z' _ H1 w' s'
/-- name = value -/
theorem ss_set {i : Nat} {x : Str} {e : Expr} {c : CE} {pos pos' : Pos} (hx : XOk X cl T k) (hi : X.N[i]? = some x) (hv : Loc X.env.scope x) (hn : noComp e = true) (hf : X.fn x = true ∨ X.env.scope.names.lookup x = some .local) (h : SE X cl T e c) : SS X cl T Γ lvl (.Assign [.Name x pos'] e pos) (.asg (.nm i) c) := by
  obtain ⟨t, pe, s⟩ := h
  exact ss_nm_of (t := tNext) (ps_set hx.nd hi hv pe (swaps_no hn _ _ _) hf) (s Γ)
theorem ss_setLc {i : Nat} {y : Str} {py : Pos} {elt tg iter : Expr} {ifs : List Expr} {scope : Scope} {own : List (Str × Nat)} {pos spos : Pos} {c : CE} (hx : XOk X cl T k) (hy : X.N[i]? = some y) (hyl : X.env.scope.names.lookup y = some .local) (hl : (py.line == pos.line) = true)
    (ha : (scope.names.any fun (n, k) => n == y && (k == .local || k == .cell)) = false) (ok : BlkOk X.N X.env.scope scope own) (hN : noSet iter = true) (h : LcP X cl T scope tg iter elt ifs c (own.map (·.2))) :
    SS X cl T Γ lvl (.Assign [.Name y py] (.ListComp elt [⟨tg, iter, ifs, 0⟩] scope pos) spos) (.asg (.nm i) c) := by
  obtain ⟨wi, g, tt, te, pi, pg, pt, pe, s⟩ := h
  exact ss_nm_of (t := tNext) (ps_setLc hx.calm hx.nd hy hyl (sw_true hx.kind hyl hl ha) pi ok (fun s H C c fp => pg (s, H, C, c, fp)) (fun s H C c fp => pt (s, H, C, c, fp)) (fun s H C c fp => pe (s, H, C, c, fp)) (fun x => folded_ok hN _ x)) (s Γ)
theorem ss_setDc {i : Nat} {y : Str} {py : Pos} {kx vx tg iter : Expr} {scope : Scope} {own : List (Str × Nat)} {pos spos : Pos} {c : CE} (hx : XOk X cl T k) (hy : X.N[i]? = some y) (hyl : X.env.scope.names.lookup y = some .local) (hl : (py.line == pos.line) = true)
    (ha : (scope.names.any fun (n, k) => n == y && (k == .local || k == .cell)) = false) (ok : BlkOk X.N X.env.scope scope own) (hN : noSet iter = true) (h : DcP X cl T scope tg iter kx vx c (own.map (·.2))) :
    SS X cl T Γ lvl (.Assign [.Name y py] (.DictComp kx vx [⟨tg, iter, [], 0⟩] scope pos) spos) (.asg (.nm i) c) := by
  obtain ⟨wi, g, tk, te, pi, pg, pk, pe, s⟩ := h
  exact ss_nm_of (t := tNext) (ps_setDc hx.calm hx.nd hy hyl (sw_trueD hx.kind hyl hl ha) pi ok pg pk pe fun x => folded_ok hN _ x) (s Γ)
def noTup : Expr → Bool
  | .Tuple _ _ _ => false
  | _ => true
theorem swapsT_no {es : List Expr} {kk : Nat} {p : Pos} {e : Expr} (l : Nat) (env : PySem.Env) (h : noComp e = true) : swapsWithSole [.Tuple es kk p] e l env = pure false := by
  unfold swapsWithSole
  exact swaps_no h _ _ _
theorem stores_no {es : List Expr} {kk : Nat} {p : Pos} {e : Expr} (env : PySem.Env) (h : noTup e = true) : swappedStores [.Tuple es kk p] e env = pure none := by
  cases e <;> first | rfl | cases h
/-- a, (b, c) = value -/
theorem ss_tup {es : List Expr} {kk : Nat} {tp pos : Pos} {ts : CTs} {e : Expr} {c : CE} (hn : noComp e = true) (ht : noTup e = true) (hg : SG X cl (.Tuple es kk tp) (.tp ts)) (h : SE X cl T e c) : SS X cl T Γ lvl (.Assign [.Tuple es kk tp] e pos) (.asg (.tp ts) c) := by
  obtain ⟨t, pe, s⟩ := h
  obtain ⟨g, pg, sg⟩ := hg
  refine ⟨_, ps_asg pe pg (swapsT_no _ _ hn) (stores_no _ ht) rfl, fun A H0 FF Z σ H ρ ok w o e D f => ?_⟩
  obtain ⟨ok1, ok2⟩ := ands (show (CE.okG Γ c && ((CE.al Γ c).isEmpty && (CTs.slots ts).all fun i => Γ.getD i 0 == 0)) = true from ok)
  obtain ⟨ok2, ok3⟩ := ands ok2
  have hal := emptyNil ok2
  obtain ⟨d, ed, e⟩ := bind2 (show (CE.sem T c ρ).bind (fun x => (CT.bind (.tp ts) x ρ).map O.nx) = some o from e)
  obtain ⟨ρ1, eb, rfl⟩ := Option.map_eq_some_iff.mp e
  refine s Γ FF Z σ H ρ ok1 w.r d ed _ fun v H1 e1 o1 => ?_
  refine sg (fun a => Z a ∨ New H H1 a) H1 d v σ ρ ρ1 (Rep.mono (fun _ _ _ h => h) (fun a h => by rw [hal] at h; exact h.imp zn_nil id) _ _ (o1.rep fun a h => zn_mono (CE.sub c) h)) eb w.r.ln _ fun σ2 sd => ?_
  exact f FF _ σ2 H1 ((w.freeze e1).stored (fun j hj => by have := List.all_eq_true.mp ok3 j hj; simpa using this) sd) (Step.freeze e1)
/-- return value -/
theorem ss_ret {e : Expr} {c : CE} {pos : Pos} (h : SE X cl T e c) : SS X cl T Γ lvl (.Return (some e) pos) (.ret c) := by
  obtain ⟨t, pe, s⟩ := h
  refine ⟨_, ps_ret pe, fun A H0 FF Z σ H ρ ok w o e D f => ?_⟩
  obtain ⟨ok1, ok2⟩ := ands (show (CE.okG Γ c && retOk T lvl c) = true from ok)
  obtain ⟨d, ed, rfl⟩ := Option.map_eq_some_iff.mp (show (CE.sem T c ρ).map O.rt = some o from e)
  have up : ∀ {S : List Nat} {H1 : Hp}, Ex H H1 → ∀ a, zn FF Z S a ∨ New H H1 a → A a ∨ New H0 H1 a := fun e1 a h => by
    rcases h with (h | ⟨i, _, h⟩) | h
    · exact (w.zz a h).imp id fun n => n.right e1
    · exact .inr ⟨w.nf i a h, ex_there e1 (w.r.f i a h)⟩
    · exact .inr (h.left w.ex)
  by_cases hl : lvl = 0
  · subst hl
    refine s Γ FF Z σ H ρ ok1 w.r d ed _ fun v H1 e1 o1 => f v H1 (w.ex.trans e1) ?_
    exact (o1.two fun a h => zn_mono (CE.sub c) h).mono (fun _ _ _ h => h) (up e1) (fun _ _ _ h => h) (up e1)
  · obtain ⟨n, hn⟩ : ∃ n, lvl = n + 1 := ⟨lvl - 1, by omega⟩
    subst hn
    by_cases hsc : c.isSc = true
    · refine s Γ FF Z σ H ρ ok1 w.r d ed _ fun v H1 e1 o1 => f v H1 (w.ex.trans e1) ?_
      have fl := isSc_flat hsc ed
      obtain rfl := Rep.toV fl (o1.rep fun a h => zn_mono (CE.sub c) h)
      exact Out.flat fl
    · have hlv : CE.lv T c = n + 1 := by
        unfold retOk at ok2
        rcases Bool.or_eq_true_iff.mp ok2 with h | h
        · rcases Bool.or_eq_true_iff.mp h with h | h
          · exact absurd (by simpa using h) hl
          · exact absurd h hsc
        · simpa using h
      refine s Γ FF Z σ H ρ ok1 w.r d ed _ fun v H1 e1 o1 => f v H1 (w.ex.trans e1) ?_
      rw [hlv] at o1
      obtain ⟨F, hF, nd, r⟩ := o1
      exact ⟨F, fun a h => (hF a h).left w.ex, nd, RepO.mono _ (fun _ _ _ h => h) (fun a h => ⟨up e1 a (h.1.imp (fun h => h) id), h.2⟩) r⟩
theorem env_some {ρ : Env} {i : Nat} {d : D} (h : (ρ[i]?).bind id = some d) : ρ[i]? = some (some d) := by
  cases q : ρ[i]? with
  | none => rw [q] at h; cases h
  | some o =>
    rw [q] at h
    have : o = some d := h
    rw [this]
/-- return name -/
theorem ss_retv {i : Nat} {x : Str} {pos pos' : Pos} (hN : X.N[i]? = some x) (hv : Vis X.env.scope x) (hd : (x == ("__debug__" : Str)) = false) (hcd : (x == ("__classdict__" : Str)) = false) : SS X cl T Γ lvl (.Return (some (.Name x pos')) pos) (.retv i) := by
  refine ⟨_, ps_ret (pe_var hN hv hd hcd), fun A H0 FF Z σ H ρ ok w o e D f => ?_⟩
  obtain ⟨ok1, ok2⟩ := ands (show (Γ.getD i 0 == lvl && lvl != 0) = true from ok)
  obtain ⟨d, ed, rfl⟩ := Option.map_eq_some_iff.mp (show ((ρ[i]?).bind id).map O.rt = some o from e)
  have hg : Γ.getD i 0 = lvl := by simpa using ok1
  have hl0 : lvl ≠ 0 := by simpa using ok2
  obtain ⟨n, rfl⟩ : ∃ n, lvl = n + 1 := ⟨lvl - 1, by omega⟩
  obtain ⟨v, h1, h2⟩ := w.r.sl i d (env_some ed)
  rw [hg] at h2
  refine ⟨v, h1, f v H w.ex ⟨FF i, fun a h => ⟨w.nf i a h, w.r.f i a h⟩, w.nd i, RepO.mono _ (fun _ _ _ h => h) (fun a h => ⟨?_, fun hm => w.dz i a hm h⟩) h2⟩⟩
  exact w.zz a h
theorem ss_retN {pos : Pos} : SS X cl T Γ lvl (.Return none pos) .retN := ⟨_, ps_retN, fun A H0 FF Z σ H ρ ok w o e D f => by
  cases (show some (O.rt .non) = some o from e)
  exact f .non H w.ex (Out.flat (d := .non) rfl)⟩
/-! ### changes in place -/
theorem all3_nil {K : PySem.W.Frag} {H : Hp} {Z : Addr → Prop} : ∀ {ds : List D} {vs : List V} {Fs : List (List Addr)}, All3 (RepO K cl H Z 0) ds vs Fs → Fs.flatten = []
  | [], [], [], _ => rfl
  | d :: ds, v :: vs, F :: Fs, ⟨⟨h1, _⟩, h2⟩ => by
    rw [List.flatten_cons, h1, all3_nil h2]
    rfl
  | [], _ :: _, _, h => h.elim
  | [], [], _ :: _, h => h.elim
  | _ :: _, [], _, h => h.elim
  | _ :: _, _ :: _, [], h => h.elim
theorem lst1_inv {K : PySem.W.Frag} {H : Hp} {Z : Addr → Prop} {ds : List D} {v : V} {F : List Addr} (h : RepO K cl H Z 1 (.lst ds) v F) : ∃ a vs, v = .ref a ∧ F = [a] ∧ H a = some (.lst vs) ∧ Reps K cl H Z ds vs := by
  rcases h with ⟨m, _⟩ | ⟨a, Fs, e1, e2, h⟩
  · cases m
  · rcases h with ⟨ds', vs, ed, ha, hh⟩ | ⟨kvs, ps, ed, _⟩ | ⟨c, dx, fs, ps, ed, _⟩
    · cases ed
      exact ⟨a, vs, e1, by rw [e2, all3_nil hh], ha, hh.reps fun d v F _ h => h.2⟩
    · cases ed
    · cases ed
theorem dct1_inv {K : PySem.W.Frag} {H : Hp} {Z : Addr → Prop} {kvs : List (Key × D)} {v : V} {F : List Addr} (h : RepO K cl H Z 1 (.dct kvs) v F) : ∃ a ps, v = .ref a ∧ F = [a] ∧ H a = some (.dK ps) ∧ RepK K cl H Z kvs ps := by
  rcases h with ⟨m, _⟩ | ⟨a, Fs, e1, e2, h⟩
  · cases m
  · rcases h with ⟨ds', vs, ed, _⟩ | ⟨kvs', ps, ed, ha, ek, hh⟩ | ⟨c, dx, fs, ps, ed, _⟩
    · cases ed
    · cases ed
      exact ⟨a, ps, e1, by rw [e2, all3_nil hh], ha, repK_of ek (hh.reps fun d v F _ h => h.2)⟩
    · cases ed
theorem ins1_inv {K : PySem.W.Frag} {H : Hp} {Z : Addr → Prop} {c : Nat} {kvs : List (Str × D)} {v : V} {F : List Addr} (h : RepO K cl H Z 1 (.ins c kvs) v F) : ∃ a dx ps, v = .ref a ∧ F = [a] ∧ H a = some (.ins (cl c) dx ps) ∧ RepF K cl H Z kvs ps := by
  rcases h with ⟨m, _⟩ | ⟨a, Fs, e1, e2, h⟩
  · cases m
  · rcases h with ⟨ds', vs, ed, _⟩ | ⟨kvs', ps, ed, _⟩ | ⟨c, dx, fs, ps, ed, ha, ek, hh⟩
    · cases ed
    · cases ed
    · cases ed
      exact ⟨a, dx, ps, e1, by rw [e2, all3_nil hh], ha, repF_of ek (hh.reps fun d v F _ h => h.2)⟩
theorem upF_id {FF : Nat → List Addr} {i : Nat} : upF FF i (FF i) = FF := funext fun j => by
  unfold upF
  split
  · rename_i h; rw [h]
  · rfl
/-- an owned object is changed -/
theorem put_mut {K : PySem.W.Frag} {A : Addr → Prop} {H0 H : Hp} {FF : Nat → List Addr} {Z : Addr → Prop} {σ : L2.St} {ρ : Env} {i : Nat} {d : D} {v : V} {a : Addr} {ob : HO} (w : WSt K cl Γ A H0 FF Z σ H ρ) (hv : σ[i]? = some (some v)) (ha : a ∈ FF i)
    (hr : RepO K cl (upd H a ob) Z (Γ.getD i 0) d v (FF i)) (h0 : Γ.getD i 0 ≠ 0) : WSt K cl Γ A H0 FF Z σ (upd H a ob) (ρ.set i (some d)) ∧ Step [wm i] FF Z H FF Z (upd H a ob) := by
  have there : ∀ b, H b ≠ none → upd H a ob b ≠ none := fun b h => by
    by_cases hb : b = a
    · rw [hb, upd_same]; exact fun z => by cases z
    · rw [upd_ne hb]; exact h
  have := w.put (σ' := σ) (ρ' := ρ.set i (some d)) (H' := upd H a ob) (Z' := Z) (i := i) (F := FF i) (fun j h => ⟨rfl, set_other h⟩) (by rw [List.length_set, w.r.ln])
    (fun d' hd => by
      obtain ⟨h1, h2⟩ := set_same hd
      cases h2
      exact ⟨v, hv, hr⟩)
    (fun b o hb h => by rw [upd_ne (fun z => hb (by rw [z]; exact ha))]; exact h) (fun _ h => h) (fun _ h => .inl h) (fun b h z => w.dz i b h z) (fun b h => ⟨.inl h, there b (w.r.f i b h)⟩) (w.nd i) (fun z => absurd z h0) (fun b h => there b (w.r.f i b h))
  rw [upF_id] at this
  refine ⟨this.1, this.2.z, this.2.zo, fun _ _ => rfl, fun j hj _ b o hb h => ?_⟩
  have hji : j ≠ i := fun z => hj (by rw [z]; exact List.mem_singleton.mpr rfl)
  rw [upd_ne (fun z => w.disj j i b hji hb (by rw [z]; exact ha))]
  exact h
theorem agrZ {K : PySem.W.Frag} {A : Addr → Prop} {H0 H : Hp} {FF : Nat → List Addr} {Z : Addr → Prop} {σ : L2.St} {ρ : Env} {i : Nat} {a : Addr} {ob : HO} (w : WSt K cl Γ A H0 FF Z σ H ρ) (ha : a ∈ FF i) : Agr Z H (upd H a ob) := fun b o hb h => by
  rw [upd_ne (fun z => w.dz i a ha (by rw [← z]; exact hb))]
  exact h
theorem upS_some {ρ : Env} {i : Nat} {f : D → Option D} {o : O} (h : upS ρ i f = some o) : ∃ z z', ρ[i]? = some (some z) ∧ f z = some z' ∧ o = .nx (ρ.set i (some z')) := by
  unfold upS at h
  obtain ⟨z, ez, h⟩ := bind2 h
  obtain ⟨z', ez', rfl⟩ := Option.map_eq_some_iff.mp h
  exact ⟨z, z', env_some ez, ez', rfl⟩
/-- x.append(e) -/
theorem ss_app {x : Str} {i : Nat} {e : Expr} {c : CE} {px ap cp pos : Pos} (hN : X.N[i]? = some x) (hv : Vis X.env.scope x) (hd : (x == ("__debug__" : Str)) = false) (hcd : (x == ("__classdict__" : Str)) = false) (hk : kindE e = true) (hline : (ap.endLine == cp.line) = true) (h : SE X cl T e c) :
    SS X cl T Γ lvl (.Expr (.Call (.Attribute (.Name x px) "append" ap) [e] [] cp) pos) (.app i c) := by
  obtain ⟨t, pe, s⟩ := h
  refine ⟨_, ps_expr (pe_bm PySem.F.plainAttrs_list PySem.F.slot_list_append PySem.F.type_list_append mt_append (pe_var hN hv hd hcd) (pa_cons pe pa_nil (star_ok hk _ _)) (base_ok (by rfl) _ _ _) (by rw [back_all (by simp [hk])]; rfl) hline (star_ok hk _ _) rfl) (swaps_no (by rfl) _ _ _), fun A H0 FF Z σ H ρ ok w o e D f => ?_⟩
  obtain ⟨ok, ok3⟩ := ands (show (CE.okG Γ c && Γ.getD i 0 == 1 && (CE.al Γ c).isEmpty) = true from ok)
  obtain ⟨ok1, ok2⟩ := ands ok
  have hg : Γ.getD i 0 = 1 := by simpa using ok2
  have hal := emptyNil ok3
  obtain ⟨y, ey, e⟩ := bind2 (show (CE.sem T c ρ).bind (fun y => upS ρ i fun x => appD x y) = some o from e)
  obtain ⟨z, z', ez, ez', rfl⟩ := upS_some e
  obtain ⟨v, hv1, hv2⟩ := w.r.sl i z ez
  cases z with
  | lst xs =>
    obtain ⟨hl, hz⟩ := Option.ite_none_right_eq_some.mp (show (if xs.length < LIM then some (PV.D.lst (xs ++ [y])) else none) = some z' from ez')
    cases hz
    rw [hg] at hv2
    obtain ⟨a, vs, rfl, hF, ha, rs⟩ := lst1_inv hv2
    refine ⟨_, hv1, .inl ⟨rfl, vs, .inl (.inl ha)⟩, s Γ FF Z σ H ρ ok1 w.r y ey _ fun u H1 e1 o1 => ?_⟩
    have w1 := w.freeze e1
    have ha1 := e1 _ _ ha
    refine ⟨a, vs, u, rfl, rfl, ha1, ?_, ?_⟩
    · rw [rs.length]; exact Nat.lt_of_lt_of_le hl LIM_le
    · have haF : a ∈ FF i := by rw [hF]; exact List.mem_singleton.mpr rfl
      have ru : Rep X.K cl H1 (fun a => Z a ∨ New H H1 a) y u := Rep.mono (fun _ _ _ h => h) (fun a h => by rw [hal] at h; exact h.imp zn_nil id) _ _ (o1.rep fun a h => zn_mono (CE.sub c) h)
      have rs1 : Reps X.K cl H1 (fun a => Z a ∨ New H H1 a) xs vs := Reps.mono (Agr.of_ex e1) (fun a h => .inl h) _ _ rs
      obtain ⟨w2, s2⟩ := put_mut (i := i) (d := .lst (xs ++ [y])) (ob := .lst (vs ++ [u])) w1 hv1 haF (by
        rw [hg, hF]
        exact RepO.lst1 upd_same (Reps.mono (agrZ w1 haF) (fun _ h => h) _ _ (rs1.append ⟨u, [], rfl, ru, rfl⟩))) (by rw [hg]; decide)
      exact f FF _ σ _ w2 ((Step.freeze e1).trans s2)
  | _ => cases ez'
end
end PV

set_option Elab.async false
set_option linter.all false
set_option maxRecDepth 100000
set_option maxHeartbeats 2000000
/-! PV13: more changes in place. -/
namespace PV
open PySem L2 PyProof.Rows
open Evl (Ex)
section
variable {X : Cx} {cl : Nat → Addr} {T : Tab} {k : Nat} {Γ : List Nat} {lvl : Nat}
theorem PS.or {s : Stmt} {t u : TS} (h : PS X s t) (h' : PS X s u) : PS X s (fun D σ H => t D σ H ∨ u D σ H) := ⟨fun pins sh σ H D I q => by
  rcases q with q | q
  · exact h.run pins sh σ H D I q
  · exact h'.run pins sh σ H D I q⟩
/-- x.extend(e), e's list new -/
theorem ss_ext {x : Str} {i : Nat} {e : Expr} {c : CE} {px ap cp pos : Pos} (hN : X.N[i]? = some x) (hv : Vis X.env.scope x) (hd : (x == ("__debug__" : Str)) = false) (hcd : (x == ("__classdict__" : Str)) = false) (hk : kindE e = true) (hline : (ap.endLine == cp.line) = true) (h : SE X cl T e c) :
    SS X cl T Γ lvl (.Expr (.Call (.Attribute (.Name x px) "extend" ap) [e] [] cp) pos) (.ext i c) := by
  obtain ⟨t, pe, s⟩ := h
  refine ⟨_, ps_expr (pe_bm PySem.F.plainAttrs_list PySem.F.slot_list_extend PySem.F.type_list_extend mt_extend (pe_var hN hv hd hcd) (pa_cons pe pa_nil (star_ok hk _ _)) (base_ok (by rfl) _ _ _) (by rw [back_all (by simp [hk])]; rfl) hline (star_ok hk _ _) rfl) (swaps_no (by rfl) _ _ _), fun A H0 FF Z σ H ρ ok w o e D f => ?_⟩
  obtain ⟨ok, ok4⟩ := ands (show (CE.okG Γ c && Γ.getD i 0 == 1 && CE.lv T c == 1 && (CE.ac Γ c).isEmpty) = true from ok)
  obtain ⟨ok, ok3⟩ := ands ok
  obtain ⟨ok1, ok2⟩ := ands ok
  have hg : Γ.getD i 0 = 1 := by simpa using ok2
  have hlv : CE.lv T c = 1 := by simpa using ok3
  have hac := emptyNil ok4
  obtain ⟨y, ey, e⟩ := bind2 (show (CE.sem T c ρ).bind (fun y => upS ρ i fun x => extD x y) = some o from e)
  obtain ⟨z, z', ez, ez', rfl⟩ := upS_some e
  obtain ⟨v, hv1, hv2⟩ := w.r.sl i z ez
  cases z with
  | lst xs =>
    cases y with
    | lst ys =>
      obtain ⟨hl, hz⟩ := Option.ite_none_right_eq_some.mp (show (if xs.length + ys.length ≤ LIM then some (PV.D.lst (xs ++ ys)) else none) = some z' from ez')
      cases hz
      rw [hg] at hv2
      obtain ⟨a, vs, rfl, hF, ha, rs⟩ := lst1_inv hv2
      refine ⟨_, hv1, .inl ⟨rfl, vs, .inl (.inl ha)⟩, s Γ FF Z σ H ρ ok1 w.r _ ey _ fun u H1 e1 o1 => ?_⟩
      rw [hlv] at o1
      obtain ⟨F, hFn, nd, o1⟩ := o1
      obtain ⟨b, ws, rfl, _, hb, rw'⟩ := lst1_inv o1
      have w1 := w.freeze e1
      have ha1 := e1 _ _ ha
      refine ⟨a, b, vs, ws, rfl, rfl, ha1, hb, ?_, ?_⟩
      · rw [rs.length, rw'.length]; exact Nat.le_trans hl LIM_le
      · have haF : a ∈ FF i := by rw [hF]; exact List.mem_singleton.mpr rfl
        have ru : Reps X.K cl H1 (fun a => Z a ∨ New H H1 a) ys ws := Reps.mono (fun _ _ _ h => h) (fun a h => by
          have := h.1
          rw [hac] at this
          exact this.imp zn_nil id) _ _ rw'
        have rs1 : Reps X.K cl H1 (fun a => Z a ∨ New H H1 a) xs vs := Reps.mono (Agr.of_ex e1) (fun a h => .inl h) _ _ rs
        obtain ⟨w2, s2⟩ := put_mut (i := i) (d := .lst (xs ++ ys)) (ob := .lst (vs ++ ws)) w1 hv1 haF (by
          rw [hg, hF]
          exact RepO.lst1 upd_same (Reps.mono (agrZ w1 haF) (fun _ h => h) _ _ (rs1.append ru))) (by rw [hg]; decide)
        exact f FF _ σ _ w2 ((Step.freeze e1).trans s2)
    | _ => cases ez'
  | _ => cases y <;> cases ez'
/-! ### x.update(y), both dicts of this def's own -/
def putAll (ps : List (Key × V)) : List (Key × V) → List (Key × V)
  | [] => ps
  | (k, v) :: r => putAll (putK ps k v) r
theorem putAll_kv : ∀ {qs : List (Key × V)} {ws : List (Key × Value)} {ps : List (Key × V)} {us : List (Key × Value)}, KV ps us → KV qs ws → KV (putAll ps qs) (merged us ws)
  | [], _, _, _, h, .nil => h
  | (k, v) :: qs, (_, u) :: ws, ps, us, h, .cons r t => by
    obtain ⟨e, r⟩ := r
    cases e
    have := putAll_kv (ps := putK ps k v) (us := stored us k u) (qs := qs) (ws := ws) (h.put k r) t
    exact this
theorem putAll_len : ∀ (qs ps : List (Key × V)), (putAll ps qs).length ≤ ps.length + qs.length
  | [], ps => Nat.le_refl _
  | (k, v) :: qs, ps => by
    have h1 := putAll_len qs (putK ps k v)
    have h2 := length_putK ps k v
    show (putAll (putK ps k v) qs).length ≤ ps.length + (qs.length + 1)
    omega
def rUpd : V → List V → Hp → VK → Prop := fun x vs H Q => ∃ a b ps qs, x = .ref a ∧ vs = [.ref b] ∧ a ≠ b ∧ H a = some (.dK ps) ∧ H b = some (.dK qs) ∧ ps.length + qs.length ≤ sizeLine ∧ Q .non (upd H a (.dK (putAll ps qs)))
theorem mt_update : MtR X "dict.update" rUpd := by
  rintro pins s σ H x vs v us Q I rx rv ⟨a, b, ps, qs, rfl, rfl, ne, ha, hb, hz, q⟩
  cases rx
  obtain ⟨u, rfl, ru⟩ := rv.one
  cases ru
  obtain ⟨z1, n1, us, k1, o1⟩ := dk_of I.hok ha
  obtain ⟨z2, n2, ws, k2, o2⟩ := dk_of I.hok hb
  refine call_meetsIn PySem.F.slot_dict_update o1.typeIs PySem.F.entry_dict_update (PySem.F.args_dict_update_2 _ _) (PySem.meets_dict_update (mixKind X.prog X.w) a b ne n2) ⟨us, ws, o1, o2, ?_, fun h' m1 _ sb => ?_⟩
  · rw [← k1.length, ← k2.length]
    exact hz
  · have there : ∃ q, h'.get? a = some q := let ⟨q, _, _, hq, _⟩ := m1; ⟨q, hq⟩
    exact ⟨.non, _, d_write (t' := s.toks) I (by rw [ha]; exact True.intro) sb there (dk_new (Nat.le_trans (putAll_len qs ps) hz) n1 (putAll_kv k1 k2) m1), rfl, q⟩
theorem repK_all {K : PySem.W.Frag} {H : Hp} {A : Addr → Prop} : ∀ {ls : List (Key × D)} {qs : List (Key × V)} {kvs : List (Key × D)} {ps : List (Key × V)}, RepK K cl H A kvs ps → RepK K cl H A ls qs → RepK K cl H A (putAllD kvs ls) (putAll ps qs)
  | [], qs, _, _, h, h2 => by
    cases (show qs = [] from h2)
    exact h
  | (k, d) :: ls, qs, _, _, h, h2 => by
    obtain ⟨v, r, rfl, hv, h2⟩ := h2
    have := repK_all (repK_put (q := k) h hv) h2
    exact this
theorem repK_len {K : PySem.W.Frag} {H : Hp} {A : Addr → Prop} : ∀ {ls : List (Key × D)} {qs : List (Key × V)}, RepK K cl H A ls qs → qs.length = ls.length
  | [], qs, h => by
    cases (show qs = [] from h)
    rfl
  | (k, d) :: ls, qs, h => by
    obtain ⟨v, r, rfl, hv, h⟩ := h
    exact congrArg (· + 1) (repK_len h)
theorem ss_upd {x y : Str} {i j : Nat} {px py ap cp pos : Pos} (hN : X.N[i]? = some x) (hv : Vis X.env.scope x) (hd : (x == ("__debug__" : Str)) = false) (hcd : (x == ("__classdict__" : Str)) = false)
    (hN2 : X.N[j]? = some y) (hv2 : Vis X.env.scope y) (hd2 : (y == ("__debug__" : Str)) = false) (hcd2 : (y == ("__classdict__" : Str)) = false) (hline : (ap.endLine == cp.line) = true) :
    SS X cl T Γ lvl (.Expr (.Call (.Attribute (.Name x px) "update" ap) [.Name y py] [] cp) pos) (.upd i j) := by
  refine ⟨_, ps_expr (pe_bm PySem.F.plainAttrs_dict PySem.F.slot_dict_update PySem.F.type_dict_update mt_update (pe_var hN hv hd hcd) (pa_cons (pe_var hN2 hv2 hd2 hcd2) pa_nil (star_ok (by rfl) _ _)) (base_ok (by rfl) _ _ _) (by rw [back_all (by rfl)]; rfl) hline (star_ok (by rfl) _ _) rfl) (swaps_no (by rfl) _ _ _), fun A H0 FF Z σ H ρ ok w o e D f => ?_⟩
  obtain ⟨ok1, ok2⟩ := ands (show (Γ.getD i 0 == 1 && Γ.getD j 0 == 0) = true from ok)
  have hg : Γ.getD i 0 = 1 := by simpa using ok1
  have hg2 : Γ.getD j 0 = 0 := by simpa using ok2
  obtain ⟨d2, ed2, e⟩ := bind2 (show ((ρ[j]?).bind id).bind (fun y => upS ρ i fun x => updD x y) = some o from e)
  obtain ⟨d1, d', ez, ez', rfl⟩ := upS_some e
  obtain ⟨v1, s1, r1⟩ := w.r.sl i d1 ez
  obtain ⟨v2, s2, r2⟩ := w.r.sl j d2 (env_some ed2)
  cases d1 with
  | dct kvs =>
    cases d2 with
    | dct ls =>
      obtain ⟨hl, hz⟩ := Option.ite_none_right_eq_some.mp (show (if kvs.length + ls.length ≤ LIM then some (PV.D.dct (putAllD kvs ls)) else none) = some d' from ez')
      cases hz
      rw [hg] at r1
      rw [hg2] at r2
      obtain ⟨a, ps, rfl, hF, ha, rs⟩ := dct1_inv r1
      obtain ⟨_, b, qs, rfl, ⟨hb, zb⟩, rs2⟩ := r2
      have haF : a ∈ FF i := by rw [hF]; exact List.mem_singleton.mpr rfl
      have ne : a ≠ b := fun z => w.dz i a haF (z ▸ zb)
      refine ⟨_, s1, ?_, _, s2, a, b, ps, qs, rfl, rfl, ne, ha, hb, ?_, ?_⟩
      · exact .inr (.inr (.inl ⟨rfl, .inl ⟨ps, ha⟩⟩))
      · rw [repK_len rs, repK_len rs2]; exact Nat.le_trans hl LIM_le
      · obtain ⟨w2, s2⟩ := put_mut (i := i) (d := .dct (putAllD kvs ls)) (ob := .dK (putAll ps qs)) w s1 haF (by
          rw [hg, hF]
          exact RepO.dct1 upd_same (RepK.mono (agrZ w haF) (fun _ h => h) _ _ (repK_all rs rs2))) (by rw [hg]; decide)
        exact f FF _ σ _ w2 s2
    | _ => cases ez'
  | _ => cases d2 <;> cases ez'
/-- x += e, ints -/
theorem ss_augAdd {x : Str} {i : Nat} {e : Expr} {c : CE} {p pos : Pos} (hx : XOk X cl T k) (hN : X.N[i]? = some x) (hv : Loc X.env.scope x) (hf : X.fn x = true ∨ X.env.scope.names.lookup x = some .local) (h : SE X cl T e c) : SS X cl T Γ lvl (.AugAssign (.Name x p) .Add e pos) (.aug i .add c) := by
  obtain ⟨t, pe, s⟩ := h
  refine ⟨_, ps_aug hx.nd hN hv pe ip_add hf, fun A H0 FF Z σ H ρ ok w o e D f => ?_⟩
  obtain ⟨ok1, ok2⟩ := ands (show (CE.okG Γ c && Γ.getD i 0 == 0) = true from ok)
  have hg : Γ.getD i 0 = 0 := by simpa using ok2
  obtain ⟨z, ez, e⟩ := bind2 (show ((ρ[i]?).bind id).bind (fun x => (CE.sem T c ρ).bind fun y => (augD .add x y).map fun z => O.nx (ρ.set i (some z))) = some o from e)
  obtain ⟨y, ey, e⟩ := bind2 e
  obtain ⟨z', ez', rfl⟩ := Option.map_eq_some_iff.mp e
  obtain ⟨v, hv1, hv2⟩ := w.r.sl i z (env_some ez)
  rw [hg] at hv2
  cases z with
  | int m =>
    cases y with
    | int n =>
      cases (show some (PV.D.int (m + n)) = some z' from ez')
      cases (show v = _ from hv2.2)
      refine ⟨_, hv1, s Γ FF Z σ H ρ ok1 w.r _ ey _ fun u H1 e1 o1 => ?_⟩
      cases (show u = _ from o1.rep fun a h => zn_mono (CE.sub c) h)
      refine ⟨m, n, rfl, rfl, ?_⟩
      refine f FF _ _ H1 ((w.freeze e1).stored (S := [i]) (fun j hj => by obtain rfl := List.mem_singleton.mp hj; exact hg) ⟨List.length_set, List.length_set, fun j hj => ⟨set_other fun z => hj (List.mem_singleton.mpr z), set_other fun z => hj (List.mem_singleton.mpr z)⟩, fun j hj d' hd => ?_⟩) (Step.freeze e1)
      obtain rfl := List.mem_singleton.mp hj
      obtain ⟨h1, h2⟩ := set_same hd
      cases h2
      exact ⟨_, List.getElem?_set_self (by rw [w.r.ln]; exact h1), rfl⟩
    | _ => cases ez'
  | _ => cases y <;> cases ez'
theorem ss_augSub {x : Str} {i : Nat} {e : Expr} {c : CE} {p pos : Pos} (hx : XOk X cl T k) (hN : X.N[i]? = some x) (hv : Loc X.env.scope x) (hf : X.fn x = true ∨ X.env.scope.names.lookup x = some .local) (h : SE X cl T e c) : SS X cl T Γ lvl (.AugAssign (.Name x p) .Sub e pos) (.aug i .sub c) := by
  obtain ⟨t, pe, s⟩ := h
  refine ⟨_, ps_aug hx.nd hN hv pe ip_sub hf, fun A H0 FF Z σ H ρ ok w o e D f => ?_⟩
  obtain ⟨ok1, ok2⟩ := ands (show (CE.okG Γ c && Γ.getD i 0 == 0) = true from ok)
  have hg : Γ.getD i 0 = 0 := by simpa using ok2
  obtain ⟨z, ez, e⟩ := bind2 (show ((ρ[i]?).bind id).bind (fun x => (CE.sem T c ρ).bind fun y => (augD .sub x y).map fun z => O.nx (ρ.set i (some z))) = some o from e)
  obtain ⟨y, ey, e⟩ := bind2 e
  obtain ⟨z', ez', rfl⟩ := Option.map_eq_some_iff.mp e
  obtain ⟨v, hv1, hv2⟩ := w.r.sl i z (env_some ez)
  rw [hg] at hv2
  cases z with
  | int m =>
    cases y with
    | int n =>
      cases (show some (PV.D.int (m - n)) = some z' from ez')
      cases (show v = _ from hv2.2)
      refine ⟨_, hv1, s Γ FF Z σ H ρ ok1 w.r _ ey _ fun u H1 e1 o1 => ?_⟩
      cases (show u = _ from o1.rep fun a h => zn_mono (CE.sub c) h)
      refine ⟨m, n, rfl, rfl, ?_⟩
      refine f FF _ _ H1 ((w.freeze e1).stored (S := [i]) (fun j hj => by obtain rfl := List.mem_singleton.mp hj; exact hg) ⟨List.length_set, List.length_set, fun j hj => ⟨set_other fun z => hj (List.mem_singleton.mpr z), set_other fun z => hj (List.mem_singleton.mpr z)⟩, fun j hj d' hd => ?_⟩) (Step.freeze e1)
      obtain rfl := List.mem_singleton.mp hj
      obtain ⟨h1, h2⟩ := set_same hd
      cases h2
      exact ⟨_, List.getElem?_set_self (by rw [w.r.ln]; exact h1), rfl⟩
    | _ => cases ez'
  | _ => cases y <;> cases ez'
theorem asg_sub {o i : Expr} {pos : Pos} (h : kindE i = true) (env : PySem.Env) (v : Value) : assign (.Subscript o i pos) env v =
    (holding [v] (eval o env) >>= fun x => holding [v, x] (eval i env) >>= fun y => standAt pos >>= fun _ => holding [v, x, y] (setItem x y v) >>= fun _ => release [v, x, y] []) := by
  cases i <;> first | rfl | cases h
theorem RepK.put1 {K : PySem.W.Frag} {H : Hp} {A : Addr → Prop} {q : Key} {d : D} {v : V} {kvs : List (Key × D)} {ps : List (Key × V)} (h : RepK K cl H A kvs ps) (hv : Rep K cl H A d v) : RepK K cl H A (putKD q d kvs) (putK ps q v) := repK_put h hv
/-- x[k] = e -/
theorem ss_setix {x : Str} {i : Nat} {e j : Expr} {c cj : CE} {px ps' pos : Pos} (hx : XOk X cl T k) (hN : X.N[i]? = some x) (hv : Vis X.env.scope x) (hd : (x == ("__debug__" : Str)) = false) (hcd : (x == ("__classdict__" : Str)) = false) (hk : kindE j = true) (hn : noComp e = true) (hj : SE X cl T j cj) (h : SE X cl T e c) :
    SS X cl T Γ lvl (.Assign [.Subscript (.Name x px) j ps'] e pos) (.setix i cj c) := by
  have hu : X.A.units + 1 < cLine := by have := hx.room.un; omega
  obtain ⟨t, pe, s⟩ := h
  obtain ⟨tj, pj, sj⟩ := hj
  refine ⟨_, PS.or (ps_dput hu (pe_var hN hv hd hcd) pj pe (swaps_no hn _ _ _)) (ps_asg pe (pg_sub (pe_var hN hv hd hcd) pj set_list (asg_sub hk _)) (by unfold swapsWithSole; exact swaps_no hn _ _ _) (by cases e <;> rfl) (by rfl)), fun A H0 FF Z σ H ρ ok w o e D f => ?_⟩
  obtain ⟨ok, ok4⟩ := ands (show (CE.okG Γ cj && CE.okG Γ c && Γ.getD i 0 == 1 && (CE.al Γ c).isEmpty) = true from ok)
  obtain ⟨ok, ok3⟩ := ands ok
  obtain ⟨ok1, ok2⟩ := ands ok
  have hg : Γ.getD i 0 = 1 := by simpa using ok3
  have hal := emptyNil ok4
  obtain ⟨y, ey, e⟩ := bind2 (show (CE.sem T c ρ).bind (fun y => (CE.sem T cj ρ).bind fun z => upS ρ i fun x => setD x z y) = some o from e)
  obtain ⟨q, eq, e⟩ := bind2 e
  obtain ⟨z, z', ez, ez', rfl⟩ := upS_some e
  obtain ⟨v, hv1, hv2⟩ := w.r.sl i z ez
  rw [hg] at hv2
  cases z with
  | lst xs =>
    cases q with
    | int m =>
      obtain ⟨n, hn', hz⟩ := Option.map_eq_some_iff.mp (show (L2.ixN xs.length m).map (fun j => PV.D.lst (xs.set j y)) = some z' from ez')
      cases hz
      obtain ⟨a, vs, rfl, hF, ha, rs⟩ := lst1_inv hv2
      refine .inr (s Γ FF Z σ H ρ ok2 w.r y ey _ fun u H1 e1 o1 => ⟨_, hv1, sj Γ FF Z σ H1 ρ ok1 (w.r.ext e1) _ eq _ fun u2 H2 e2 o2 => ?_⟩)
      cases (show u2 = _ from o2.rep fun a h => zn_mono (CE.sub cj) h)
      have eA := e1.trans e2
      have w1 := w.freeze eA
      refine ⟨a, vs, m, n, rfl, rfl, eA _ _ ha, by rw [rs.length]; exact hn', ?_⟩
      have haF : a ∈ FF i := by rw [hF]; exact List.mem_singleton.mpr rfl
      have ru : Rep X.K cl H2 (fun a => Z a ∨ New H H2 a) y u := Rep.mono (Agr.of_ex e2) (fun a h => by rw [hal] at h; exact h.imp zn_nil fun n => n.right e2) _ _ (o1.rep fun a h => zn_mono (CE.sub c) h)
      have rs1 : Reps X.K cl H2 (fun a => Z a ∨ New H H2 a) xs vs := Reps.mono (Agr.of_ex eA) (fun a h => .inl h) _ _ rs
      obtain ⟨w2, s2⟩ := put_mut (i := i) (d := .lst (xs.set n y)) (ob := .lst (vs.set n u)) w1 hv1 haF (by
        rw [hg, hF]
        exact RepO.lst1 upd_same (Reps.mono (agrZ w1 haF) (fun _ h => h) _ _ (rs1.set n ru))) (by rw [hg]; decide)
      exact f FF _ σ _ w2 ((Step.freeze eA).trans s2)
    | _ => cases ez'
  | dct kvs =>
    obtain ⟨kk, hkk, ez'⟩ := bind2 (show (keyD q).bind (fun q => if kvs.length < LIM then some (PV.D.dct (putKD q y kvs)) else none) = some z' from ez')
    obtain ⟨hl, hz⟩ := Option.ite_none_right_eq_some.mp ez'
    cases hz
    obtain ⟨a, ps, rfl, hF, ha, rs⟩ := dct1_inv hv2
    refine .inl (s Γ FF Z σ H ρ ok2 w.r y ey _ fun u H1 e1 o1 => ⟨_, hv1, sj Γ FF Z σ H1 ρ ok1 (w.r.ext e1) _ eq _ fun u2 H2 e2 o2 => ?_⟩)
    obtain rfl := keyD_rep (o2.rep fun a h => zn_mono (CE.sub cj) h) hkk
    have eA := e1.trans e2
    have w1 := w.freeze eA
    have hlen : ps.length < sizeLine := by
      have e5 := congrArg List.length (repK_to rs).1
      rw [List.length_map, List.length_map] at e5
      rw [← e5]
      exact Nat.lt_of_lt_of_le hl LIM_le
    refine ⟨a, _, rfl, DPut.k (eA _ _ ha) hlen, ?_⟩
    have haF : a ∈ FF i := by rw [hF]; exact List.mem_singleton.mpr rfl
    have ru : Rep X.K cl H2 (fun a => Z a ∨ New H H2 a) y u := Rep.mono (Agr.of_ex e2) (fun a h => by rw [hal] at h; exact h.imp zn_nil fun n => n.right e2) _ _ (o1.rep fun a h => zn_mono (CE.sub c) h)
    have rs1 : RepK X.K cl H2 (fun a => Z a ∨ New H H2 a) kvs ps := RepK.mono (Agr.of_ex eA) (fun a h => .inl h) _ _ rs
    obtain ⟨w2, s2⟩ := put_mut (i := i) (d := .dct (putKD kk y kvs)) (ob := .dK (putK ps kk u)) w1 hv1 haF (by
      rw [hg, hF]
      exact RepO.dct1 upd_same (RepK.mono (agrZ w1 haF) (fun _ h => h) _ _ (repK_put rs1 ru))) (by rw [hg]; decide)
    exact f FF _ σ _ w2 ((Step.freeze eA).trans s2)
  | _ => cases q <;> cases ez'
/-! ### x[k].append(e), x a dict of lists -/
/-- the entry of a key, changed -/
theorem mod_at {K : PySem.W.Frag} {H : Hp} {Z : Addr → Prop} {q : Key} {g : D → Option D} : ∀ {kvs kvs' : List (Key × D)} {ps : List (Key × V)} {Fs : List (List Addr)}, modK q g kvs = some kvs' → kvs.map (·.1) = ps.map (·.1) → All3 (RepO K cl H Z 1) (kvs.map (·.2)) (ps.map (·.2)) Fs → Fs.flatten.Nodup →
    ∃ x y v F, g x = some y ∧ valV ps q = some v ∧ RepO K cl H Z 1 x v F ∧ (∀ a ∈ F, a ∈ Fs.flatten) ∧ kvs'.map (·.1) = ps.map (·.1) ∧
      ∀ H' Z', (∀ a o, a ∉ F → (Z a ∨ a ∈ Fs.flatten) → H a = some o → H' a = some o) → (∀ a, Z a → Z' a) → (∀ a, Z a → a ∉ Fs.flatten) → RepO K cl H' Z' 1 y v F → All3 (RepO K cl H' Z' 1) (kvs'.map (·.2)) (ps.map (·.2)) Fs
  | [], _, _, _, h, _, _, _ => by cases h
  | (j, x) :: r, kvs', [], _, h, e, _, _ => by cases e
  | (j, x) :: r, kvs', (j', v) :: ps, [], h, e, a, _ => a.elim
  | (j, x) :: r, kvs', (j', v) :: ps, F :: Fs, h, e, ⟨a1, a2⟩, nd => by
    have e0 : j :: r.map (·.1) = j' :: ps.map (·.1) := e
    injection e0 with e1 e2
    subst e1
    rw [List.flatten_cons, List.nodup_append] at nd
    obtain ⟨nd1, nd2, nd3⟩ := nd
    have h : (if j = q then (g x).map fun y => (j, y) :: r else (modK q g r).map fun r' => (j, x) :: r') = some kvs' := h
    by_cases hj : j = q
    · rw [if_pos hj] at h
      obtain ⟨y, hy, rfl⟩ := Option.map_eq_some_iff.mp h
      refine ⟨x, y, v, F, hy, valV_pos (p := (j, v)) hj, a1, fun a h => by rw [List.flatten_cons]; exact List.mem_append.mpr (.inl h), by rw [List.map_cons, List.map_cons, e2], fun H' Z' g1 g2 g3 g4 => ⟨g4, ?_⟩⟩
      refine a2.imp fun d v G hG hr => RepO.mono 1 (fun a o ha h => g1 a o (fun hm => ?_) (ha.imp id fun hb => ?_) h) g2 hr
      · rcases ha with ha | ha
        · exact g3 a ha (by rw [List.flatten_cons]; exact List.mem_append.mpr (.inl hm))
        · exact nd3 a hm a (List.mem_flatten.mpr ⟨G, hG, ha⟩) rfl
      · rw [List.flatten_cons]
        exact List.mem_append.mpr (.inr (List.mem_flatten.mpr ⟨G, hG, hb⟩))
    · rw [if_neg hj] at h
      obtain ⟨r', hr', rfl⟩ := Option.map_eq_some_iff.mp h
      obtain ⟨x', y, w, G, h1, h2, h3, h4, h5, h6⟩ := mod_at hr' e2 a2 nd2
      refine ⟨x', y, w, G, h1, by rw [valV_neg (p := (j, v)) hj]; exact h2, h3, fun a h => by rw [List.flatten_cons]; exact List.mem_append.mpr (.inr (h4 a h)), by rw [List.map_cons, List.map_cons, h5], fun H' Z' g1 g2 g3 g4 => ⟨?_, ?_⟩⟩
      · refine RepO.mono 1 (fun a o ha h => g1 a o (fun hm => ?_) (ha.imp id fun hb => ?_) h) g2 a1
        · rcases ha with ha | ha
          · exact g3 a ha (by rw [List.flatten_cons]; exact List.mem_append.mpr (.inr (h4 a hm)))
          · exact nd3 a ha a (h4 a hm) rfl
        · rw [List.flatten_cons]
          exact List.mem_append.mpr (.inl hb)
      · refine h6 H' Z' (fun a o ha hb h => g1 a o ha (hb.imp id fun hb => ?_) h) g2 (fun a hz hm => g3 a hz ?_) g4
        · rw [List.flatten_cons]
          exact List.mem_append.mpr (.inr hb)
        · rw [List.flatten_cons]
          exact List.mem_append.mpr (.inr hm)
theorem ss_appAt {x : Str} {i : Nat} {e j : Expr} {c cj : CE} {px sp ap cp pos : Pos} (hx : XOk X cl T k) (hN : X.N[i]? = some x) (hv : Vis X.env.scope x) (hd : (x == ("__debug__" : Str)) = false) (hcd : (x == ("__classdict__" : Str)) = false) (hk : kindE e = true) (hkj : kindE j = true) (hline : (ap.endLine == cp.line) = true) (hj : SE X cl T j cj) (h : SE X cl T e c) :
    SS X cl T Γ lvl (.Expr (.Call (.Attribute (.Subscript (.Name x px) j sp) "append" ap) [e] [] cp) pos) (.appAt i cj c) := by
  have hu : X.A.units + 1 < cLine := by have := hx.room.un; omega
  obtain ⟨t, pe, s⟩ := h
  obtain ⟨tj, pj, sj⟩ := hj
  refine ⟨_, ps_expr (pe_bm PySem.F.plainAttrs_list PySem.F.slot_list_append PySem.F.type_list_append mt_append (pe_dget hu (pe_var hN hv hd hcd) pj (ix_nosl hkj)) (pa_cons pe pa_nil (star_ok hk _ _)) (base_ok (by rfl) _ _ _) (by rw [back_all (by simp [hk])]; rfl) hline (star_ok hk _ _) rfl) (swaps_no (by rfl) _ _ _), fun A H0 FF Z σ H ρ ok w o e D f => ?_⟩
  obtain ⟨ok, ok4⟩ := ands (show (CE.okG Γ cj && CE.okG Γ c && Γ.getD i 0 == 2 && (CE.al Γ c).isEmpty) = true from ok)
  obtain ⟨ok, ok3⟩ := ands ok
  obtain ⟨ok1, ok2⟩ := ands ok
  have hg : Γ.getD i 0 = 2 := by simpa using ok3
  have hal := emptyNil ok4
  obtain ⟨q, eq, e⟩ := bind2 (show (CE.sem T cj ρ).bind (fun z => (CE.sem T c ρ).bind fun y => upS ρ i fun x => appAtD x z y) = some o from e)
  obtain ⟨y, ey, e⟩ := bind2 e
  obtain ⟨z, z', ez, ez', rfl⟩ := upS_some e
  obtain ⟨v, hv1, hv2⟩ := w.r.sl i z ez
  rw [hg] at hv2
  cases z with
  | dct kvs =>
    obtain ⟨kk, hkk, ez'⟩ := bind2 (show (keyD q).bind (fun q => (modK q (fun x => appD x y) kvs).map PV.D.dct) = some z' from ez')
    obtain ⟨kvs', hmod, rfl⟩ := Option.map_eq_some_iff.mp ez'
    rcases hv2 with ⟨m, _⟩ | ⟨p, Fs, rfl, hF, h⟩
    · cases m
    rcases h with ⟨ds, vs, ed, _⟩ | ⟨kvs0, ps, ed, hp, ek, a3⟩ | ⟨c0, dx, fs, ps, ed, _⟩
    · cases ed
    rotate_left
    · cases ed
    cases ed
    have ndF := w.nd i
    rw [hF, List.nodup_cons] at ndF
    obtain ⟨hpF, ndF⟩ := ndF
    refine ⟨_, hv1, sj Γ FF Z σ H ρ ok1 w.r q eq _ fun u1 H1 e1 o1 => ?_⟩
    obtain rfl := keyD_rep (o1.rep fun a h => zn_mono (CE.sub cj) h) hkk
    obtain ⟨x0, y0, v0, F0, hy0, hv0, hr0, hsub, hkeys, hfin⟩ := mod_at hmod ek a3 ndF
    cases x0 with
    | lst xs =>
      obtain ⟨hl, hz⟩ := Option.ite_none_right_eq_some.mp (show (if xs.length < LIM then some (PV.D.lst (xs ++ [y])) else none) = some y0 from hy0)
      cases hz
      obtain ⟨a, vs, rfl, hF0, ha, rs⟩ := lst1_inv hr0
      refine ⟨p, .ref a, rfl, ?_, .inl ⟨rfl, vs, .inl (.inl (e1 _ _ ha))⟩, s Γ FF Z σ H1 ρ ok2 (w.r.ext e1) y ey _ fun u H2 e2 o2 => ?_⟩
      · rw [← hv0]
        exact DGet.k (e1 _ _ hp)
      have eA := e1.trans e2
      have w1 := w.freeze eA
      refine ⟨a, vs, u, rfl, rfl, eA _ _ ha, ?_, ?_⟩
      · rw [rs.length]; exact Nat.lt_of_lt_of_le hl LIM_le
      have haF0 : a ∈ Fs.flatten := hsub a (by rw [hF0]; exact List.mem_singleton.mpr rfl)
      have haF : a ∈ FF i := by rw [hF]; exact List.mem_cons_of_mem _ haF0
      have hap : p ≠ a := fun z => hpF (by rw [z]; exact haF0)
      have ru : Rep X.K cl H2 (fun a => Z a ∨ New H H2 a) y u := Rep.mono (fun _ _ _ h => h) (fun a h => by rw [hal] at h; exact h.imp zn_nil fun n => n.left e1) _ _ (o2.rep fun a h => zn_mono (CE.sub c) h)
      have rs1 : Reps X.K cl H2 (fun a => Z a ∨ New H H2 a) xs vs := Reps.mono (Agr.of_ex eA) (fun a h => .inl h) _ _ rs
      obtain ⟨w2, s2⟩ := put_mut (i := i) (d := .dct kvs') (v := .ref p) (ob := .lst (vs ++ [u])) w1 hv1 haF (by
        rw [hg]
        refine .inr ⟨p, Fs, rfl, hF, .inr (.inl ⟨kvs', ps, rfl, by rw [upd_ne hap]; exact eA _ _ hp, hkeys, ?_⟩)⟩
        refine hfin _ _ (fun b o hb hc hh => ?_) (fun b h => .inl h) (fun b hz hm => w.dz i b (by rw [hF]; exact List.mem_cons_of_mem _ hm) hz) ?_
        · rw [upd_ne fun z => hb (by rw [z, hF0]; exact List.mem_singleton.mpr rfl)]
          exact eA _ _ hh
        · rw [hF0]
          exact RepO.lst1 upd_same (Reps.mono (agrZ w1 haF) (fun _ h => h) _ _ (rs1.append ⟨u, [], rfl, ru, rfl⟩))) (by rw [hg]; decide)
      exact f FF _ σ _ w2 ((Step.freeze eA).trans s2)
    | _ => cases hy0
  | _ => cases ez'
/-! ### x.f = e, x an instance that is made -/
theorem repF_put {K : PySem.W.Frag} {H : Hp} {A : Addr → Prop} {f : Str} {d : D} {v : V} (hv : Rep K cl H A d v) : ∀ {kvs : List (Str × D)} {ps : List (Str × V)}, RepF K cl H A kvs ps → RepF K cl H A (putFD f d kvs) (putF f v ps)
  | [], ps, h => by
    cases (show ps = [] from h)
    exact ⟨v, [], rfl, hv, rfl⟩
  | (j, e) :: r, _, h => by
    obtain ⟨w, ws, rfl, h1, h2⟩ := h
    have ih := repF_put (f := f) hv h2
    show RepF K cl H A (if j = f then (j, d) :: r else (j, e) :: putFD f d r) (if j = f then (j, v) :: ws else (j, w) :: putF f v ws)
    by_cases hj : j = f
    · rw [if_pos hj, if_pos hj]
      exact ⟨v, _, rfl, hv, h2⟩
    · rw [if_neg hj, if_neg hj]
      exact ⟨w, _, rfl, h1, ih⟩
theorem ss_setf {x f : Str} {i c : Nat} {e : Expr} {ce : CE} {px ap pos : Pos} (hx : XOk X cl T k) (hf : (c, f) ∈ T.fd) (hN : X.N[i]? = some x) (hv : Vis X.env.scope x) (hd : (x == ("__debug__" : Str)) = false) (hcd : (x == ("__classdict__" : Str)) = false) (hn : noComp e = true) (h : SE X cl T e ce) :
    SS X cl T Γ lvl (.Assign [.Attribute (.Name x px) f ap] e pos) (.setf i c f ce) := by
  obtain ⟨t, pe, s⟩ := h
  obtain ⟨hc1, hc2⟩ := hx.fds _ hf
  refine ⟨_, ps_fld (pe_var hN hv hd hcd) pe (swaps_no hn _ _ _), fun A H0 FF Z σ H ρ ok w o e D g => ?_⟩
  obtain ⟨ok, ok3⟩ := ands (show (CE.okG Γ ce && Γ.getD i 0 == 1 && (CE.al Γ ce).isEmpty) = true from ok)
  obtain ⟨ok1, ok2⟩ := ands ok
  have hg : Γ.getD i 0 = 1 := by simpa using ok2
  have hal := emptyNil ok3
  obtain ⟨y, ey, e⟩ := bind2 (show (CE.sem T ce ρ).bind (fun y => upS ρ i fun x => setfD c f x y) = some o from e)
  obtain ⟨z, z', ez, ez', rfl⟩ := upS_some e
  obtain ⟨v, hv1, hv2⟩ := w.r.sl i z ez
  rw [hg] at hv2
  cases z with
  | ins c' fs =>
    obtain ⟨⟨rfl, hl⟩, hz⟩ := Option.ite_none_right_eq_some.mp (show (if c = c' ∧ fs.length < 100 then some (PV.D.ins c' (putFD f y fs)) else none) = some z' from ez')
    cases hz
    obtain ⟨a, dx, ps, rfl, hF, ha, rs⟩ := ins1_inv hv2
    refine s Γ FF Z σ H ρ ok1 w.r y ey _ fun u H1 e1 o1 => ⟨_, hv1, ?_⟩
    have w1 := w.freeze e1
    have hlen : ps.length < 1000 := by
      have e5 := congrArg List.length (repF_to rs).1
      rw [List.length_map, List.length_map] at e5
      omega
    refine ⟨a, cl c, dx, ps, rfl, e1 _ _ ha, hc1, hc2, hlen, ?_⟩
    have haF : a ∈ FF i := by rw [hF]; exact List.mem_singleton.mpr rfl
    have ru : Rep X.K cl H1 (fun a => Z a ∨ New H H1 a) y u := Rep.mono (fun _ _ _ h => h) (fun a h => by rw [hal] at h; exact h.imp zn_nil id) _ _ (o1.rep fun a h => zn_mono (CE.sub ce) h)
    have rs1 : RepF X.K cl H1 (fun a => Z a ∨ New H H1 a) fs ps := RepF.mono (Agr.of_ex e1) (fun a h => .inl h) _ _ rs
    obtain ⟨w2, s2⟩ := put_mut (i := i) (d := .ins c (putFD f y fs)) (ob := .ins (cl c) dx (putF f u ps)) w1 hv1 haF (by
      rw [hg, hF]
      exact RepO.ins1 upd_same (RepF.mono (agrZ w1 haF) (fun _ h => h) _ _ (repF_put ru rs1))) (by rw [hg]; decide)
    exact g FF _ σ _ w2 ((Step.freeze e1).trans s2)
  | _ => cases ez'
end
end PV

set_option Elab.async false
set_option linter.all false
set_option maxRecDepth 100000
set_option maxHeartbeats 4000000
/-! PV14: the checker of expressions. -/
namespace PV
open PySem L2 PyProof.Rows
open Evl (Ex)
/-! ### a dict's display -/
section
variable {X : Cx} {cl : Nat → Addr} {T : Tab}
def SPs (X : Cx) (cl : Nat → Addr) (T : Tab) (pos : Pos) (keys : List (Option Expr)) (vals : List Expr) (ks vs : CEs) : Prop := ∃ trs, PPs X pos keys vals trs ∧ ∀ Γ FF Z σ H ρ, CEs.okG Γ ks = true → CEs.okG Γ vs = true → RSt X.K cl Γ FF Z σ H ρ →
  ∀ xs ys qs, CEs.sem T ks ρ = some xs → CEs.sem T vs ρ = some ys → keysD xs = some qs → ∀ Q : List (V × V) → Hp → Prop,
  (∀ kvs H', Ex H H' → kvs.length = qs.length → RepK X.K cl H' (fun a => zn FF Z (CEs.al Γ vs) a ∨ New H H' a) (qs.zip ys) kvs → Q (kvs.map fun kv => (kV kv.1, kv.2)) H') → tPairs trs σ H Q
theorem sps_nil {pos : Pos} : SPs X cl T pos [] [] .nil .nil := ⟨[], pps_nil, fun Γ FF Z σ H ρ _ _ r xs ys qs e1 e2 e3 Q hQ => by
  cases (show some [] = some xs from e1)
  cases (show some [] = some ys from e2)
  cases (show some [] = some qs from e3)
  exact hQ [] H (Ex.refl H) rfl rfl⟩
theorem sps_cons {pos : Pos} {k v : Expr} {keys : List (Option Expr)} {vals : List Expr} {ck cv : CE} {ks vs : CEs} (hk : SE X cl T k ck) (hv : SE X cl T v cv) (hr : SPs X cl T pos keys vals ks vs) : SPs X cl T pos (some k :: keys) (v :: vals) (.cons ck ks) (.cons cv vs) := by
  obtain ⟨tk, pk, sk⟩ := hk
  obtain ⟨tv, pv, sv⟩ := hv
  obtain ⟨trs, pp, ss⟩ := hr
  refine ⟨_, pps_cons pk pv pp, fun Γ FF Z σ H ρ o1 o2 r xs ys qs e1 e2 e3 Q hQ => ?_⟩
  obtain ⟨o1, o1'⟩ := ands (show (CE.okG Γ ck && CEs.okG Γ ks) = true from o1)
  obtain ⟨o2, o2'⟩ := ands (show (CE.okG Γ cv && CEs.okG Γ vs) = true from o2)
  obtain ⟨x, ex, e1⟩ := bind2 (show (CE.sem T ck ρ).bind (fun x => (CEs.sem T ks ρ).map fun xs => x :: xs) = some xs from e1)
  obtain ⟨xs, exs, rfl⟩ := Option.map_eq_some_iff.mp e1
  obtain ⟨y, ey, e2⟩ := bind2 (show (CE.sem T cv ρ).bind (fun x => (CEs.sem T vs ρ).map fun xs => x :: xs) = some ys from e2)
  obtain ⟨ys, eys, rfl⟩ := Option.map_eq_some_iff.mp e2
  obtain ⟨q, eq, e3⟩ := bind2 (show (keyD x).bind (fun k => (keysD xs).map fun ks => k :: ks) = some qs from e3)
  obtain ⟨qs, eqs, rfl⟩ := Option.map_eq_some_iff.mp e3
  refine sk Γ FF Z σ H ρ o1 r x ex _ fun u H1 g1 w1 => sv Γ FF Z σ H1 ρ o2 (r.ext g1) y ey _ fun w H2 g2 w2 => ss Γ FF Z σ H2 ρ o1' o2' ((r.ext g1).ext g2) xs ys qs exs eys eqs _ fun kvs H3 g3 hl rk => ?_
  obtain rfl := keyD_rep (w1.rep fun a h => zn_mono (CE.sub ck) h) eq
  refine hQ ((q, w) :: kvs) H3 ((g1.trans g2).trans g3) (congrArg (· + 1) hl) ⟨w, kvs, rfl, ?_, ?_⟩
  · exact Rep.mono (Agr.of_ex g3) (fun a h => h.imp (fun z => znl z) fun n => (n.right g3).left g1) _ _ (w2.rep fun a h => zn_mono (CE.sub cv) h)
  · exact RepK.mono (fun _ _ _ h => h) (fun a h => h.imp (fun z => znr z) fun n => n.left (g1.trans g2)) _ _ rk
theorem merge_all : ∀ (kvs ps : List (Key × V)), mergeK ps kvs = putAll ps kvs
  | [], ps => rfl
  | (k, v) :: r, ps => merge_all r (putK ps k v)
theorem se_dsp {pos : Pos} {keys : List (Option Expr)} {vals : List Expr} {ks vs : CEs} (hall : keys.all (·.isSome) = true) (hl : keys.length = vals.length) (h0 : keys ≠ []) (h15 : keys.length ≤ 15) (hk : ks.len = keys.length) (h : SPs X cl T pos keys vals ks vs) : SE X cl T (.Dict keys vals pos) (.dsp ks vs) := by
  obtain ⟨trs, pp, ss⟩ := h
  refine ⟨_, pe_disp pp hall hl h0 h15, fun Γ FF Z σ H ρ ok r d e1 Q hQ => ?_⟩
  obtain ⟨ok1, ok2⟩ := ands (show (CEs.okG Γ ks && CEs.okG Γ vs) = true from ok)
  obtain ⟨xs, exs, e1⟩ := bind2 (show (CEs.sem T ks ρ).bind (fun xs => (CEs.sem T vs ρ).bind fun ys => (keysD xs).map fun qs => D.dct (putAllD [] (qs.zip ys))) = some d from e1)
  obtain ⟨ys, eys, e1⟩ := bind2 e1
  obtain ⟨qs, eqs, rfl⟩ := Option.map_eq_some_iff.mp e1
  intro p hp
  have e0 : Ex H (upd H p (.dK [])) := Evl.Ex.new hp
  refine ss Γ FF Z σ _ ρ ok1 ok2 (r.ext e0) xs ys qs exs eys eqs _ fun kvs H2 g2 hlen rk => ?_
  have hp2 : H2 p = some (.dK []) := g2 _ _ upd_same
  have kl : ∀ {xs : List D} {qs : List Key}, keysD xs = some qs → qs.length = xs.length := fun {xs} => by
    induction xs with
    | nil => intro qs h; cases (show some [] = some qs from h); rfl
    | cons x xs ih =>
      intro qs h
      obtain ⟨q, _, h⟩ := bind2 (show (keyD x).bind (fun k => (keysD xs).map fun ks => k :: ks) = some qs from h)
      obtain ⟨qs', h2, rfl⟩ := Option.map_eq_some_iff.mp h
      exact congrArg (· + 1) (ih h2)
  refine ⟨hp2, kvs, rfl, by rw [hlen, kl eqs, sem_len ks exs, hk]; exact h15, ?_⟩
  rw [merge_all]
  have eH : Ex H H2 := e0.trans g2
  refine hQ _ _ (Evl.Ex.mut eH hp) ?_
  have ne : ∀ a, zn FF Z (CEs.al Γ vs) a ∨ New (upd H p (.dK [])) H2 a → a ≠ p := fun a h z => by
    subst z
    rcases h with h | h
    · exact r.zn_there h hp
    · exact absurd h.1 (by rw [upd_same]; exact fun z => by cases z)
  have g : Agr (fun a => zn FF Z (CEs.al Γ vs) a ∨ New (upd H p (.dK [])) H2 a) H2 (upd H2 p (.dK (putAll [] kvs))) := fun a o ha h => by
    rw [upd_ne (ne a ha)]
    exact h
  have rk2 : RepK X.K cl H2 (fun a => zn FF Z (CEs.al Γ vs) a ∨ New (upd H p (.dK [])) H2 a) (putAllD [] (qs.zip ys)) (putAll [] kvs) := repK_all (show RepK X.K cl H2 _ [] [] from rfl) rk
  refine ⟨[p], fun a ha => ?_, by simp, RepO.dct1 upd_same (RepK.mono g (fun a h => ⟨?_, fun hm => ne a h (List.mem_singleton.mp hm)⟩) _ _ rk2)⟩
  · obtain rfl := List.mem_singleton.mp ha
    exact ⟨hp, by rw [upd_same]; exact fun z => by cases z⟩
  · rcases h with h | h
    · exact .inl h
    · refine .inr ⟨(h.left e0).1, ?_⟩
      rw [upd_ne (ne a (.inr h))]
      exact h.2
end
def somes : List (Option Expr) → List Expr
  | [] => []
  | some e :: r => e :: somes r
  | none :: r => somes r
/-- a body's names -/
structure CC where
  N : List Str
  sc : Scope
  fb : Str → Bool
def CC.blk (C : CC) (scope : Scope) : CC := ⟨C.N, relS scope C.sc, fun x => scope.names.lookup x == some .cell⟩
structure CMatch (C : CC) (X : Cx) : Prop where
  N : X.N = C.N
  sc : X.env.scope = C.sc
  fb : X.fn = C.fb
  nn : ∀ x ∈ C.N, (x == ("__debug__" : Str)) = false ∧ (x == ("__classdict__" : Str)) = false
theorem CMatch.blk {C : CC} {X : Cx} (m : CMatch C X) (scope : Scope) (i : Blk) : CMatch (C.blk scope) (bkC X scope i) :=
  ⟨m.N, by show relS scope X.env.scope = relS scope C.sc; rw [m.sc], rfl, m.nn⟩
def CC.at (C : CC) (i : Nat) (x : Str) : Bool := match C.N[i]? with
  | some y => y == x
  | none => false
def CC.vis (C : CC) (x : Str) : Bool := match C.sc.names.lookup x with
  | some .local => true | some .cell => true | some .free => true | _ => false
def CC.loc (C : CC) (x : Str) : Bool := match C.sc.names.lookup x with
  | some .local => true | some .cell => C.fb x | _ => false
def CC.isLocal (C : CC) (x : Str) : Bool := match C.sc.names.lookup x with
  | some .local => true | _ => false
def CC.gl (C : CC) (x : Str) : Bool := match C.sc.names.lookup x with
  | some .globalImplicit => true | _ => false
theorem CC.at_ok {C : CC} {X : Cx} (m : CMatch C X) {i : Nat} {x : Str} (h : C.at i x = true) : X.N[i]? = some x ∧ (x == ("__debug__" : Str)) = false ∧ (x == ("__classdict__" : Str)) = false := by
  unfold CC.at at h
  cases q : C.N[i]? with
  | none => rw [q] at h; cases h
  | some y =>
    rw [q] at h
    have e : y = x := by simpa using h
    subst e
    exact ⟨by rw [m.N]; exact q, m.nn y (List.mem_of_getElem? q)⟩
theorem CC.vis_ok {C : CC} {X : Cx} (m : CMatch C X) {x : Str} (h : C.vis x = true) : Vis X.env.scope x := by
  unfold CC.vis at h
  unfold Vis
  rw [m.sc]
  split at h
  · rename_i q; exact .inl q
  · rename_i q; exact .inr (.inl q)
  · rename_i q; exact .inr (.inr q)
  · cases h
theorem CC.loc_ok {C : CC} {X : Cx} (m : CMatch C X) {x : Str} (h : C.loc x = true) : L2.Loc X.env.scope x ∧ (X.fn x = true ∨ X.env.scope.names.lookup x = some .local) := by
  unfold CC.loc at h
  unfold L2.Loc
  rw [m.sc, m.fb]
  split at h
  · rename_i q; exact ⟨.inl q, .inr q⟩
  · rename_i q; exact ⟨.inr q, .inl h⟩
  · cases h
theorem CC.isLocal_ok {C : CC} {X : Cx} (m : CMatch C X) {x : Str} (h : C.isLocal x = true) : X.env.scope.names.lookup x = some .local := by
  unfold CC.isLocal at h
  rw [m.sc]
  split at h
  · rename_i q; exact q
  · cases h
theorem CC.gl_ok {C : CC} {X : Cx} (m : CMatch C X) {x : Str} (h : C.gl x = true) : Gl X x := by
  unfold CC.gl at h
  show X.env.scope.names.lookup x = some .globalImplicit
  rw [m.sc]
  split at h
  · rename_i q; exact q
  · cases h
def eOp : BOp → Operator
  | .add => .Add | .sub => .Sub | .mul => .Mult | .fdiv => .FloorDiv | .mod => .Mod | .pow => .Pow
def opEq (o : BOp) (p : Operator) : Bool := match o, p with
  | .add, .Add => true | .sub, .Sub => true | .mul, .Mult => true | .fdiv, .FloorDiv => true | .mod, .Mod => true | .pow, .Pow => true
  | _, _ => false
theorem opEq_ok {o : BOp} {p : Operator} (h : opEq o p = true) : p = eOp o := by
  cases o <;> cases p <;> first | rfl | cases h
def cmpEq (o : COp) (p : CmpOp) : Bool := match o, p with
  | .eq, .Eq => true | .ne, .NotEq => true | .lt, .Lt => true | .le, .LtE => true | .gt, .Gt => true | .ge, .GtE => true
  | .in_, .In => true | .nin, .NotIn => true | .isN, .Is => true | .notN, .IsNot => true
  | _, _ => false
theorem cmpEq_ok {o : COp} {p : CmpOp} (h : cmpEq o p = true) : p = cOp o := by
  cases o <;> cases p <;> first | rfl | cases h
def bopEq (b : Bool) (p : BoolOp) : Bool := match b, p with
  | true, .And => true | false, .Or => true | _, _ => false
theorem bopEq_ok {o : Bool} {p : BoolOp} (h : bopEq o p = true) : p = bOp o := by
  cases o <;> cases p <;> first | rfl | cases h
def litEq (d : D) (c : Const) : Bool := match d, c with
  | .non, .none => true
  | .bl a, .bool b => a == b
  | .int a, .int b => a == b
  | .str a, .str b => a == b
  | _, _ => false
theorem lit_ok {X : Cx} {cl : Nat → Addr} {T : Tab} {d : D} {c : Const} {j : Nat} {pos : Pos} (h : litEq d c = true) : SE X cl T (.Constant c j pos) (.cD d) := by
  cases d <;> cases c <;> first | (cases h; done) | skip
  · exact se_const rfl pe_non
  · rename_i a b
    obtain rfl : a = b := by simpa [litEq] using h
    exact se_const rfl pe_bl
  · rename_i a b
    obtain rfl : a = b := by simpa [litEq] using h
    exact se_const rfl pe_int
  · rename_i a b
    obtain rfl : a = b := by simpa [litEq] using h
    exact se_const rfl pe_str
def FK.isFn : FK → Bool
  | .fn => true | _ => false
def FK.isMeth : FK → Bool
  | .meth _ => true | _ => false
def FK.isMk : FK → Bool
  | .mk _ => true | _ => false
/-- what is called -/
def exName : Expr → Option Str
  | .Name x _ => some x
  | _ => none
def isNilK : List Keyword → Bool
  | [] => true
  | _ => false
def isB (C : CC) (x y : Str) : Bool := x == y && C.gl x
mutual
/-- a target -/
def chkG (C : CC) : CT → Expr → Bool
  | .nm i, e => match e with
    | .Name x _ => C.at i x && C.loc x
    | _ => false
  | .tp ts, e => match e with
    | .Tuple es _ _ => es.all kindG && ts.len == es.length && chkGs C ts es
    | _ => false
def chkGs (C : CC) : CTs → List Expr → Bool
  | .nil, es => es.isEmpty
  | .cons t ts, es => match es with
    | e :: r => kindG e && chkG C t e && chkGs C ts r
    | [] => false
end
def isRng : CI → Bool
  | .rng1 _ => true
  | .rng2 _ _ => true
  | _ => false
def isTup : Expr → Bool
  | .Tuple _ _ _ => true
  | _ => false
mutual
/-- t: as a test -/
def chk (T : Tab) (t : Bool) (C : CC) : CE → Expr → Bool
  | .var i, e => match e with
    | .Name x _ => C.at i x && C.vis x
    | _ => false
  | .glob i, e => match e with
    | .Name x _ => (match T.gl[i]? with
      | some p => p.1 == x && C.gl x && !(x == ("__debug__" : Str))
      | none => false)
    | _ => false
  | .cD d, e => match e with
    | .Constant c _ _ => litEq d c
    | _ => false
  | .bin op a b, e => match e with
    | .BinOp x o y _ => opEq op o && chk T false C a x && chk T false C b y
    | _ => false
  | .neg a, e => match e with
    | .UnaryOp .USub x _ => chk T false C a x
    | _ => false
  | .not a, e => match e with
    | .UnaryOp .Not x _ => chk T t C a x
    | _ => false
  | .cmp op a b, e => match e with
    | .Compare x [o] [y] _ => cmpEq op o && isOk op b && noSet y && chk T false C a x && chk T false C b y
    | _ => false
  | .cmp2 o1 o2 a b c, e => match e with
    | .Compare x [p1, p2] [y, z] _ => cmpEq o1 p1 && cmpEq o2 p2 && isOk o1 b && isOk o2 c && noSet z && chk T false C a x && chk T false C b y && chk T false C c z
    | _ => false
  | .bop k cs, e => match e with
    | .BoolOp o es _ => bopEq k o && !es.isEmpty && chks T t C cs es
    | _ => false
  | .ife c a b, e => match e with
    | .IfExp x y z _ => !t && chk T true C c x && chk T false C a y && chk T false C b z
    | _ => false
  | .tup cs, e => match e with
    | .Tuple es _ _ => decide (cs.len ≤ 1000) && chks T false C cs es
    | _ => false
  | .lst cs, e => match e with
    | .List es _ => decide (cs.len ≤ 1000) && chks T false C cs es
    | _ => false
  | .dnew, e => match e with
    | .Dict [] [] _ => true
    | _ => false
  | .dis a b, e => match e with
    | .Dict [some x] [y] _ => chk T false C a x && chk T false C b y
    | _ => false
  | .dsp ks vs, e => match e with
    | .Dict keys vals _ => keys.all (·.isSome) && decide (keys.length = vals.length) && !keys.isEmpty && decide (keys.length ≤ 15) && decide (ks.len = keys.length) && chks T false C ks (somes keys) && chks T false C vs vals
    | _ => false
  | .ix a b, e => match e with
    | .Subscript x y _ => kindE y && chk T false C a x && chk T false C b y
    | _ => false
  | .slc a lo hi, e => match e with
    | .Subscript x (.Slice l h none _) _ => chk T false C a x && chkO T C lo l && chkO T C hi h
    | _ => false
  | .call f cs, e => match e with
    | .Call (.Name x _) es [] _ => (match T.fn[f]? with
      | some g => g.kind.isFn && g.name == x && C.gl x && !(x == ("__debug__" : Str)) && cs.len == g.np && chks T false C cs es
      | none => false)
    | _ => false
  | .meth f o cs, e => match e with
    | .Call (.Attribute y m ap) es [] p => (match T.fn[f]? with
      | some g => g.kind.isMeth && g.name == m && cs.len == g.np && decide (es.length ≤ 20) && (ap.endLine == p.line) && noSup y && chk T false C o y && chks T false C cs es
      | none => false)
    | _ => false
  | .make f cs, e => match e with
    | .Call (.Name x _) es [] _ => (match T.fn[f]? with
      | some g => g.kind.isMk && g.name == x && C.gl x && !(x == ("__debug__" : Str)) && cs.len == g.np && !es.isEmpty && chks T false C cs es
      | none => false)
    | _ => false
  | .bi b cs, e => match e with
    | .Call (.Name x _) es [] _ => (match b, es with
      | .len, [_] => isB C x "len" && chks T false C cs es
      | .int_, [_] => isB C x "int" && chks T false C cs es
      | .str_, [_] => isB C x "str" && chks T false C cs es
      | .sum, [_] => isB C x "sum" && chks T false C cs es
      | .all, [_] => isB C x "all" && chks T false C cs es
      | .any, [_] => isB C x "any" && chks T false C cs es
      | .min2, [_, _] => isB C x "min" && chks T false C cs es
      | .max2, [_, _] => isB C x "max" && chks T false C cs es
      | .list, [_] => isB C x "list" && chks T false C cs es
      | .tuple, [_] => isB C x "tuple" && chks T false C cs es
      | .sorted, [_] => isB C x "sorted" && chks T false C cs es
      | _, _ => false)
    | _ => false
  | .isi a ty, e => match e with
    | .Call (.Name x _) [y, .Name z _] [] _ => isB C x "isinstance" && isB C z (Str.ofString (tyName ty)) && kindE y && chk T false C a y
    | _ => false
  | .bm m o cs, e => match e with
    | .Call (.Attribute y a ap) [z] [] p => (match m with
      | .join => a == ("join" : Str)
      | .get1 => a == ("get" : Str)
      | _ => false) && noSup y && (ap.endLine == p.line) && chk T false C o y && chks T false C cs [z]
    | _ => false
  | .fld c o f, e => match e with
    | .Attribute y a _ => a == f && T.fd.any (fun q => q.1 == c && q.2 == f) && noSup y && chk T false C o y
    | _ => false
  | .lc own tc src cs elt, e => match e with
    | .ListComp el [⟨tg, it, ifs, 0⟩] scope _ => blkC C.N C.sc scope own && noSet it && tc.slots.all (fun i => (own.map (·.2)).contains i) && chkG (C.blk scope) tc tg && chkI T C tg src it && decide (ifs.length ≤ 1) && chks T true (C.blk scope) cs ifs && chk T false (C.blk scope) elt el
    | _ => false
  | .dc own tc src ck cv, e => match e with
    | .DictComp kx vx [⟨tg, it, [], 0⟩] scope _ => blkC C.N C.sc scope own && noSet it && tc.slots.all (fun i => (own.map (·.2)).contains i) && chkG (C.blk scope) tc tg && chkI T C tg src it && chk T false (C.blk scope) ck kx && chk T false (C.blk scope) cv vx
    | _ => false
  | .lstr src, e => match e with
    | .Call (.Name x _) [y] [] _ => isB C x "list" && isRng src && chkI T C y src y
    | _ => false
  | .sc a, e => chk T t C a e
def chks (T : Tab) (t : Bool) (C : CC) : CEs → List Expr → Bool
  | .nil, es => es.isEmpty
  | .cons c cs, es => match es with
    | e :: r => kindE e && chk T t C c e && chks T t C cs r
    | [] => false
def chkO (T : Tab) (C : CC) : CO → Option Expr → Bool
  | .none, e => e.isNone
  | .some c, e => match e with
    | some x => chk T false C c x
    | none => false
def chkI (T : Tab) (C : CC) (tg : Expr) : CI → Expr → Bool
  | .seq c, e => chk T false C c e
  | .rng1 a, e => match e with
    | .Call (.Name z _) [u] [] _ => isB C z "range" && kindE u && chk T false C a u
    | _ => false
  | .rng2 a b, e => match e with
    | .Call (.Name z _) [u, v] [] _ => isB C z "range" && kindE u && kindE v && chk T false C a u && chk T false C b v
    | _ => false
  | .enum a, e => match e with
    | .Call (.Name z _) [u] [] _ => isTup tg && isB C z "enumerate" && kindE u && chk T false C a u
    | _ => false
  | .zip a b, e => match e with
    | .Call (.Name z _) [u, v] [] _ => isTup tg && isB C z "zip" && kindE u && kindE v && chk T false C a u && chk T false C b v
    | _ => false
end
end PV

set_option Elab.async false
set_option linter.all false
set_option maxRecDepth 100000
set_option maxHeartbeats 4000000
/-! PV15: the checker of expressions is right. -/
namespace PV
open PySem L2 PyProof.Rows
open Evl (Ex)
section
variable {cl : Nat → Addr} {T : Tab}
def Good (X : Cx) (cl : Nat → Addr) (T : Tab) (t : Bool) (e : Expr) (c : CE) : Prop := (t = false → SE X cl T e c) ∧ (t = true → ST X cl T e c)
theorem good_of {X : Cx} {t : Bool} {e : Expr} {c : CE} (h : SE X cl T e c) (kt : kindT e = true) : Good X cl T t e c := ⟨fun _ => h, fun _ => ST.of_SE h kt⟩
def Al2 (X : Cx) (cl : Nat → Addr) (T : Tab) (t : Bool) : List Expr → CEs → Prop
  | [], .nil => True
  | e :: es, .cons c cs => kindE e = true ∧ Good X cl T t e c ∧ Al2 X cl T t es cs
  | _, _ => False
theorem al2_kind {X : Cx} {t : Bool} : ∀ {es : List Expr} {cs : CEs}, Al2 X cl T t es cs → es.all kindE = true
  | [], .nil, _ => rfl
  | e :: es, .cons c cs, ⟨h1, _, h3⟩ => by rw [List.all_cons, h1, al2_kind h3]; rfl
  | [], .cons _ _, h => h.elim
  | _ :: _, .nil, h => h.elim
theorem al2_len {X : Cx} {t : Bool} : ∀ {es : List Expr} {cs : CEs}, Al2 X cl T t es cs → cs.len = es.length
  | [], .nil, _ => rfl
  | e :: es, .cons c cs, ⟨h1, _, h3⟩ => congrArg Nat.succ (al2_len h3)
  | [], .cons _ _, h => h.elim
  | _ :: _, .nil, h => h.elim
theorem al2_sa {X : Cx} : ∀ {es : List Expr} {cs : CEs}, Al2 X cl T false es cs → SA X cl T es cs
  | [], .nil, _ => sa_nil
  | e :: es, .cons c cs, ⟨h1, h2, h3⟩ => sa_cons h1 (h2.1 rfl) (al2_sa h3)
  | [], .cons _ _, h => h.elim
  | _ :: _, .nil, h => h.elim
theorem al2_sps {X : Cx} {pos : Pos} : ∀ {keys : List (Option Expr)} {vals : List Expr} {ks vs : CEs}, keys.all (·.isSome) = true → Al2 X cl T false (somes keys) ks → Al2 X cl T false vals vs → keys.length = vals.length → SPs X cl T pos keys vals ks vs
  | [], [], .nil, .nil, _, _, _, _ => sps_nil
  | some k :: keys, v :: vals, .cons ck ks, .cons cv vs, ha, ⟨_, h2, h3⟩, ⟨_, g2, g3⟩, hl => sps_cons (h2.1 rfl) (g2.1 rfl) (al2_sps (by simpa using ha) h3 g3 (by simpa using hl))
  | none :: _, _, _, _, ha, _, _, _ => by simp at ha
  | [], _ :: _, _, _, _, _, _, hl => by simp at hl
  | _ :: _, [], _, _, _, _, _, hl => by simp at hl
  | [], [], .cons _ _, _, _, h, _, _ => h.elim
  | [], [], .nil, .cons _ _, _, _, h, _ => h.elim
  | some _ :: _, _ :: _, .nil, _, _, h, _, _ => h.elim
  | some _ :: _, _ :: _, .cons _ _, .nil, _, _, h, _ => h.elim
theorem al2_sb {X : Cx} {b : Bool} {pos : Pos} : ∀ {e : Expr} {es : List Expr} {c : CE} {cs : CEs}, Al2 X cl T false (e :: es) (.cons c cs) → SB X cl T b pos (e :: es) (.cons c cs)
  | e, [], c, .nil, ⟨h1, h2, h3⟩ => sb_one (h2.1 rfl)
  | e, e' :: es, c, .cons c' cs, ⟨h1, h2, h3⟩ => sb_cons (h2.1 rfl) (al2_sb h3)
  | e, [], c, .cons _ _, ⟨_, _, h⟩ => h.elim
  | e, _ :: _, c, .nil, ⟨_, _, h⟩ => h.elim
theorem al2_sbt {X : Cx} {b : Bool} {pos : Pos} : ∀ {e : Expr} {es : List Expr} {c : CE} {cs : CEs}, Al2 X cl T true (e :: es) (.cons c cs) → SBT X cl T b pos (e :: es) (.cons c cs)
  | e, [], c, .nil, ⟨h1, h2, h3⟩ => sbt_one (h2.2 rfl)
  | e, e' :: es, c, .cons c' cs, ⟨h1, h2, h3⟩ => sbt_cons (h2.2 rfl) (al2_sbt h3)
  | e, [], c, .cons _ _, ⟨_, _, h⟩ => h.elim
  | e, _ :: _, c, .nil, ⟨_, _, h⟩ => h.elim
theorem al2_bop {X : Cx} {t b : Bool} {pos : Pos} {es : List Expr} {cs : CEs} (hn : es.isEmpty = false) (h : Al2 X cl T t es cs) : Good X cl T t (.BoolOp (bOp b) es pos) (.bop b cs) := by
  cases es with
  | nil => cases hn
  | cons e es =>
    cases cs with
    | nil => exact h.elim
    | cons c cs =>
      refine ⟨fun ht => ?_, fun ht => ?_⟩
      · subst ht
        exact se_bop (al2_sb h)
      · subst ht
        exact st_bop (al2_sbt h)
theorem al2_sts {X : Cx} {es : List Expr} {cs : CEs} (hl : es.length ≤ 1) (h : Al2 X cl T true es cs) : STs X cl T es cs := by
  match es, cs, h with
  | [], .nil, _ => exact sts_nil
  | [e], .cons c .nil, ⟨_, h2, _⟩ => exact sts_one (h2.2 rfl)
  | [e], .cons c (.cons _ _), ⟨_, _, h⟩ => exact h.elim
  | [], .cons _ _, h => exact h.elim
  | _ :: _ :: _, _, _ => simp at hl
mutual
theorem chkG_ok {C : CC} {X : Cx} {k : Nat} (m : CMatch C X) (hx : XOk X cl T k) : ∀ (t : CT) (e : Expr), chkG C t e = true → SG X cl e t
  | .nm i, e, h => by
    cases e with
    | Name x p =>
      obtain ⟨h1, h2⟩ := ands (show (C.at i x && C.loc x) = true from h)
      obtain ⟨a1, _⟩ := CC.at_ok m h1
      obtain ⟨b1, b2⟩ := CC.loc_ok m h2
      exact sg_nm hx.nd a1 b1 b2
    | _ => cases h
  | .tp ts, e, h => by
    cases e with
    | Tuple es kk p =>
      obtain ⟨h, h3⟩ := ands (show (es.all kindG && ts.len == es.length && chkGs C ts es) = true from h)
      obtain ⟨h1, h2⟩ := ands h
      exact sg_tp hx.calm h1 (by simpa using h2) (chkGs_ok m hx ts es h3)
    | _ => cases h
theorem chkGs_ok {C : CC} {X : Cx} {k : Nat} (m : CMatch C X) (hx : XOk X cl T k) : ∀ (ts : CTs) (es : List Expr), chkGs C ts es = true → SGs X cl es ts
  | .nil, es, h => by
    cases es with
    | nil => exact sgs_nil
    | cons _ _ => cases h
  | .cons t ts, es, h => by
    cases es with
    | nil => cases h
    | cons e r =>
      obtain ⟨h, h3⟩ := ands (show (kindG e && chkG C t e && chkGs C ts r) = true from h)
      obtain ⟨h1, h2⟩ := ands h
      exact sgs_cons h1 (chkG_ok m hx t e h2) (chkGs_ok m hx ts r h3)
end
theorem isB_ok {C : CC} {X : Cx} (m : CMatch C X) {x y : Str} (h : isB C x y = true) : x = y ∧ Gl X y := by
  obtain ⟨h1, h2⟩ := ands h
  have e : x = y := by simpa using h1
  subst e
  exact ⟨rfl, CC.gl_ok m h2⟩
theorem not_t {b : Bool} (h : (!b) = true) : b = false := by simpa using h
theorem neg_dbg {x : Str} (h : (!(x == ("__debug__" : Str))) = true) : (x == ("__debug__" : Str)) = false := by simpa using h
theorem strE {x y : Str} (h : (x == y) = true) : x = y := by simpa using h
theorem isB1 {C : CC} {X : Cx} (m : CMatch C X) {x y : Str} {b : Bool} (h : (isB C x y && b) = true) : x = y ∧ Gl X y ∧ b = true := by
  obtain ⟨h1, h2⟩ := ands h
  obtain ⟨a, b⟩ := isB_ok m h1
  exact ⟨a, b, h2⟩
theorem al2_one {X : Cx} {e : Expr} {cs : CEs} (h : Al2 X cl T false [e] cs) : ∃ c, cs = .cons c .nil ∧ kindE e = true ∧ SE X cl T e c := by
  match cs, h with
  | .cons c .nil, ⟨h1, h2, _⟩ => exact ⟨c, rfl, h1, h2.1 rfl⟩
  | .cons c (.cons _ _), ⟨_, _, h⟩ => exact h.elim
  | .nil, h => exact h.elim
theorem al2_two {X : Cx} {e f : Expr} {cs : CEs} (h : Al2 X cl T false [e, f] cs) : kindE e = true ∧ kindE f = true := by
  have := al2_kind h
  simp at this
  exact this
theorem kind_fn {k : FK} (h : k.isFn = true) : k = .fn := by cases k <;> first | rfl | cases h
theorem kind_meth {k : FK} (h : k.isMeth = true) : ∃ c, k = .meth c := by cases k <;> first | exact ⟨_, rfl⟩ | cases h
theorem kind_mk {k : FK} (h : k.isMk = true) : ∃ c, k = .mk c := by cases k <;> first | exact ⟨_, rfl⟩ | cases h
theorem isTup_ok {e : Expr} (h : isTup e = true) : ∃ es kk p, e = .Tuple es kk p := by cases e <;> first | exact ⟨_, _, _, rfl⟩ | cases h
theorem own_in {own : List (Str × Nat)} {t : CT} (h : t.slots.all (fun i => (own.map (·.2)).contains i) = true) : ∀ i ∈ t.slots, i ∈ own.map (·.2) := fun i hi => by
  have := List.all_eq_true.mp h i hi
  exact List.contains_iff_mem.mp this
mutual
theorem chk_ok : ∀ (c : CE) {t : Bool} {C : CC} {X : Cx} {k : Nat} {e : Expr}, CMatch C X → XOk X cl T k → chk T t C c e = true → Good X cl T t e c
  | .var i, t, C, X, k, e, m, hx, h => by
    cases e with
    | Name x p =>
      obtain ⟨h1, h2⟩ := ands (show (C.at i x && C.vis x) = true from h)
      obtain ⟨a1, a2, a3⟩ := CC.at_ok m h1
      exact good_of (se_var a1 (CC.vis_ok m h2) a2 a3) rfl
    | _ => unfold chk at h; cases h
  | .glob i, t, C, X, k, e, m, hx, h => by
    cases e with
    | Name x p =>
      unfold chk at h
      cases q : T.gl[i]? with
      | none => simp only [q] at h; cases h
      | some pr =>
        simp only [q] at h
        obtain ⟨h, h3⟩ := ands h
        obtain ⟨h1, h2⟩ := ands h
        obtain ⟨y, d⟩ := pr
        obtain rfl : y = x := strE h1
        exact good_of (se_glob q hx (CC.gl_ok m h2) (neg_dbg h3)) rfl
    | _ => unfold chk at h; cases h
  | .cD d, t, C, X, k, e, m, hx, h => by
    cases e with
    | Constant c j p => exact good_of (lit_ok (show litEq d c = true from h)) rfl
    | _ => unfold chk at h; cases h
  | .bin op a b, t, C, X, k, e, m, hx, h => by
    cases e with
    | BinOp x o y p =>
      unfold chk at h
      obtain ⟨h, h3⟩ := ands h
      obtain ⟨h1, h2⟩ := ands h
      obtain rfl := opEq_ok h1
      have ha := (chk_ok a m hx h2).1 rfl
      have hb := (chk_ok b m hx h3).1 rfl
      refine good_of ?_ rfl
      cases op
      · exact se_add ha hb
      · exact se_sub ha hb
      · exact se_mul ha hb
      · exact se_fdiv ha hb
      · exact se_mod ha hb
      · exact se_pow ha hb
    | _ => unfold chk at h; cases h
  | .neg a, t, C, X, k, e, m, hx, h => by
    cases e with
    | UnaryOp o x p =>
      cases o with
      | USub =>
        unfold chk at h
        exact good_of (se_neg ((chk_ok a m hx h).1 rfl)) rfl
      | _ => unfold chk at h; cases h
    | _ => unfold chk at h; cases h
  | .not a, t, C, X, k, e, m, hx, h => by
    cases e with
    | UnaryOp o x p =>
      cases o with
      | Not =>
        unfold chk at h
        have := chk_ok a m hx h
        exact ⟨fun ht => se_not (this.1 ht), fun ht => st_not (this.2 ht)⟩
      | _ => unfold chk at h; cases h
    | _ => unfold chk at h; cases h
  | .cmp op a b, t, C, X, k, e, m, hx, h => by
    cases e with
    | Compare x os ys p =>
      unfold chk at h
      match os, ys, h with
      | [o], [y], h =>
        obtain ⟨h, h5⟩ := ands h
        obtain ⟨h, h4⟩ := ands h
        obtain ⟨h, h3⟩ := ands h
        obtain ⟨h1, h2⟩ := ands h
        obtain rfl := cmpEq_ok h1
        have ha := (chk_ok a m hx h4).1 rfl
        have hb := (chk_ok b m hx h5).1 rfl
        exact ⟨fun _ => se_cmp hx h2 h3 ha hb, fun _ => st_cmp hx h2 h3 ha hb⟩
    | _ => unfold chk at h; cases h
  | .cmp2 o1 o2 a b c, t, C, X, k, e, m, hx, h => by
    cases e with
    | Compare x os ys p =>
      unfold chk at h
      match os, ys, h with
      | [p1, p2], [y, z], h =>
        obtain ⟨h, h8⟩ := ands h
        obtain ⟨h, h7⟩ := ands h
        obtain ⟨h, h6⟩ := ands h
        obtain ⟨h, h5⟩ := ands h
        obtain ⟨h, h4⟩ := ands h
        obtain ⟨h, h3⟩ := ands h
        obtain ⟨h1, h2⟩ := ands h
        obtain rfl := cmpEq_ok h1
        obtain rfl := cmpEq_ok h2
        have ha := (chk_ok a m hx h6).1 rfl
        have hb := (chk_ok b m hx h7).1 rfl
        have hc := (chk_ok c m hx h8).1 rfl
        exact ⟨fun _ => se_cmp2 hx h3 h4 h5 ha hb hc, fun _ => st_cmp2 hx h3 h4 h5 ha hb hc⟩
    | _ => unfold chk at h; cases h
  | .bop b cs, t, C, X, k, e, m, hx, h => by
    cases e with
    | BoolOp o es p =>
      unfold chk at h
      obtain ⟨h, h3⟩ := ands h
      obtain ⟨h1, h2⟩ := ands h
      obtain rfl := bopEq_ok h1
      exact al2_bop (not_t h2) (chks_ok cs m hx h3)
    | _ => unfold chk at h; cases h
  | .ife c a b, t, C, X, k, e, m, hx, h => by
    cases e with
    | IfExp x y z p =>
      unfold chk at h
      obtain ⟨h, h4⟩ := ands h
      obtain ⟨h, h3⟩ := ands h
      obtain ⟨h1, h2⟩ := ands h
      have ht := not_t h1
      refine ⟨fun _ => se_ife ((chk_ok c m hx h2).2 rfl) ((chk_ok a m hx h3).1 rfl) ((chk_ok b m hx h4).1 rfl), fun z => ?_⟩
      rw [ht] at z
      cases z
    | _ => unfold chk at h; cases h
  | .tup cs, t, C, X, k, e, m, hx, h => by
    cases e with
    | Tuple es kk p =>
      unfold chk at h
      obtain ⟨h1, h2⟩ := ands h
      exact good_of (se_tup (of_decide_eq_true h1) (al2_sa (chks_ok cs m hx h2))) rfl
    | _ => unfold chk at h; cases h
  | .lst cs, t, C, X, k, e, m, hx, h => by
    cases e with
    | List es p =>
      unfold chk at h
      obtain ⟨h1, h2⟩ := ands h
      exact good_of (se_lst (of_decide_eq_true h1) (al2_sa (chks_ok cs m hx h2))) rfl
    | _ => unfold chk at h; cases h
  | .dnew, t, C, X, k, e, m, hx, h => by
    cases e with
    | Dict ks vs p =>
      unfold chk at h
      match ks, vs, h with
      | [], [], h => exact good_of se_dnew rfl
    | _ => unfold chk at h; cases h
  | .dis a b, t, C, X, k, e, m, hx, h => by
    cases e with
    | Dict ks vs p =>
      unfold chk at h
      match ks, vs, h with
      | [some x], [y], h =>
        obtain ⟨h1, h2⟩ := ands h
        exact good_of (se_dis ((chk_ok a m hx h1).1 rfl) ((chk_ok b m hx h2).1 rfl)) rfl
    | _ => unfold chk at h; cases h
  | .dsp ks vs, t, C, X, k, e, m, hx, h => by
    cases e with
    | Dict keys vals p =>
      unfold chk at h
      obtain ⟨h, h7⟩ := ands h
      obtain ⟨h, h6⟩ := ands h
      obtain ⟨h, h5⟩ := ands h
      obtain ⟨h, h4⟩ := ands h
      obtain ⟨h, h3⟩ := ands h
      obtain ⟨h1, h2⟩ := ands h
      exact good_of (se_dsp h1 (of_decide_eq_true h2) (fun z => by rw [z] at h3; cases h3) (of_decide_eq_true h4) (of_decide_eq_true h5) (al2_sps h1 (chks_ok ks m hx h6) (chks_ok vs m hx h7) (of_decide_eq_true h2))) rfl
    | _ => unfold chk at h; cases h
  | .ix a b, t, C, X, k, e, m, hx, h => by
    cases e with
    | Subscript x y p =>
      unfold chk at h
      obtain ⟨h, h3⟩ := ands h
      obtain ⟨h1, h2⟩ := ands h
      exact good_of (se_ix hx h1 ((chk_ok a m hx h2).1 rfl) ((chk_ok b m hx h3).1 rfl)) rfl
    | _ => unfold chk at h; cases h
  | .slc a lo hi, t, C, X, k, e, m, hx, h => by
    cases e with
    | Subscript x y p =>
      cases y with
      | Slice l u s p2 =>
        cases s with
        | none =>
          unfold chk at h
          obtain ⟨h, h3⟩ := ands h
          obtain ⟨h1, h2⟩ := ands h
          exact good_of (se_slc ((chk_ok a m hx h1).1 rfl) (chkO_ok lo m hx h2) (chkO_ok hi m hx h3)) rfl
        | some _ => unfold chk at h; cases h
      | _ => unfold chk at h; cases h
    | _ => unfold chk at h; cases h
  | .call f cs, t, C, X, k, e, m, hx, h => by
    cases e with
    | Call fe es ks p =>
      cases fe with
      | Name x px =>
        cases ks with
        | cons _ _ => unfold chk at h; cases h
        | nil =>
          unfold chk at h
          cases q : T.fn[f]? with
          | none => simp only [q] at h; cases h
          | some g =>
            simp only [q] at h
            obtain ⟨h, h6⟩ := ands h
            obtain ⟨h, h5⟩ := ands h
            obtain ⟨h, h4⟩ := ands h
            obtain ⟨h, h3⟩ := ands h
            obtain ⟨h1, h2⟩ := ands h
            obtain rfl := strE h2
            have al := chks_ok cs m hx h6
            have hl : cs.len = g.np := by simpa using h5
            cases es with
            | nil =>
              cases cs with
              | nil => exact good_of (se_call0 hx q (kind_fn h1) (CC.gl_ok m h3) (neg_dbg h4) hl) rfl
              | cons _ _ => exact al.elim
            | cons y es => exact good_of (se_call hx q (kind_fn h1) (CC.gl_ok m h3) (neg_dbg h4) hl (al2_kind al) (al2_sa al)) rfl
      | _ => unfold chk at h; cases h
    | _ => unfold chk at h; cases h
  | .meth f o cs, t, C, X, k, e, m, hx, h => by
    cases e with
    | Call fe es ks p =>
      cases fe with
      | Attribute y a ap =>
        cases ks with
        | cons _ _ => unfold chk at h; cases h
        | nil =>
          unfold chk at h
          cases q : T.fn[f]? with
          | none => simp only [q] at h; cases h
          | some g =>
            simp only [q] at h
            obtain ⟨h, h8⟩ := ands h
            obtain ⟨h, h7⟩ := ands h
            obtain ⟨h, h6⟩ := ands h
            obtain ⟨h, h5⟩ := ands h
            obtain ⟨h, h4⟩ := ands h
            obtain ⟨h, h3⟩ := ands h
            obtain ⟨h1, h2⟩ := ands h
            obtain rfl := strE h2
            obtain ⟨c, hc⟩ := kind_meth h1
            have al := chks_ok cs m hx h8
            have ho := (chk_ok o m hx h7).1 rfl
            have hl : cs.len = g.np := by simpa using h3
            cases es with
            | nil =>
              cases cs with
              | nil => exact good_of (se_meth0 hx q hc hl h5 h6 ho) rfl
              | cons _ _ => exact al.elim
            | cons z es => exact good_of (se_meth hx q hc hl (al2_kind al) (of_decide_eq_true h4) h5 h6 ho (al2_sa al)) rfl
      | _ => unfold chk at h; cases h
    | _ => unfold chk at h; cases h
  | .make f cs, t, C, X, k, e, m, hx, h => by
    cases e with
    | Call fe es ks p =>
      cases fe with
      | Name x px =>
        cases ks with
        | cons _ _ => unfold chk at h; cases h
        | nil =>
          unfold chk at h
          cases q : T.fn[f]? with
          | none => simp only [q] at h; cases h
          | some g =>
            simp only [q] at h
            obtain ⟨h, h7⟩ := ands h
            obtain ⟨h, h6⟩ := ands h
            obtain ⟨h, h5⟩ := ands h
            obtain ⟨h, h4⟩ := ands h
            obtain ⟨h, h3⟩ := ands h
            obtain ⟨h1, h2⟩ := ands h
            obtain rfl := strE h2
            obtain ⟨c, hc⟩ := kind_mk h1
            have al := chks_ok cs m hx h7
            have hl : cs.len = g.np := by simpa using h5
            cases es with
            | nil => cases h6
            | cons y es => exact good_of (se_make hx q hc (CC.gl_ok m h3) (neg_dbg h4) hl (al2_kind al) (al2_sa al)) rfl
      | _ => unfold chk at h; cases h
    | _ => unfold chk at h; cases h
  | .bi b cs, t, C, X, k, e, m, hx, h => by
    cases e with
    | Call fe es ks p =>
      cases fe with
      | Name x px =>
        cases ks with
        | cons _ _ => unfold chk at h; cases h
        | nil =>
          unfold chk at h
          match b, es, h with
          | .len, [y], h =>
            obtain ⟨rfl, g, h2⟩ := isB1 m h
            have al := chks_ok cs m hx h2
            obtain ⟨c, rfl, ky, _⟩ := al2_one al
            exact good_of (se_len hx g ky (al2_sa al)) rfl
          | .int_, [y], h =>
            obtain ⟨rfl, g, h2⟩ := isB1 m h
            have al := chks_ok cs m hx h2
            obtain ⟨c, rfl, ky, _⟩ := al2_one al
            exact good_of (se_int hx g ky (al2_sa al)) rfl
          | .str_, [y], h =>
            obtain ⟨rfl, g, h2⟩ := isB1 m h
            have al := chks_ok cs m hx h2
            obtain ⟨c, rfl, ky, _⟩ := al2_one al
            exact good_of (se_str hx g ky (al2_sa al)) rfl
          | .sum, [y], h =>
            obtain ⟨rfl, g, h2⟩ := isB1 m h
            have al := chks_ok cs m hx h2
            obtain ⟨c, rfl, ky, _⟩ := al2_one al
            exact good_of (se_sum hx g ky (al2_sa al)) rfl
          | .all, [y], h =>
            obtain ⟨rfl, g, h2⟩ := isB1 m h
            have al := chks_ok cs m hx h2
            obtain ⟨c, rfl, ky, _⟩ := al2_one al
            exact good_of (se_all hx g ky (al2_sa al)) rfl
          | .any, [y], h =>
            obtain ⟨rfl, g, h2⟩ := isB1 m h
            have al := chks_ok cs m hx h2
            obtain ⟨c, rfl, ky, _⟩ := al2_one al
            exact good_of (se_any hx g ky (al2_sa al)) rfl
          | .min2, [y, z], h =>
            obtain ⟨rfl, g, h2⟩ := isB1 m h
            have al := chks_ok cs m hx h2
            obtain ⟨k1, k2⟩ := al2_two al
            exact good_of (se_min2 hx g k1 k2 (al2_sa al)) rfl
          | .max2, [y, z], h =>
            obtain ⟨rfl, g, h2⟩ := isB1 m h
            have al := chks_ok cs m hx h2
            obtain ⟨k1, k2⟩ := al2_two al
            exact good_of (se_max2 hx g k1 k2 (al2_sa al)) rfl
          | .list, [y], h =>
            obtain ⟨rfl, g, h2⟩ := isB1 m h
            have al := chks_ok cs m hx h2
            obtain ⟨c, rfl, ky, sy⟩ := al2_one al
            exact good_of (se_list hx g ky sy) rfl
          | .tuple, [y], h =>
            obtain ⟨rfl, g, h2⟩ := isB1 m h
            have al := chks_ok cs m hx h2
            obtain ⟨c, rfl, ky, sy⟩ := al2_one al
            exact good_of (se_tuple hx g ky sy) rfl
          | .sorted, [y], h =>
            obtain ⟨rfl, g, h2⟩ := isB1 m h
            have al := chks_ok cs m hx h2
            obtain ⟨c, rfl, ky, sy⟩ := al2_one al
            exact good_of (se_sorted hx g ky sy) rfl
      | _ => unfold chk at h; cases h
    | _ => unfold chk at h; cases h
  | .isi a ty, t, C, X, k, e, m, hx, h => by
    unfold chk at h
    split at h
    · obtain ⟨h, h4⟩ := ands h
      obtain ⟨h, h3⟩ := ands h
      obtain ⟨h1, h2⟩ := ands h
      obtain ⟨rfl, g1⟩ := isB_ok m h1
      obtain ⟨rfl, g2⟩ := isB_ok m h2
      exact good_of (se_isi hx g1 g2 h3 ((chk_ok a m hx h4).1 rfl)) rfl
    · cases h
  | .bm bmk o cs, t, C, X, k, e, m, hx, h => by
    unfold chk at h
    split at h
    · obtain ⟨h, h5⟩ := ands h
      obtain ⟨h, h4⟩ := ands h
      obtain ⟨h, h3⟩ := ands h
      obtain ⟨h1, h2⟩ := ands h
      have al := chks_ok cs m hx h5
      obtain ⟨c, rfl, kz, sz⟩ := al2_one al
      have so := (chk_ok o m hx h4).1 rfl
      cases bmk with
      | join =>
        obtain rfl := strE h1
        exact good_of (se_join h2 h3 kz so sz) rfl
      | get1 =>
        obtain rfl := strE h1
        exact good_of (se_get1 hx h2 h3 kz so sz) rfl
      | get2 => cases h1
      | index => cases h1
    · cases h
  | .fld c o f, t, C, X, k, e, m, hx, h => by
    cases e with
    | Attribute y a p =>
      unfold chk at h
      obtain ⟨h, h4⟩ := ands h
      obtain ⟨h, h3⟩ := ands h
      obtain ⟨h1, h2⟩ := ands h
      obtain rfl := strE h1
      obtain ⟨q, hq, hq2⟩ := List.any_eq_true.mp h2
      obtain ⟨q1, q2⟩ := ands hq2
      have e1 : q.1 = c := by simpa using q1
      have e2 : q.2 = a := strE q2
      have hm : (c, a) ∈ T.fd := by
        obtain ⟨u, v⟩ := q
        cases e1
        cases e2
        exact hq
      exact good_of (se_fld hx hm h3 ((chk_ok o m hx h4).1 rfl)) rfl
    | _ => unfold chk at h; cases h
  | .lc own tc src cs elt, t, C, X, k, e, m, hx, h => by
    unfold chk at h
    split at h
    · rename_i el tg it ifs scope p
      obtain ⟨h, h8⟩ := ands h
      obtain ⟨h, h7⟩ := ands h
      obtain ⟨h, h6⟩ := ands h
      obtain ⟨h, h5⟩ := ands h
      obtain ⟨h, h4⟩ := ands h
      obtain ⟨h, h3⟩ := ands h
      obtain ⟨h1, h2⟩ := ands h
      have ok : BlkOk X.N X.env.scope scope own := by
        rw [m.N, m.sc]
        exact blkOk_by h1
      refine good_of (se_lc hx ok h2 (lc_parts (chkI_ok src m hx h5) (fun i => chkG_ok (m.blk scope i) (hx.blk ok.kind _ _ _ _ _) tc tg h4) (fun i => al2_sts (of_decide_eq_true h6) (chks_ok cs (m.blk scope i) (hx.blk ok.kind _ _ _ _ _) h7)) (fun i => (chk_ok elt (m.blk scope i) (hx.blk ok.kind _ _ _ _ _) h8).1 rfl) (own_in h3))) rfl
    · cases h
  | .dc own tc src ck cv, t, C, X, k, e, m, hx, h => by
    unfold chk at h
    split at h
    · rename_i kx vx tg it scope p
      obtain ⟨h, h7⟩ := ands h
      obtain ⟨h, h6⟩ := ands h
      obtain ⟨h, h5⟩ := ands h
      obtain ⟨h, h4⟩ := ands h
      obtain ⟨h, h3⟩ := ands h
      obtain ⟨h1, h2⟩ := ands h
      have ok : BlkOk X.N X.env.scope scope own := by
        rw [m.N, m.sc]
        exact blkOk_by h1
      have hi := chkI_ok src (tg := tg) m hx h5
      have hg := fun i : Blk => chkG_ok (m.blk scope i) (hx.blk ok.kind _ _ _ _ _) tc tg h4
      have hk := fun i : Blk => (chk_ok ck (m.blk scope i) (hx.blk ok.kind _ _ _ _ _) h6).1 rfl
      have hv := fun i : Blk => (chk_ok cv (m.blk scope i) (hx.blk ok.kind _ _ _ _ _) h7).1 rfl
      refine good_of (se_dc hx ok h2 ?_) rfl
      cases hn : cv.isNil with
      | false => exact dc_parts1 hi hg hk hv (own_in h3) hn
      | true =>
        have : cv = .lst .nil := by
          cases cv with
          | lst cs => cases cs with
            | nil => rfl
            | cons _ _ => cases hn
          | _ => cases hn
        subst this
        exact dc_parts2 hi hg hk hv (own_in h3)
    · cases h
  | .lstr (.rng1 a), t, C, X, k, e, m, hx, h => by
    unfold chk at h
    split at h
    · rename_i x px y p
      obtain ⟨h0, hr⟩ := ands h
      obtain ⟨h1, _⟩ := ands h0
      obtain ⟨rfl, g1⟩ := isB_ok m h1
      unfold chkI at hr
      split at hr
      · obtain ⟨h', h3⟩ := ands hr
        obtain ⟨h1', h2⟩ := ands h'
        obtain ⟨rfl, g2⟩ := isB_ok m h1'
        exact good_of (se_lstr1 hx g1 g2 h2 ((chk_ok a m hx h3).1 rfl)) rfl
      · cases hr
    · cases h
  | .lstr (.rng2 a b), t, C, X, k, e, m, hx, h => by
    unfold chk at h
    split at h
    · rename_i x px y p
      obtain ⟨h0, hr⟩ := ands h
      obtain ⟨h1, _⟩ := ands h0
      obtain ⟨rfl, g1⟩ := isB_ok m h1
      unfold chkI at hr
      split at hr
      · obtain ⟨h', h5⟩ := ands hr
        obtain ⟨h', h4⟩ := ands h'
        obtain ⟨h', h3⟩ := ands h'
        obtain ⟨h1', h2⟩ := ands h'
        obtain ⟨rfl, g2⟩ := isB_ok m h1'
        exact good_of (se_lstr2 hx g1 g2 h2 h3 ((chk_ok a m hx h4).1 rfl) ((chk_ok b m hx h5).1 rfl)) rfl
      · cases hr
    · cases h
  | .lstr (.seq _), t, C, X, k, e, m, hx, h => by
    unfold chk at h
    split at h
    · obtain ⟨h0, hr⟩ := ands h
      obtain ⟨h1, h2⟩ := ands h0
      cases h2
    · cases h
  | .lstr (.enum _), t, C, X, k, e, m, hx, h => by
    unfold chk at h
    split at h
    · obtain ⟨h0, hr⟩ := ands h
      obtain ⟨h1, h2⟩ := ands h0
      cases h2
    · cases h
  | .lstr (.zip _ _), t, C, X, k, e, m, hx, h => by
    unfold chk at h
    split at h
    · obtain ⟨h0, hr⟩ := ands h
      obtain ⟨h1, h2⟩ := ands h0
      cases h2
    · cases h
  | .sc a, t, C, X, k, e, m, hx, h => by
    unfold chk at h
    have := chk_ok a m hx h
    exact ⟨fun ht => se_sc (this.1 ht), fun ht => st_sc (this.2 ht)⟩
theorem chks_ok : ∀ (cs : CEs) {t : Bool} {C : CC} {X : Cx} {k : Nat} {es : List Expr}, CMatch C X → XOk X cl T k → chks T t C cs es = true → Al2 X cl T t es cs
  | .nil, t, C, X, k, es, m, hx, h => by
    cases es with
    | nil => exact trivial
    | cons _ _ => unfold chks at h; cases h
  | .cons c cs, t, C, X, k, es, m, hx, h => by
    cases es with
    | nil => unfold chks at h; cases h
    | cons e r =>
      unfold chks at h
      obtain ⟨h, h3⟩ := ands h
      obtain ⟨h1, h2⟩ := ands h
      exact ⟨h1, chk_ok c m hx h2, chks_ok cs m hx h3⟩
theorem chkO_ok : ∀ (c : CO) {C : CC} {X : Cx} {k : Nat} {e : Option Expr}, CMatch C X → XOk X cl T k → chkO T C c e = true → SO X cl T e c
  | .none, C, X, k, e, m, hx, h => by
    cases e with
    | none => exact so_none
    | some _ => unfold chkO at h; cases h
  | .some c, C, X, k, e, m, hx, h => by
    cases e with
    | none => unfold chkO at h; cases h
    | some x =>
      unfold chkO at h
      exact so_some ((chk_ok c m hx h).1 rfl)
theorem chkI_ok : ∀ (c : CI) {C : CC} {X : Cx} {k : Nat} {tg e : Expr}, CMatch C X → XOk X cl T k → chkI T C tg c e = true → SI X cl T tg e c
  | .seq c, C, X, k, tg, e, m, hx, h => by
    unfold chkI at h
    exact si_seq ((chk_ok c m hx h).1 rfl)
  | .rng1 a, C, X, k, tg, e, m, hx, h => by
    unfold chkI at h
    split at h
    · obtain ⟨h, h3⟩ := ands h
      obtain ⟨h1, h2⟩ := ands h
      obtain ⟨rfl, g⟩ := isB_ok m h1
      exact si_rng1 hx g h2 ((chk_ok a m hx h3).1 rfl)
    · cases h
  | .rng2 a b, C, X, k, tg, e, m, hx, h => by
    unfold chkI at h
    split at h
    · obtain ⟨h, h5⟩ := ands h
      obtain ⟨h, h4⟩ := ands h
      obtain ⟨h, h3⟩ := ands h
      obtain ⟨h1, h2⟩ := ands h
      obtain ⟨rfl, g⟩ := isB_ok m h1
      exact si_rng2 hx g h2 h3 ((chk_ok a m hx h4).1 rfl) ((chk_ok b m hx h5).1 rfl)
    · cases h
  | .enum a, C, X, k, tg, e, m, hx, h => by
    unfold chkI at h
    split at h
    · obtain ⟨h, h3⟩ := ands h
      obtain ⟨h, h2⟩ := ands h
      obtain ⟨h0, h1⟩ := ands h
      obtain ⟨rfl, g⟩ := isB_ok m h1
      obtain ⟨es, kk, p, rfl⟩ := isTup_ok h0
      exact si_enum hx g h2 ((chk_ok a m hx h3).1 rfl)
    · cases h
  | .zip a b, C, X, k, tg, e, m, hx, h => by
    unfold chkI at h
    split at h
    · obtain ⟨h, h5⟩ := ands h
      obtain ⟨h, h4⟩ := ands h
      obtain ⟨h, h3⟩ := ands h
      obtain ⟨h, h2⟩ := ands h
      obtain ⟨h0, h1⟩ := ands h
      obtain ⟨rfl, g⟩ := isB_ok m h1
      obtain ⟨es, kk, p, rfl⟩ := isTup_ok h0
      exact si_zip hx g h2 h3 ((chk_ok a m hx h4).1 rfl) ((chk_ok b m hx h5).1 rfl)
    · cases h
end
end
end PV

set_option Elab.async false
set_option linter.all false
set_option maxRecDepth 100000
set_option maxHeartbeats 4000000
/-! PV16: the checker of statements; defs. -/
namespace PV
open PySem L2 PyProof.Rows
open Evl (Ex)
/-- names on one line, not the block's own -/
def lineOk (x : Str) (px p : Pos) (scope : Scope) : Bool := (px.line == p.line) && !(scope.names.any fun (n, k) => n == x && (k == .local || k == .cell))
def swapOk (x : Str) (px : Pos) : Expr → Bool
  | .ListComp _ _ scope p => lineOk x px p scope
  | .DictComp _ _ _ scope p => lineOk x px p scope
  | _ => false
def isComp : CE → Bool
  | .lc _ _ _ _ _ => true
  | .dc _ _ _ _ _ => true
  | _ => false
mutual
def chkS (T : Tab) (C : CC) : CS → Stmt → Bool
  | .skip, s => match s with
    | .Pass _ => true
    | .Expr (.Constant (.str _) _ _) _ => true
    | _ => false
  | .asg t c, s => match s with
    | .Assign [tg] e _ => (match t, tg with
      | .nm i, .Name x px => if noComp e then C.at i x && C.loc x && chk T false C c e else C.at i x && C.isLocal x && isComp c && swapOk x px e && chk T false C c e
      | .tp ts, .Tuple _ _ _ => noComp e && noTup e && chkG C (.tp ts) tg && chk T false C c e
      | _, _ => false)
    | _ => false
  | .aug i op c, s => match s with
    | .AugAssign (.Name x _) o e _ => opEq op o && (op == .add || op == .sub) && C.at i x && C.loc x && chk T false C c e
    | _ => false
  | .setix i cj c, s => match s with
    | .Assign [.Subscript (.Name x _) j _] e _ => C.at i x && C.vis x && kindE j && noComp e && chk T false C cj j && chk T false C c e
    | _ => false
  | .app i c, s => match s with
    | .Expr (.Call (.Attribute (.Name x _) a ap) [e] [] cp) _ => a == ("append" : Str) && C.at i x && C.vis x && kindE e && (ap.endLine == cp.line) && chk T false C c e
    | _ => false
  | .ext i c, s => match s with
    | .Expr (.Call (.Attribute (.Name x _) a ap) [e] [] cp) _ => a == ("extend" : Str) && C.at i x && C.vis x && kindE e && (ap.endLine == cp.line) && chk T false C c e
    | _ => false
  | .upd i j, s => match s with
    | .Expr (.Call (.Attribute (.Name x _) a ap) [.Name y _] [] cp) _ => a == ("update" : Str) && C.at i x && C.vis x && C.at j y && C.vis y && (ap.endLine == cp.line)
    | _ => false
  | .appAt i cj c, s => match s with
    | .Expr (.Call (.Attribute (.Subscript (.Name x _) j _) a ap) [e] [] cp) _ => a == ("append" : Str) && C.at i x && C.vis x && kindE e && kindE j && (ap.endLine == cp.line) && chk T false C cj j && chk T false C c e
    | _ => false
  | .ret c, s => match s with
    | .Return (some e) _ => chk T false C c e
    | _ => false
  | .retv i, s => match s with
    | .Return (some (.Name x _)) _ => C.at i x && C.vis x
    | _ => false
  | .retN, s => match s with
    | .Return none _ => true
    | _ => false
  | .ife c a b, s => match s with
    | .If x y z _ => chk T true C c x && chkB T C a y && chkB T C b z
    | _ => false
  | .whl c b, s => match s with
    | .While x y [] _ => chk T true C c x && chkB T C b y
    | _ => false
  | .fr t src b, s => match s with
    | .For tg it body [] _ => noSet it && chkG C t tg && chkI T C tg src it && chkB T C b body
    | _ => false
  | .brk, s => match s with
    | .Break _ => true
    | _ => false
  | .cnt, s => match s with
    | .Continue _ => true
    | _ => false
  | .nev, _ => true
  | .expr c, s => match s with
    | .Expr e _ => noComp e && chk T false C c e
    | _ => false
  | .setf i c f ce, s => match s with
    | .Assign [.Attribute (.Name x _) g _] e _ => g == f && T.fd.any (fun q => q.1 == c && q.2 == f) && C.at i x && C.vis x && noComp e && chk T false C ce e
    | _ => false
  | _, _ => false
def chkB (T : Tab) (C : CC) : CB → List Stmt → Bool
  | .nil, ss => ss.isEmpty
  | .cons c cs, ss => match ss with
    | s :: r => chkS T C c s && chkB T C cs r
    | [] => false
end
section
variable {cl : Nat → Addr} {T : Tab}
theorem comp_ok {C : CC} {X : Cx} {k : Nat} {c : CE} {e : Expr} {i : Nat} {x : Str} {px pos : Pos} {Γ : List Nat} {lvl : Nat} (m : CMatch C X) (hx : XOk X cl T k) (hi : X.N[i]? = some x) (hl : X.env.scope.names.lookup x = some .local) (hc : isComp c = true) (hs : swapOk x px e = true) (h : chk T false C c e = true) :
    SS X cl T Γ lvl (.Assign [.Name x px] e pos) (.asg (.nm i) c) := by
  cases c with
  | lc own tc src cs elt =>
    unfold chk at h
    split at h
    · rename_i el tg it ifs scope p
      obtain ⟨h, h8⟩ := ands h
      obtain ⟨h, h7⟩ := ands h
      obtain ⟨h, h6⟩ := ands h
      obtain ⟨h, h5⟩ := ands h
      obtain ⟨h, h4⟩ := ands h
      obtain ⟨h, h3⟩ := ands h
      obtain ⟨h1, h2⟩ := ands h
      have ok : BlkOk X.N X.env.scope scope own := by
        rw [m.N, m.sc]
        exact blkOk_by h1
      obtain ⟨l1, l2⟩ := ands (show lineOk x px p scope = true from hs)
      exact ss_setLc hx hi hl l1 (not_t l2) ok h2 (lc_parts (chkI_ok src m hx h5) (fun i => chkG_ok (m.blk scope i) (hx.blk ok.kind _ _ _ _ _) tc tg h4) (fun i => al2_sts (of_decide_eq_true h6) (chks_ok cs (m.blk scope i) (hx.blk ok.kind _ _ _ _ _) h7)) (fun i => (chk_ok elt (m.blk scope i) (hx.blk ok.kind _ _ _ _ _) h8).1 rfl) (own_in h3))
    · cases h
  | dc own tc src ck cv =>
    unfold chk at h
    split at h
    · rename_i kx vx tg it scope p
      obtain ⟨h, h7⟩ := ands h
      obtain ⟨h, h6⟩ := ands h
      obtain ⟨h, h5⟩ := ands h
      obtain ⟨h, h4⟩ := ands h
      obtain ⟨h, h3⟩ := ands h
      obtain ⟨h1, h2⟩ := ands h
      have ok : BlkOk X.N X.env.scope scope own := by
        rw [m.N, m.sc]
        exact blkOk_by h1
      have hi' := chkI_ok src (tg := tg) m hx h5
      have hg := fun i : Blk => chkG_ok (m.blk scope i) (hx.blk ok.kind _ _ _ _ _) tc tg h4
      have hk := fun i : Blk => (chk_ok ck (m.blk scope i) (hx.blk ok.kind _ _ _ _ _) h6).1 rfl
      have hv := fun i : Blk => (chk_ok cv (m.blk scope i) (hx.blk ok.kind _ _ _ _ _) h7).1 rfl
      obtain ⟨l1, l2⟩ := ands (show lineOk x px p scope = true from hs)
      refine ss_setDc hx hi hl l1 (not_t l2) ok h2 ?_
      cases hn : cv.isNil with
      | false => exact dc_parts1 hi' hg hk hv (own_in h3) hn
      | true =>
        have : cv = .lst .nil := by
          cases cv with
          | lst cs => cases cs with
            | nil => rfl
            | cons _ _ => cases hn
          | _ => cases hn
        subst this
        exact dc_parts2 hi' hg hk hv (own_in h3)
    · cases h
  | _ => cases hc
mutual
theorem chkS_ok : ∀ (c : CS) {C : CC} {X : Cx} {k : Nat} {Γ : List Nat} {lvl : Nat} {s : Stmt}, CMatch C X → XOk X cl T k → PassesOwn (model X.prog X.w) X.A X.env X.xe → chkS T C c s = true → SS X cl T Γ lvl s c
  | .skip, C, X, k, Γ, lvl, s, m, hx, hp, h => by
    unfold chkS at h
    split at h
    · exact ss_skip
    · exact ss_doc
    · cases h
  | .asg t c, C, X, k, Γ, lvl, s, m, hx, hp, h => by
    unfold chkS at h
    split at h
    · rename_i tg e p
      split at h
      · rename_i i x px
        split at h
        · rename_i hn
          obtain ⟨h, h3⟩ := ands h
          obtain ⟨h1, h2⟩ := ands h
          obtain ⟨a1, _⟩ := CC.at_ok m h1
          obtain ⟨b1, b2⟩ := CC.loc_ok m h2
          exact ss_set hx a1 b1 hn b2 ((chk_ok c m hx h3).1 rfl)
        · obtain ⟨h, h5⟩ := ands h
          obtain ⟨h, h4⟩ := ands h
          obtain ⟨h, h3⟩ := ands h
          obtain ⟨h1, h2⟩ := ands h
          obtain ⟨a1, _⟩ := CC.at_ok m h1
          exact comp_ok m hx a1 (CC.isLocal_ok m h2) h3 h4 h5
      · obtain ⟨h, h4⟩ := ands h
        obtain ⟨h, h3⟩ := ands h
        obtain ⟨h1, h2⟩ := ands h
        exact ss_tup h1 h2 (chkG_ok m hx _ _ h3) ((chk_ok c m hx h4).1 rfl)
      · cases h
    · cases h
  | .aug i op c, C, X, k, Γ, lvl, s, m, hx, hp, h => by
    unfold chkS at h
    split at h
    · obtain ⟨h, h5⟩ := ands h
      obtain ⟨h, h4⟩ := ands h
      obtain ⟨h, h3⟩ := ands h
      obtain ⟨h1, h2⟩ := ands h
      obtain rfl := opEq_ok h1
      obtain ⟨a1, _⟩ := CC.at_ok m h3
      obtain ⟨b1, b2⟩ := CC.loc_ok m h4
      have hc := (chk_ok c m hx h5).1 rfl
      cases op with
      | add => exact ss_augAdd hx a1 b1 b2 hc
      | sub => exact ss_augSub hx a1 b1 b2 hc
      | _ => cases h2
    · cases h
  | .setix i cj c, C, X, k, Γ, lvl, s, m, hx, hp, h => by
    unfold chkS at h
    split at h
    · obtain ⟨h, h6⟩ := ands h
      obtain ⟨h, h5⟩ := ands h
      obtain ⟨h, h4⟩ := ands h
      obtain ⟨h, h3⟩ := ands h
      obtain ⟨h1, h2⟩ := ands h
      obtain ⟨a1, a2, a3⟩ := CC.at_ok m h1
      exact ss_setix hx a1 (CC.vis_ok m h2) a2 a3 h3 h4 ((chk_ok cj m hx h5).1 rfl) ((chk_ok c m hx h6).1 rfl)
    · cases h
  | .app i c, C, X, k, Γ, lvl, s, m, hx, hp, h => by
    unfold chkS at h
    split at h
    · obtain ⟨h, h6⟩ := ands h
      obtain ⟨h, h5⟩ := ands h
      obtain ⟨h, h4⟩ := ands h
      obtain ⟨h, h3⟩ := ands h
      obtain ⟨h1, h2⟩ := ands h
      obtain rfl := strE h1
      obtain ⟨a1, a2, a3⟩ := CC.at_ok m h2
      exact ss_app a1 (CC.vis_ok m h3) a2 a3 h4 h5 ((chk_ok c m hx h6).1 rfl)
    · cases h
  | .ext i c, C, X, k, Γ, lvl, s, m, hx, hp, h => by
    unfold chkS at h
    split at h
    · obtain ⟨h, h6⟩ := ands h
      obtain ⟨h, h5⟩ := ands h
      obtain ⟨h, h4⟩ := ands h
      obtain ⟨h, h3⟩ := ands h
      obtain ⟨h1, h2⟩ := ands h
      obtain rfl := strE h1
      obtain ⟨a1, a2, a3⟩ := CC.at_ok m h2
      exact ss_ext a1 (CC.vis_ok m h3) a2 a3 h4 h5 ((chk_ok c m hx h6).1 rfl)
    · cases h
  | .upd i j, C, X, k, Γ, lvl, s, m, hx, hp, h => by
    unfold chkS at h
    split at h
    · obtain ⟨h, h6⟩ := ands h
      obtain ⟨h, h5⟩ := ands h
      obtain ⟨h, h4⟩ := ands h
      obtain ⟨h, h3⟩ := ands h
      obtain ⟨h1, h2⟩ := ands h
      obtain rfl := strE h1
      obtain ⟨a1, a2, a3⟩ := CC.at_ok m h2
      obtain ⟨b1, b2, b3⟩ := CC.at_ok m h4
      exact ss_upd a1 (CC.vis_ok m h3) a2 a3 b1 (CC.vis_ok m h5) b2 b3 h6
    · cases h
  | .appAt i cj c, C, X, k, Γ, lvl, s, m, hx, hp, h => by
    unfold chkS at h
    split at h
    · obtain ⟨h, h8⟩ := ands h
      obtain ⟨h, h7⟩ := ands h
      obtain ⟨h, h6⟩ := ands h
      obtain ⟨h, h5⟩ := ands h
      obtain ⟨h, h4⟩ := ands h
      obtain ⟨h, h3⟩ := ands h
      obtain ⟨h1, h2⟩ := ands h
      obtain rfl := strE h1
      obtain ⟨a1, a2, a3⟩ := CC.at_ok m h2
      exact ss_appAt hx a1 (CC.vis_ok m h3) a2 a3 h4 h5 h6 ((chk_ok cj m hx h7).1 rfl) ((chk_ok c m hx h8).1 rfl)
    · cases h
  | .ret c, C, X, k, Γ, lvl, s, m, hx, hp, h => by
    unfold chkS at h
    split at h
    · exact ss_ret ((chk_ok c m hx h).1 rfl)
    · cases h
  | .retv i, C, X, k, Γ, lvl, s, m, hx, hp, h => by
    unfold chkS at h
    split at h
    · obtain ⟨h1, h2⟩ := ands h
      obtain ⟨a1, a2, a3⟩ := CC.at_ok m h1
      exact ss_retv a1 (CC.vis_ok m h2) a2 a3
    · cases h
  | .retN, C, X, k, Γ, lvl, s, m, hx, hp, h => by
    unfold chkS at h
    split at h
    · exact ss_retN
    · cases h
  | .ife c a b, C, X, k, Γ, lvl, s, m, hx, hp, h => by
    unfold chkS at h
    split at h
    · obtain ⟨h, h3⟩ := ands h
      obtain ⟨h1, h2⟩ := ands h
      exact ss_if ((chk_ok c m hx h1).2 rfl) (chkB_ok a m hx hp h2) (chkB_ok b m hx hp h3)
    · cases h
  | .whl c b, C, X, k, Γ, lvl, s, m, hx, hp, h => by
    unfold chkS at h
    split at h
    · obtain ⟨h1, h2⟩ := ands h
      exact ss_while hp ((chk_ok c m hx h1).2 rfl) (chkB_ok b m hx hp h2)
    · cases h
  | .fr t src b, C, X, k, Γ, lvl, s, m, hx, hp, h => by
    unfold chkS at h
    split at h
    · obtain ⟨h, h4⟩ := ands h
      obtain ⟨h, h3⟩ := ands h
      obtain ⟨h1, h2⟩ := ands h
      exact ss_for hx hp h1 (chkI_ok src m hx h3) (chkG_ok m hx t _ h2) (chkB_ok b m hx hp h4)
    · cases h
  | .brk, C, X, k, Γ, lvl, s, m, hx, hp, h => by
    unfold chkS at h
    split at h
    · exact ss_brk
    · cases h
  | .cnt, C, X, k, Γ, lvl, s, m, hx, hp, h => by
    unfold chkS at h
    split at h
    · exact ss_cnt
    · cases h
  | .nev, C, X, k, Γ, lvl, s, m, hx, hp, h => ss_nev
  | .expr c, C, X, k, Γ, lvl, s, m, hx, hp, h => by
    unfold chkS at h
    split at h
    · obtain ⟨h1, h2⟩ := ands h
      exact ss_expr h1 ((chk_ok c m hx h2).1 rfl)
    · cases h
  | .setf i c f ce, C, X, k, Γ, lvl, s, m, hx, hp, h => by
    unfold chkS at h
    split at h
    · rename_i x px g ap e p
      obtain ⟨h, h6⟩ := ands h
      obtain ⟨h, h5⟩ := ands h
      obtain ⟨h, h4⟩ := ands h
      obtain ⟨h, h3⟩ := ands h
      obtain ⟨h1, h2⟩ := ands h
      obtain rfl := strE h1
      obtain ⟨q, hq, hq2⟩ := List.any_eq_true.mp h2
      obtain ⟨q1, q2⟩ := ands hq2
      have e1 : q.1 = c := by simpa using q1
      have e2 : q.2 = g := strE q2
      have hm : (c, g) ∈ T.fd := by
        obtain ⟨u, v⟩ := q
        cases e1
        cases e2
        exact hq
      obtain ⟨a1, a2, a3⟩ := CC.at_ok m h3
      exact ss_setf hx hm a1 (CC.vis_ok m h4) a2 a3 h5 ((chk_ok ce m hx h6).1 rfl)
    · cases h
  | .par _ _ _ _, C, X, k, Γ, lvl, s, m, hx, hp, h => by unfold chkS at h; cases h
  | .augix _ _ _ _, C, X, k, Γ, lvl, s, m, hx, hp, h => by unfold chkS at h; cases h
  | .sdApp _ _ _, C, X, k, Γ, lvl, s, m, hx, hp, h => by unfold chkS at h; cases h
  | .appPop _ _ _, C, X, k, Γ, lvl, s, m, hx, hp, h => by unfold chkS at h; cases h
theorem chkB_ok : ∀ (c : CB) {C : CC} {X : Cx} {k : Nat} {Γ : List Nat} {lvl : Nat} {ss : List Stmt}, CMatch C X → XOk X cl T k → PassesOwn (model X.prog X.w) X.A X.env X.xe → chkB T C c ss = true → SBs X cl T Γ lvl ss c
  | .nil, C, X, k, Γ, lvl, ss, m, hx, hp, h => by
    cases ss with
    | nil => exact sbs_nil
    | cons _ _ => unfold chkB at h; cases h
  | .cons c cs, C, X, k, Γ, lvl, ss, m, hx, hp, h => by
    cases ss with
    | nil => unfold chkB at h; cases h
    | cons s r =>
      unfold chkB at h
      obtain ⟨h1, h2⟩ := ands h
      exact sbs_cons (chkS_ok c m hx hp h1) (chkB_ok cs m hx hp h2)
end
end
end PV

set_option Elab.async false
set_option linter.all false
set_option maxRecDepth 100000
set_option maxHeartbeats 4000000
/-! PV17: defs. -/
namespace PV
open PySem L2 PyProof.Rows
open Evl (Ex)
/-- what a table stands on -/
structure TOk (P : Program) (w : World) (K : PySem.W.Frag) (mg : Str → Option Value) (base : Heap) (cl : Nat → Addr) (T : Tab) (k : Nat) : Prop where
  bl : ∀ x ∈ blNames, mg x = none
  fns : ∀ e ∈ T.fn, FnEOk P w K mg base cl k e
  gls : ∀ p ∈ T.gl, Written K cl mg p.1 p.2
  fds : ∀ p ∈ T.fd, Cls K (cl p.1) ∧ NoAttr K (cl p.1) p.2
section
variable {P : Program} {w : World} {K : PySem.W.Frag} {mg : Str → Option Value} {base : Heap} {cl : Nat → Addr} {T : Tab} {k : Nat} {x qual : Str} {params : Arguments} {body : List Stmt} {scope : Scope} {f : Addr} {fd : FuncData} {N ps : List Str}
theorem FnEOk.mono {e : FnE} {k' : Nat} (h : FnEOk P w K mg base cl k e) (hk : k ≤ k') : FnEOk P w K mg base cl k' e := by
  obtain ⟨h⟩ := h
  refine ⟨?_⟩
  cases hkd : e.kind with
  | fn =>
    rw [hkd] at h
    obtain ⟨fa, fd, ps, j, hj, r⟩ := h
    exact ⟨fa, fd, ps, j, Nat.le_trans hj hk, r⟩
  | meth c =>
    rw [hkd] at h
    obtain ⟨fa, fd, ps, j, hj, r⟩ := h
    exact ⟨fa, fd, ps, j, Nat.le_trans hj hk, r⟩
  | mk c =>
    rw [hkd] at h
    obtain ⟨fa, fd, ps, j, hj, r⟩ := h
    exact ⟨fa, fd, ps, j, Nat.le_trans hj hk, r⟩
theorem TOk.mono {k' : Nat} (h : TOk P w K mg base cl T k) (hk : k ≤ k') : TOk P w K mg base cl T k' := ⟨h.bl, fun e he => (h.fns e he).mono hk, h.gls, h.fds⟩
theorem TOk.add (h : TOk P w K mg base cl T k) {e : FnE} (he : FnEOk P w K mg base cl k e) : TOk P w K mg base cl { T with fn := T.fn ++ [e] } k :=
  ⟨h.bl, fun e' h' => by
    rcases List.mem_append.mp h' with h' | h'
    · exact h.fns e' h'
    · obtain rfl := List.mem_singleton.mp h'
      exact he, h.gls, h.fds⟩
/-- names that are not special -/
def namesOk (N : List Str) : Bool := N.all fun x => !(x == ("__debug__" : Str)) && !(x == ("__classdict__" : Str))
theorem names_ok (h : namesOk N = true) : ∀ x ∈ N, (x == ("__debug__" : Str)) = false ∧ (x == ("__classdict__" : Str)) = false := fun x hx => by
  obtain ⟨h1, h2⟩ := ands (List.all_eq_true.mp h x hx)
  exact ⟨not_t h1, not_t h2⟩
theorem get_args {ds : List D} {vs : List V} {H : Hp} {A : Addr → Prop} {n m i : Nat} {d : D} (r : Reps K cl H A ds vs) (h : (ds.map some ++ List.replicate n (none : Option D))[i]? = some (some d)) : i < ds.length ∧ ∃ v, (vs.map some ++ List.replicate m (none : Option V))[i]? = some (some v) ∧ Rep K cl H A d v := by
  by_cases hi : i < ds.length
  · refine ⟨hi, ?_⟩
    rw [List.getElem?_append_left (by simpa using hi), List.getElem?_map] at h
    obtain ⟨d', h1, h2⟩ := Option.map_eq_some_iff.mp h
    cases h2
    obtain ⟨v, ev, rv⟩ := r.get h1
    refine ⟨v, ?_, rv⟩
    rw [List.getElem?_append_left (by rw [List.length_map, r.length]; exact hi), List.getElem?_map, ev]
    rfl
  · rw [List.getElem?_append_right (by simpa using hi)] at h
    by_cases hj : i - (ds.map some).length < n
    · rw [List.getElem?_replicate_of_lt hj] at h
      cases h
    · rw [List.getElem?_eq_none (by simpa using hj)] at h
      cases h
/-- A DEF -/
theorem fn_ok {Γ : List Nat} {lvl : Nat} {cf : CF} (F : FunD K x qual params body scope [] [] f fd) (S : FnScope N ps scope) (G : TOk P w K mg base cl T k) (hn : cf.n = N.length) (hp : cf.np = ps.length)
    (hnm : namesOk N = true) (hc : chkB T ⟨N, scope, fun _ => true⟩ cf.body body = true) (ok : CB.okG T Γ lvl cf.body = true) (h0 : (List.range cf.np).all (fun i => Γ.getD i 0 == 0) = true) :
    FnOk P w K mg base CX0 (k + 1) f fd ps (spF K cl cf.np (cf.sem T) lvl) := by
  refine F.ok S (fun vs H Q E h => h.1.trans hp) fun cdv A outer s H vs Q E hr ⟨hv, ds, Z, d, rs, hz, hsem, hQ⟩ => ?_
  have m : CMatch ⟨N, scope, fun _ => true⟩ (cxOf CX0 P w K mg base N qual scope f cdv A outer s H E).nox := ⟨rfl, rfl, rfl, names_ok hnm⟩
  have hx : XOk (cxOf CX0 P w K mg base N qual scope f cdv A outer s H E).nox cl T k := ⟨rfl, S.nd, hr, G.bl, G.fns, G.gls, S.kind, G.fds⟩
  obtain ⟨t, ps', g⟩ := chkB_ok cf.body (Γ := Γ) (lvl := lvl) m hx PassesOwn.never hc
  refine ⟨t, ps'.nox, ?_⟩
  have hdl : ds.length = cf.np := by rw [← rs.length]; exact hv
  unfold CF.sem at hsem
  rw [if_pos hdl] at hsem
  have w0 : WSt K cl Γ Z H (fun _ => []) Z (L2.start N vs) H (ds.map some ++ List.replicate (cf.n - cf.np) none) := by
    refine ⟨⟨fun i d' h => ?_, hz, fun i a h => (by cases h), fun _ _ => rfl, ?_⟩, fun i j a _ h => (by cases h), fun _ => List.nodup_nil, fun i a h => (by cases h), fun i a h => (by cases h), fun a h => .inl h, Ex.refl H⟩
    · obtain ⟨hi, v, ev, rv⟩ := get_args (m := N.length - vs.length) rs h
      refine ⟨v, ev, ?_⟩
      have hg : Γ.getD i 0 = 0 := by
        have := List.all_eq_true.mp h0 i (List.mem_range.mpr (by omega))
        simpa using this
      rw [hg]
      exact ⟨rfl, rv⟩
    · unfold L2.start
      rw [List.length_append, List.length_append, List.length_map, List.length_map, List.length_replicate, List.length_replicate, hv, hdl, hn]
  cases hrun : CB.run T cf.body (ds.map some ++ List.replicate (cf.n - cf.np) none) with
  | none => rw [hrun] at hsem; cases hsem
  | some o =>
    rw [hrun] at hsem
    refine g Z H _ Z _ H _ ok w0 o hrun _ ?_
    cases o with
    | nx ρ' =>
      cases (show some D.non = some d from hsem)
      exact fun FF' Z' σ' H' w' _ => hQ .non H' w'.ex (Out.flat (d := .non) rfl)
    | rt d' =>
      cases (show some d' = some d from hsem)
      exact fun v H' e o => hQ v H' e o
    | bk _ => cases hsem
    | ct _ => cases hsem
/-- AN __init__ -/
theorem init_ok {Γ : List Nat} {c : Nat} {cf : CF} {np : Nat} (F : FunD K x qual params body scope [] [] f fd) (S : FnScope N ps scope) (G : TOk P w K mg base cl T k) (hn : cf.n = N.length) (hp : cf.np = ps.length) (hnp : np + 1 = cf.np)
    (hnm : namesOk N = true) (hc : chkB T ⟨N, scope, fun _ => true⟩ cf.body body = true) (ok : CB.okG T Γ 0 cf.body = true) (h0 : (List.range np).all (fun i => Γ.getD (i + 1) 0 == 0) = true) (hs : Γ.getD 0 0 = 1) (hwr : (CB.wr cf.body).contains (wa 0) = false) :
    FnOk P w K mg base CX0 (k + 1) f fd ps (spI K cl c np (fun ds => cf.init T c ds)) := by
  refine F.ok S (fun vs H Q E h => ?_) fun cdv A outer s H vs Q E hr ⟨xa, dx, vs', e, hv, hxa, ds, Z, d, rs, hz, hZx, hsem, hQ⟩ => ?_
  · obtain ⟨xa, dx, vs', rfl, hv, _⟩ := h
    rw [List.length_cons, hv]
    omega
  subst e
  have m : CMatch ⟨N, scope, fun _ => true⟩ (cxOf CX0 P w K mg base N qual scope f cdv A outer s H E).nox := ⟨rfl, rfl, rfl, names_ok hnm⟩
  have hx : XOk (cxOf CX0 P w K mg base N qual scope f cdv A outer s H E).nox cl T k := ⟨rfl, S.nd, hr, G.bl, G.fns, G.gls, S.kind, G.fds⟩
  obtain ⟨t, ps', g⟩ := chkB_ok cf.body (Γ := Γ) (lvl := 0) m hx PassesOwn.never hc
  refine ⟨t, ps'.nox, ?_⟩
  have hdl : ds.length = np := by rw [← rs.length]; exact hv
  have hsem : CF.init T cf c ds = some d := hsem
  unfold CF.init at hsem
  rw [if_pos (by omega)] at hsem
  let H0 : Hp := fun a => if a = xa then none else H a
  have h0x : H0 xa = none := if_pos rfl
  have h0n : ∀ a, a ≠ xa → H0 a = H a := fun a h => if_neg h
  have ex0 : Ex H0 H := fun a o h => by
    by_cases ha : a = xa
    · rw [ha, h0x] at h; cases h
    · rw [h0n a ha] at h; exact h
  have w0 : WSt K cl Γ Z H0 (fun i => if i = 0 then [xa] else []) Z (L2.start N (.ref xa :: vs')) H (some (.ins c []) :: ds.map some ++ List.replicate (cf.n - cf.np) none) := by
    refine ⟨⟨fun i d' h => ?_, hz, fun i a h => ?_, fun i hi => ?_, ?_⟩, fun i j a hij h1 h2 => ?_, fun i => ?_, fun i a h hz' => ?_, fun i a h => ?_, fun a h => .inl h, ex0⟩
    · cases i with
      | zero =>
        cases (show some (some (D.ins c [])) = some (some d') from h)
        refine ⟨.ref xa, rfl, ?_⟩
        rw [hs]
        exact RepO.ins1 hxa rfl
      | succ i =>
        obtain ⟨hi, v, ev, rv⟩ := get_args (m := N.length - (vs'.length + 1)) rs (show (ds.map some ++ List.replicate (cf.n - cf.np) none)[i]? = some (some d') from h)
        refine ⟨v, ev, ?_⟩
        have hg : Γ.getD (i + 1) 0 = 0 := by
          have := List.all_eq_true.mp h0 i (List.mem_range.mpr (by omega))
          simpa using this
        rw [hg]
        exact ⟨rfl, rv⟩
    · by_cases hi : i = 0
      · simp only [hi, if_true] at h
        obtain rfl := List.mem_singleton.mp h
        rw [hxa]
        exact fun z => by cases z
      · simp only [if_neg hi] at h
        cases h
    · by_cases hi' : i = 0
      · rw [hi', hs] at hi
        cases hi
      · exact if_neg hi'
    · unfold L2.start
      simp only [List.length_append, List.length_cons, List.length_map, List.length_replicate, hv, hdl, hn]
      omega
    · by_cases hi : i = 0
      · have hj : ¬ j = 0 := fun z => hij (hi.trans z.symm)
        simp only [if_neg hj] at h2
        cases h2
      · simp only [if_neg hi] at h1
        cases h1
    · by_cases hi : i = 0
      · simp only [hi, if_true]
        simp
      · simp only [if_neg hi]
        exact List.nodup_nil
    · by_cases hi : i = 0
      · simp only [hi, if_true] at h
        obtain rfl := List.mem_singleton.mp h
        exact hZx hz'
      · simp only [if_neg hi] at h
        cases h
    · by_cases hi : i = 0
      · simp only [hi, if_true] at h
        obtain rfl := List.mem_singleton.mp h
        exact h0x
      · simp only [if_neg hi] at h
        cases h
  cases hrun : CB.run T cf.body (some (.ins c []) :: ds.map some ++ List.replicate (cf.n - cf.np) none) with
  | none => rw [hrun] at hsem; cases hsem
  | some o =>
    rw [hrun] at hsem
    refine g Z H0 _ Z _ H _ ok w0 o hrun _ ?_
    cases o with
    | nx ρ' =>
      have hsem : (ρ'[0]?).bind id = some d := hsem
      refine fun FF' Z' σ' H' w' st => hQ H' (fun a o h ha => w'.ex a o (by rw [h0n a ha]; exact h)) ?_ ?_
      · have hF : FF' 0 = [xa] := st.f 0 fun hm => by
          rw [List.contains_iff_mem.mpr hm] at hwr
          cases hwr
        exact w'.r.f 0 xa (by rw [hF]; exact List.mem_singleton.mpr rfl)
      · have hF : FF' 0 = [xa] := st.f 0 fun hm => by
          rw [List.contains_iff_mem.mpr hm] at hwr
          cases hwr
        obtain ⟨v, h1, h2⟩ := w'.r.sl 0 d (env_some hsem)
        rw [hs, hF] at h2
        have zz : ∀ a, Z' a → Z a ∨ New H H' a := fun a h => by
          rcases w'.zz a h with h | h
          · exact .inl h
          · by_cases ha : a = xa
            · exact absurd h (by
                intro _
                exact w'.dz 0 xa (by rw [hF]; exact List.mem_singleton.mpr rfl) (by rw [← ha]; assumption))
            · exact .inr ⟨by rw [← h0n a ha]; exact h.1, h.2⟩
        rcases h2 with ⟨_, hF', _⟩ | ⟨a, Fs, rfl, hF', h⟩
        · cases hF'
        · injection hF' with e1 e2
          subst e1
          have fl : ∀ {ds : List D} {vs : List V}, All3 (RepO K cl H' Z' 0) ds vs Fs → Reps K cl H' (fun a => Z a ∨ New H H' a) ds vs := fun hh => Reps.mono (fun _ _ _ h => h) zz _ _ (hh.reps fun d v F _ h => h.2)
          rcases h with ⟨ds', ws, rfl, ha, hh⟩ | ⟨kvs, ps2, rfl, ha, ek, hh⟩ | ⟨c', dx', fs, ps2, rfl, ha, ek, hh⟩
          · exact ⟨xa, ws, rfl, .inl ⟨.inl ha, rfl⟩, fl hh⟩
          · exact ⟨xa, ps2, rfl, ⟨ha, rfl⟩, repK_of ek (fl hh)⟩
          · exact ⟨xa, dx', ps2, rfl, ⟨ha, rfl⟩, repF_of ek (fl hh)⟩
    | rt _ => cases hsem
    | bk _ => cases hsem
    | ct _ => cases hsem
end
end PV
namespace PV
open PySem L2 PyProof.Rows
section
variable {P : Program} {w : World} {K : PySem.W.Frag} {mg : Str → Option Value} {base : Heap} {cl : Nat → Addr} {T : Tab} {k : Nat} {x qual : Str} {params : Arguments} {body : List Stmt} {scope : Scope} {f : Addr} {fd : FuncData} {N ps : List Str}
/-! ### a def's row in the table -/
theorem fne_fn {Γ : List Nat} {lvl np : Nat} {cf : CF} {name : Str} {sem : List D → Option D} (G : TOk P w K mg base cl T k) (F : FunD K x qual params body scope [] [] f fd) (S : FnScope N ps scope) (hg : mg name = some (.ref f)) (hb : Binds K fd ps []) (hn : cf.n = N.length) (hp : cf.np = ps.length) (hnp : np = cf.np)
    (hnm : namesOk N = true) (hc : chkB T ⟨N, scope, fun _ => true⟩ cf.body body = true) (ok : CB.okG T Γ lvl cf.body = true) (h0 : (List.range cf.np).all (fun i => Γ.getD i 0 == 0) = true) (hsem : sem = cf.sem T) : FnEOk P w K mg base cl (k + 1) ⟨.fn, name, np, sem, lvl⟩ := by
  subst hnp hsem
  exact ⟨f, fd, ps, k + 1, Nat.le_refl _, fn_ok F S G hn hp hnm hc ok h0, hg, F.kp, hb⟩
theorem fne_meth {Γ : List Nat} {lvl np c : Nat} {cf : CF} {name : Str} {sem : List D → Option D} (G : TOk P w K mg base cl T k) (F : FunD K x qual params body scope [] [] f fd) (S : FnScope N ps scope) (hcl : Cls K (cl c)) (hm : Meth K (cl c) name f) (hb : Binds K fd ps []) (hn : cf.n = N.length) (hp : cf.np = ps.length) (hnp : np + 1 = cf.np)
    (hnm : namesOk N = true) (hc : chkB T ⟨N, scope, fun _ => true⟩ cf.body body = true) (ok : CB.okG T Γ lvl cf.body = true) (h0 : (List.range cf.np).all (fun i => Γ.getD i 0 == 0) = true) (hsem : sem = cf.sem T) : FnEOk P w K mg base cl (k + 1) ⟨.meth c, name, np, sem, lvl⟩ := by
  subst hsem
  refine ⟨f, fd, ps, k + 1, Nat.le_refl _, ?_, hcl, hm, hb⟩
  have := fn_ok F S G hn hp hnm hc ok h0
  rw [← hnp] at this
  exact this
theorem fne_mk {Γ : List Nat} {np c : Nat} {cf : CF} {name : Str} {sem : List D → Option D} (G : TOk P w K mg base cl T k) (F : FunD K x qual params body scope [] [] f fd) (S : FnScope N ps scope) (hmk : Mk K (cl c) f) (hg : mg name = some (.ref (cl c))) (hb : Binds K fd ps []) (hn : cf.n = N.length) (hp : cf.np = ps.length) (hnp : np + 1 = cf.np)
    (hnm : namesOk N = true) (hc : chkB T ⟨N, scope, fun _ => true⟩ cf.body body = true) (ok : CB.okG T Γ 0 cf.body = true) (h0 : (List.range np).all (fun i => Γ.getD (i + 1) 0 == 0) = true) (hs : Γ.getD 0 0 = 1) (hwr : (CB.wr cf.body).contains (wa 0) = false) (hsem : sem = fun ds => cf.init T c ds) : FnEOk P w K mg base cl (k + 2) ⟨.mk c, name, np, sem, 0⟩ := by
  subst hsem
  exact ⟨f, fd, ps, k + 1, Nat.le_refl _, init_ok F S G hn hp hnp hnm hc ok h0 hs hwr, hmk, hg, hb, rfl⟩
/-- the next table -/
theorem TOk.next {e : FnE} {j : Nat} (h : TOk P w K mg base cl T k) (hj : k ≤ j) (he : FnEOk P w K mg base cl j e) : TOk P w K mg base cl { T with fn := T.fn ++ [e] } j := (h.mono hj).add he
theorem written_int {y : Str} {i : Int} (h : ∃ t, mg y = some (.int i t)) : Written K cl mg y (.int i) := let ⟨t, e⟩ := h; ⟨_, .int i, e, ⟨t, rfl⟩, fun _ _ => rfl⟩
theorem written_str {y z : Str} (h : ∃ t, mg y = some (.str z t)) : Written K cl mg y (.str z) := let ⟨t, e⟩ := h; ⟨_, .str z, e, ⟨t, rfl⟩, fun _ _ => rfl⟩
/-- scalars as the head's tables tell them -/
def D.dv : D → He.Dv
  | .int i => .int i | .str s => .str s | .bl b => .bl b | _ => .non
theorem reps_dv {H : Hp} {A : Addr → Prop} : ∀ {ds : List D}, ds.all D.flat = true → Reps K cl H A ds ((ds.map D.dv).map (He.Dv.v K))
  | [], _ => rfl
  | d :: ds, h => by
    obtain ⟨h1, h2⟩ := ands (show (d.flat && ds.all D.flat) = true from h)
    refine ⟨_, _, rfl, ?_, reps_dv h2⟩
    cases d <;> first | rfl | cases h1
theorem written_tup {y : Str} {ds : List D} (hg : mg y = some (.ref (He.ga K y))) (h : He.tupB K y (ds.map D.dv) = true) (hf : ds.all D.flat = true) : Written K cl mg y (.tup ds) :=
  ⟨_, .ref (He.ga K y), hg, rfl, fun H A => ⟨_, _, rfl, .inr (fun H' => He.tupB_ok h H'), reps_dv hf⟩⟩
/-- the law's call: its reading of a script -/
theorem law_reads {sem : List D → Option D} (hl : ∀ ns : List Int, ns.length ≤ 63 → sem [.lst (ns.map D.int)] = some (.bl true)) (H : Hp) (a : Addr) (ns : List Int) (hn : ns.length ≤ 63) (hS : SqL K H a (ns.map V.int)) : spF K cl 1 sem 0 [.ref a] H (fun v _ => v = .bl true) fun _ _ _ => False := by
  refine ⟨rfl, [.lst (ns.map D.int)], fun b => H b ≠ none, .bl true, ⟨.ref a, [], rfl, ⟨a, _, rfl, ?_, reps_ints ns⟩, rfl⟩, fun _ h => h, hl ns hn, fun v H' _ o => o⟩
  rcases hS with h | h
  · refine .inl ⟨h, ?_⟩
    rcases h with h | ⟨o, h⟩
    · rw [h]; exact fun z => by cases z
    · rw [h]; exact fun z => by cases z
  · exact .inr fun H' => .inr h
end
end PV

set_option Elab.async false
set_option linter.all false
set_option maxRecDepth 100000
set_option maxHeartbeats 0

namespace Hd
open PySem PySem.Spec PyProof.Rows L2
def top (i : Nat) : Stmt := PySem.Challenge.pw_turnedbysteps_k27_whole_links_must_stay.main.body.getD i (.Pass ⟨0, 0, 0, 0⟩)
def mk (at_ : Str × Option Str) (name qual : Str) (st : Stmt) : He.DefD := ⟨at_, name, qual, defArgs st, defBody st, defScope st, [], []⟩
def fn : List He.DefD := [
  mk ("Town", some "streets_with") "streets_with" "Town.streets_with" (inClass (top 46) 17),
  mk ("other_end", none) "other_end" "other_end" (top 38),
  mk ("Town", some "across") "across" "Town.across" (inClass (top 46) 18),
  mk ("hanging_from", none) "hanging_from" "hanging_from" (top 2),
  mk ("hang_together", none) "hang_together" "hang_together" (top 4),
  mk ("Town", some "ends") "ends" "Town.ends" (inClass (top 46) 9),
  mk ("is_link", none) "is_link" "is_link" (top 5),
  mk ("Town", some "streets") "streets" "Town.streets" (inClass (top 46) 2),
  mk ("all_links", none) "all_links" "all_links" (top 7),
  mk ("links", none) "links" "links" (top 21),
  mk ("drives_of", none) "drives_of" "drives_of" (top 36),
  mk ("all_drives", none) "all_drives" "all_drives" (top 37),
  mk ("is_ascending", none) "is_ascending" "is_ascending" (top 17),
  mk ("has_name_signs", none) "has_name_signs" "has_name_signs" (top 15),
  mk ("is_name", none) "is_name" "is_name" (top 16),
  mk ("are_names", none) "are_names" "are_names" (top 18),
  mk ("are_places", none) "are_places" "are_places" (top 19),
  mk ("is_end", none) "is_end" "is_end" (top 32),
  mk ("is_word", none) "is_word" "is_word" (top 33),
  mk ("is_street_of", none) "is_street_of" "is_street_of" (top 34),
  mk ("first_wrong_street", none) "first_wrong_street" "first_wrong_street" (top 35),
  mk ("check_town", none) "check_town" "check_town" (top 42),
  mk ("by_place", none) "by_place" "by_place" (top 43),
  mk ("streets_at", none) "streets_at" "streets_at" (top 44),
  mk ("places_beside", none) "places_beside" "places_beside" (top 45),
  mk ("Town", some "__init__") "__init__" "Town.__init__" (inClass (top 46) 0),
  mk ("Town", some "places") "places" "Town.places" (inClass (top 46) 1),
  mk ("as_list", none) "as_list" "as_list" (top 3),
  mk ("halves_of", none) "halves_of" "halves_of" (top 6),
  mk ("is_whole", none) "is_whole" "is_whole" (top 13),
  mk ("is_from_to", none) "is_from_to" "is_from_to" (top 14),
  mk ("Town", some "is_street") "is_street" "Town.is_street" (inClass (top 46) 7),
  mk ("Town", some "check_street") "check_street" "Town.check_street" (inClass (top 46) 8),
  mk ("halves", none) "halves" "halves" (top 22),
  mk ("Town", some "drives_from") "drives_from" "Town.drives_from" (inClass (top 46) 15),
  mk ("numbers_from", none) "numbers_from" "numbers_from" (top 58),
  mk ("in_town_order", none) "in_town_order" "in_town_order" (top 60),
  mk ("gets_everywhere", none) "gets_everywhere" "gets_everywhere" (top 64),
  mk ("first_shut_in", none) "first_shut_in" "first_shut_in" (top 65),
  mk ("answer_ways", none) "answer" "answer" (top 66),
  mk ("Town", some "two_way") "two_way" "Town.two_way" (inClass (top 46) 4),
  mk ("two_way_links", none) "two_way_links" "two_way_links" (top 70),
  mk ("first_signs", none) "first_signs" "first_signs" (top 55),
  mk ("street_by", none) "street_by" "street_by" (top 53),
  mk ("town_by", none) "town_by" "town_by" (top 54),
  mk ("with_sign", none) "with_sign" "with_sign" (top 56),
  mk ("Town", some "drives_to") "drives_to" "Town.drives_to" (inClass (top 46) 16),
  mk ("numbers_to", none) "numbers_to" "numbers_to" (top 59),
  mk ("all_get", none) "all_get" "all_get" (top 68),
  mk ("directed", none) "directed" "directed" (top 71),
  mk ("house_plan", none) "house_plan" "house_plan" (top 72),
  mk ("answer_plans", none) "answer" "answer" (top 73),
  mk ("must_stay", none) "must_stay" "must_stay" (top 76),
  mk ("lean_plan", none) "lean_plan" "lean_plan" (top 77),
  mk ("answer_kept", none) "answer" "answer" (top 78),
  mk ("_law_numbers", none) "_law_numbers" "_law_numbers" (top 81),
  mk ("_law_drives", none) "_law_drives" "_law_drives" (top 82),
  mk ("_law_reached", none) "_law_reached" "_law_reached" (top 83),
  mk ("_law_all_get", none) "_law_all_get" "_law_all_get" (top 84),
  mk ("_law_by", none) "_law_by" "_law_by" (top 85),
  mk ("law", none) "law" "law" (top 86)]
def fa0 : List He.Fa := [.free "len", .free "list", .free "tuple", .free "sorted", .free "int", .free "str", .free "min", .free "max", .free "sum", .free "all", .free "any", .free "isinstance", .free "range", .free "enumerate", .free "zip", .free "bool", .str "FIGURES" (Str.ofString "0123456789"), .str "LETTERS" (Str.ofString "abcdefghijklmnopqrstuvwxyz"), .int "LONGEST_NAME" (12), .int "MOST_PLACES" (12), .glo "WORDS", .str "TWO_WAY" (Str.ofString "two"), .int "MOST_STREETS" (24), .str "THERE" (Str.ofString ">"), .str "ONE" (Str.ofString "one"), .str "BOTH" (Str.ofString "="), .str "TWO" (Str.ofString "two"), .str "CLOSED" (Str.ofString "closed"), .str "ALL" (Str.ofString "all"), .str "BACK" (Str.ofString "<")]
def fa1 : List He.Fa := [.glo "other_end", .glo "hanging_from", .glo "hang_together", .glo "is_link", .glo "all_links", .glo "links", .glo "drives_of", .glo "all_drives", .glo "is_ascending", .glo "has_name_signs", .glo "is_name", .glo "are_names", .glo "are_places", .glo "is_end", .glo "is_word", .glo "is_street_of", .glo "first_wrong_street", .glo "check_town", .glo "by_place", .glo "streets_at", .glo "places_beside", .glo "as_list", .glo "halves_of", .glo "is_whole", .glo "is_from_to", .glo "halves", .glo "numbers_from", .glo "in_town_order", .glo "gets_everywhere", .glo "first_shut_in"]
def fa2 : List He.Fa := [.glo "answer_ways", .glo "two_way_links", .glo "first_signs", .glo "street_by", .glo "town_by", .glo "with_sign", .glo "numbers_to", .glo "all_get", .glo "directed", .glo "house_plan", .glo "answer_plans", .glo "must_stay", .glo "lean_plan", .glo "answer_kept", .glo "_law_numbers", .glo "_law_drives", .glo "_law_reached", .glo "_law_all_get", .glo "_law_by", .glo "law", .glo "Town", .cls "Town", .mkr "Town", .noat "Town" "_places", .noat "Town" "_streets", .noat "Town" "_drives", .noat "Town" "_out", .noat "Town" "_into", .noat "Town" "_at", .noat "Town" "_beside"]
def fa3 : List He.Fa := [.meth "Town" "streets_with", .meth "Town" "across", .meth "Town" "ends", .meth "Town" "streets", .meth "Town" "places", .meth "Town" "is_street", .meth "Town" "check_street", .meth "Town" "drives_from", .meth "Town" "two_way", .meth "Town" "drives_to"]
def fa : List He.Fa := fa0 ++ fa1 ++ fa2 ++ fa3
def ns0 : List PySem.Str := ["_wall", "hanging_from", "as_list", "hang_together", "is_link", "halves_of", "all_links", "LETTERS", "FIGURES", "LONGEST_NAME", "MOST_PLACES", "is_whole", "is_from_to", "has_name_signs", "is_name", "is_ascending", "are_names", "are_places", "links", "halves", "TownError", "BadTown", "Unknown", "ONE_WAY", "TWO_WAY", "WORDS", "MOST_STREETS", "is_end", "is_word", "is_street_of"]
def ns1 : List PySem.Str := ["first_wrong_street", "drives_of", "all_drives", "other_end", "WRONG_PLACES", "WRONG_STREETS", "check_town", "by_place", "streets_at", "places_beside", "Town", "THERE", "BACK", "BOTH", "ONE", "TWO", "street_by", "town_by", "first_signs", "with_sign", "numbers_from", "numbers_to", "in_town_order", "ALL", "CLOSED", "gets_everywhere", "first_shut_in", "answer", "answer_ways", "all_get"]
def ns2 : List PySem.Str := ["two_way_links", "directed", "house_plan", "answer_plans", "must_stay", "lean_plan", "answer_kept", "_law_numbers", "_law_drives", "_law_reached", "_law_all_get", "_law_by"]
def ns : List PySem.Str := ns0 ++ ns1 ++ ns2
def ex (K : PySem.W.Frag) : Bool := He.tupB K "WORDS" (List.map PV.D.dv [.str (Str.ofString "one"), .str (Str.ofString "two")])
abbrev R : PySem.W.OpenRow := PySem.W.OpenLaw.row PySem.Challenge.rw_turnedbysteps_k27_whole_links_must_stay
abbrev hk : PySem.W.Hook := He.hookX 5 fa fn [] [] ex
def ob (s : PySem.W.SharedT) : He.AlX := He.obsX 5 fa fn [] [] ex (HandSHeadRun.getT s)
theorem ob_eq (s : PySem.W.SharedT) : ob s = hk.obs s.abs := He.obsX_eq (HandSHeadRun.getT_eq s)
theorem run (w : World) : HandSHeadRun.RunEq R (PySem.W.view R.prog [86]) hk ob 20000 ns w := by
  intro os
  kernel_rfl
end Hd

set_option Elab.async false
set_option linter.all false
set_option maxRecDepth 100000
set_option maxHeartbeats 0

namespace LawC
open PySem L2 PV PyProof.Rows Hd
abbrev gl_FIGURES : Nat := 0
abbrev gl_LETTERS : Nat := 1
abbrev gl_LONGEST_NAME : Nat := 2
abbrev gl_MOST_PLACES : Nat := 3
abbrev gl_WORDS : Nat := 4
abbrev gl_TWO_WAY : Nat := 5
abbrev gl_MOST_STREETS : Nat := 6
abbrev gl_THERE : Nat := 7
abbrev gl_ONE : Nat := 8
abbrev gl_BOTH : Nat := 9
abbrev gl_TWO : Nat := 10
abbrev gl_CLOSED : Nat := 11
abbrev gl_ALL : Nat := 12
abbrev gl_BACK : Nat := 13
def gls : List (Str × D) := [(Str.ofString "FIGURES", .str (Str.ofString "0123456789")), (Str.ofString "LETTERS", .str (Str.ofString "abcdefghijklmnopqrstuvwxyz")), (Str.ofString "LONGEST_NAME", .int (12)), (Str.ofString "MOST_PLACES", .int (12)), (Str.ofString "WORDS", .tup [.str (Str.ofString "one"), .str (Str.ofString "two")]), (Str.ofString "TWO_WAY", .str (Str.ofString "two")), (Str.ofString "MOST_STREETS", .int (24)), (Str.ofString "THERE", .str (Str.ofString ">")), (Str.ofString "ONE", .str (Str.ofString "one")), (Str.ofString "BOTH", .str (Str.ofString "=")), (Str.ofString "TWO", .str (Str.ofString "two")), (Str.ofString "CLOSED", .str (Str.ofString "closed")), (Str.ofString "ALL", .str (Str.ofString "all")), (Str.ofString "BACK", .str (Str.ofString "<"))]
def fds : List (Nat × Str) := [(0, Str.ofString "_places"), (0, Str.ofString "_streets"), (0, Str.ofString "_drives"), (0, Str.ofString "_out"), (0, Str.ofString "_into"), (0, Str.ofString "_at"), (0, Str.ofString "_beside")]
abbrev T_0 : Tab := ⟨[], gls, fds⟩
abbrev ix_m_town_streets_with : Nat := 0
abbrev ix_f_other_end : Nat := 1
abbrev ix_m_town_across : Nat := 2
abbrev ix_f_hanging_from : Nat := 3
abbrev ix_f_hang_together : Nat := 4
abbrev ix_m_town_ends : Nat := 5
abbrev ix_f_is_link : Nat := 6
abbrev ix_m_town_streets : Nat := 7
abbrev ix_f_all_links : Nat := 8
abbrev ix_f_links : Nat := 9
abbrev ix_f_drives_of : Nat := 10
abbrev ix_f_all_drives : Nat := 11
abbrev ix_f_is_ascending : Nat := 12
abbrev ix_f_has_name_signs : Nat := 13
abbrev ix_f_is_name : Nat := 14
abbrev ix_f_are_names : Nat := 15
abbrev ix_f_are_places : Nat := 16
abbrev ix_f_is_end : Nat := 17
abbrev ix_f_is_word : Nat := 18
abbrev ix_f_is_street_of : Nat := 19
abbrev ix_f_first_wrong_street : Nat := 20
abbrev ix_f_check_town : Nat := 21
abbrev ix_f_by_place : Nat := 22
abbrev ix_f_streets_at : Nat := 23
abbrev ix_f_places_beside : Nat := 24
abbrev ix_m_town_init : Nat := 25
abbrev ix_m_town_places : Nat := 26
abbrev ix_f_as_list : Nat := 27
abbrev ix_f_halves_of : Nat := 28
abbrev ix_f_is_whole : Nat := 29
abbrev ix_f_is_from_to : Nat := 30
abbrev ix_m_town_is_street : Nat := 31
abbrev ix_m_town_check_street : Nat := 32
abbrev ix_f_halves : Nat := 33
abbrev ix_m_town_drives_from : Nat := 34
abbrev ix_f_numbers_from : Nat := 35
abbrev ix_f_in_town_order : Nat := 36
abbrev ix_f_gets_everywhere : Nat := 37
abbrev ix_f_first_shut_in : Nat := 38
abbrev ix_f_answer_ways : Nat := 39
abbrev ix_m_town_two_way : Nat := 40
abbrev ix_f_two_way_links : Nat := 41
abbrev ix_f_first_signs : Nat := 42
abbrev ix_f_street_by : Nat := 43
abbrev ix_f_town_by : Nat := 44
abbrev ix_f_with_sign : Nat := 45
abbrev ix_m_town_drives_to : Nat := 46
abbrev ix_f_numbers_to : Nat := 47
abbrev ix_f_all_get : Nat := 48
abbrev ix_f_directed : Nat := 49
abbrev ix_f_house_plan : Nat := 50
abbrev ix_f_answer_plans : Nat := 51
abbrev ix_f_must_stay : Nat := 52
abbrev ix_f_lean_plan : Nat := 53
abbrev ix_f_answer_kept : Nat := 54
abbrev ix_f_law_numbers : Nat := 55
abbrev ix_f_law_drives : Nat := 56
abbrev ix_f_law_reached : Nat := 57
abbrev ix_f_law_all_get : Nat := 58
abbrev ix_f_law_by : Nat := 59
abbrev ix_f_law : Nat := 60
/-! Town.streets_with -/
abbrev N_m_town_streets_with : List Str := [Str.ofString "self", Str.ofString "place"]
abbrev G_m_town_streets_with : List Nat := [0, 0]
def c_m_town_streets_with : CF := ⟨2, 2, (.cons (.ret (.ix (.fld 0 (.var 0) (Str.ofString "_at")) (.var 1))) .nil)⟩
def s_m_town_streets_with (ds : List D) : Option D := CF.sem T_0 c_m_town_streets_with ds
abbrev e_m_town_streets_with : FnE := ⟨.meth 0, Str.ofString "streets_with", 1, s_m_town_streets_with, 0⟩
abbrev T_1 : Tab := { T_0 with fn := T_0.fn ++ [e_m_town_streets_with] }
/-! other_end -/
abbrev N_f_other_end : List Str := [Str.ofString "ends", Str.ofString "place"]
abbrev G_f_other_end : List Nat := [0, 0]
def c_f_other_end : CF := ⟨2, 2, (.cons (.ret (.ife (.cmp .eq (.ix (.var 0) (.cD (.int (0)))) (.var 1)) (.ix (.var 0) (.cD (.int (1)))) (.ix (.var 0) (.cD (.int (0)))))) .nil)⟩
def s_f_other_end (ds : List D) : Option D := CF.sem T_1 c_f_other_end ds
abbrev e_f_other_end : FnE := ⟨.fn, Str.ofString "other_end", 2, s_f_other_end, 0⟩
abbrev T_2 : Tab := { T_1 with fn := T_1.fn ++ [e_f_other_end] }
/-! Town.across -/
abbrev N_m_town_across : List Str := [Str.ofString "self", Str.ofString "street", Str.ofString "place"]
abbrev G_m_town_across : List Nat := [0, 0, 0]
def c_m_town_across : CF := ⟨3, 3, (.cons (.ret (.call ix_f_other_end (.cons (.ix (.fld 0 (.var 0) (Str.ofString "_streets")) (.var 1)) (.cons (.var 2) .nil)))) .nil)⟩
def s_m_town_across (ds : List D) : Option D := CF.sem T_2 c_m_town_across ds
abbrev e_m_town_across : FnE := ⟨.meth 0, Str.ofString "across", 2, s_m_town_across, 0⟩
abbrev T_3 : Tab := { T_2 with fn := T_2.fn ++ [e_m_town_across] }
/-! hanging_from -/
abbrev N_f_hanging_from : List Str := [Str.ofString "town", Str.ofString "place", Str.ofString "barred", Str.ofString "found", Str.ofString "waiting", Str.ofString "at", Str.ofString "here", Str.ofString "street", Str.ofString "there"]
abbrev G_f_hanging_from : List Nat := [0, 0, 0, 1, 1, 0, 0, 0, 0]
def c_f_hanging_from : CF := ⟨9, 3, (.cons (.asg (.nm 3) (.dis (.var 1) (.cD (.bl true)))) (.cons (.asg (.nm 4) (.lst (.cons (.var 1) .nil))) (.cons (.asg (.nm 5) (.cD (.int (0)))) (.cons (.whl (.cmp .lt (.var 5) (.bi .len (.cons (.var 4) .nil))) (.cons (.asg (.nm 6) (.ix (.var 4) (.var 5))) (.cons (.fr (.nm 7) (.seq (.meth ix_m_town_streets_with (.var 0) (.cons (.var 6) .nil))) (.cons (.asg (.nm 8) (.meth ix_m_town_across (.var 0) (.cons (.var 7) (.cons (.var 6) .nil)))) (.cons (.ife (.bop true (.cons (.cmp .nin (.var 7) (.var 2)) (.cons (.cmp .nin (.var 8) (.var 3)) .nil))) (.cons (.setix 3 (.var 8) (.cD (.bl true))) (.cons (.app 4 (.var 8)) .nil)) .nil) .nil))) (.cons (.aug 5 .add (.cD (.int (1)))) .nil)))) (.cons (.ret (.var 3)) .nil)))))⟩
def s_f_hanging_from (ds : List D) : Option D := CF.sem T_3 c_f_hanging_from ds
abbrev e_f_hanging_from : FnE := ⟨.fn, Str.ofString "hanging_from", 3, s_f_hanging_from, 0⟩
abbrev T_4 : Tab := { T_3 with fn := T_3.fn ++ [e_f_hanging_from] }
/-! hang_together -/
abbrev N_f_hang_together : List Str := [Str.ofString "town", Str.ofString "first", Str.ofString "second", Str.ofString "barred"]
abbrev G_f_hang_together : List Nat := [0, 0, 0, 0]
def c_f_hang_together : CF := ⟨4, 4, (.cons (.ret (.cmp .in_ (.var 2) (.call ix_f_hanging_from (.cons (.var 0) (.cons (.var 1) (.cons (.var 3) .nil)))))) .nil)⟩
def s_f_hang_together (ds : List D) : Option D := CF.sem T_4 c_f_hang_together ds
abbrev e_f_hang_together : FnE := ⟨.fn, Str.ofString "hang_together", 4, s_f_hang_together, 0⟩
abbrev T_5 : Tab := { T_4 with fn := T_4.fn ++ [e_f_hang_together] }
/-! Town.ends -/
abbrev N_m_town_ends : List Str := [Str.ofString "self", Str.ofString "street", Str.ofString "first", Str.ofString "second", Str.ofString "_"]
abbrev G_m_town_ends : List Nat := [0, 0, 0, 0, 0]
def c_m_town_ends : CF := ⟨5, 2, (.cons (.asg (.tp (.cons (.nm 2) (.cons (.nm 3) (.cons (.nm 4) .nil)))) (.ix (.fld 0 (.var 0) (Str.ofString "_streets")) (.var 1))) (.cons (.ret (.tup (.cons (.var 2) (.cons (.var 3) .nil)))) .nil))⟩
def s_m_town_ends (ds : List D) : Option D := CF.sem T_5 c_m_town_ends ds
abbrev e_m_town_ends : FnE := ⟨.meth 0, Str.ofString "ends", 1, s_m_town_ends, 0⟩
abbrev T_6 : Tab := { T_5 with fn := T_5.fn ++ [e_m_town_ends] }
/-! is_link -/
abbrev N_f_is_link : List Str := [Str.ofString "town", Str.ofString "street", Str.ofString "first", Str.ofString "second"]
abbrev G_f_is_link : List Nat := [0, 0, 0, 0]
def c_f_is_link : CF := ⟨4, 2, (.cons (.asg (.tp (.cons (.nm 2) (.cons (.nm 3) .nil))) (.meth ix_m_town_ends (.var 0) (.cons (.var 1) .nil))) (.cons (.ret (.not (.call ix_f_hang_together (.cons (.var 0) (.cons (.var 2) (.cons (.var 3) (.cons (.dis (.var 1) (.cD (.bl true))) .nil))))))) .nil))⟩
def s_f_is_link (ds : List D) : Option D := CF.sem T_6 c_f_is_link ds
abbrev e_f_is_link : FnE := ⟨.fn, Str.ofString "is_link", 2, s_f_is_link, 0⟩
abbrev T_7 : Tab := { T_6 with fn := T_6.fn ++ [e_f_is_link] }
/-! Town.streets -/
abbrev N_m_town_streets : List Str := [Str.ofString "self"]
abbrev G_m_town_streets : List Nat := [0]
def c_m_town_streets : CF := ⟨1, 1, (.cons (.ret (.bi .list (.cons (.fld 0 (.var 0) (Str.ofString "_streets")) .nil))) .nil)⟩
def s_m_town_streets (ds : List D) : Option D := CF.sem T_7 c_m_town_streets ds
abbrev e_m_town_streets : FnE := ⟨.meth 0, Str.ofString "streets", 0, s_m_town_streets, 0⟩
abbrev T_8 : Tab := { T_7 with fn := T_7.fn ++ [e_m_town_streets] }
/-! all_links -/
abbrev N_f_all_links : List Str := [Str.ofString "town", Str.ofString "street"]
abbrev G_f_all_links : List Nat := [0, 0]
def c_f_all_links : CF := ⟨2, 1, (.cons (.ret (.lc [(Str.ofString "street", 1)] (.nm 1) (.rng1 (.bi .len (.cons (.meth ix_m_town_streets (.var 0) .nil) .nil))) (.cons (.call ix_f_is_link (.cons (.var 0) (.cons (.var 1) .nil))) .nil) (.var 1))) .nil)⟩
def s_f_all_links (ds : List D) : Option D := CF.sem T_8 c_f_all_links ds
abbrev e_f_all_links : FnE := ⟨.fn, Str.ofString "all_links", 1, s_f_all_links, 0⟩
abbrev T_9 : Tab := { T_8 with fn := T_8.fn ++ [e_f_all_links] }
/-! links -/
abbrev N_f_links : List Str := [Str.ofString "town"]
abbrev G_f_links : List Nat := [0]
def c_f_links : CF := ⟨1, 1, (.cons (.ret (.call ix_f_all_links (.cons (.var 0) .nil))) .nil)⟩
def s_f_links (ds : List D) : Option D := CF.sem T_9 c_f_links ds
abbrev e_f_links : FnE := ⟨.fn, Str.ofString "links", 1, s_f_links, 0⟩
abbrev T_10 : Tab := { T_9 with fn := T_9.fn ++ [e_f_links] }
/-! drives_of -/
abbrev N_f_drives_of : List Str := [Str.ofString "street", Str.ofString "ends", Str.ofString "found", Str.ofString "first", Str.ofString "second", Str.ofString "word"]
abbrev G_f_drives_of : List Nat := [0, 0, 1, 0, 0, 0]
def c_f_drives_of : CF := ⟨6, 2, (.cons (.asg (.tp (.cons (.nm 3) (.cons (.nm 4) (.cons (.nm 5) .nil)))) (.var 1)) (.cons (.asg (.nm 2) (.lst (.cons (.tup (.cons (.var 0) (.cons (.var 3) (.cons (.var 4) .nil)))) .nil))) (.cons (.ife (.cmp .eq (.var 5) (.glob gl_TWO_WAY)) (.cons (.app 2 (.tup (.cons (.var 0) (.cons (.var 4) (.cons (.var 3) .nil))))) .nil) .nil) (.cons (.retv 2) .nil))))⟩
def s_f_drives_of (ds : List D) : Option D := CF.sem T_10 c_f_drives_of ds
abbrev e_f_drives_of : FnE := ⟨.fn, Str.ofString "drives_of", 2, s_f_drives_of, 1⟩
abbrev T_11 : Tab := { T_10 with fn := T_10.fn ++ [e_f_drives_of] }
/-! all_drives -/
abbrev N_f_all_drives : List Str := [Str.ofString "streets", Str.ofString "found", Str.ofString "street", Str.ofString "ends"]
abbrev G_f_all_drives : List Nat := [0, 1, 0, 0]
def c_f_all_drives : CF := ⟨4, 1, (.cons (.asg (.nm 1) (.lst .nil)) (.cons (.fr (.tp (.cons (.nm 2) (.cons (.nm 3) .nil))) (.enum (.var 0)) (.cons (.ext 1 (.call ix_f_drives_of (.cons (.var 2) (.cons (.var 3) .nil)))) .nil)) (.cons (.ret (.var 1)) .nil)))⟩
def s_f_all_drives (ds : List D) : Option D := CF.sem T_11 c_f_all_drives ds
abbrev e_f_all_drives : FnE := ⟨.fn, Str.ofString "all_drives", 1, s_f_all_drives, 0⟩
abbrev T_12 : Tab := { T_11 with fn := T_11.fn ++ [e_f_all_drives] }
/-! is_ascending -/
abbrev N_f_is_ascending : List Str := [Str.ofString "values", Str.ofString "before", Str.ofString "after"]
abbrev G_f_is_ascending : List Nat := [0, 0, 0]
def c_f_is_ascending : CF := ⟨3, 1, (.cons (.ret (.bi .all (.cons (.lc [(Str.ofString "before", 1), (Str.ofString "after", 2)] (.tp (.cons (.nm 1) (.cons (.nm 2) .nil))) (.zip (.var 0) (.slc (.var 0) (.some (.cD (.int (1)))) .none)) .nil (.cmp .lt (.var 1) (.var 2))) .nil))) .nil)⟩
def s_f_is_ascending (ds : List D) : Option D := CF.sem T_12 c_f_is_ascending ds
abbrev e_f_is_ascending : FnE := ⟨.fn, Str.ofString "is_ascending", 1, s_f_is_ascending, 0⟩
abbrev T_13 : Tab := { T_12 with fn := T_12.fn ++ [e_f_is_ascending] }
/-! has_name_signs -/
abbrev N_f_has_name_signs : List Str := [Str.ofString "text", Str.ofString "sign"]
abbrev G_f_has_name_signs : List Nat := [0, 0]
def c_f_has_name_signs : CF := ⟨2, 1, (.cons (.ife (.cmp .nin (.ix (.var 0) (.cD (.int (0)))) (.glob gl_LETTERS)) (.cons (.ret (.cD (.bl false))) .nil) .nil) (.cons (.ret (.bi .all (.cons (.lc [(Str.ofString "sign", 1)] (.nm 1) (.seq (.var 0)) .nil (.bop false (.cons (.cmp .in_ (.var 1) (.glob gl_LETTERS)) (.cons (.cmp .in_ (.var 1) (.glob gl_FIGURES)) .nil)))) .nil))) .nil))⟩
def s_f_has_name_signs (ds : List D) : Option D := CF.sem T_13 c_f_has_name_signs ds
abbrev e_f_has_name_signs : FnE := ⟨.fn, Str.ofString "has_name_signs", 1, s_f_has_name_signs, 0⟩
abbrev T_14 : Tab := { T_13 with fn := T_13.fn ++ [e_f_has_name_signs] }
/-! is_name -/
abbrev N_f_is_name : List Str := [Str.ofString "value"]
abbrev G_f_is_name : List Nat := [0]
def c_f_is_name : CF := ⟨1, 1, (.cons (.ife (.bop false (.cons (.not (.isi (.var 0) .tstr)) (.cons (.not (.cmp2 .le .le (.cD (.int (1))) (.bi .len (.cons (.var 0) .nil)) (.glob gl_LONGEST_NAME))) .nil))) (.cons (.ret (.cD (.bl false))) .nil) .nil) (.cons (.ret (.call ix_f_has_name_signs (.cons (.var 0) .nil))) .nil))⟩
def s_f_is_name (ds : List D) : Option D := CF.sem T_14 c_f_is_name ds
abbrev e_f_is_name : FnE := ⟨.fn, Str.ofString "is_name", 1, s_f_is_name, 0⟩
abbrev T_15 : Tab := { T_14 with fn := T_14.fn ++ [e_f_is_name] }
/-! are_names -/
abbrev N_f_are_names : List Str := [Str.ofString "value", Str.ofString "name"]
abbrev G_f_are_names : List Nat := [0, 0]
def c_f_are_names : CF := ⟨2, 1, (.cons (.ret (.bop true (.cons (.isi (.var 0) .tlist) (.cons (.bi .all (.cons (.lc [(Str.ofString "name", 1)] (.nm 1) (.seq (.var 0)) .nil (.call ix_f_is_name (.cons (.var 1) .nil))) .nil)) .nil)))) .nil)⟩
def s_f_are_names (ds : List D) : Option D := CF.sem T_15 c_f_are_names ds
abbrev e_f_are_names : FnE := ⟨.fn, Str.ofString "are_names", 1, s_f_are_names, 0⟩
abbrev T_16 : Tab := { T_15 with fn := T_15.fn ++ [e_f_are_names] }
/-! are_places -/
abbrev N_f_are_places : List Str := [Str.ofString "value"]
abbrev G_f_are_places : List Nat := [0]
def c_f_are_places : CF := ⟨1, 1, (.cons (.ife (.bop false (.cons (.not (.call ix_f_are_names (.cons (.var 0) .nil))) (.cons (.not (.cmp2 .le .le (.cD (.int (1))) (.bi .len (.cons (.var 0) .nil)) (.glob gl_MOST_PLACES))) .nil))) (.cons (.ret (.cD (.bl false))) .nil) .nil) (.cons (.ret (.call ix_f_is_ascending (.cons (.var 0) .nil))) .nil))⟩
def s_f_are_places (ds : List D) : Option D := CF.sem T_16 c_f_are_places ds
abbrev e_f_are_places : FnE := ⟨.fn, Str.ofString "are_places", 1, s_f_are_places, 0⟩
abbrev T_17 : Tab := { T_16 with fn := T_16.fn ++ [e_f_are_places] }
/-! is_end -/
abbrev N_f_is_end : List Str := [Str.ofString "places", Str.ofString "value"]
abbrev G_f_is_end : List Nat := [0, 0]
def c_f_is_end : CF := ⟨2, 2, (.cons (.ret (.bop true (.cons (.isi (.var 1) .tstr) (.cons (.cmp .in_ (.var 1) (.var 0)) .nil)))) .nil)⟩
def s_f_is_end (ds : List D) : Option D := CF.sem T_17 c_f_is_end ds
abbrev e_f_is_end : FnE := ⟨.fn, Str.ofString "is_end", 2, s_f_is_end, 0⟩
abbrev T_18 : Tab := { T_17 with fn := T_17.fn ++ [e_f_is_end] }
/-! is_word -/
abbrev N_f_is_word : List Str := [Str.ofString "value"]
abbrev G_f_is_word : List Nat := [0]
def c_f_is_word : CF := ⟨1, 1, (.cons (.ret (.bop true (.cons (.isi (.var 0) .tstr) (.cons (.cmp .in_ (.var 0) (.glob gl_WORDS)) .nil)))) .nil)⟩
def s_f_is_word (ds : List D) : Option D := CF.sem T_18 c_f_is_word ds
abbrev e_f_is_word : FnE := ⟨.fn, Str.ofString "is_word", 1, s_f_is_word, 0⟩
abbrev T_19 : Tab := { T_18 with fn := T_18.fn ++ [e_f_is_word] }
/-! is_street_of -/
abbrev N_f_is_street_of : List Str := [Str.ofString "places", Str.ofString "value", Str.ofString "first", Str.ofString "second", Str.ofString "word"]
abbrev G_f_is_street_of : List Nat := [0, 0, 0, 0, 0]
def c_f_is_street_of : CF := ⟨5, 2, (.cons (.ife (.bop false (.cons (.not (.isi (.var 1) .ttuple)) (.cons (.cmp .ne (.bi .len (.cons (.var 1) .nil)) (.cD (.int (3)))) .nil))) (.cons (.ret (.cD (.bl false))) .nil) .nil) (.cons (.asg (.tp (.cons (.nm 2) (.cons (.nm 3) (.cons (.nm 4) .nil)))) (.var 1)) (.cons (.ife (.bop false (.cons (.not (.call ix_f_is_end (.cons (.var 0) (.cons (.var 2) .nil)))) (.cons (.not (.call ix_f_is_end (.cons (.var 0) (.cons (.var 3) .nil)))) (.cons (.cmp .eq (.var 2) (.var 3)) .nil)))) (.cons (.ret (.cD (.bl false))) .nil) .nil) (.cons (.ret (.call ix_f_is_word (.cons (.var 4) .nil))) .nil))))⟩
def s_f_is_street_of (ds : List D) : Option D := CF.sem T_19 c_f_is_street_of ds
abbrev e_f_is_street_of : FnE := ⟨.fn, Str.ofString "is_street_of", 2, s_f_is_street_of, 0⟩
abbrev T_20 : Tab := { T_19 with fn := T_19.fn ++ [e_f_is_street_of] }
/-! first_wrong_street -/
abbrev N_f_first_wrong_street : List Str := [Str.ofString "places", Str.ofString "streets", Str.ofString "index", Str.ofString "value"]
abbrev G_f_first_wrong_street : List Nat := [0, 0, 0, 0]
def c_f_first_wrong_street : CF := ⟨4, 2, (.cons (.fr (.tp (.cons (.nm 2) (.cons (.nm 3) .nil))) (.enum (.var 1)) (.cons (.ife (.not (.call ix_f_is_street_of (.cons (.var 0) (.cons (.var 3) .nil)))) (.cons (.ret (.var 2)) .nil) .nil) .nil)) (.cons (.ret (.cD (.non))) .nil))⟩
def s_f_first_wrong_street (ds : List D) : Option D := CF.sem T_20 c_f_first_wrong_street ds
abbrev e_f_first_wrong_street : FnE := ⟨.fn, Str.ofString "first_wrong_street", 2, s_f_first_wrong_street, 0⟩
abbrev T_21 : Tab := { T_20 with fn := T_20.fn ++ [e_f_first_wrong_street] }
/-! check_town -/
abbrev N_f_check_town : List Str := [Str.ofString "places", Str.ofString "streets", Str.ofString "index"]
abbrev G_f_check_town : List Nat := [0, 0, 0]
def c_f_check_town : CF := ⟨3, 2, (.cons (.ife (.not (.call ix_f_are_places (.cons (.var 0) .nil))) (.cons (.nev) .nil) .nil) (.cons (.ife (.bop false (.cons (.not (.isi (.var 1) .tlist)) (.cons (.cmp .gt (.bi .len (.cons (.var 1) .nil)) (.glob gl_MOST_STREETS)) .nil))) (.cons (.nev) .nil) .nil) (.cons (.asg (.nm 2) (.call ix_f_first_wrong_street (.cons (.var 0) (.cons (.var 1) .nil)))) (.cons (.ife (.cmp .notN (.var 2) (.cD (.non))) (.cons (.nev) .nil) .nil) .nil))))⟩
def s_f_check_town (ds : List D) : Option D := CF.sem T_21 c_f_check_town ds
abbrev e_f_check_town : FnE := ⟨.fn, Str.ofString "check_town", 2, s_f_check_town, 0⟩
abbrev T_22 : Tab := { T_21 with fn := T_21.fn ++ [e_f_check_town] }
/-! by_place -/
abbrev N_f_by_place : List Str := [Str.ofString "places", Str.ofString "drives", Str.ofString "part", Str.ofString "found", Str.ofString "drive", Str.ofString "place"]
abbrev G_f_by_place : List Nat := [0, 0, 0, 2, 0, 0]
def c_f_by_place : CF := ⟨6, 3, (.cons (.asg (.nm 3) (.dc [(Str.ofString "place", 5)] (.nm 5) (.seq (.var 0)) (.var 5) (.lst .nil))) (.cons (.fr (.nm 4) (.seq (.var 1)) (.cons (.appAt 3 (.ix (.var 4) (.var 2)) (.var 4)) .nil)) (.cons (.ret (.var 3)) .nil)))⟩
def s_f_by_place (ds : List D) : Option D := CF.sem T_22 c_f_by_place ds
abbrev e_f_by_place : FnE := ⟨.fn, Str.ofString "by_place", 3, s_f_by_place, 0⟩
abbrev T_23 : Tab := { T_22 with fn := T_22.fn ++ [e_f_by_place] }
/-! streets_at -/
abbrev N_f_streets_at : List Str := [Str.ofString "places", Str.ofString "streets", Str.ofString "found", Str.ofString "street", Str.ofString "ends", Str.ofString "place"]
abbrev G_f_streets_at : List Nat := [0, 0, 2, 0, 0, 0]
def c_f_streets_at : CF := ⟨6, 2, (.cons (.asg (.nm 2) (.dc [(Str.ofString "place", 5)] (.nm 5) (.seq (.var 0)) (.var 5) (.lst .nil))) (.cons (.fr (.tp (.cons (.nm 3) (.cons (.nm 4) .nil))) (.enum (.var 1)) (.cons (.appAt 2 (.ix (.var 4) (.cD (.int (0)))) (.var 3)) (.cons (.appAt 2 (.ix (.var 4) (.cD (.int (1)))) (.var 3)) .nil))) (.cons (.ret (.var 2)) .nil)))⟩
def s_f_streets_at (ds : List D) : Option D := CF.sem T_23 c_f_streets_at ds
abbrev e_f_streets_at : FnE := ⟨.fn, Str.ofString "streets_at", 2, s_f_streets_at, 0⟩
abbrev T_24 : Tab := { T_23 with fn := T_23.fn ++ [e_f_streets_at] }
/-! places_beside -/
abbrev N_f_places_beside : List Str := [Str.ofString "places", Str.ofString "streets", Str.ofString "at", Str.ofString "found", Str.ofString "place", Str.ofString "beside", Str.ofString "street"]
abbrev G_f_places_beside : List Nat := [0, 0, 0, 1, 0, 0, 0]
def c_f_places_beside : CF := ⟨7, 3, (.cons (.asg (.nm 3) .dnew) (.cons (.fr (.nm 4) (.seq (.var 0)) (.cons (.asg (.nm 5) (.dc [(Str.ofString "street", 6)] (.nm 6) (.seq (.ix (.var 2) (.var 4))) (.call ix_f_other_end (.cons (.ix (.var 1) (.var 6)) (.cons (.var 4) .nil))) (.cD (.bl true)))) (.cons (.setix 3 (.var 4) (.bi .sorted (.cons (.var 5) .nil))) .nil))) (.cons (.ret (.var 3)) .nil)))⟩
def s_f_places_beside (ds : List D) : Option D := CF.sem T_24 c_f_places_beside ds
abbrev e_f_places_beside : FnE := ⟨.fn, Str.ofString "places_beside", 3, s_f_places_beside, 0⟩
abbrev T_25 : Tab := { T_24 with fn := T_24.fn ++ [e_f_places_beside] }
/-! Town.__init__ -/
abbrev N_m_town_init : List Str := [Str.ofString "self", Str.ofString "places", Str.ofString "streets"]
abbrev G_m_town_init : List Nat := [1, 0, 0]
def c_m_town_init : CF := ⟨3, 3, (.cons (.expr (.call ix_f_check_town (.cons (.var 1) (.cons (.var 2) .nil)))) (.cons (.setf 0 0 (Str.ofString "_places") (.bi .tuple (.cons (.var 1) .nil))) (.cons (.setf 0 0 (Str.ofString "_streets") (.bi .tuple (.cons (.var 2) .nil))) (.cons (.setf 0 0 (Str.ofString "_drives") (.bi .tuple (.cons (.call ix_f_all_drives (.cons (.var 2) .nil)) .nil))) (.cons (.setf 0 0 (Str.ofString "_out") (.call ix_f_by_place (.cons (.var 1) (.cons (.fld 0 (.var 0) (Str.ofString "_drives")) (.cons (.cD (.int (1))) .nil))))) (.cons (.setf 0 0 (Str.ofString "_into") (.call ix_f_by_place (.cons (.var 1) (.cons (.fld 0 (.var 0) (Str.ofString "_drives")) (.cons (.cD (.int (2))) .nil))))) (.cons (.setf 0 0 (Str.ofString "_at") (.call ix_f_streets_at (.cons (.var 1) (.cons (.var 2) .nil)))) (.cons (.setf 0 0 (Str.ofString "_beside") (.call ix_f_places_beside (.cons (.var 1) (.cons (.var 2) (.cons (.fld 0 (.var 0) (Str.ofString "_at")) .nil))))) .nil))))))))⟩
def s_m_town_init (ds : List D) : Option D := CF.init T_25 c_m_town_init 0 ds
abbrev e_m_town_init : FnE := ⟨.mk 0, Str.ofString "Town", 2, s_m_town_init, 0⟩
abbrev T_26 : Tab := { T_25 with fn := T_25.fn ++ [e_m_town_init] }
/-! Town.places -/
abbrev N_m_town_places : List Str := [Str.ofString "self"]
abbrev G_m_town_places : List Nat := [0]
def c_m_town_places : CF := ⟨1, 1, (.cons (.ret (.bi .list (.cons (.fld 0 (.var 0) (Str.ofString "_places")) .nil))) .nil)⟩
def s_m_town_places (ds : List D) : Option D := CF.sem T_26 c_m_town_places ds
abbrev e_m_town_places : FnE := ⟨.meth 0, Str.ofString "places", 0, s_m_town_places, 0⟩
abbrev T_27 : Tab := { T_26 with fn := T_26.fn ++ [e_m_town_places] }
/-! as_list -/
abbrev N_f_as_list : List Str := [Str.ofString "town", Str.ofString "places", Str.ofString "place"]
abbrev G_f_as_list : List Nat := [0, 0, 0]
def c_f_as_list : CF := ⟨3, 2, (.cons (.ret (.lc [(Str.ofString "place", 2)] (.nm 2) (.seq (.meth ix_m_town_places (.var 0) .nil)) (.cons (.cmp .in_ (.var 2) (.var 1)) .nil) (.var 2))) .nil)⟩
def s_f_as_list (ds : List D) : Option D := CF.sem T_27 c_f_as_list ds
abbrev e_f_as_list : FnE := ⟨.fn, Str.ofString "as_list", 2, s_f_as_list, 0⟩
abbrev T_28 : Tab := { T_27 with fn := T_27.fn ++ [e_f_as_list] }
/-! halves_of -/
abbrev N_f_halves_of : List Str := [Str.ofString "town", Str.ofString "street", Str.ofString "barred", Str.ofString "first", Str.ofString "second"]
abbrev G_f_halves_of : List Nat := [0, 0, 0, 0, 0]
def c_f_halves_of : CF := ⟨5, 2, (.cons (.asg (.tp (.cons (.nm 3) (.cons (.nm 4) .nil))) (.meth ix_m_town_ends (.var 0) (.cons (.var 1) .nil))) (.cons (.asg (.nm 2) (.dis (.var 1) (.cD (.bl true)))) (.cons (.ret (.tup (.cons (.call ix_f_as_list (.cons (.var 0) (.cons (.call ix_f_hanging_from (.cons (.var 0) (.cons (.var 3) (.cons (.var 2) .nil)))) .nil))) (.cons (.call ix_f_as_list (.cons (.var 0) (.cons (.call ix_f_hanging_from (.cons (.var 0) (.cons (.var 4) (.cons (.var 2) .nil)))) .nil))) .nil)))) .nil)))⟩
def s_f_halves_of (ds : List D) : Option D := CF.sem T_28 c_f_halves_of ds
abbrev e_f_halves_of : FnE := ⟨.fn, Str.ofString "halves_of", 2, s_f_halves_of, 0⟩
abbrev T_29 : Tab := { T_28 with fn := T_28.fn ++ [e_f_halves_of] }
/-! is_whole -/
abbrev N_f_is_whole : List Str := [Str.ofString "value"]
abbrev G_f_is_whole : List Nat := [0]
def c_f_is_whole : CF := ⟨1, 1, (.cons (.ret (.bop true (.cons (.isi (.var 0) .tint) (.cons (.not (.isi (.var 0) .tbool)) .nil)))) .nil)⟩
def s_f_is_whole (ds : List D) : Option D := CF.sem T_29 c_f_is_whole ds
abbrev e_f_is_whole : FnE := ⟨.fn, Str.ofString "is_whole", 1, s_f_is_whole, 0⟩
abbrev T_30 : Tab := { T_29 with fn := T_29.fn ++ [e_f_is_whole] }
/-! is_from_to -/
abbrev N_f_is_from_to : List Str := [Str.ofString "value", Str.ofString "least", Str.ofString "greatest"]
abbrev G_f_is_from_to : List Nat := [0, 0, 0]
def c_f_is_from_to : CF := ⟨3, 3, (.cons (.ret (.bop true (.cons (.call ix_f_is_whole (.cons (.var 0) .nil)) (.cons (.cmp2 .le .le (.var 1) (.var 0) (.var 2)) .nil)))) .nil)⟩
def s_f_is_from_to (ds : List D) : Option D := CF.sem T_30 c_f_is_from_to ds
abbrev e_f_is_from_to : FnE := ⟨.fn, Str.ofString "is_from_to", 3, s_f_is_from_to, 0⟩
abbrev T_31 : Tab := { T_30 with fn := T_30.fn ++ [e_f_is_from_to] }
/-! Town.is_street -/
abbrev N_m_town_is_street : List Str := [Str.ofString "self", Str.ofString "value"]
abbrev G_m_town_is_street : List Nat := [0, 0]
def c_m_town_is_street : CF := ⟨2, 2, (.cons (.ret (.call ix_f_is_from_to (.cons (.var 1) (.cons (.cD (.int (0))) (.cons (.bin .sub (.bi .len (.cons (.fld 0 (.var 0) (Str.ofString "_streets")) .nil)) (.cD (.int (1)))) .nil))))) .nil)⟩
def s_m_town_is_street (ds : List D) : Option D := CF.sem T_31 c_m_town_is_street ds
abbrev e_m_town_is_street : FnE := ⟨.meth 0, Str.ofString "is_street", 1, s_m_town_is_street, 0⟩
abbrev T_32 : Tab := { T_31 with fn := T_31.fn ++ [e_m_town_is_street] }
/-! Town.check_street -/
abbrev N_m_town_check_street : List Str := [Str.ofString "self", Str.ofString "value"]
abbrev G_m_town_check_street : List Nat := [0, 0]
def c_m_town_check_street : CF := ⟨2, 2, (.cons (.ife (.not (.meth ix_m_town_is_street (.var 0) (.cons (.var 1) .nil))) (.cons (.nev) .nil) .nil) .nil)⟩
def s_m_town_check_street (ds : List D) : Option D := CF.sem T_32 c_m_town_check_street ds
abbrev e_m_town_check_street : FnE := ⟨.meth 0, Str.ofString "check_street", 1, s_m_town_check_street, 0⟩
abbrev T_33 : Tab := { T_32 with fn := T_32.fn ++ [e_m_town_check_street] }
/-! halves -/
abbrev N_f_halves : List Str := [Str.ofString "town", Str.ofString "street"]
abbrev G_f_halves : List Nat := [0, 0]
def c_f_halves : CF := ⟨2, 2, (.cons (.expr (.meth ix_m_town_check_street (.var 0) (.cons (.var 1) .nil))) (.cons (.ife (.not (.call ix_f_is_link (.cons (.var 0) (.cons (.var 1) .nil)))) (.cons (.ret (.cD (.non))) .nil) .nil) (.cons (.ret (.call ix_f_halves_of (.cons (.var 0) (.cons (.var 1) .nil)))) .nil)))⟩
def s_f_halves (ds : List D) : Option D := CF.sem T_33 c_f_halves ds
abbrev e_f_halves : FnE := ⟨.fn, Str.ofString "halves", 2, s_f_halves, 0⟩
abbrev T_34 : Tab := { T_33 with fn := T_33.fn ++ [e_f_halves] }
/-! Town.drives_from -/
abbrev N_m_town_drives_from : List Str := [Str.ofString "self", Str.ofString "place"]
abbrev G_m_town_drives_from : List Nat := [0, 0]
def c_m_town_drives_from : CF := ⟨2, 2, (.cons (.ret (.ix (.fld 0 (.var 0) (Str.ofString "_out")) (.var 1))) .nil)⟩
def s_m_town_drives_from (ds : List D) : Option D := CF.sem T_34 c_m_town_drives_from ds
abbrev e_m_town_drives_from : FnE := ⟨.meth 0, Str.ofString "drives_from", 1, s_m_town_drives_from, 0⟩
abbrev T_35 : Tab := { T_34 with fn := T_34.fn ++ [e_m_town_drives_from] }
/-! numbers_from -/
abbrev N_f_numbers_from : List Str := [Str.ofString "town", Str.ofString "start", Str.ofString "numbers", Str.ofString "waiting", Str.ofString "at", Str.ofString "here", Str.ofString "_", Str.ofString "there"]
abbrev G_f_numbers_from : List Nat := [0, 0, 1, 1, 0, 0, 0, 0]
def c_f_numbers_from : CF := ⟨8, 2, (.cons (.asg (.nm 2) (.dis (.var 1) (.cD (.int (0))))) (.cons (.asg (.nm 3) (.lst (.cons (.var 1) .nil))) (.cons (.asg (.nm 4) (.cD (.int (0)))) (.cons (.whl (.cmp .lt (.var 4) (.bi .len (.cons (.var 3) .nil))) (.cons (.asg (.nm 5) (.ix (.var 3) (.var 4))) (.cons (.fr (.tp (.cons (.nm 6) (.cons (.nm 6) (.cons (.nm 7) .nil)))) (.seq (.meth ix_m_town_drives_from (.var 0) (.cons (.var 5) .nil))) (.cons (.ife (.cmp .nin (.var 7) (.var 2)) (.cons (.setix 2 (.var 7) (.bin .add (.ix (.var 2) (.var 5)) (.cD (.int (1))))) (.cons (.app 3 (.var 7)) .nil)) .nil) .nil)) (.cons (.aug 4 .add (.cD (.int (1)))) .nil)))) (.cons (.ret (.var 2)) .nil)))))⟩
def s_f_numbers_from (ds : List D) : Option D := CF.sem T_35 c_f_numbers_from ds
abbrev e_f_numbers_from : FnE := ⟨.fn, Str.ofString "numbers_from", 2, s_f_numbers_from, 0⟩
abbrev T_36 : Tab := { T_35 with fn := T_35.fn ++ [e_f_numbers_from] }
/-! in_town_order -/
abbrev N_f_in_town_order : List Str := [Str.ofString "town", Str.ofString "places", Str.ofString "place"]
abbrev G_f_in_town_order : List Nat := [0, 0, 0]
def c_f_in_town_order : CF := ⟨3, 2, (.cons (.ret (.lc [(Str.ofString "place", 2)] (.nm 2) (.seq (.meth ix_m_town_places (.var 0) .nil)) (.cons (.cmp .in_ (.var 2) (.var 1)) .nil) (.var 2))) .nil)⟩
def s_f_in_town_order (ds : List D) : Option D := CF.sem T_36 c_f_in_town_order ds
abbrev e_f_in_town_order : FnE := ⟨.fn, Str.ofString "in_town_order", 2, s_f_in_town_order, 0⟩
abbrev T_37 : Tab := { T_36 with fn := T_36.fn ++ [e_f_in_town_order] }
/-! gets_everywhere -/
abbrev N_f_gets_everywhere : List Str := [Str.ofString "town", Str.ofString "place"]
abbrev G_f_gets_everywhere : List Nat := [0, 0]
def c_f_gets_everywhere : CF := ⟨2, 2, (.cons (.ret (.cmp .eq (.bi .len (.cons (.call ix_f_numbers_from (.cons (.var 0) (.cons (.var 1) .nil))) .nil)) (.bi .len (.cons (.meth ix_m_town_places (.var 0) .nil) .nil)))) .nil)⟩
def s_f_gets_everywhere (ds : List D) : Option D := CF.sem T_37 c_f_gets_everywhere ds
abbrev e_f_gets_everywhere : FnE := ⟨.fn, Str.ofString "gets_everywhere", 2, s_f_gets_everywhere, 0⟩
abbrev T_38 : Tab := { T_37 with fn := T_37.fn ++ [e_f_gets_everywhere] }
/-! first_shut_in -/
abbrev N_f_first_shut_in : List Str := [Str.ofString "town", Str.ofString "place"]
abbrev G_f_first_shut_in : List Nat := [0, 0]
def c_f_first_shut_in : CF := ⟨2, 1, (.cons (.fr (.nm 1) (.seq (.meth ix_m_town_places (.var 0) .nil)) (.cons (.ife (.not (.call ix_f_gets_everywhere (.cons (.var 0) (.cons (.var 1) .nil)))) (.cons (.ret (.var 1)) .nil) .nil) .nil)) (.cons (.ret (.cD (.non))) .nil))⟩
def s_f_first_shut_in (ds : List D) : Option D := CF.sem T_38 c_f_first_shut_in ds
abbrev e_f_first_shut_in : FnE := ⟨.fn, Str.ofString "first_shut_in", 1, s_f_first_shut_in, 0⟩
abbrev T_39 : Tab := { T_38 with fn := T_38.fn ++ [e_f_first_shut_in] }
/-! answer_ways -/
abbrev N_f_answer_ways : List Str := [Str.ofString "town", Str.ofString "place"]
abbrev G_f_answer_ways : List Nat := [0, 0]
def c_f_answer_ways : CF := ⟨2, 1, (.cons (.asg (.nm 1) (.call ix_f_first_shut_in (.cons (.var 0) .nil))) (.cons (.ife (.cmp .isN (.var 1) (.cD (.non))) (.cons (.ret (.tup (.cons (.glob gl_ALL) .nil))) .nil) .nil) (.cons (.ret (.tup (.cons (.glob gl_CLOSED) (.cons (.call ix_f_in_town_order (.cons (.var 0) (.cons (.call ix_f_numbers_from (.cons (.var 0) (.cons (.var 1) .nil))) .nil))) .nil)))) .nil)))⟩
def s_f_answer_ways (ds : List D) : Option D := CF.sem T_39 c_f_answer_ways ds
abbrev e_f_answer_ways : FnE := ⟨.fn, Str.ofString "answer_ways", 1, s_f_answer_ways, 0⟩
abbrev T_40 : Tab := { T_39 with fn := T_39.fn ++ [e_f_answer_ways] }
/-! Town.two_way -/
abbrev N_m_town_two_way : List Str := [Str.ofString "self", Str.ofString "street", Str.ofString "ends"]
abbrev G_m_town_two_way : List Nat := [0, 0, 0]
def c_m_town_two_way : CF := ⟨3, 1, (.cons (.ret (.lc [(Str.ofString "street", 1), (Str.ofString "ends", 2)] (.tp (.cons (.nm 1) (.cons (.nm 2) .nil))) (.enum (.fld 0 (.var 0) (Str.ofString "_streets"))) (.cons (.cmp .eq (.ix (.var 2) (.cD (.int (2)))) (.glob gl_TWO_WAY)) .nil) (.var 1))) .nil)⟩
def s_m_town_two_way (ds : List D) : Option D := CF.sem T_40 c_m_town_two_way ds
abbrev e_m_town_two_way : FnE := ⟨.meth 0, Str.ofString "two_way", 0, s_m_town_two_way, 0⟩
abbrev T_41 : Tab := { T_40 with fn := T_40.fn ++ [e_m_town_two_way] }
/-! two_way_links -/
abbrev N_f_two_way_links : List Str := [Str.ofString "town", Str.ofString "two", Str.ofString "street"]
abbrev G_f_two_way_links : List Nat := [0, 0, 0]
def c_f_two_way_links : CF := ⟨3, 1, (.cons (.asg (.nm 1) (.meth ix_m_town_two_way (.var 0) .nil)) (.cons (.ret (.lc [(Str.ofString "street", 2)] (.nm 2) (.seq (.call ix_f_links (.cons (.var 0) .nil))) (.cons (.cmp .in_ (.var 2) (.var 1)) .nil) (.var 2))) .nil))⟩
def s_f_two_way_links (ds : List D) : Option D := CF.sem T_41 c_f_two_way_links ds
abbrev e_f_two_way_links : FnE := ⟨.fn, Str.ofString "two_way_links", 1, s_f_two_way_links, 0⟩
abbrev T_42 : Tab := { T_41 with fn := T_41.fn ++ [e_f_two_way_links] }
/-! first_signs -/
abbrev N_f_first_signs : List Str := [Str.ofString "town", Str.ofString "street"]
abbrev G_f_first_signs : List Nat := [0, 0]
def c_f_first_signs : CF := ⟨2, 1, (.cons (.ret (.lc [(Str.ofString "street", 1)] (.nm 1) (.seq (.meth ix_m_town_streets (.var 0) .nil)) .nil (.ife (.cmp .eq (.ix (.var 1) (.cD (.int (2)))) (.glob gl_TWO)) (.glob gl_BOTH) (.glob gl_THERE)))) .nil)⟩
def s_f_first_signs (ds : List D) : Option D := CF.sem T_42 c_f_first_signs ds
abbrev e_f_first_signs : FnE := ⟨.fn, Str.ofString "first_signs", 1, s_f_first_signs, 0⟩
abbrev T_43 : Tab := { T_42 with fn := T_42.fn ++ [e_f_first_signs] }
/-! street_by -/
abbrev N_f_street_by : List Str := [Str.ofString "street", Str.ofString "sign", Str.ofString "a", Str.ofString "b", Str.ofString "_"]
abbrev G_f_street_by : List Nat := [0, 0, 0, 0, 0]
def c_f_street_by : CF := ⟨5, 2, (.cons (.asg (.tp (.cons (.nm 2) (.cons (.nm 3) (.cons (.nm 4) .nil)))) (.var 0)) (.cons (.ife (.cmp .eq (.var 1) (.glob gl_BOTH)) (.cons (.ret (.tup (.cons (.var 2) (.cons (.var 3) (.cons (.glob gl_TWO) .nil))))) .nil) .nil) (.cons (.ret (.ife (.cmp .eq (.var 1) (.glob gl_THERE)) (.tup (.cons (.var 2) (.cons (.var 3) (.cons (.glob gl_ONE) .nil)))) (.tup (.cons (.var 3) (.cons (.var 2) (.cons (.glob gl_ONE) .nil)))))) .nil)))⟩
def s_f_street_by (ds : List D) : Option D := CF.sem T_43 c_f_street_by ds
abbrev e_f_street_by : FnE := ⟨.fn, Str.ofString "street_by", 2, s_f_street_by, 0⟩
abbrev T_44 : Tab := { T_43 with fn := T_43.fn ++ [e_f_street_by] }
/-! town_by -/
abbrev N_f_town_by : List Str := [Str.ofString "town", Str.ofString "signs", Str.ofString "streets", Str.ofString "street", Str.ofString "sign"]
abbrev G_f_town_by : List Nat := [0, 0, 0, 0, 0]
def c_f_town_by : CF := ⟨5, 2, (.cons (.asg (.nm 2) (.lc [(Str.ofString "street", 3), (Str.ofString "sign", 4)] (.tp (.cons (.nm 3) (.cons (.nm 4) .nil))) (.zip (.meth ix_m_town_streets (.var 0) .nil) (.var 1)) .nil (.call ix_f_street_by (.cons (.var 3) (.cons (.var 4) .nil))))) (.cons (.ret (.make ix_m_town_init (.cons (.meth ix_m_town_places (.var 0) .nil) (.cons (.var 2) .nil)))) .nil))⟩
def s_f_town_by (ds : List D) : Option D := CF.sem T_44 c_f_town_by ds
abbrev e_f_town_by : FnE := ⟨.fn, Str.ofString "town_by", 2, s_f_town_by, 0⟩
abbrev T_45 : Tab := { T_44 with fn := T_44.fn ++ [e_f_town_by] }
/-! with_sign -/
abbrev N_f_with_sign : List Str := [Str.ofString "signs", Str.ofString "street", Str.ofString "sign"]
abbrev G_f_with_sign : List Nat := [0, 0, 0]
def c_f_with_sign : CF := ⟨3, 3, (.cons (.ret (.bin .add (.bin .add (.slc (.var 0) .none (.some (.var 1))) (.lst (.cons (.var 2) .nil))) (.slc (.var 0) (.some (.bin .add (.var 1) (.cD (.int (1))))) .none))) .nil)⟩
def s_f_with_sign (ds : List D) : Option D := CF.sem T_45 c_f_with_sign ds
abbrev e_f_with_sign : FnE := ⟨.fn, Str.ofString "with_sign", 3, s_f_with_sign, 0⟩
abbrev T_46 : Tab := { T_45 with fn := T_45.fn ++ [e_f_with_sign] }
/-! Town.drives_to -/
abbrev N_m_town_drives_to : List Str := [Str.ofString "self", Str.ofString "place"]
abbrev G_m_town_drives_to : List Nat := [0, 0]
def c_m_town_drives_to : CF := ⟨2, 2, (.cons (.ret (.ix (.fld 0 (.var 0) (Str.ofString "_into")) (.var 1))) .nil)⟩
def s_m_town_drives_to (ds : List D) : Option D := CF.sem T_46 c_m_town_drives_to ds
abbrev e_m_town_drives_to : FnE := ⟨.meth 0, Str.ofString "drives_to", 1, s_m_town_drives_to, 0⟩
abbrev T_47 : Tab := { T_46 with fn := T_46.fn ++ [e_m_town_drives_to] }
/-! numbers_to -/
abbrev N_f_numbers_to : List Str := [Str.ofString "town", Str.ofString "goal", Str.ofString "numbers", Str.ofString "waiting", Str.ofString "at", Str.ofString "here", Str.ofString "_", Str.ofString "there"]
abbrev G_f_numbers_to : List Nat := [0, 0, 1, 1, 0, 0, 0, 0]
def c_f_numbers_to : CF := ⟨8, 2, (.cons (.asg (.nm 2) (.dis (.var 1) (.cD (.int (0))))) (.cons (.asg (.nm 3) (.lst (.cons (.var 1) .nil))) (.cons (.asg (.nm 4) (.cD (.int (0)))) (.cons (.whl (.cmp .lt (.var 4) (.bi .len (.cons (.var 3) .nil))) (.cons (.asg (.nm 5) (.ix (.var 3) (.var 4))) (.cons (.fr (.tp (.cons (.nm 6) (.cons (.nm 7) (.cons (.nm 6) .nil)))) (.seq (.meth ix_m_town_drives_to (.var 0) (.cons (.var 5) .nil))) (.cons (.ife (.cmp .nin (.var 7) (.var 2)) (.cons (.setix 2 (.var 7) (.bin .add (.ix (.var 2) (.var 5)) (.cD (.int (1))))) (.cons (.app 3 (.var 7)) .nil)) .nil) .nil)) (.cons (.aug 4 .add (.cD (.int (1)))) .nil)))) (.cons (.ret (.var 2)) .nil)))))⟩
def s_f_numbers_to (ds : List D) : Option D := CF.sem T_47 c_f_numbers_to ds
abbrev e_f_numbers_to : FnE := ⟨.fn, Str.ofString "numbers_to", 2, s_f_numbers_to, 0⟩
abbrev T_48 : Tab := { T_47 with fn := T_47.fn ++ [e_f_numbers_to] }
/-! all_get -/
abbrev N_f_all_get : List Str := [Str.ofString "town", Str.ofString "first", Str.ofString "many"]
abbrev G_f_all_get : List Nat := [0, 0, 0]
def c_f_all_get : CF := ⟨3, 1, (.cons (.asg (.nm 1) (.ix (.meth ix_m_town_places (.var 0) .nil) (.cD (.int (0))))) (.cons (.asg (.nm 2) (.bi .len (.cons (.meth ix_m_town_places (.var 0) .nil) .nil))) (.cons (.ret (.bop true (.cons (.cmp .eq (.bi .len (.cons (.call ix_f_numbers_from (.cons (.var 0) (.cons (.var 1) .nil))) .nil)) (.var 2)) (.cons (.cmp .eq (.bi .len (.cons (.call ix_f_numbers_to (.cons (.var 0) (.cons (.var 1) .nil))) .nil)) (.var 2)) .nil)))) .nil)))⟩
def s_f_all_get (ds : List D) : Option D := CF.sem T_48 c_f_all_get ds
abbrev e_f_all_get : FnE := ⟨.fn, Str.ofString "all_get", 1, s_f_all_get, 0⟩
abbrev T_49 : Tab := { T_48 with fn := T_48.fn ++ [e_f_all_get] }
/-! directed -/
abbrev N_f_directed : List Str := [Str.ofString "town", Str.ofString "signs", Str.ofString "streets", Str.ofString "street", Str.ofString "tried"]
abbrev G_f_directed : List Nat := [0, 0, 0, 0, 0]
def c_f_directed : CF := ⟨5, 3, (.cons (.fr (.nm 3) (.seq (.var 2)) (.cons (.asg (.nm 4) (.call ix_f_with_sign (.cons (.var 1) (.cons (.var 3) (.cons (.glob gl_THERE) .nil))))) (.cons (.ife (.call ix_f_all_get (.cons (.call ix_f_town_by (.cons (.var 0) (.cons (.var 4) .nil))) .nil)) (.cons (.asg (.nm 1) (.var 4)) .nil) (.cons (.asg (.nm 1) (.call ix_f_with_sign (.cons (.var 1) (.cons (.var 3) (.cons (.glob gl_BACK) .nil))))) .nil)) .nil))) (.cons (.ret (.var 1)) .nil))⟩
def s_f_directed (ds : List D) : Option D := CF.sem T_49 c_f_directed ds
abbrev e_f_directed : FnE := ⟨.fn, Str.ofString "directed", 3, s_f_directed, 0⟩
abbrev T_50 : Tab := { T_49 with fn := T_49.fn ++ [e_f_directed] }
/-! house_plan -/
abbrev N_f_house_plan : List Str := [Str.ofString "town"]
abbrev G_f_house_plan : List Nat := [0]
def c_f_house_plan : CF := ⟨1, 1, (.cons (.ret (.bm .join (.cD (.str (Str.ofString ""))) (.cons (.call ix_f_directed (.cons (.var 0) (.cons (.call ix_f_first_signs (.cons (.var 0) .nil)) (.cons (.meth ix_m_town_two_way (.var 0) .nil) .nil)))) .nil))) .nil)⟩
def s_f_house_plan (ds : List D) : Option D := CF.sem T_50 c_f_house_plan ds
abbrev e_f_house_plan : FnE := ⟨.fn, Str.ofString "house_plan", 1, s_f_house_plan, 0⟩
abbrev T_51 : Tab := { T_50 with fn := T_50.fn ++ [e_f_house_plan] }
/-! answer_plans -/
abbrev N_f_answer_plans : List Str := [Str.ofString "town", Str.ofString "found", Str.ofString "bars", Str.ofString "first", Str.ofString "second"]
abbrev G_f_answer_plans : List Nat := [0, 0, 0, 0, 0]
def c_f_answer_plans : CF := ⟨5, 1, (.cons (.asg (.nm 1) (.call ix_f_answer_ways (.cons (.var 0) .nil))) (.cons (.ife (.cmp .eq (.ix (.var 1) (.cD (.int (0)))) (.cD (.str (Str.ofString "closed")))) (.cons (.ret (.tup (.cons (.cD (.str (Str.ofString "closed"))) (.cons (.ix (.var 1) (.cD (.int (1)))) .nil)))) .nil) .nil) (.cons (.asg (.nm 2) (.call ix_f_two_way_links (.cons (.var 0) .nil))) (.cons (.ife (.var 2) (.cons (.asg (.tp (.cons (.nm 3) (.cons (.nm 4) .nil))) (.call ix_f_halves (.cons (.var 0) (.cons (.ix (.var 2) (.cD (.int (0)))) .nil)))) (.cons (.ret (.tup (.cons (.cD (.str (Str.ofString "link"))) (.cons (.ix (.var 2) (.cD (.int (0)))) (.cons (.var 3) (.cons (.var 4) .nil)))))) .nil)) .nil) (.cons (.ret (.tup (.cons (.cD (.str (Str.ofString "plan"))) (.cons (.call ix_f_house_plan (.cons (.var 0) .nil)) .nil)))) .nil)))))⟩
def s_f_answer_plans (ds : List D) : Option D := CF.sem T_51 c_f_answer_plans ds
abbrev e_f_answer_plans : FnE := ⟨.fn, Str.ofString "answer_plans", 1, s_f_answer_plans, 0⟩
abbrev T_52 : Tab := { T_51 with fn := T_51.fn ++ [e_f_answer_plans] }
/-! must_stay -/
abbrev N_f_must_stay : List Str := [Str.ofString "town"]
abbrev G_f_must_stay : List Nat := [0]
def c_f_must_stay : CF := ⟨1, 1, (.cons (.ret (.call ix_f_two_way_links (.cons (.var 0) .nil))) .nil)⟩
def s_f_must_stay (ds : List D) : Option D := CF.sem T_52 c_f_must_stay ds
abbrev e_f_must_stay : FnE := ⟨.fn, Str.ofString "must_stay", 1, s_f_must_stay, 0⟩
abbrev T_53 : Tab := { T_52 with fn := T_52.fn ++ [e_f_must_stay] }
/-! lean_plan -/
abbrev N_f_lean_plan : List Str := [Str.ofString "town", Str.ofString "stay", Str.ofString "turned", Str.ofString "street"]
abbrev G_f_lean_plan : List Nat := [0, 0, 0, 0]
def c_f_lean_plan : CF := ⟨4, 1, (.cons (.asg (.nm 1) (.call ix_f_must_stay (.cons (.var 0) .nil))) (.cons (.asg (.nm 2) (.lc [(Str.ofString "street", 3)] (.nm 3) (.seq (.meth ix_m_town_two_way (.var 0) .nil)) (.cons (.cmp .nin (.var 3) (.var 1)) .nil) (.var 3))) (.cons (.ret (.bm .join (.cD (.str (Str.ofString ""))) (.cons (.call ix_f_directed (.cons (.var 0) (.cons (.call ix_f_first_signs (.cons (.var 0) .nil)) (.cons (.var 2) .nil)))) .nil))) .nil)))⟩
def s_f_lean_plan (ds : List D) : Option D := CF.sem T_53 c_f_lean_plan ds
abbrev e_f_lean_plan : FnE := ⟨.fn, Str.ofString "lean_plan", 1, s_f_lean_plan, 0⟩
abbrev T_54 : Tab := { T_53 with fn := T_53.fn ++ [e_f_lean_plan] }
/-! answer_kept -/
abbrev N_f_answer_kept : List Str := [Str.ofString "town", Str.ofString "found"]
abbrev G_f_answer_kept : List Nat := [0, 0]
def c_f_answer_kept : CF := ⟨2, 1, (.cons (.asg (.nm 1) (.call ix_f_answer_ways (.cons (.var 0) .nil))) (.cons (.ife (.cmp .eq (.ix (.var 1) (.cD (.int (0)))) (.cD (.str (Str.ofString "closed")))) (.cons (.ret (.tup (.cons (.cD (.str (Str.ofString "closed"))) (.cons (.ix (.var 1) (.cD (.int (1)))) .nil)))) .nil) .nil) (.cons (.ret (.tup (.cons (.cD (.str (Str.ofString "kept"))) (.cons (.call ix_f_lean_plan (.cons (.var 0) .nil)) .nil)))) .nil)))⟩
def s_f_answer_kept (ds : List D) : Option D := CF.sem T_54 c_f_answer_kept ds
abbrev e_f_answer_kept : FnE := ⟨.fn, Str.ofString "answer_kept", 1, s_f_answer_kept, 0⟩
abbrev T_55 : Tab := { T_54 with fn := T_54.fn ++ [e_f_answer_kept] }
/-! _law_numbers -/
abbrev N_f_law_numbers : List Str := [Str.ofString "script", Str.ofString "at", Str.ofString "many", Str.ofString "cell", Str.ofString "numbers", Str.ofString "k", Str.ofString "mixed"]
abbrev G_f_law_numbers : List Nat := [0, 0, 0, 0, 1, 0, 0]
def c_f_law_numbers : CF := ⟨7, 3, (.cons (.asg (.nm 3) (.bin .mul (.cD (.int (1000003))) (.bin .add (.var 1) (.cD (.int (1)))))) (.cons (.ife (.cmp .lt (.var 1) (.bi .len (.cons (.var 0) .nil))) (.cons (.asg (.nm 3) (.bi .int_ (.cons (.ix (.var 0) (.var 1)) .nil))) .nil) .nil) (.cons (.ife (.cmp .lt (.var 3) (.cD (.int (0)))) (.cons (.asg (.nm 3) (.bin .sub (.cD (.int (1))) (.bin .mul (.cD (.int (2))) (.var 3)))) .nil) .nil) (.cons (.asg (.nm 4) (.lst .nil)) (.cons (.fr (.nm 5) (.rng1 (.var 2)) (.cons (.ife (.cmp .ge (.var 3) (.bin .pow (.cD (.int (10))) (.cD (.int (18))))) (.cons (.app 4 (.bin .mod (.var 3) (.cD (.int (1009))))) (.cons (.asg (.nm 3) (.bin .fdiv (.var 3) (.cD (.int (1009))))) .nil)) (.cons (.asg (.nm 6) (.bin .mod (.bin .add (.bin .add (.bin .mul (.var 3) (.cD (.int (48271)))) (.bin .mul (.bin .add (.var 5) (.cD (.int (1)))) (.cD (.int (69621))))) (.bin .mul (.var 1) (.cD (.int (4001))))) (.cD (.int (2147483647))))) (.cons (.asg (.nm 6) (.bin .mod (.bin .add (.bin .mul (.var 6) (.var 6)) (.bin .mul (.cD (.int (16807))) (.bin .add (.var 5) (.cD (.int (3)))))) (.cD (.int (2147483629))))) (.cons (.app 4 (.bin .mod (.bin .fdiv (.var 6) (.cD (.int (7)))) (.cD (.int (1009))))) .nil)))) .nil)) (.cons (.ret (.var 4)) .nil))))))⟩
def s_f_law_numbers (ds : List D) : Option D := CF.sem T_55 c_f_law_numbers ds
abbrev e_f_law_numbers : FnE := ⟨.fn, Str.ofString "_law_numbers", 3, s_f_law_numbers, 0⟩
abbrev T_56 : Tab := { T_55 with fn := T_55.fn ++ [e_f_law_numbers] }
/-! _law_drives -/
abbrev N_f_law_drives : List Str := [Str.ofString "streets", Str.ofString "found", Str.ofString "k", Str.ofString "a", Str.ofString "b", Str.ofString "word"]
abbrev G_f_law_drives : List Nat := [0, 1, 0, 0, 0, 0]
def c_f_law_drives : CF := ⟨6, 1, (.cons (.asg (.nm 1) (.lst .nil)) (.cons (.fr (.nm 2) (.rng1 (.bi .len (.cons (.var 0) .nil))) (.cons (.asg (.tp (.cons (.nm 3) (.cons (.nm 4) (.cons (.nm 5) .nil)))) (.ix (.var 0) (.var 2))) (.cons (.app 1 (.tup (.cons (.var 2) (.cons (.var 3) (.cons (.var 4) .nil))))) (.cons (.ife (.cmp .eq (.var 5) (.cD (.str (Str.ofString "two")))) (.cons (.app 1 (.tup (.cons (.var 2) (.cons (.var 4) (.cons (.var 3) .nil))))) .nil) .nil) .nil)))) (.cons (.ret (.var 1)) .nil)))⟩
def s_f_law_drives (ds : List D) : Option D := CF.sem T_56 c_f_law_drives ds
abbrev e_f_law_drives : FnE := ⟨.fn, Str.ofString "_law_drives", 1, s_f_law_drives, 0⟩
abbrev T_57 : Tab := { T_56 with fn := T_56.fn ++ [e_f_law_drives] }
/-! _law_reached -/
abbrev N_f_law_reached : List Str := [Str.ofString "drives", Str.ofString "place", Str.ofString "found", Str.ofString "at", Str.ofString "street", Str.ofString "start", Str.ofString "goal"]
abbrev G_f_law_reached : List Nat := [0, 0, 1, 0, 0, 0, 0]
def c_f_law_reached : CF := ⟨7, 2, (.cons (.asg (.nm 2) (.lst (.cons (.var 1) .nil))) (.cons (.asg (.nm 3) (.cD (.int (0)))) (.cons (.whl (.cmp .lt (.var 3) (.bi .len (.cons (.var 2) .nil))) (.cons (.fr (.tp (.cons (.nm 4) (.cons (.nm 5) (.cons (.nm 6) .nil)))) (.seq (.var 0)) (.cons (.ife (.bop true (.cons (.cmp .eq (.var 5) (.ix (.var 2) (.var 3))) (.cons (.cmp .nin (.var 6) (.var 2)) .nil))) (.cons (.app 2 (.var 6)) .nil) .nil) .nil)) (.cons (.asg (.nm 3) (.bin .add (.var 3) (.cD (.int (1))))) .nil))) (.cons (.ret (.bi .sorted (.cons (.var 2) .nil))) .nil))))⟩
def s_f_law_reached (ds : List D) : Option D := CF.sem T_57 c_f_law_reached ds
abbrev e_f_law_reached : FnE := ⟨.fn, Str.ofString "_law_reached", 2, s_f_law_reached, 0⟩
abbrev T_58 : Tab := { T_57 with fn := T_57.fn ++ [e_f_law_reached] }
/-! _law_all_get -/
abbrev N_f_law_all_get : List Str := [Str.ofString "places", Str.ofString "streets", Str.ofString "drives", Str.ofString "back", Str.ofString "street", Str.ofString "start", Str.ofString "goal"]
abbrev G_f_law_all_get : List Nat := [0, 0, 0, 0, 0, 0, 0]
def c_f_law_all_get : CF := ⟨7, 2, (.cons (.asg (.nm 2) (.call ix_f_law_drives (.cons (.var 1) .nil))) (.cons (.asg (.nm 3) (.lc [(Str.ofString "street", 4), (Str.ofString "start", 5), (Str.ofString "goal", 6)] (.tp (.cons (.nm 4) (.cons (.nm 5) (.cons (.nm 6) .nil)))) (.seq (.var 2)) .nil (.tup (.cons (.var 4) (.cons (.var 6) (.cons (.var 5) .nil)))))) (.cons (.ret (.bop true (.cons (.cmp .eq (.bi .len (.cons (.call ix_f_law_reached (.cons (.var 2) (.cons (.ix (.var 0) (.cD (.int (0)))) .nil))) .nil)) (.bi .len (.cons (.var 0) .nil))) (.cons (.cmp .eq (.bi .len (.cons (.call ix_f_law_reached (.cons (.var 3) (.cons (.ix (.var 0) (.cD (.int (0)))) .nil))) .nil)) (.bi .len (.cons (.var 0) .nil))) .nil)))) .nil)))⟩
def s_f_law_all_get (ds : List D) : Option D := CF.sem T_58 c_f_law_all_get ds
abbrev e_f_law_all_get : FnE := ⟨.fn, Str.ofString "_law_all_get", 2, s_f_law_all_get, 0⟩
abbrev T_59 : Tab := { T_58 with fn := T_58.fn ++ [e_f_law_all_get] }
/-! _law_by -/
abbrev N_f_law_by : List Str := [Str.ofString "streets", Str.ofString "plan", Str.ofString "found", Str.ofString "k", Str.ofString "a", Str.ofString "b", Str.ofString "word"]
abbrev G_f_law_by : List Nat := [0, 0, 1, 0, 0, 0, 0]
def c_f_law_by : CF := ⟨7, 2, (.cons (.asg (.nm 2) (.lst .nil)) (.cons (.fr (.nm 3) (.rng1 (.bi .len (.cons (.var 0) .nil))) (.cons (.asg (.tp (.cons (.nm 4) (.cons (.nm 5) (.cons (.nm 6) .nil)))) (.ix (.var 0) (.var 3))) (.cons (.app 2 (.ix (.dsp (.cons (.cD (.str (Str.ofString ">"))) (.cons (.cD (.str (Str.ofString "<"))) (.cons (.cD (.str (Str.ofString "="))) .nil))) (.cons (.tup (.cons (.var 4) (.cons (.var 5) (.cons (.cD (.str (Str.ofString "one"))) .nil)))) (.cons (.tup (.cons (.var 5) (.cons (.var 4) (.cons (.cD (.str (Str.ofString "one"))) .nil)))) (.cons (.tup (.cons (.var 4) (.cons (.var 5) (.cons (.cD (.str (Str.ofString "two"))) .nil)))) .nil)))) (.ix (.var 1) (.var 3)))) .nil))) (.cons (.ret (.var 2)) .nil)))⟩
def s_f_law_by (ds : List D) : Option D := CF.sem T_59 c_f_law_by ds
abbrev e_f_law_by : FnE := ⟨.fn, Str.ofString "_law_by", 2, s_f_law_by, 0⟩
abbrev T_60 : Tab := { T_59 with fn := T_59.fn ++ [e_f_law_by] }
/-! law -/
abbrev N_f_law : List Str := [Str.ofString "script", Str.ofString "numbers", Str.ofString "rounds", Str.ofString "ties", Str.ofString "streets", Str.ofString "side", Str.ofString "places", Str.ofString "listed", Str.ofString "whole", Str.ofString "town", Str.ofString "told", Str.ofString "double", Str.ofString "count", Str.ofString "k", Str.ofString "first"]
abbrev G_f_law : List Nat := [0, 0, 1, 1, 1, 0, 0, 0, 0, 0, 0, 0, 0, 0, 0]
def c_f_law : CF := ⟨15, 1, (.cons (.asg (.nm 1) (.call ix_f_law_numbers (.cons (.var 0) (.cons (.cD (.int (0))) (.cons (.cD (.int (30))) .nil))))) (.cons (.asg (.nm 2) (.lst .nil)) (.cons (.asg (.nm 3) (.lst .nil)) (.cons (.asg (.nm 4) (.lst .nil)) (.cons (.fr (.nm 5) (.rng1 (.bin .add (.cD (.int (1))) (.bin .mod (.ix (.var 1) (.cD (.int (0)))) (.cD (.int (3)))))) (.cons (.asg (.nm 12) (.bin .add (.cD (.int (1))) (.bin .mod (.ix (.var 1) (.bin .add (.cD (.int (1))) (.var 5))) (.cD (.int (3)))))) (.cons (.app 2 (.lc [(Str.ofString "k", 13)] (.nm 13) (.rng1 (.var 12)) .nil (.bin .add (.ix (.cD (.str (Str.ofString "pqr"))) (.var 5)) (.ix (.cD (.str (Str.ofString "123"))) (.var 13))))) (.cons (.ife (.cmp .gt (.var 12) (.cD (.int (1)))) (.cons (.fr (.nm 13) (.rng1 (.var 12)) (.cons (.app 4 (.tup (.cons (.ix (.ix (.var 2) (.var 5)) (.var 13)) (.cons (.ix (.ix (.var 2) (.var 5)) (.bin .mod (.bin .add (.var 13) (.cD (.int (1)))) (.var 12))) (.cons (.ix (.lst (.cons (.cD (.str (Str.ofString "two"))) (.cons (.cD (.str (Str.ofString "one"))) .nil))) (.bin .mod (.ix (.var 1) (.bin .add (.cD (.int (4))) (.var 5))) (.cD (.int (2))))) .nil))))) .nil)) .nil) .nil) (.cons (.ife (.cmp .gt (.var 5) (.cD (.int (0)))) (.cons (.asg (.nm 14) (.ix (.ix (.var 2) (.bin .sub (.var 5) (.cD (.int (1))))) (.bin .mod (.ix (.var 1) (.bin .add (.cD (.int (8))) (.var 5))) (.bi .len (.cons (.ix (.var 2) (.bin .sub (.var 5) (.cD (.int (1))))) .nil))))) (.cons (.app 3 (.tup (.cons (.var 14) (.cons (.ix (.ix (.var 2) (.var 5)) (.bin .mod (.ix (.var 1) (.bin .add (.cD (.int (12))) (.var 5))) (.var 12))) (.cons (.cD (.str (Str.ofString "two"))) .nil))))) .nil)) .nil) .nil))))) (.cons (.asg (.nm 6) (.lst .nil)) (.cons (.fr (.nm 7) (.seq (.var 2)) (.cons (.asg (.nm 6) (.bin .add (.var 6) (.var 7))) .nil)) (.cons (.asg (.nm 8) (.bin .add (.var 3) (.var 4))) (.cons (.asg (.nm 9) (.make ix_m_town_init (.cons (.var 6) (.cons (.var 8) .nil)))) (.cons (.ife (.bop false (.cons (.cmp .ne (.call ix_f_must_stay (.cons (.var 9) .nil)) (.lstr (.rng1 (.bi .len (.cons (.var 3) .nil))))) (.cons (.cmp .ne (.call ix_f_links (.cons (.var 9) .nil)) (.lstr (.rng1 (.bi .len (.cons (.var 3) .nil))))) .nil))) (.cons (.ret (.cD (.bl false))) .nil) .nil) (.cons (.asg (.nm 10) (.call ix_f_answer_kept (.cons (.var 9) .nil))) (.cons (.ife (.bop false (.cons (.cmp .ne (.ix (.var 10) (.cD (.int (0)))) (.cD (.str (Str.ofString "kept")))) (.cons (.cmp .ne (.slc (.ix (.var 10) (.cD (.int (1)))) .none (.some (.bi .len (.cons (.var 3) .nil)))) (.bin .mul (.cD (.str (Str.ofString "="))) (.bi .len (.cons (.var 3) .nil)))) (.cons (.not (.call ix_f_law_all_get (.cons (.var 6) (.cons (.call ix_f_law_by (.cons (.var 8) (.cons (.ix (.var 10) (.cD (.int (1)))) .nil))) .nil)))) .nil)))) (.cons (.ret (.cD (.bl false))) .nil) .nil) (.cons (.asg (.nm 11) (.make ix_m_town_init (.cons (.var 6) (.cons (.bin .add (.bin .add (.var 3) (.var 3)) (.var 4)) .nil)))) (.cons (.ife (.bop false (.cons (.cmp .ne (.call ix_f_must_stay (.cons (.var 11) .nil)) (.lst .nil)) (.cons (.cmp .ne (.ix (.call ix_f_answer_plans (.cons (.var 11) .nil)) (.cD (.int (0)))) (.cD (.str (Str.ofString "plan")))) .nil))) (.cons (.ret (.cD (.bl false))) .nil) .nil) (.cons (.ife (.cmp .ne (.cmp .eq (.ix (.call ix_f_answer_plans (.cons (.var 9) .nil)) (.cD (.int (0)))) (.cD (.str (Str.ofString "plan")))) (.cmp .eq (.var 3) (.lst .nil))) (.cons (.ret (.cD (.bl false))) .nil) .nil) (.cons (.ret (.cD (.bl true))) .nil))))))))))))))))⟩
def s_f_law (ds : List D) : Option D := CF.sem T_60 c_f_law ds
abbrev e_f_law : FnE := ⟨.fn, Str.ofString "law", 1, s_f_law, 0⟩
abbrev T_61 : Tab := { T_60 with fn := T_60.fn ++ [e_f_law] }
end LawC

set_option Elab.async false
set_option linter.all false
set_option maxRecDepth 100000
set_option maxHeartbeats 4000000
/-! M0: running codes by hand. -/
namespace PV
open PySem
section
variable {T : Tab} {s : CS} {b a : CB} {c : CE} {ρ ρ' : Env} {o : Option O} {d : D}
theorem run_nx (h : CS.run T s ρ = some (.nx ρ')) (h2 : CB.run T b ρ' = o) : CB.run T (.cons s b) ρ = o := by
  unfold CB.run
  rw [h]
  exact h2
theorem run_rt (h : CS.run T s ρ = some (.rt d)) : CB.run T (.cons s b) ρ = some (.rt d) := by
  unfold CB.run
  rw [h]
  rfl
theorem run_ct (h : CS.run T s ρ = some (.ct ρ')) : CB.run T (.cons s b) ρ = some (.ct ρ') := by
  unfold CB.run
  rw [h]
  rfl
theorem run_nil : CB.run T .nil ρ = some (.nx ρ) := rfl
theorem ife_t (hc : CE.sem T c ρ = some d) (ht : truD d = some true) (h : CB.run T a ρ = o) : CS.run T (.ife c a b) ρ = o := by
  unfold CS.run
  rw [hc, Option.bind_some, ht, Option.bind_some, if_pos rfl]
  exact h
theorem ife_f (hc : CE.sem T c ρ = some d) (ht : truD d = some false) (h : CB.run T b ρ = o) : CS.run T (.ife c a b) ρ = o := by
  unfold CS.run
  rw [hc, Option.bind_some, ht, Option.bind_some, if_neg Bool.false_ne_true]
  exact h
/-- a test that is a Bool -/
theorem ife_bl {k : Bool} (hc : CE.sem T c ρ = some (.bl k)) (h : (if k then CB.run T a ρ else CB.run T b ρ) = o) : CS.run T (.ife c a b) ρ = o := by
  unfold CS.run
  rw [hc, Option.bind_some]
  exact h
theorem ret_of (hc : CE.sem T c ρ = some d) : CS.run T (.ret c) ρ = some (.rt d) := by
  unfold CS.run
  rw [hc]
  rfl
theorem asg_of {i : Nat} (hc : CE.sem T c ρ = some d) : CS.run T (.asg (.nm i) c) ρ = some (.nx (ρ.set i (some d))) := by
  unfold CS.run
  rw [hc]
  rfl
theorem expr_of (hc : CE.sem T c ρ = some d) : CS.run T (.expr c) ρ = some (.nx ρ) := by
  unfold CS.run
  rw [hc]
  rfl
theorem app_of {i : Nat} {xs : List D} (hc : CE.sem T c ρ = some d) (hi : ρ[i]? = some (some (.lst xs))) (hl : xs.length < LIM) : CS.run T (.app i c) ρ = some (.nx (ρ.set i (some (.lst (xs ++ [d]))))) := by
  unfold CS.run
  rw [hc, Option.bind_some]
  unfold upS
  rw [hi]
  show ((if xs.length < LIM then some (D.lst (xs ++ [d])) else none).map _) = _
  rw [if_pos hl]
  rfl
theorem es_nil : CEs.sem T .nil ρ = some [] := rfl
theorem es_cons {e : CE} {es : CEs} {x : D} {xs : List D} (h : CE.sem T e ρ = some x) (h2 : CEs.sem T es ρ = some xs) : CEs.sem T (.cons e es) ρ = some (x :: xs) := by
  unfold CEs.sem
  rw [h, h2]
  rfl
theorem bi1 {m : Bi} {e : CE} {x : D} (h : CE.sem T e ρ = some x) (hb : biD m [x] = some d) : CE.sem T (.bi m (.cons e .nil)) ρ = some d := by
  unfold CE.sem
  rw [es_cons h es_nil]
  exact hb
theorem call_of {f : Nat} {es : CEs} {ds : List D} (h : CEs.sem T es ρ = some ds) (hc : T.call f ds = some d) : CE.sem T (.call f es) ρ = some d := by
  unfold CE.sem
  rw [h]
  exact hc
theorem meth_of {f : Nat} {e : CE} {es : CEs} {x : D} {ds : List D} (h0 : CE.sem T e ρ = some x) (h : CEs.sem T es ρ = some ds) (hc : T.callM f x ds = some d) : CE.sem T (.meth f e es) ρ = some d := by
  unfold CE.sem
  rw [h0, Option.bind_some, h]
  exact hc
theorem make_of {f : Nat} {es : CEs} {ds : List D} (h : CEs.sem T es ρ = some ds) (hc : T.call f ds = some d) : CE.sem T (.make f es) ρ = some d := by
  unfold CE.sem
  rw [h]
  exact hc
theorem ix_of {e f : CE} {x y : D} (h0 : CE.sem T e ρ = some x) (h : CE.sem T f ρ = some y) (hc : ixD x y = some d) : CE.sem T (.ix e f) ρ = some d := by
  unfold CE.sem
  rw [h0, Option.bind_some, h]
  exact hc
theorem bin_of {op : BOp} {e f : CE} {x y : D} (h0 : CE.sem T e ρ = some x) (h : CE.sem T f ρ = some y) (hc : binD op x y = some d) : CE.sem T (.bin op e f) ρ = some d := by
  unfold CE.sem
  rw [h0, Option.bind_some, h]
  exact hc
theorem cmp2_of {o1 o2 : COp} {e f g : CE} {x y z : D} {p : Bool} (h0 : CE.sem T e ρ = some x) (h1 : CE.sem T f ρ = some y) (h2 : CE.sem T g ρ = some z) (c1 : cmpD o1 x y = some true) (c2 : cmpD o2 y z = some p) : CE.sem T (.cmp2 o1 o2 e f g) ρ = some (.bl p) := by
  unfold CE.sem
  rw [h0, Option.bind_some, h1, Option.bind_some, c1, Option.bind_some, if_pos rfl, h2, Option.bind_some, c2]
  rfl
theorem tup_of {es : CEs} {ds : List D} (h : CEs.sem T es ρ = some ds) : CE.sem T (.tup es) ρ = some (.tup ds) := by
  unfold CE.sem
  rw [h]
  rfl
theorem lst_of {es : CEs} {ds : List D} (h : CEs.sem T es ρ = some ds) : CE.sem T (.lst es) ρ = some (.lst ds) := by
  unfold CE.sem
  rw [h]
  rfl
theorem lc_of {own : List (Str × Nat)} {t : CT} {src : CI} {ifs : CEs} {elt : CE} {xs ys : List D} (h : CI.sem T src ρ = some xs) (h2 : lcD (fun x => (CT.bind t x (wipeD ρ (own.map (·.2)))).bind fun ρ' => (CEs.tests T ifs ρ').bind fun b => if b then (CE.sem T elt ρ').map some else some none) xs = some ys) :
    CE.sem T (.lc own t src ifs elt) ρ = some (.lst ys) := by
  unfold CE.sem
  rw [h, Option.bind_some, h2]
  rfl
theorem fr_of {t : CT} {src : CI} {xs : List D} (h : CI.sem T src ρ = some xs) (h2 : frD (fun x ρ => CT.bind t x ρ) (fun ρ => CB.run T b ρ) xs ρ = o) : CS.run T (.fr t src b) ρ = o := by
  unfold CS.run
  rw [h]
  exact h2
theorem whl_of (h2 : whlD (fun ρ => (CE.sem T c ρ).bind truD) (fun ρ => CB.run T b ρ) FUEL ρ = o) : CS.run T (.whl c b) ρ = o := by
  unfold CS.run
  exact h2
/-- the end of a def -/
theorem sem_rt {f : CF} {ds : List D} (hl : ds.length = f.np) (h : CB.run T f.body (ds.map some ++ List.replicate (f.n - f.np) none) = some (.rt d)) : CF.sem T f ds = some d := by
  unfold CF.sem
  rw [if_pos hl, h]
theorem sem_nx {f : CF} {ds : List D} (hl : ds.length = f.np) (h : CB.run T f.body (ds.map some ++ List.replicate (f.n - f.np) none) = some (.nx ρ')) : CF.sem T f ds = some .non := by
  unfold CF.sem
  rw [if_pos hl, h]
end
/-! ### loops -/
/-- a for loop whose turns go on: I holds of the names and what is told -/
theorem frD_inv {α σ : Type} {t : D → Env → Option Env} {b : Env → Option O} (e : α → D) (I : σ → Env → Prop) (f : σ → α → σ) : ∀ (xs : List α) (s : σ) (ρ : Env),
    (∀ s ρ x, x ∈ xs → I s ρ → ∃ ρ1 ρ', t (e x) ρ = some ρ1 ∧ (b ρ1 = some (.nx ρ') ∨ b ρ1 = some (.ct ρ')) ∧ I (f s x) ρ') → I s ρ → ∃ ρ', frD t b (xs.map e) ρ = some (.nx ρ') ∧ I (xs.foldl f s) ρ'
  | [], s, ρ, _, h => ⟨ρ, rfl, h⟩
  | x :: xs, s, ρ, H, h => by
    obtain ⟨ρ1, ρ2, h1, h2, h3⟩ := H s ρ x List.mem_cons_self h
    obtain ⟨ρ', h4, h5⟩ := frD_inv e I f xs (f s x) ρ2 (fun s ρ y hy => H s ρ y (List.mem_cons_of_mem _ hy)) h3
    refine ⟨ρ', ?_, h5⟩
    show (t (e x) ρ).bind _ = _
    rw [h1, Option.bind_some]
    rcases h2 with h2 | h2
    · rw [h2, Option.bind_some]
      exact h4
    · rw [h2, Option.bind_some]
      exact h4
/-- the same, by what is gone through -/
theorem frD_pre {α : Type} {t : D → Env → Option Env} {b : Env → Option O} (e : α → D) (I : List α → Env → Prop) : ∀ (xs pre : List α) (ρ : Env),
    (∀ ys x zs ρ, pre ++ xs = ys ++ x :: zs → I ys ρ → ∃ ρ1 ρ', t (e x) ρ = some ρ1 ∧ (b ρ1 = some (.nx ρ') ∨ b ρ1 = some (.ct ρ')) ∧ I (ys ++ [x]) ρ') → I pre ρ → ∃ ρ', frD t b (xs.map e) ρ = some (.nx ρ') ∧ I (pre ++ xs) ρ'
  | [], pre, ρ, _, h => ⟨ρ, rfl, by rw [List.append_nil]; exact h⟩
  | x :: xs, pre, ρ, H, h => by
    obtain ⟨ρ1, ρ2, h1, h2, h3⟩ := H pre x xs ρ rfl h
    obtain ⟨ρ', h4, h5⟩ := frD_pre e I xs (pre ++ [x]) ρ2 (fun ys y zs ρ e => H ys y zs ρ (by rw [← e, List.append_assoc]; rfl)) h3
    refine ⟨ρ', ?_, by rw [List.append_assoc] at h5; exact h5⟩
    show (t (e x) ρ).bind _ = _
    rw [h1, Option.bind_some]
    rcases h2 with h2 | h2
    · rw [h2, Option.bind_some]
      exact h4
    · rw [h2, Option.bind_some]
      exact h4
/-- a for loop that may return: step says with what -/
theorem frD_ret {α σ : Type} {t : D → Env → Option Env} {b : Env → Option O} (e : α → D) (I : σ → Env → Prop) (f : σ → α → σ) (r : σ → α → Option D) : ∀ (xs : List α) (s : σ) (ρ : Env),
    (∀ s ρ x, x ∈ xs → I s ρ → ∃ ρ1, t (e x) ρ = some ρ1 ∧ match r s x with
      | some d => b ρ1 = some (.rt d)
      | none => ∃ ρ', (b ρ1 = some (.nx ρ') ∨ b ρ1 = some (.ct ρ')) ∧ I (f s x) ρ') → I s ρ →
    (∃ d, frD t b (xs.map e) ρ = some (.rt d) ∧ ∃ ys x zs, xs = ys ++ x :: zs ∧ r (ys.foldl f s) x = some d) ∨ (∃ ρ', frD t b (xs.map e) ρ = some (.nx ρ') ∧ I (xs.foldl f s) ρ' ∧ ∀ ys x zs, xs = ys ++ x :: zs → r (ys.foldl f s) x = none)
  | [], s, ρ, _, h => .inr ⟨ρ, rfl, h, fun ys x zs e => by cases ys <;> cases e⟩
  | x :: xs, s, ρ, H, h => by
    obtain ⟨ρ1, h1, h2⟩ := H s ρ x List.mem_cons_self h
    have run : frD t b ((x :: xs).map e) ρ = (b ρ1).bind fun o => match o with
      | .nx ρ' => frD t b (xs.map e) ρ'
      | .ct ρ' => frD t b (xs.map e) ρ'
      | .bk ρ' => some (.nx ρ')
      | .rt d => some (.rt d) := by
      show (t (e x) ρ).bind _ = _
      rw [h1, Option.bind_some] <;> rfl
    cases hr : r s x with
    | some d =>
      rw [hr] at h2
      refine .inl ⟨d, ?_, [], x, xs, rfl, hr⟩
      rw [run, show b ρ1 = some (.rt d) from h2]
      rfl
    | none =>
      rw [hr] at h2
      obtain ⟨ρ2, h2, h3⟩ := h2
      have run2 : frD t b ((x :: xs).map e) ρ = frD t b (xs.map e) ρ2 := by
        rw [run]
        rcases h2 with h2 | h2 <;> (rw [h2]; rfl)
      rcases frD_ret e I f r xs (f s x) ρ2 (fun s ρ y hy => H s ρ y (List.mem_cons_of_mem _ hy)) h3 with ⟨d, h4, ys, y, zs, h5, h6⟩ | ⟨ρ', h4, h5, h6⟩
      · exact .inl ⟨d, by rw [run2]; exact h4, x :: ys, y, zs, by rw [h5]; rfl, h6⟩
      · refine .inr ⟨ρ', by rw [run2]; exact h4, h5, fun ys y zs e => ?_⟩
        cases ys with
        | nil =>
          injection e with e1 e2
          subst e1
          exact hr
        | cons w ys =>
          injection e with e1 e2
          subst e1
          exact h6 ys y zs e2
/-- a while loop with a measure -/
theorem whlD_inv {c : Env → Option Bool} {b : Env → Option O} (I : Nat → Env → Prop) : ∀ (n m : Nat) (ρ : Env), m < n →
    (∀ m ρ, I m ρ → c ρ = some false ∨ (c ρ = some true ∧ ∃ ρ' m', m' < m ∧ (b ρ = some (.nx ρ') ∨ b ρ = some (.ct ρ')) ∧ I m' ρ')) → I m ρ → ∃ m' ρ', whlD c b n ρ = some (.nx ρ') ∧ I m' ρ' ∧ c ρ' = some false
  | 0, m, ρ, h, _, _ => absurd h (Nat.not_lt_zero m)
  | n + 1, m, ρ, h, H, i => by
    rcases H m ρ i with hc | ⟨hc, ρ', m', hm, hb, i'⟩
    · refine ⟨m, ρ, ?_, i, hc⟩
      unfold whlD
      rw [hc]
      rfl
    · obtain ⟨m2, ρ2, h1, h2, h3⟩ := whlD_inv I n m' ρ' (by omega) H i'
      refine ⟨m2, ρ2, ?_, h2, h3⟩
      unfold whlD
      rw [hc, Option.bind_some, if_pos rfl]
      rcases hb with hb | hb
      · rw [hb, Option.bind_some]
        exact h1
      · rw [hb, Option.bind_some]
        exact h1
/-- a list comprehension, item by item -/
theorem lcD_map {α : Type} {f : D → Option (Option D)} (e : α → D) (g : α → Option D) : ∀ (xs : List α), (∀ x ∈ xs, f (e x) = some (g x)) → lcD f (xs.map e) = some (xs.filterMap g)
  | [], _ => rfl
  | x :: xs, h => by
    have ih := lcD_map e g xs fun y hy => h y (List.mem_cons_of_mem _ hy)
    show (f (e x)).bind _ = _
    rw [h x List.mem_cons_self, Option.bind_some, ih]
    cases hg : g x with
    | none => rw [List.filterMap_cons_none hg]; rfl
    | some y => rw [List.filterMap_cons_some hg]; rfl
end PV

set_option Elab.async false
set_option linter.all false
set_option maxRecDepth 100000
set_option maxHeartbeats 4000000
/-! M1: going everywhere: known_without. -/
namespace PV
open PySem
abbrev two : Str := Str.ofString "two"
abbrev St := Str × Str
def eS (e : St) : D := .tup [.str e.1, .str e.2, .str two]
def eI (p : St × Nat) : D := .tup [.int p.2, eS p.1]
def strsL (w : List Str) : List D := w.map D.str
def intsL (cs : List Nat) : List D := cs.map fun (i : Nat) => D.int (i : Int)
theorem enumD_zip : ∀ (es : List St) (n : Nat), enumD n (es.map eS) = (es.zipIdx n).map eI
  | [], _ => rfl
  | e :: es, n => by
    rw [List.map_cons, List.zipIdx_cons, List.map_cons, ← enumD_zip es (n + 1)]
    rfl
section
variable {T : Tab} {ρ : Env} {e1 e2 : CE} {p q : Bool}
theorem and2 (h1 : CE.sem T e1 ρ = some (.bl p)) (h2 : p = true → CE.sem T e2 ρ = some (.bl q)) : CE.sem T (.bop true (.cons e1 (.cons e2 .nil))) ρ = some (.bl (p && q)) := by
  show (CE.sem T e1 ρ).bind (fun x => (truD x).bind fun b => if b = true then CEs.bop T true (.cons e2 .nil) ρ else some x) = _
  rw [h1]
  cases p with
  | false => rfl
  | true => exact h2 rfl
theorem or2 (h1 : CE.sem T e1 ρ = some (.bl p)) (h2 : p = false → CE.sem T e2 ρ = some (.bl q)) : CE.sem T (.bop false (.cons e1 (.cons e2 .nil))) ρ = some (.bl (p || q)) := by
  show (CE.sem T e1 ρ).bind (fun x => (truD x).bind fun b => if b = false then CEs.bop T false (.cons e2 .nil) ρ else some x) = _
  rw [h1]
  cases p with
  | true => rfl
  | false => exact h2 rfl
theorem not1 (h1 : CE.sem T e1 ρ = some (.bl p)) : CE.sem T (.not e1) ρ = some (.bl (!p)) := by
  show (CE.sem T e1 ρ).bind (fun x => (truD x).map fun k => D.bl (!k)) = _
  rw [h1]
  rfl
theorem cmp1 {op : COp} {x y : D} (h1 : CE.sem T e1 ρ = some x) (h2 : CE.sem T e2 ρ = some y) (h : cmpD op x y = some p) : CE.sem T (.cmp op e1 e2) ρ = some (.bl p) := by
  show (CE.sem T e1 ρ).bind (fun x => (CE.sem T e2 ρ).bind fun y => (cmpD op x y).map D.bl) = _
  rw [h1, Option.bind_some, h2, Option.bind_some, h]
  rfl
end
theorem any_iff {α : Type} [DecidableEq α] {l : List α} {x : α} : (l.any fun y => decide (y = x)) = decide (x ∈ l) := by
  induction l with
  | nil => simp
  | cons a l ih =>
    rw [List.any_cons, ih]
    by_cases h : a = x
    · simp [h]
    · simp [h, show ¬ x = a from fun z => h z.symm]
theorem flat_ints (cs : List Nat) : (intsL cs).all D.flat = true := by
  unfold intsL
  rw [List.all_map]
  exact List.all_eq_true.mpr fun _ _ => rfl
theorem flat_strs (w : List Str) : (strsL w).all D.flat = true := by
  unfold strsL
  rw [List.all_map]
  exact List.all_eq_true.mpr fun _ _ => rfl
theorem in_tup_ints (k : Nat) (cs : List Nat) : cmpD .in_ (.int k) (.tup (intsL cs)) = some (decide (k ∈ cs)) := by
  show (if ((D.int k).flat && (intsL cs).all D.flat) = true then some ((intsL cs).any fun y => D.eqv y (.int k)) else none) = _
  rw [if_pos (by rw [flat_ints]; rfl)]
  congr 1
  unfold intsL
  rw [List.any_map]
  induction cs with
  | nil => rfl
  | cons a l ih =>
    rw [List.any_cons, ih]
    show (((a : Int) == (k : Int)) || decide (k ∈ l)) = decide (k ∈ a :: l)
    by_cases h : a = k
    · simp [h]
    · have h2 : ((a : Int) == (k : Int)) = false := beq_eq_false_iff_ne.mpr fun z => h (Int.ofNat.inj z)
      rw [h2]
      simp [show ¬ k = a from fun z => h z.symm]
theorem any_strs (x : Str) (w : List Str) : ((strsL w).any fun y => D.eqv y (.str x)) = decide (x ∈ w) := by
  unfold strsL
  rw [List.any_map]
  induction w with
  | nil => rfl
  | cons a l ih =>
    rw [List.any_cons, ih]
    show ((a == x) || decide (x ∈ l)) = decide (x ∈ a :: l)
    by_cases h : a = x
    · simp [h]
    · rw [show (a == x) = false from beq_eq_false_iff_ne.mpr h]
      simp [show ¬ x = a from fun z => h z.symm]
theorem in_lst_strs (x : Str) (w : List Str) : cmpD .in_ (.str x) (.lst (strsL w)) = some (decide (x ∈ w)) := by
  show (if ((D.str x).flat && (strsL w).all D.flat) || ((D.str x).okEq && (D.lst (strsL w)).okEq) then some ((strsL w).any fun y => D.eqv y (.str x)) else none) = _
  rw [if_pos (by rw [flat_strs]; rfl), any_strs]
theorem nin_lst_strs (x : Str) (w : List Str) : cmpD .nin (.str x) (.lst (strsL w)) = some (!decide (x ∈ w)) := by
  show (inB (.str x) (.lst (strsL w))).map (!·) = _
  rw [show inB (.str x) (.lst (strsL w)) = some (decide (x ∈ w)) from in_lst_strs x w]
  rfl
theorem in_tup_strs (x : Str) (w : List Str) : cmpD .in_ (.str x) (.tup (strsL w)) = some (decide (x ∈ w)) := by
  show (if ((D.str x).flat && (strsL w).all D.flat) = true then some ((strsL w).any fun y => D.eqv y (.str x)) else none) = _
  rw [if_pos (by rw [flat_strs]; rfl), any_strs]
theorem eq_strs (a b : Str) : cmpD .eq (.str a) (.str b) = some (decide (a = b)) := by
  show some (a == b) = _
  congr 1
/-! ### a dict of what is known -/
def kn (w : List Str) : List (Key × D) := w.map fun x => (.inr x, .bl true)
theorem kn_any (b : Str) (w : List Str) : ((kn w).any fun p => decide (p.1 = Sum.inr b)) = decide (b ∈ w) := by
  unfold kn
  rw [List.any_map]
  induction w with
  | nil => rfl
  | cons a l ih =>
    rw [List.any_cons, ih]
    show (decide ((Sum.inr a : Key) = Sum.inr b) || decide (b ∈ l)) = decide (b ∈ a :: l)
    by_cases h : a = b
    · simp [h]
    · simp [h, show ¬ b = a from fun z => h z.symm]
theorem nin_kn (b : Str) (w : List Str) : cmpD .nin (.str b) (.dct (kn w)) = some (!decide (b ∈ w)) := by
  show (some ((kn w).any fun p => decide (p.1 = Sum.inr b))).map (!·) = _
  rw [kn_any]
  rfl
theorem put_kn {b : Str} {w : List Str} (h : b ∉ w) : putKD (.inr b) (.bl true) (kn w) = kn (w ++ [b]) := by
  unfold putKD
  rw [kn_any, if_neg (by simpa using h)]
  unfold kn
  rw [List.map_append]
  rfl
theorem nodup_sub {α : Type} [DecidableEq α] : ∀ {w V : List α}, w.Nodup → (∀ x ∈ w, x ∈ V) → w.length ≤ V.length
  | [], _, _, _ => Nat.zero_le _
  | x :: w, V, nd, h => by
    obtain ⟨n1, n2⟩ := List.nodup_cons.mp nd
    have hx : x ∈ V := h x List.mem_cons_self
    have := nodup_sub (V := V.erase x) n2 fun y hy => (List.mem_erase_of_ne (fun z => n1 (by rw [← z]; exact hy))).mpr (h y (List.mem_cons_of_mem _ hy))
    rw [List.length_erase_of_mem hx] at this
    have hp : 0 < V.length := List.length_pos_of_mem hx
    rw [List.length_cons]
    omega
/-! ### one place's streets gone through -/
def kstep (cs : List Nat) (here : Str) (w : List Str) (p : St × Nat) : List Str :=
  if p.2 ∈ cs then w else if p.1.1 = here ∧ p.1.2 ∉ w then w ++ [p.1.2] else if p.1.2 = here ∧ p.1.1 ∉ w then w ++ [p.1.1] else w
def Vs (s : Str) (es : List St) : List Str := s :: es.flatMap fun e => [e.1, e.2]
theorem Vs_len (s : Str) (es : List St) : (Vs s es).length = 1 + 2 * es.length := by
  unfold Vs
  rw [List.length_cons]
  induction es with
  | nil => rfl
  | cons e es ih =>
    rw [List.flatMap_cons, List.length_append, List.length_cons]
    show 2 + (es.flatMap fun e => [e.1, e.2]).length + 1 = 1 + 2 * (es.length + 1)
    omega
theorem Vs_mem {s : Str} {es : List St} {p : St × Nat} (h : p ∈ es.zipIdx) : p.1.1 ∈ Vs s es ∧ p.1.2 ∈ Vs s es := by
  have h1 : p.1 ∈ es := by
    have := List.mem_zipIdx h
    have h2 := this.2.2
    rw [h2]
    exact List.getElem_mem _
  unfold Vs
  refine ⟨List.mem_cons_of_mem _ (List.mem_flatMap.mpr ⟨p.1, h1, by simp⟩), List.mem_cons_of_mem _ (List.mem_flatMap.mpr ⟨p.1, h1, by simp⟩)⟩
theorem kstep_pre (cs : List Nat) (here : Str) (w : List Str) (p : St × Nat) : ∃ t, kstep cs here w p = w ++ t := by
  unfold kstep
  split
  · exact ⟨[], (List.append_nil _).symm⟩
  · split
    · exact ⟨_, rfl⟩
    · split
      · exact ⟨_, rfl⟩
      · exact ⟨[], (List.append_nil _).symm⟩
theorem kstep_nd {cs : List Nat} {here : Str} {w : List Str} {p : St × Nat} (h : w.Nodup) : (kstep cs here w p).Nodup := by
  unfold kstep
  have ap : ∀ {b : Str}, b ∉ w → (w ++ [b]).Nodup := fun hb => List.nodup_append.mpr ⟨h, by simp, fun a ha c hc => by
    obtain rfl := List.mem_singleton.mp hc
    exact fun z => hb (by rw [← z]; exact ha)⟩
  split
  · exact h
  · split
    · rename_i hc; exact ap hc.2
    · split
      · rename_i hc; exact ap hc.2
      · exact h
theorem kstep_in {cs : List Nat} {here : Str} {w V : List Str} {p : St × Nat} (h : ∀ v ∈ w, v ∈ V) (hp : p.1.1 ∈ V ∧ p.1.2 ∈ V) : ∀ v ∈ kstep cs here w p, v ∈ V := by
  intro v hv
  unfold kstep at hv
  split at hv
  · exact h v hv
  · split at hv
    · rcases List.mem_append.mp hv with hv | hv
      · exact h v hv
      · obtain rfl := List.mem_singleton.mp hv; exact hp.2
    · split at hv
      · rcases List.mem_append.mp hv with hv | hv
        · exact h v hv
        · obtain rfl := List.mem_singleton.mp hv; exact hp.1
      · exact h v hv
theorem kstep_done {cs : List Nat} {here : Str} {w : List Str} {p : St × Nat} (hh : here ∈ w) (hp : p.2 ∉ cs) : (p.1.1 = here → p.1.2 ∈ kstep cs here w p) ∧ (p.1.2 = here → p.1.1 ∈ kstep cs here w p) := by
  unfold kstep
  rw [if_neg hp]
  by_cases h1 : p.1.1 = here ∧ p.1.2 ∉ w
  · rw [if_pos h1]
    exact ⟨fun _ => by simp, fun z => absurd (by rw [z]; exact hh) h1.2⟩
  · rw [if_neg h1]
    have k1 : p.1.1 = here → p.1.2 ∈ w := fun e => by
      by_cases m : p.1.2 ∈ w
      · exact m
      · exact absurd ⟨e, m⟩ h1
    by_cases h2 : p.1.2 = here ∧ p.1.1 ∉ w
    · rw [if_pos h2]
      exact ⟨fun e => List.mem_append.mpr (.inl (k1 e)), fun _ => by simp⟩
    · rw [if_neg h2]
      refine ⟨k1, fun e => ?_⟩
      by_cases m : p.1.1 ∈ w
      · exact m
      · exact absurd ⟨e, m⟩ h2
theorem kstep_chi {cs : List Nat} {here : Str} {w : List Str} {p : St × Nat} {χ : Str → Bool} {c : Bool} (hh : here ∈ w) (hw : ∀ v ∈ w, χ v = c) (hp : p.2 ∉ cs → χ p.1.1 = χ p.1.2) : ∀ v ∈ kstep cs here w p, χ v = c := by
  intro v hv
  unfold kstep at hv
  split at hv
  · exact hw v hv
  · rename_i hc
    have he := hp hc
    split at hv
    · rename_i h
      rcases List.mem_append.mp hv with hv | hv
      · exact hw v hv
      · obtain rfl := List.mem_singleton.mp hv
        rw [← he, h.1]
        exact hw _ hh
    · split at hv
      · rename_i h
        rcases List.mem_append.mp hv with hv | hv
        · exact hw v hv
        · obtain rfl := List.mem_singleton.mp hv
          rw [he, h.1]
          exact hw _ hh
      · exact hw v hv
/-- what holds of the list of known places -/
structure Kn (es : List St) (s : Str) (cs : List Nat) (w : List Str) : Prop where
  nd : w.Nodup
  st : s ∈ w
  v : ∀ x ∈ w, x ∈ Vs s es
  chi : ∀ χ : Str → Bool, (∀ p ∈ es.zipIdx, p.2 ∉ cs → χ p.1.1 = χ p.1.2) → ∀ x ∈ w, χ x = χ s
def KDone (cs : List Nat) (P : List (St × Nat)) (here : Str) (w : List Str) : Prop := ∀ p ∈ P, p.2 ∉ cs → (p.1.1 = here → p.1.2 ∈ w) ∧ (p.1.2 = here → p.1.1 ∈ w)
theorem kfold {es : List St} {s here : Str} {cs : List Nat} : ∀ (P : List (St × Nat)) (w : List Str), (∀ p ∈ P, p ∈ es.zipIdx) → Kn es s cs w → here ∈ w → Kn es s cs (P.foldl (kstep cs here) w) ∧ (∃ t, P.foldl (kstep cs here) w = w ++ t) ∧ KDone cs P here (P.foldl (kstep cs here) w)
  | [], w, _, k, _ => ⟨k, ⟨[], (List.append_nil _).symm⟩, fun p hp => by cases hp⟩
  | p :: P, w, hP, k, hh => by
    have hp := hP p List.mem_cons_self
    obtain ⟨t, ht⟩ := kstep_pre cs here w p
    have hh2 : here ∈ kstep cs here w p := by rw [ht]; exact List.mem_append.mpr (.inl hh)
    have k2 : Kn es s cs (kstep cs here w p) := ⟨kstep_nd k.nd, by rw [ht]; exact List.mem_append.mpr (.inl k.st), kstep_in k.v (Vs_mem hp), fun χ hχ => kstep_chi hh (k.chi χ hχ) (hχ p hp)⟩
    obtain ⟨k3, ⟨u, hu⟩, kd⟩ := kfold P (kstep cs here w p) (fun q hq => hP q (List.mem_cons_of_mem _ hq)) k2 hh2
    refine ⟨k3, ⟨t ++ u, by rw [List.foldl_cons, hu, ht, List.append_assoc]⟩, fun q hq hc => ?_⟩
    rcases List.mem_cons.mp hq with rfl | hq
    · obtain ⟨d1, d2⟩ := kstep_done (p := q) hh hc
      rw [List.foldl_cons, hu]
      exact ⟨fun e => List.mem_append.mpr (.inl (d1 e)), fun e => List.mem_append.mpr (.inl (d2 e))⟩
    · exact kd q hq hc
/-! ### the code -/
section
open LawC
abbrev CKin : CB := (.cons (.ife (.cmp .in_ (.var 7) (.var 2)) (.cons (.cnt) .nil) .nil) (.cons (.ife (.bop true (.cons (.cmp .eq (.var 8) (.var 6)) (.cons (.cmp .nin (.var 9) (.var 3)) .nil))) (.cons (.setix 3 (.var 9) (.cD (.bl true))) (.cons (.app 4 (.var 9)) .nil)) (.cons (.ife (.bop true (.cons (.cmp .eq (.var 9) (.var 6)) (.cons (.cmp .nin (.var 8) (.var 3)) .nil))) (.cons (.setix 3 (.var 8) (.cD (.bl true))) (.cons (.app 4 (.var 8)) .nil)) .nil) .nil)) .nil))
abbrev TKin : CT := .tp (.cons (.nm 7) (.cons (.tp (.cons (.nm 8) (.cons (.nm 9) (.cons (.nm 10) .nil)))) .nil))
def KI (a0 a1 : D) (cs : List Nat) (at_ : Int) (here : Str) (w : List Str) (ρ : Env) : Prop := ∃ g7 g8 g9 g10, ρ = [some a0, some a1, some (.tup (intsL cs)), some (.dct (kn w)), some (.lst (strsL w)), some (.int at_), some (.str here), g7, g8, g9, g10]
theorem kput {T : Tab} {a0 a1 a2 a5 a6 : D} {b : Str} {w : List Str} {g7 g8 g9 g10 : Option D} {j : Nat} (hj : CE.sem T (.var j) [some a0, some a1, some a2, some (.dct (kn w)), some (.lst (strsL w)), some a5, some a6, g7, g8, g9, g10] = some (.str b))
    (hj2 : CE.sem T (.var j) [some a0, some a1, some a2, some (.dct (kn (w ++ [b]))), some (.lst (strsL w)), some a5, some a6, g7, g8, g9, g10] = some (.str b)) (hb : b ∉ w) (hl : w.length < LIM) :
    CB.run T (.cons (.setix 3 (.var j) (.cD (.bl true))) (.cons (.app 4 (.var j)) .nil)) [some a0, some a1, some a2, some (.dct (kn w)), some (.lst (strsL w)), some a5, some a6, g7, g8, g9, g10] =
      some (.nx [some a0, some a1, some a2, some (.dct (kn (w ++ [b]))), some (.lst (strsL (w ++ [b]))), some a5, some a6, g7, g8, g9, g10]) := by
  refine run_nx (ρ' := [some a0, some a1, some a2, some (.dct (kn (w ++ [b]))), some (.lst (strsL w)), some a5, some a6, g7, g8, g9, g10]) ?_ ?_
  · unfold CS.run
    rw [show CE.sem T (.cD (.bl true)) _ = some (D.bl true) from rfl, Option.bind_some, hj, Option.bind_some]
    show (setD (.dct (kn w)) (.str b) (.bl true)).map _ = _
    show ((if (kn w).length < LIM then some (D.dct (putKD (.inr b) (.bl true) (kn w))) else none).map _) = _
    rw [if_pos (by unfold kn; rw [List.length_map]; exact hl), put_kn hb]
    rfl
  · refine run_nx (app_of hj2 rfl (by unfold strsL; rw [List.length_map]; exact hl)) ?_
    show some _ = some _
    unfold strsL
    rw [List.map_append]
    rfl
abbrev KE (a0 a1 : D) (cs : List Nat) (at_ : Int) (here : Str) (w : List Str) (k : Nat) (a b : Str) : Env := [some a0, some a1, some (.tup (intsL cs)), some (.dct (kn w)), some (.lst (strsL w)), some (.int at_), some (.str here), some (.int k), some (.str a), some (.str b), some (.str two)]
theorem kin_run {T : Tab} {a0 a1 : D} {cs : List Nat} {at_ : Int} {here : Str} {w : List Str} {p : St × Nat} {ρ : Env} (h : KI a0 a1 cs at_ here w ρ) (hl : w.length < LIM) :
    ∃ ρ1 ρ', CT.bind TKin (eI p) ρ = some ρ1 ∧ (CB.run T CKin ρ1 = some (.nx ρ') ∨ CB.run T CKin ρ1 = some (.ct ρ')) ∧ KI a0 a1 cs at_ here (kstep cs here w p) ρ' := by
  obtain ⟨g7, g8, g9, g10, rfl⟩ := h
  obtain ⟨⟨a, b⟩, k⟩ := p
  refine ⟨KE a0 a1 cs at_ here w k a b, ?_⟩
  have c1 : CE.sem T (.cmp .in_ (.var 7) (.var 2)) (KE a0 a1 cs at_ here w k a b) = some (.bl (decide (k ∈ cs))) := cmp1 rfl rfl (in_tup_ints k cs)
  unfold kstep
  by_cases hc : k ∈ cs
  · refine ⟨KE a0 a1 cs at_ here w k a b, rfl, .inr (run_ct (ife_bl c1 ?_)), ?_⟩
    · rw [if_pos (by simpa using hc)]
      rfl
    · rw [if_pos hc]
      exact ⟨_, _, _, _, rfl⟩
  · rw [if_neg hc]
    have c2 : CE.sem T (.bop true (.cons (.cmp .eq (.var 8) (.var 6)) (.cons (.cmp .nin (.var 9) (.var 3)) .nil))) (KE a0 a1 cs at_ here w k a b) = some (.bl (decide (a = here) && !decide (b ∈ w))) :=
      and2 (cmp1 rfl rfl (eq_strs a here)) fun _ => cmp1 rfl rfl (nin_kn b w)
    have c3 : CE.sem T (.bop true (.cons (.cmp .eq (.var 9) (.var 6)) (.cons (.cmp .nin (.var 8) (.var 3)) .nil))) (KE a0 a1 cs at_ here w k a b) = some (.bl (decide (b = here) && !decide (a ∈ w))) :=
      and2 (cmp1 rfl rfl (eq_strs b here)) fun _ => cmp1 rfl rfl (nin_kn a w)
    have skip : ∀ {r : Option O}, CB.run T (.cons (.ife (.bop true (.cons (.cmp .eq (.var 8) (.var 6)) (.cons (.cmp .nin (.var 9) (.var 3)) .nil))) (.cons (.setix 3 (.var 9) (.cD (.bl true))) (.cons (.app 4 (.var 9)) .nil)) (.cons (.ife (.bop true (.cons (.cmp .eq (.var 9) (.var 6)) (.cons (.cmp .nin (.var 8) (.var 3)) .nil))) (.cons (.setix 3 (.var 8) (.cD (.bl true))) (.cons (.app 4 (.var 8)) .nil)) .nil) .nil)) .nil) (KE a0 a1 cs at_ here w k a b) = r → CB.run T CKin (KE a0 a1 cs at_ here w k a b) = r := fun h => by
      refine run_nx (ife_bl c1 ?_) h
      rw [if_neg (by simpa using hc)]
      rfl
    by_cases h1 : a = here ∧ b ∉ w
    · rw [if_pos h1]
      refine ⟨KE a0 a1 cs at_ here (w ++ [b]) k a b, rfl, .inl (skip (run_nx (ife_bl c2 ?_) run_nil)), ?_⟩
      · rw [if_pos (by simpa using h1)]
        exact kput rfl rfl h1.2 hl
      · exact ⟨_, _, _, _, rfl⟩
    · rw [if_neg h1]
      have n1 : ¬ (decide (a = here) && !decide (b ∈ w)) = true := by simpa using h1
      by_cases h2 : b = here ∧ a ∉ w
      · rw [if_pos h2]
        refine ⟨KE a0 a1 cs at_ here (w ++ [a]) k a b, rfl, .inl (skip (run_nx (ife_bl c2 ?_) run_nil)), ?_⟩
        · rw [if_neg n1]
          refine run_nx (ife_bl c3 ?_) run_nil
          rw [if_pos (by simpa using h2)]
          exact kput rfl rfl h2.2 hl
        · exact ⟨_, _, _, _, rfl⟩
      · rw [if_neg h2]
        refine ⟨KE a0 a1 cs at_ here w k a b, rfl, .inl (skip (run_nx (ife_bl c2 ?_) run_nil)), ?_⟩
        · rw [if_neg n1]
          refine run_nx (ife_bl c3 ?_) run_nil
          rw [if_neg (by simpa using h2)]
          rfl
        · exact ⟨_, _, _, _, rfl⟩
theorem atI_nat {α : Type} {xs : List α} {k : Nat} (h : k < xs.length) : L2.atI xs (k : Int) = xs[k]? := by
  unfold L2.atI
  rw [show L2.ixN xs.length (k : Int) = some k from by unfold L2.ixN; rw [if_pos (Int.natCast_nonneg k), if_pos (Int.ofNat_lt.mpr h)]; rfl]
  rfl
abbrev CKw : CE := .cmp .lt (.var 5) (.bi .len (.cons (.var 4) .nil))
abbrev CKb : CB := .cons (.asg (.nm 6) (.ix (.var 4) (.var 5))) (.cons (.fr TKin (.enum (.var 0)) CKin) (.cons (.aug 5 .add (.cD (.int (1)))) .nil))
def KW (es : List St) (s : Str) (cs : List Nat) (m : Nat) (ρ : Env) : Prop := ∃ (w : List Str) (k : Nat) (g6 g7 g8 g9 g10 : Option D), ρ = [some (.lst (es.map eS)), some (.str s), some (.tup (intsL cs)), some (.dct (kn w)), some (.lst (strsL w)), some (.int k), g6, g7, g8, g9, g10] ∧
  Kn es s cs w ∧ k ≤ w.length ∧ (∀ i h, i < k → w[i]? = some h → KDone cs es.zipIdx h w) ∧ m = (Vs s es).length - k
theorem Kn.len {es : List St} {s : Str} {cs : List Nat} {w : List Str} (h : Kn es s cs w) : w.length ≤ 1 + 2 * es.length := by
  rw [← Vs_len s es]
  exact nodup_sub h.nd h.v
theorem KDone.ext {cs : List Nat} {P : List (St × Nat)} {h : Str} {w t : List Str} (d : KDone cs P h w) : KDone cs P h (w ++ t) := fun p hp hc =>
  ⟨fun e => List.mem_append.mpr (.inl ((d p hp hc).1 e)), fun e => List.mem_append.mpr (.inl ((d p hp hc).2 e))⟩
theorem kw_turn {T : Tab} {es : List St} {s : Str} {cs : List Nat} (hes : es.length ≤ 1000) (m : Nat) (ρ : Env) (h : KW es s cs m ρ) :
    ((CE.sem T CKw ρ).bind truD = some false) ∨ ((CE.sem T CKw ρ).bind truD = some true ∧ ∃ ρ' m', m' < m ∧ (CB.run T CKb ρ = some (.nx ρ') ∨ CB.run T CKb ρ = some (.ct ρ')) ∧ KW es s cs m' ρ') := by
  obtain ⟨w, k, g6, g7, g8, g9, g10, rfl, kn', hk, hd, rfl⟩ := h
  have hc : (CE.sem T CKw [some (.lst (es.map eS)), some (.str s), some (.tup (intsL cs)), some (.dct (kn w)), some (.lst (strsL w)), some (.int k), g6, g7, g8, g9, g10]).bind truD = some (decide (k < w.length)) := by
    have : CE.sem T CKw [some (.lst (es.map eS)), some (.str s), some (.tup (intsL cs)), some (.dct (kn w)), some (.lst (strsL w)), some (.int k), g6, g7, g8, g9, g10] = some (.bl (decide ((k : Int) < ((strsL w).length : Int)))) := cmp1 rfl rfl rfl
    rw [this]
    unfold strsL
    rw [List.length_map]
    show some (decide ((k : Int) < (w.length : Int))) = _
    congr 1
    exact decide_eq_decide.mpr Int.ofNat_lt
  rw [hc]
  by_cases hlt : k < w.length
  · refine .inr ⟨by rw [decide_eq_true hlt], ?_⟩
    obtain ⟨here, hh⟩ : ∃ h, w[k]? = some h := ⟨w[k], List.getElem?_eq_getElem hlt⟩
    have hin : here ∈ w := List.mem_of_getElem? hh
    have hix : CE.sem T (.ix (.var 4) (.var 5)) [some (.lst (es.map eS)), some (.str s), some (.tup (intsL cs)), some (.dct (kn w)), some (.lst (strsL w)), some (.int k), g6, g7, g8, g9, g10] = some (.str here) := by
      show L2.atI (strsL w) (k : Int) = _
      rw [atI_nat (by unfold strsL; rw [List.length_map]; exact hlt)]
      unfold strsL
      rw [List.getElem?_map, hh]
      rfl
    have hb := Kn.len kn'
    obtain ⟨ρ2, hfr, hI⟩ := frD_inv (t := fun x ρ => CT.bind TKin x ρ) (b := fun ρ => CB.run T CKin ρ) eI (fun w ρ => KI (.lst (es.map eS)) (.str s) cs k here w ρ ∧ Kn es s cs w ∧ here ∈ w) (kstep cs here) es.zipIdx w
      [some (.lst (es.map eS)), some (.str s), some (.tup (intsL cs)), some (.dct (kn w)), some (.lst (strsL w)), some (.int k), some (.str here), g7, g8, g9, g10]
      (fun w ρ p hp ⟨i1, i2, i3⟩ => by
        have hl : w.length < LIM := by have := Kn.len i2; unfold LIM; omega
        obtain ⟨ρ1, ρ', h1, h2, h3⟩ := kin_run (T := T) (p := p) i1 hl
        obtain ⟨k3, ⟨t, ht⟩, _⟩ := kfold [p] w (fun q hq => by obtain rfl := List.mem_singleton.mp hq; exact hp) i2 i3
        refine ⟨ρ1, ρ', h1, h2, h3, k3, ?_⟩
        have ht : kstep cs here w p = w ++ t := ht
        rw [ht]
        exact List.mem_append.mpr (.inl i3)) ⟨⟨_, _, _, _, rfl⟩, kn', hin⟩
    obtain ⟨k3, ⟨t, ht⟩, kd⟩ := kfold es.zipIdx w (fun p hp => hp) kn' hin
    generalize hw2 : es.zipIdx.foldl (kstep cs here) w = w2 at hI k3 ht kd
    obtain ⟨⟨q7, q8, q9, q10, rfl⟩, _, _⟩ := hI
    refine ⟨[some (.lst (es.map eS)), some (.str s), some (.tup (intsL cs)), some (.dct (kn w2)), some (.lst (strsL w2)), some (.int ((k + 1 : Nat) : Int)), some (.str here), q7, q8, q9, q10], (Vs s es).length - (k + 1), ?_, .inl ?_, w2, k + 1, _, _, _, _, _, rfl, k3, ?_, ?_, rfl⟩
    · have := nodup_sub kn'.nd kn'.v
      omega
    · refine run_nx (asg_of hix) (run_nx (ρ' := [some (.lst (es.map eS)), some (.str s), some (.tup (intsL cs)), some (.dct (kn w2)), some (.lst (strsL w2)), some (.int k), some (.str here), q7, q8, q9, q10]) ?_ (run_nx rfl run_nil))
      refine fr_of rfl ?_
      rw [enumD_zip]
      exact hfr
    · rw [ht, List.length_append]
      omega
    · intro i h hi he
      by_cases hik : i = k
      · subst hik
        have : w2[i]? = some here := by
          rw [ht, List.getElem?_append_left hlt]
          exact hh
        rw [this] at he
        cases he
        exact kd
      · have hlt2 : i < w.length := by omega
        rw [ht, List.getElem?_append_left hlt2] at he
        rw [ht]
        exact (hd i h (by omega) he).ext
  · exact .inl (by rw [decide_eq_false hlt])
end
end PV

set_option Elab.async false
set_option linter.all false
set_option maxRecDepth 100000
set_option maxHeartbeats 4000000
/-! M2: what parts a town; classes by the code. -/
namespace PV
open PySem LawC
/-! ### hanging together without some streets -/
def Open (es : List St) (cs : List Nat) (χ : Str → Bool) : Prop := ∀ p ∈ es.zipIdx, p.2 ∉ cs → χ p.1.1 = χ p.1.2
def Conn (V : List Str) (es : List St) (cs : List Nat) : Prop := ∀ χ, Open es cs χ → ∀ u ∈ V, ∀ v ∈ V, χ u = χ v
/-- streets of the town's places -/
structure Town (V : List Str) (es : List St) : Prop where
  nd : V.Nodup
  ends : ∀ e ∈ es, e.1 ∈ V ∧ e.2 ∈ V
  few : es.length ≤ 1000
  pl : V.length ≤ 1000
  ne : V ≠ []
noncomputable def parts (V : List Str) (es : List St) (cs : List Nat) : Bool := @decide (¬ Conn V es cs) (Classical.propDecidable _)
theorem parts_iff {V : List Str} {es : List St} {cs : List Nat} : parts V es cs = true ↔ ¬ Conn V es cs := by
  unfold parts
  exact @decide_eq_true_iff _ (Classical.propDecidable _)
theorem nodup_full {α : Type} [DecidableEq α] {w V : List α} (h : w.Nodup) (hs : ∀ x ∈ w, x ∈ V) (hl : V.length ≤ w.length) : ∀ x ∈ V, x ∈ w := fun x hx => by
  by_cases hm : x ∈ w
  · exact hm
  · have := nodup_sub (V := V.erase x) h fun y hy => (List.mem_erase_of_ne (fun z => hm (by rw [← z]; exact hy))).mpr (hs y hy)
    rw [List.length_erase_of_mem hx] at this
    have hp : 0 < V.length := List.length_pos_of_mem hx
    omega
theorem Vs_sub {V : List Str} {es : List St} (t : Town V es) {s : Str} (hs : s ∈ V) : ∀ x ∈ Vs s es, x ∈ V := fun x hx => by
  rcases List.mem_cons.mp hx with rfl | hx
  · exact hs
  · obtain ⟨e, he, hx⟩ := List.mem_flatMap.mp hx
    have := t.ends e he
    simp at hx
    rcases hx with rfl | rfl
    · exact this.1
    · exact this.2
theorem known_parts {V : List Str} {es : List St} (t : Town V es) {s : Str} (hs : s ∈ V) {cs : List Nat} {w : List Str} (k : Kn es s cs w) (cl : ∀ p ∈ es.zipIdx, p.2 ∉ cs → (p.1.1 ∈ w ↔ p.1.2 ∈ w)) : decide (w.length < V.length) = parts V es cs := by
  refine Bool.eq_iff_iff.mpr ?_
  rw [decide_eq_true_iff, parts_iff]
  constructor
  · intro hlt hc
    have hall : ∀ v ∈ V, v ∈ w := fun v hv => by
      have := hc (fun x => decide (x ∈ w)) (fun p hp hcs => decide_eq_decide.mpr (cl p hp hcs)) v hv s hs
      rw [decide_eq_true k.st] at this
      exact of_decide_eq_true this
    have := nodup_sub t.nd hall
    omega
  · intro hn
    refine Nat.lt_of_not_le fun hle => hn fun χ ho u hu v hv => ?_
    have hall := nodup_full k.nd (fun x hx => Vs_sub t hs x (k.v x hx)) hle
    rw [k.chi χ ho u (hall u hu), k.chi χ ho v (hall v hv)]
/-! ### the code's answers -/
abbrev stsL (es : List St) : List D := es.map eS
theorem len_kn (w : List Str) : (kn w).length = w.length := by unfold kn; rw [List.length_map]
theorem len_strs (w : List Str) : (strsL w).length = w.length := by unfold strsL; rw [List.length_map]
theorem head_ix {V : List Str} (h : V ≠ []) : ∃ s, s ∈ V ∧ ixD (.lst (strsL V)) (.int 0) = some (.str s) := by
  cases V with
  | nil => exact absurd rfl h
  | cons s V =>
    refine ⟨s, List.mem_cons_self, ?_⟩
    show L2.atI (strsL (s :: V)) ((0 : Nat) : Int) = _
    rw [atI_nat (by simp [strsL])]
    rfl
theorem lt_nat (a b : Nat) : decide ((a : Int) < (b : Int)) = decide (a < b) := decide_eq_decide.mpr Int.ofNat_lt
theorem rng_nat (n : Nat) (h : n ≤ 1000) : rngD 0 (n : Int) = some ((List.range n).map fun (k : Nat) => D.int (k : Int)) := by
  unfold rngD
  rw [if_pos (by omega)]
  congr 1
  rw [Int.sub_zero, Int.toNat_natCast]
  exact List.map_congr_left fun k _ => by rw [Int.zero_add]
/-! ### a town's value -/
def tw (V : List Str) (es : List St) (fs : List (Str × D)) : D := .ins 0 ((Str.ofString "_places", .tup (strsL V)) :: (Str.ofString "_streets", .tup (stsL es)) :: fs)
/-- no field of the methods' names -/
def plainF (fs : List (Str × D)) : Prop := fs.lookup (Str.ofString "places") = none ∧ fs.lookup (Str.ofString "streets") = none ∧ fs.lookup (Str.ofString "two_way") = none
theorem town_places {V : List Str} {es : List St} {fs : List (Str × D)} : s_m_town_places [tw V es fs] = some (.lst (strsL V)) := rfl
theorem town_streets {V : List Str} {es : List St} {fs : List (Str × D)} : s_m_town_streets [tw V es fs] = some (.lst (stsL es)) := rfl
theorem callM_places {T : Tab} {V : List Str} {es : List St} {fs : List (Str × D)} (pf : plainF fs) (h : T.fn[ix_m_town_places]? = some e_m_town_places) : T.callM ix_m_town_places (tw V es fs) [] = some (.lst (strsL V)) := by
  unfold Tab.callM
  rw [h]
  show (if 0 = 0 ∧ (List.lookup (Str.ofString "places") ((Str.ofString "_places", D.tup (strsL V)) :: (Str.ofString "_streets", D.tup (stsL es)) :: fs)).isNone = true then s_m_town_places [tw V es fs] else none) = _
  rw [if_pos ⟨rfl, by rw [List.lookup_cons, show (Str.ofString "places" == Str.ofString "_places") = false from by decide +kernel, List.lookup_cons, show (Str.ofString "places" == Str.ofString "_streets") = false from by decide +kernel, pf.1]; rfl⟩]
  rfl
theorem callM_streets {T : Tab} {V : List Str} {es : List St} {fs : List (Str × D)} (pf : plainF fs) (h : T.fn[ix_m_town_streets]? = some e_m_town_streets) : T.callM ix_m_town_streets (tw V es fs) [] = some (.lst (stsL es)) := by
  unfold Tab.callM
  rw [h]
  show (if 0 = 0 ∧ (List.lookup (Str.ofString "streets") ((Str.ofString "_places", D.tup (strsL V)) :: (Str.ofString "_streets", D.tup (stsL es)) :: fs)).isNone = true then s_m_town_streets [tw V es fs] else none) = _
  rw [if_pos ⟨rfl, by rw [List.lookup_cons, show (Str.ofString "streets" == Str.ofString "_places") = false from by decide +kernel, List.lookup_cons, show (Str.ofString "streets" == Str.ofString "_streets") = false from by decide +kernel, pf.2.1]; rfl⟩]
  rfl
end PV

set_option Elab.async false
set_option linter.all false
set_option maxRecDepth 100000
set_option maxHeartbeats 4000000
/-! M3: classes by the code. -/
namespace PV
open PySem LawC
/-- i and o are the same or part the town together -/
noncomputable def rl (V : List Str) (es : List St) (i o : Nat) : Bool := decide (o = i) || parts V es [i, o]
theorem eq_nat (a b : Nat) : cmpD .eq (.int a) (.int b) = some (decide (a = b)) := by
  show some ((a : Int) == (b : Int)) = _
  congr 1
  by_cases h : a = b
  · subst h; simp
  · rw [decide_eq_false h]
    exact beq_eq_false_iff_ne.mpr fun z => h (Int.ofNat.inj z)
theorem filterMap_if {α β : Type} (p : α → Bool) (f : α → β) : ∀ (xs : List α), (xs.filterMap fun x => if p x then some (f x) else none) = (xs.filter p).map f
  | [] => rfl
  | x :: xs => by
    rw [List.filterMap_cons, List.filter_cons, filterMap_if p f xs]
    cases p x <;> rfl
theorem two_way_ok {V : List Str} {es : List St} {fs : List (Str × D)} : s_m_town_two_way [tw V es fs] = some (.lst (intsL (List.range es.length))) := by
  refine sem_rt rfl (run_rt (ret_of (lc_of (xs := enumD 0 (stsL es)) rfl ?_)))
  rw [enumD_zip]
  have : intsL (List.range es.length) = es.zipIdx.filterMap fun p => some (D.int (p.2 : Int)) := by
    unfold intsL
    rw [show (fun p : St × Nat => some (D.int (p.2 : Int))) = some ∘ (fun p : St × Nat => D.int (p.2 : Int)) from rfl, List.filterMap_eq_map, List.range_eq_range', ← List.zipIdx_map_snd 0 es, List.map_map]
    rfl
  rw [this]
  exact lcD_map eI _ es.zipIdx fun p _ => rfl
theorem callM_two {T : Tab} {V : List Str} {es : List St} {fs : List (Str × D)} (pf : plainF fs) (h : T.fn[ix_m_town_two_way]? = some e_m_town_two_way) : T.callM ix_m_town_two_way (tw V es fs) [] = some (.lst (intsL (List.range es.length))) := by
  unfold Tab.callM
  rw [h]
  show (if 0 = 0 ∧ (List.lookup (Str.ofString "two_way") ((Str.ofString "_places", D.tup (strsL V)) :: (Str.ofString "_streets", D.tup (stsL es)) :: fs)).isNone = true then s_m_town_two_way [tw V es fs] else none) = _
  rw [if_pos ⟨rfl, by rw [List.lookup_cons, show (Str.ofString "two_way" == Str.ofString "_places") = false from by decide +kernel, List.lookup_cons, show (Str.ofString "two_way" == Str.ofString "_streets") = false from by decide +kernel, pf.2.2]; rfl⟩]
  exact two_way_ok
/-- a good town, by its value -/
structure GoodT (V : List Str) (es : List St) (fs : List (Str × D)) : Prop where
  t : Town V es
  pf : plainF fs
  h0 : Conn V es []
  h1 : ∀ k, Conn V es [k]
section
variable {V : List Str} {es : List St} {fs : List (Str × D)}
theorem len_sts : (stsL es).length = es.length := List.length_map ..
theorem len_ints (l : List Nat) : (intsL l).length = l.length := by unfold intsL; rw [List.length_map]
theorem lstr_of {T : Tab} {ρ : Env} {e : CE} {n : Nat} (h : CE.sem T e ρ = some (.int n)) (hn : n ≤ 1000) : CE.sem T (.lstr (.rng1 e)) ρ = some (.lst (intsL (List.range n))) := by
  show ((CE.sem T e ρ).bind _).map D.lst = _
  rw [h]
  show (rngD 0 (n : Int)).map D.lst = _
  rw [rng_nat n hn]
  rfl
end
end PV

set_option Elab.async false
set_option linter.all false
set_option maxRecDepth 100000
set_option maxHeartbeats 4000000
/-! M4: to part the town together is an equivalence; the classes; class_list. -/
namespace PV
open PySem LawC
section
variable {V : List Str} {es : List St}
theorem not_conn {cs : List Nat} (h : ¬ Conn V es cs) : ∃ χ, Open es cs χ ∧ ∃ u ∈ V, ∃ v ∈ V, χ u ≠ χ v := by
  refine Classical.byContradiction fun hn => h fun χ ho u hu v hv => ?_
  refine Classical.byContradiction fun hne => hn ⟨χ, ho, u, hu, v, hv, hne⟩
theorem crosses {χ : Str → Bool} {i j : Nat} (h1 : Conn V es [j]) (ho : Open es [i, j] χ) {u v : Str} (hu : u ∈ V) (hv : v ∈ V) (hne : χ u ≠ χ v) : ∃ p ∈ es.zipIdx, p.2 = i ∧ χ p.1.1 ≠ χ p.1.2 := by
  refine Classical.byContradiction fun hn => hne (h1 χ (fun p hp hc => ?_) u hu v hv)
  by_cases hi : p.2 = i
  · exact Classical.byContradiction fun hx => hn ⟨p, hp, hi, hx⟩
  · refine ho p hp fun hm => ?_
    rcases List.mem_cons.mp hm with h | h
    · exact hi h
    · exact hc h
theorem idx_uniq {p q : St × Nat} (hp : p ∈ es.zipIdx) (hq : q ∈ es.zipIdx) (h : p.2 = q.2) : p = q := by
  obtain ⟨_, _, e1⟩ := List.mem_zipIdx hp
  obtain ⟨_, _, e2⟩ := List.mem_zipIdx hq
  refine Prod.ext ?_ h
  rw [e1, e2]
  simp only [h]
theorem parts_symm (i j : Nat) : parts V es [i, j] = parts V es [j, i] := by
  have : ∀ i j, Conn V es [i, j] → Conn V es [j, i] := fun i j h χ ho => h χ fun p hp hc => ho p hp fun hm => hc (by
    rcases List.mem_cons.mp hm with h | h
    · rw [h]; simp
    · rw [List.mem_singleton.mp h]; simp)
  refine Bool.eq_iff_iff.mpr ?_
  rw [parts_iff, parts_iff]
  exact ⟨fun h z => h (this j i z), fun h z => h (this i j z)⟩
theorem parts_trans (t : Town V es) (h1 : ∀ k, Conn V es [k]) {i j k : Nat} (hij : i ≠ j) (hjk : j ≠ k) (hik : i ≠ k) (a : parts V es [i, j] = true) (b : parts V es [j, k] = true) : parts V es [i, k] = true := by
  obtain ⟨χ1, o1, u1, hu1, v1, hv1, n1⟩ := not_conn (parts_iff.mp a)
  obtain ⟨χ2, o2, u2, hu2, v2, hv2, n2⟩ := not_conn (parts_iff.mp b)
  obtain ⟨p, hp, pi, px⟩ := crosses (h1 j) o1 hu1 hv1 n1
  have o1' : Open es [j, i] χ1 := fun q hq hc => o1 q hq fun hm => hc (by
    rcases List.mem_cons.mp hm with h | h
    · rw [h]; simp
    · rw [List.mem_singleton.mp h]; simp)
  obtain ⟨q, hq, qj, qx⟩ := crosses (h1 i) o1' hu1 hv1 n1
  obtain ⟨r, hr, rj, rx⟩ := crosses (h1 k) o2 hu2 hv2 n2
  have qr : q = r := idx_uniq hq hr (qj.trans rj.symm)
  subst qr
  rw [parts_iff]
  intro hc
  have ox : Open es [i, k] (fun x => χ1 x != χ2 x) := fun s hs hn => by
    by_cases hj : s.2 = j
    · have : s = q := idx_uniq hs hq (hj.trans qj.symm)
      subst this
      show (χ1 s.1.1 != χ2 s.1.1) = (χ1 s.1.2 != χ2 s.1.2)
      revert qx rx
      cases χ1 s.1.1 <;> cases χ1 s.1.2 <;> cases χ2 s.1.1 <;> cases χ2 s.1.2 <;> simp
    · have e1 := o1 s hs fun hm => by
        rcases List.mem_cons.mp hm with h | h
        · exact hn (by rw [h]; simp)
        · exact hj (List.mem_singleton.mp h)
      have e2 := o2 s hs fun hm => by
        rcases List.mem_cons.mp hm with h | h
        · exact hj h
        · exact hn (by rw [List.mem_singleton.mp h]; simp)
      show (χ1 s.1.1 != χ2 s.1.1) = (χ1 s.1.2 != χ2 s.1.2)
      rw [e1, e2]
  have e2 := o2 p hp fun hm => by
    rcases List.mem_cons.mp hm with h | h
    · exact hij (pi.symm.trans h)
    · exact hik (pi.symm.trans (List.mem_singleton.mp h))
  have pe : p.1 ∈ es := by
    obtain ⟨_, h2, e⟩ := List.mem_zipIdx hp
    rw [e]
    exact List.getElem_mem _
  obtain ⟨m1, m2⟩ := t.ends _ pe
  have := hc _ ox _ m1 _ m2
  have this : (χ1 p.1.1 != χ2 p.1.1) = (χ1 p.1.2 != χ2 p.1.2) := this
  rw [e2] at this
  revert px this
  cases χ1 p.1.1 <;> cases χ1 p.1.2 <;> cases χ2 p.1.2 <;> simp
/-- an equivalence of numbers -/
structure Eqv (R : Nat → Nat → Bool) : Prop where
  refl : ∀ i, R i i = true
  symm : ∀ i j, R i j = true → R j i = true
  trans : ∀ i j k, R i j = true → R j k = true → R i k = true
theorem rl_eqv (t : Town V es) (h1 : ∀ k, Conn V es [k]) : Eqv (rl V es) := by
  have un : ∀ i j, rl V es i j = true ↔ j = i ∨ parts V es [i, j] = true := fun i j => by unfold rl; simp
  refine ⟨fun i => (un i i).mpr (.inl rfl), fun i j h => ?_, fun i j k a b => ?_⟩
  · rcases (un i j).mp h with h | h
    · exact (un j i).mpr (.inl h.symm)
    · exact (un j i).mpr (.inr (by rw [parts_symm]; exact h))
  · rcases (un i j).mp a with rfl | a
    · exact b
    · rcases (un j k).mp b with rfl | b
      · exact (un i k).mpr (.inr a)
      · by_cases hik : i = k
        · exact (un i k).mpr (.inl hik.symm)
        · by_cases hij : i = j
          · subst hij; exact (un i k).mpr (.inr b)
          · by_cases hjk : j = k
            · subst hjk; exact (un i j).mpr (.inr a)
            · exact (un i k).mpr (.inr (parts_trans t h1 hij hjk hik a b))
end
/-! ### the classes -/
def cls (R : Nat → Nat → Bool) (n i : Nat) : List Nat := (List.range n).filter (R i)
/-- no smaller one in its class -/
def rep (R : Nat → Nat → Bool) (i : Nat) : Bool := (List.range i).all fun k => !R k i
def reps (R : Nat → Nat → Bool) (b : Nat) : List Nat := (List.range b).filter (rep R)
def classesOf (R : Nat → Nat → Bool) (n : Nat) : List (List Nat) := (reps R n).map (cls R n)
/-- the streets that are in no class of one below b -/
def leftOf (R : Nat → Nat → Bool) (n b : Nat) : List Nat := (List.range n).filter fun j => (List.range b).all fun k => !R k j
section
variable {R : Nat → Nat → Bool} (E : Eqv R) {n b i : Nat}
theorem all_not {l : List Nat} {j : Nat} : (l.all fun k => !R k j) = true ↔ ∀ k ∈ l, R k j = false := by
  rw [List.all_eq_true]
  exact ⟨fun h k hk => by simpa using h k hk, fun h k hk => by simpa using h k hk⟩
theorem mem_left {j : Nat} : j ∈ leftOf R n b ↔ j < n ∧ ∀ k, k < b → R k j = false := by
  unfold leftOf
  rw [List.mem_filter, List.mem_range, all_not]
  exact ⟨fun ⟨h1, h2⟩ => ⟨h1, fun k hk => h2 k (List.mem_range.mpr hk)⟩, fun ⟨h1, h2⟩ => ⟨h1, fun k hk => h2 k (List.mem_range.mp hk)⟩⟩
theorem rep_iff {i : Nat} : rep R i = true ↔ ∀ k, k < i → R k i = false := by
  unfold rep
  rw [all_not]
  exact ⟨fun h k hk => h k (List.mem_range.mpr hk), fun h k hk => h k (List.mem_range.mp hk)⟩
theorem sorted_filter (p : Nat → Bool) (n : Nat) : ((List.range n).filter p).Pairwise (· < ·) := List.Pairwise.filter _ List.pairwise_lt_range
include E in
/-- the first left one -/
theorem left_head {r : List Nat} (h : leftOf R n b = i :: r) : i < n ∧ (∀ k, k < b → R k i = false) ∧ b ≤ i ∧ ∀ k, k < i → k < n → ∃ q, q < b ∧ R q k = true := by
  have hm : i ∈ leftOf R n b := by rw [h]; exact List.mem_cons_self
  obtain ⟨h1, h2⟩ := mem_left.mp hm
  have hs : (leftOf R n b).Pairwise (· < ·) := sorted_filter _ n
  rw [h] at hs
  have hmin : ∀ k ∈ leftOf R n b, i ≤ k := fun k hk => by
    rw [h] at hk
    rcases List.mem_cons.mp hk with rfl | hk
    · exact Nat.le_refl _
    · exact Nat.le_of_lt ((List.pairwise_cons.mp hs).1 k hk)
  refine ⟨h1, h2, Nat.le_of_not_lt fun hlt => ?_, fun k hk hkn => ?_⟩
  · have := h2 i hlt
    rw [E.refl] at this
    cases this
  · refine Classical.byContradiction fun hn => ?_
    have : k ∈ leftOf R n b := mem_left.mpr ⟨hkn, fun q hq => by
      cases hR : R q k with
      | false => rfl
      | true => exact absurd ⟨q, hq, hR⟩ hn⟩
    have := hmin k this
    omega
theorem left_nil (h : leftOf R n b = []) (hb : b ≤ n) : reps R n = reps R b := by
  have key : ∀ d, b + d ≤ n → reps R (b + d) = reps R b := fun d => by
    induction d with
    | zero => exact fun _ => rfl
    | succ d ih =>
      intro hd
      have : reps R (b + (d + 1)) = reps R (b + d) := by
        unfold reps
        rw [← Nat.add_assoc, List.range_succ, List.filter_append]
        have : rep R (b + d) = false := by
          cases hr : rep R (b + d) with
          | false => rfl
          | true =>
            have h2 := rep_iff.mp hr
            have : b + d ∈ leftOf R n b := mem_left.mpr ⟨by omega, fun k hk => h2 k (by omega)⟩
            rw [h] at this
            cases this
        simp [this]
      rw [this]
      exact ih (by omega)
  have := key (n - b) (by omega)
  rwa [show b + (n - b) = n by omega] at this
include E in
theorem step_reps {r : List Nat} (h : leftOf R n b = i :: r) : reps R (i + 1) = reps R b ++ [i] := by
  obtain ⟨h1, h2, h3, h4⟩ := left_head E h
  have key : ∀ d, b + d ≤ i → reps R (b + d) = reps R b := fun d => by
    induction d with
    | zero => exact fun _ => rfl
    | succ d ih =>
      intro hd
      have : reps R (b + (d + 1)) = reps R (b + d) := by
        unfold reps
        rw [← Nat.add_assoc, List.range_succ, List.filter_append]
        have : rep R (b + d) = false := by
          cases hr : rep R (b + d) with
          | false => rfl
          | true =>
            have h5 := rep_iff.mp hr
            obtain ⟨q, hq, hR⟩ := h4 (b + d) (by omega) (by omega)
            rw [h5 q (by omega)] at hR
            cases hR
        simp [this]
      rw [this]
      exact ih (by omega)
  have e := key (i - b) (by omega)
  rw [show b + (i - b) = i by omega] at e
  have hi : rep R i = true := rep_iff.mpr fun k hk => by
    by_cases hkb : k < b
    · exact h2 k hkb
    · obtain ⟨q, hq, hR⟩ := h4 k hk (by omega)
      cases hR2 : R k i with
      | false => rfl
      | true =>
        have := E.trans q k i hR hR2
        rw [h2 q hq] at this
        cases this
  unfold reps at e ⊢
  rw [List.range_succ, List.filter_append, e]
  simp [hi]
include E in
theorem step_cls {r : List Nat} (h : leftOf R n b = i :: r) : (leftOf R n b).filter (R i) = cls R n i := by
  obtain ⟨h1, h2, h3, h4⟩ := left_head E h
  unfold leftOf cls
  rw [List.filter_filter]
  refine List.filter_congr fun j hj => ?_
  cases hR : R i j with
  | false => rfl
  | true =>
    rw [Bool.true_and]
    refine all_not.mpr fun k hk => ?_
    cases hk2 : R k j with
    | false => rfl
    | true =>
      have := E.trans k j i hk2 (E.symm i j hR)
      rw [h2 k (List.mem_range.mp hk)] at this
      cases this
include E in
theorem step_left {r : List Nat} (h : leftOf R n b = i :: r) : (leftOf R n b).filter (fun j => !decide (j ∈ cls R n i)) = leftOf R n (i + 1) := by
  obtain ⟨h1, h2, h3, h4⟩ := left_head E h
  unfold leftOf
  rw [List.filter_filter]
  refine List.filter_congr fun j hj => ?_
  have hjn := List.mem_range.mp hj
  have hcm : decide (j ∈ cls R n i) = R i j := by
    unfold cls
    cases hR : R i j with
    | false =>
      refine decide_eq_false fun hm => ?_
      have h9 := (List.mem_filter.mp hm).2
      rw [hR] at h9
      cases h9
    | true => exact decide_eq_true (List.mem_filter.mpr ⟨hj, hR⟩)
  rw [hcm]
  refine Bool.eq_iff_iff.mpr ?_
  rw [Bool.and_eq_true_iff, all_not, all_not]
  constructor
  · intro ⟨a1, a2⟩ k hk
    have hk := List.mem_range.mp hk
    by_cases hkb : k < b
    · exact a2 k (List.mem_range.mpr hkb)
    · by_cases hki : k = i
      · subst hki; simpa using a1
      · obtain ⟨q, hq, hR⟩ := h4 k (by omega) (by omega)
        cases hR2 : R k j with
        | false => rfl
        | true =>
          have := E.trans q k j hR hR2
          rw [a2 q (List.mem_range.mpr hq)] at this
          cases this
  · intro a
    refine ⟨by rw [a i (List.mem_range.mpr (by omega))]; rfl, fun k hk => a k (List.mem_range.mpr (by have := List.mem_range.mp hk; omega))⟩
end
end PV

set_option Elab.async false
set_option linter.all false
set_option maxRecDepth 100000
set_option maxHeartbeats 4000000
/-! M5: class_list. -/
namespace PV
open PySem LawC
def lstsL (cs : List (List Nat)) : List D := cs.map fun c => D.lst (intsL c)
theorem any_ints (x : Nat) (w : List Nat) : ((intsL w).any fun y => D.eqv y (.int x)) = decide (x ∈ w) := by
  unfold intsL
  rw [List.any_map]
  induction w with
  | nil => rfl
  | cons a l ih =>
    rw [List.any_cons, ih]
    show (((a : Int) == (x : Int)) || decide (x ∈ l)) = decide (x ∈ a :: l)
    by_cases h : a = x
    · simp [h]
    · rw [show ((a : Int) == (x : Int)) = false from beq_eq_false_iff_ne.mpr fun z => h (Int.ofNat.inj z)]
      simp [show ¬ x = a from fun z => h z.symm]
theorem in_lst_ints (x : Nat) (w : List Nat) : cmpD .in_ (.int x) (.lst (intsL w)) = some (decide (x ∈ w)) := by
  show (if ((D.int x).flat && (intsL w).all D.flat) || ((D.int x).okEq && (D.lst (intsL w)).okEq) then some ((intsL w).any fun y => D.eqv y (.int x)) else none) = _
  rw [if_pos (by rw [flat_ints]; rfl), any_ints]
theorem nin_lst_ints (x : Nat) (w : List Nat) : cmpD .nin (.int x) (.lst (intsL w)) = some (!decide (x ∈ w)) := by
  show (inB (.int x) (.lst (intsL w))).map (!·) = _
  rw [show inB (.int x) (.lst (intsL w)) = some (decide (x ∈ w)) from in_lst_ints x w]
  rfl
theorem tests1 {T : Tab} {ρ : Env} {c : CE} {k : Bool} (h : CE.sem T c ρ = some (.bl k)) : CEs.tests T (.cons c .nil) ρ = some k := by
  unfold CEs.tests
  rw [h]
  cases k <;> rfl
/-- a comprehension's turn: kept if the test holds -/
theorem lc_if {α : Type} {T : Tab} {own : List (Str × Nat)} {t : CT} {c elt : CE} {ρ : Env} (e : α → D) (p : α → Bool) (g : α → D) (xs : List α)
    (h : ∀ x ∈ xs, ∃ ρ', CT.bind t (e x) (wipeD ρ (own.map (·.2))) = some ρ' ∧ CE.sem T c ρ' = some (.bl (p x)) ∧ (p x = true → CE.sem T elt ρ' = some (g x))) :
    lcD (fun x => (CT.bind t x (wipeD ρ (own.map (·.2)))).bind fun ρ' => (CEs.tests T (.cons c .nil) ρ').bind fun b => if b then (CE.sem T elt ρ').map some else some none) (xs.map e) = some ((xs.filter p).map g) := by
  rw [← filterMap_if]
  refine lcD_map e _ xs fun x hx => ?_
  obtain ⟨ρ', h1, h2, h3⟩ := h x hx
  rw [h1, Option.bind_some, tests1 h2, Option.bind_some]
  cases hp : p x with
  | false => rfl
  | true => rw [if_pos rfl, if_pos rfl, h3 hp]; rfl
/-- all kept -/
theorem lc_all {α : Type} {T : Tab} {own : List (Str × Nat)} {t : CT} {elt : CE} {ρ : Env} (e : α → D) (g : α → D) (xs : List α)
    (h : ∀ x ∈ xs, ∃ ρ', CT.bind t (e x) (wipeD ρ (own.map (·.2))) = some ρ' ∧ CE.sem T elt ρ' = some (g x)) :
    lcD (fun x => (CT.bind t x (wipeD ρ (own.map (·.2)))).bind fun ρ' => (CEs.tests T .nil ρ').bind fun b => if b then (CE.sem T elt ρ').map some else some none) (xs.map e) = some (xs.map g) := by
  have := lcD_map (f := fun x => (CT.bind t x (wipeD ρ (own.map (·.2)))).bind fun ρ' => (CEs.tests T .nil ρ').bind fun b => if b then (CE.sem T elt ρ').map some else some none) e (fun x => some (g x)) xs fun x hx => by
    obtain ⟨ρ', h1, h2⟩ := h x hx
    rw [h1, Option.bind_some]
    show (if true = true then (CE.sem T elt ρ').map some else some none) = _
    rw [if_pos rfl, h2]
    rfl
  rw [this]
  rw [show (fun x => some (g x)) = some ∘ g from rfl, List.filterMap_eq_map]
section
variable {V : List Str} {es : List St} {fs : List (Str × D)}
end
end PV

set_option Elab.async false
set_option linter.all false
set_option maxRecDepth 100000
set_option maxHeartbeats 4000000
/-! M6: the law's own going everywhere. -/
namespace PV
open PySem LawC
abbrev Dr := Nat × Str × Str
def dD (d : Dr) : D := .tup [.int d.1, .str d.2.1, .str d.2.2]
def dr (es : List St) (k : Nat) : List Dr := match es[k]? with
  | some e => [(k, e.1, e.2), (k, e.2, e.1)]
  | none => []
def drs (es : List St) : List Dr := (List.range es.length).flatMap (dr es)
theorem foldl_flat {α β : Type} (g : α → List β) : ∀ (xs : List α) (acc : List β), xs.foldl (fun acc x => acc ++ g x) acc = acc ++ xs.flatMap g
  | [], acc => by simp
  | x :: xs, acc => by rw [List.foldl_cons, foldl_flat g xs, List.flatMap_cons, List.append_assoc]
theorem mem_drs {es : List St} {d : Dr} : d ∈ drs es ↔ ∃ k e, es[k]? = some e ∧ (d = (k, e.1, e.2) ∨ d = (k, e.2, e.1)) := by
  unfold drs
  rw [List.mem_flatMap]
  constructor
  · rintro ⟨k, hk, hd⟩
    unfold dr at hd
    cases h : es[k]? with
    | none => rw [h] at hd; cases hd
    | some e =>
      rw [h] at hd
      refine ⟨k, e, h, ?_⟩
      simpa using hd
  · rintro ⟨k, e, h, hd⟩
    refine ⟨k, List.mem_range.mpr (List.getElem?_eq_some_iff.mp h).1, ?_⟩
    unfold dr
    rw [h]
    simpa using hd
theorem len_drs (es : List St) : (drs es).length ≤ 2 * es.length := by
  unfold drs
  have : ∀ (l : List Nat), (l.flatMap (dr es)).length ≤ 2 * l.length := fun l => by
    induction l with
    | nil => exact Nat.le_refl _
    | cons k l ih =>
      rw [List.flatMap_cons, List.length_append, List.length_cons]
      have : (dr es k).length ≤ 2 := by
        unfold dr
        cases es[k]? <;> simp
      omega
  have := this (List.range es.length)
  rwa [List.length_range] at this
theorem flat_len {es : List St} : ∀ (l : List Nat), (l.flatMap (dr es)).length ≤ 2 * l.length
  | [] => Nat.le_refl _
  | k :: l => by
    have ih := flat_len (es := es) l
    rw [List.flatMap_cons, List.length_append, List.length_cons]
    have : (dr es k).length ≤ 2 := by
      unfold dr
      cases es[k]? <;> simp
    omega
theorem st_ix {es : List St} {k : Nat} {e : St} (h : es[k]? = some e) : ixD (.lst (stsL es)) (.int k) = some (eS e) := by
  have hlt := (List.getElem?_eq_some_iff.mp h).1
  show L2.atI (stsL es) (k : Int) = _
  rw [atI_nat (by rw [len_sts]; exact hlt), List.getElem?_map, h]
  rfl
abbrev LDb : CB := (.cons (.asg (.tp (.cons (.nm 3) (.cons (.nm 4) (.cons (.nm 5) .nil)))) (.ix (.var 0) (.var 2))) (.cons (.app 1 (.tup (.cons (.var 2) (.cons (.var 3) (.cons (.var 4) .nil))))) (.cons (.ife (.cmp .eq (.var 5) (.cD (.str (Str.ofString "two")))) (.cons (.app 1 (.tup (.cons (.var 2) (.cons (.var 4) (.cons (.var 3) .nil))))) .nil) .nil) .nil)))
theorem asgT_of {T : Tab} {c : CE} {ρ ρ' : Env} {d : D} {ts : CTs} (hc : CE.sem T c ρ = some d) (hb : CT.bind (.tp ts) d ρ = some ρ') : CS.run T (.asg (.tp ts) c) ρ = some (.nx ρ') := by
  unfold CS.run
  rw [hc, Option.bind_some, hb]
  rfl
theorem drives_ok {es : List St} (hes : es.length ≤ 1000) : s_f_law_drives [.lst (stsL es)] = some (.lst ((drs es).map dD)) := by
  obtain ⟨ρ', h1, g2, g3, g4, g5, rfl⟩ := frD_pre (t := fun x ρ => CT.bind (.nm 2) x ρ) (b := fun ρ => CB.run T_56 LDb ρ) (fun (k : Nat) => D.int (k : Int))
    (fun (ys : List Nat) ρ => ∃ g2 g3 g4 g5, ρ = [some (.lst (stsL es)), some (.lst ((ys.flatMap (dr es)).map dD)), g2, g3, g4, g5]) (List.range es.length) [] [some (.lst (stsL es)), some (.lst []), none, none, none, none]
    (fun ys k zs ρ e ⟨g2, g3, g4, g5, eρ⟩ => by
      subst eρ
      rw [List.nil_append] at e
      have hk : k < es.length := List.mem_range.mp (by rw [e]; simp)
      have hy : ys.length ≤ 1000 := by
        have := congrArg List.length e
        rw [List.length_range, List.length_append] at this
        omega
      have hfl := flat_len (es := es) ys
      obtain ⟨x, hx⟩ : ∃ x, es[k]? = some x := ⟨es[k], List.getElem?_eq_getElem hk⟩
      have hdr : dr es k = [(k, x.1, x.2), (k, x.2, x.1)] := by unfold dr; rw [hx]
      refine ⟨[some (.lst (stsL es)), some (.lst ((ys.flatMap (dr es)).map dD)), some (.int k), g3, g4, g5], [some (.lst (stsL es)), some (.lst (((ys ++ [k]).flatMap (dr es)).map dD)), some (.int k), some (.str x.1), some (.str x.2), some (.str two)], rfl, .inl ?_, _, _, _, _, rfl⟩
      refine run_nx (asgT_of (ix_of rfl rfl (st_ix hx)) rfl) (run_nx (app_of rfl rfl (by rw [List.length_map]; unfold LIM; omega)) (run_nx (ife_bl rfl (show (if true = true then _ else _) = _ from run_nx (app_of rfl rfl (by rw [List.length_append, List.length_map]; unfold LIM; show _ + 1 < _; omega)) run_nil)) ?_))
      refine (run_nil).trans ?_
      rw [List.flatMap_append, List.flatMap_cons, List.flatMap_nil, List.append_nil, hdr, List.map_append]
      show some (O.nx [_, some (.lst ((((ys.flatMap (dr es)).map dD) ++ [dD (k, x.1, x.2)]) ++ [dD (k, x.2, x.1)])), _, _, _, _]) = _
      rw [List.append_assoc]
      rfl) ⟨_, _, _, _, rfl⟩
  refine sem_rt rfl (run_nx rfl (run_nx (fr_of (xs := (List.range es.length).map fun (k : Nat) => D.int (k : Int)) ?_ h1) (run_rt rfl)))
  show rngD 0 ((stsL es).length : Int) = _
  rw [len_sts]
  exact rng_nat _ hes
/-! ### _law_reached -/
def rstep (here : Str) (w : List Str) (d : Dr) : List Str := if d.2.1 = here ∧ d.2.2 ∉ w then w ++ [d.2.2] else w
structure Rn (ds : List Dr) (V : List Str) (s : Str) (w : List Str) : Prop where
  nd : w.Nodup
  st : s ∈ w
  v : ∀ x ∈ w, x ∈ V
  chi : ∀ χ : Str → Bool, (∀ d ∈ ds, χ d.2.1 = χ d.2.2) → ∀ x ∈ w, χ x = χ s
theorem nodup_snoc {w : List Str} {b : Str} (h : w.Nodup) (hb : b ∉ w) : (w ++ [b]).Nodup := List.nodup_append.mpr ⟨h, by simp, fun a ha c hc => by
  obtain rfl := List.mem_singleton.mp hc
  exact fun z => hb (by rw [← z]; exact ha)⟩
theorem rstep_ok {ds : List Dr} {V w : List Str} {s here : Str} {d : Dr} (hd : d ∈ ds) (hV : ∀ d ∈ ds, d.2.2 ∈ V) (k : Rn ds V s w) (hh : here ∈ w) : Rn ds V s (rstep here w d) ∧ (∃ t, rstep here w d = w ++ t) ∧ (d.2.1 = here → d.2.2 ∈ rstep here w d) := by
  unfold rstep
  by_cases h : d.2.1 = here ∧ d.2.2 ∉ w
  · rw [if_pos h]
    refine ⟨⟨nodup_snoc k.nd h.2, List.mem_append.mpr (.inl k.st), fun x hx => ?_, fun χ hχ x hx => ?_⟩, ⟨_, rfl⟩, fun _ => by simp⟩
    · rcases List.mem_append.mp hx with hx | hx
      · exact k.v x hx
      · obtain rfl := List.mem_singleton.mp hx; exact hV d hd
    · rcases List.mem_append.mp hx with hx | hx
      · exact k.chi χ hχ x hx
      · obtain rfl := List.mem_singleton.mp hx
        rw [← hχ d hd, h.1]
        exact k.chi χ hχ _ hh
  · rw [if_neg h]
    refine ⟨k, ⟨[], (List.append_nil _).symm⟩, fun e => ?_⟩
    by_cases m : d.2.2 ∈ w
    · exact m
    · exact absurd ⟨e, m⟩ h
def RDone (P : List Dr) (here : Str) (w : List Str) : Prop := ∀ d ∈ P, d.2.1 = here → d.2.2 ∈ w
theorem rfold {ds : List Dr} {V : List Str} {s here : Str} (hV : ∀ d ∈ ds, d.2.2 ∈ V) : ∀ (P : List Dr) (w : List Str), (∀ d ∈ P, d ∈ ds) → Rn ds V s w → here ∈ w → Rn ds V s (P.foldl (rstep here) w) ∧ (∃ t, P.foldl (rstep here) w = w ++ t) ∧ RDone P here (P.foldl (rstep here) w)
  | [], w, _, k, _ => ⟨k, ⟨[], (List.append_nil _).symm⟩, fun p hp => by cases hp⟩
  | d :: P, w, hP, k, hh => by
    obtain ⟨k2, ⟨t, ht⟩, h3⟩ := rstep_ok (hP d List.mem_cons_self) hV k hh
    have hh2 : here ∈ rstep here w d := by rw [ht]; exact List.mem_append.mpr (.inl hh)
    obtain ⟨k3, ⟨u, hu⟩, kd⟩ := rfold hV P (rstep here w d) (fun q hq => hP q (List.mem_cons_of_mem _ hq)) k2 hh2
    refine ⟨k3, ⟨t ++ u, by rw [List.foldl_cons, hu, ht, List.append_assoc]⟩, fun q hq hc => ?_⟩
    rcases List.mem_cons.mp hq with rfl | hq
    · rw [List.foldl_cons, hu]
      exact List.mem_append.mpr (.inl (h3 hc))
    · exact kd q hq hc
abbrev LRb : CB := (.cons (.fr (.tp (.cons (.nm 4) (.cons (.nm 5) (.cons (.nm 6) .nil)))) (.seq (.var 0)) (.cons (.ife (.bop true (.cons (.cmp .eq (.var 5) (.ix (.var 2) (.var 3))) (.cons (.cmp .nin (.var 6) (.var 2)) .nil))) (.cons (.app 2 (.var 6)) .nil) .nil) .nil)) (.cons (.asg (.nm 3) (.bin .add (.var 3) (.cD (.int (1))))) .nil))
abbrev LRi : CB := (.cons (.ife (.bop true (.cons (.cmp .eq (.var 5) (.ix (.var 2) (.var 3))) (.cons (.cmp .nin (.var 6) (.var 2)) .nil))) (.cons (.app 2 (.var 6)) .nil) .nil) .nil)
abbrev LRc : CE := .cmp .lt (.var 3) (.bi .len (.cons (.var 2) .nil))
def RI (ds : List Dr) (p : Str) (k : Nat) (w : List Str) (ρ : Env) : Prop := ∃ g4 g5 g6, ρ = [some (.lst (ds.map dD)), some (.str p), some (.lst (strsL w)), some (.int k), g4, g5, g6]
theorem str_ix {w : List Str} {k : Nat} {h : Str} (e : w[k]? = some h) : ixD (.lst (strsL w)) (.int k) = some (.str h) := by
  have hlt := (List.getElem?_eq_some_iff.mp e).1
  show L2.atI (strsL w) (k : Int) = _
  rw [atI_nat (by rw [len_strs]; exact hlt)]
  unfold strsL
  rw [List.getElem?_map, e]
  rfl
theorem rin_run {T : Tab} {ds : List Dr} {p here : Str} {k : Nat} {w : List Str} {d : Dr} {ρ : Env} (h : RI ds p k w ρ) (hh : w[k]? = some here) (hl : w.length < LIM) :
    ∃ ρ1 ρ', CT.bind (.tp (.cons (.nm 4) (.cons (.nm 5) (.cons (.nm 6) .nil)))) (dD d) ρ = some ρ1 ∧ (CB.run T LRi ρ1 = some (.nx ρ') ∨ CB.run T LRi ρ1 = some (.ct ρ')) ∧ RI ds p k (rstep here w d) ρ' := by
  obtain ⟨g4, g5, g6, rfl⟩ := h
  have hc : CE.sem T (.bop true (.cons (.cmp .eq (.var 5) (.ix (.var 2) (.var 3))) (.cons (.cmp .nin (.var 6) (.var 2)) .nil))) [some (.lst (ds.map dD)), some (.str p), some (.lst (strsL w)), some (.int k), some (.int d.1), some (.str d.2.1), some (.str d.2.2)] = some (.bl (decide (d.2.1 = here) && !decide (d.2.2 ∈ w))) :=
    and2 (cmp1 rfl (ix_of rfl rfl (str_ix hh)) (eq_strs _ _)) fun _ => cmp1 rfl rfl (nin_lst_strs _ _)
  refine ⟨[some (.lst (ds.map dD)), some (.str p), some (.lst (strsL w)), some (.int k), some (.int d.1), some (.str d.2.1), some (.str d.2.2)], [some (.lst (ds.map dD)), some (.str p), some (.lst (strsL (rstep here w d))), some (.int k), some (.int d.1), some (.str d.2.1), some (.str d.2.2)], rfl, .inl (run_nx (ife_bl hc ?_) run_nil), _, _, _, rfl⟩
  unfold rstep
  by_cases h : d.2.1 = here ∧ d.2.2 ∉ w
  · rw [if_pos (by simpa using h), if_pos h]
    refine run_nx (app_of rfl rfl (by rw [len_strs]; exact hl)) ?_
    show some _ = some _
    unfold strsL
    rw [List.map_append]
    rfl
  · rw [if_neg (by simpa using h), if_neg h]
    rfl
theorem strsD_strs : ∀ (w : List Str), strsD (strsL w) = some w
  | [] => rfl
  | a :: w => by
    show (strsD (strsL w)).map (a :: ·) = _
    rw [strsD_strs w]
    rfl
theorem sortD_strs {w : List Str} (h : w.length < 64) : sortD (strsL w) = some (strsL (sortS leStr w)) := by
  cases w with
  | nil => rfl
  | cons a w =>
    unfold sortD
    rw [show intsD (strsL (a :: w)) = none from rfl, strsD_strs]
    show (if (a :: w).length < 64 then some ((sortS leStr (a :: w)).map D.str) else none) = _
    rw [if_pos h]
    rfl
theorem reached_ok {ds : List Dr} {V : List Str} {s : Str} (hs : s ∈ V) (hV : ∀ d ∈ ds, d.2.2 ∈ V) (hv : V.length ≤ 63) : ∃ w, s_f_law_reached [.lst (ds.map dD), .str s] = some (.lst (strsL (sortS leStr w))) ∧ Rn ds V s w ∧ ∀ d ∈ ds, d.2.1 ∈ w → d.2.2 ∈ w := by
  have k0 : Rn ds V s [s] := ⟨by simp, by simp, fun x hx => by obtain rfl := List.mem_singleton.mp hx; exact hs, fun χ _ x hx => by obtain rfl := List.mem_singleton.mp hx; rfl⟩
  have lenW : ∀ {w}, Rn ds V s w → w.length ≤ 63 := fun k => Nat.le_trans (nodup_sub k.nd k.v) hv
  have cond : ∀ (w : List Str) (k : Nat) (g4 g5 g6 : Option D), (CE.sem T_57 LRc [some (.lst (ds.map dD)), some (.str s), some (.lst (strsL w)), some (.int k), g4, g5, g6]).bind truD = some (decide (k < w.length)) := fun w k g4 g5 g6 => by
    rw [show CE.sem T_57 LRc [some (.lst (ds.map dD)), some (.str s), some (.lst (strsL w)), some (.int k), g4, g5, g6] = some (.bl (decide ((k : Int) < ((strsL w).length : Int)))) from cmp1 rfl rfl rfl]
    show some (decide _) = _
    rw [len_strs, lt_nat]
  obtain ⟨m', ρ', h1, ⟨w, k, g4, g5, g6, rfl, kn', hk, hd, hm⟩, h3⟩ := whlD_inv (c := fun ρ => (CE.sem T_57 LRc ρ).bind truD) (b := fun ρ => CB.run T_57 LRb ρ)
    (fun m ρ => ∃ (w : List Str) (k : Nat) (g4 g5 g6 : Option D), ρ = [some (.lst (ds.map dD)), some (.str s), some (.lst (strsL w)), some (.int k), g4, g5, g6] ∧ Rn ds V s w ∧ k ≤ w.length ∧ (∀ i h, i < k → w[i]? = some h → RDone ds h w) ∧ m = 63 - k)
    FUEL 63 [some (.lst (ds.map dD)), some (.str s), some (.lst (strsL [s])), some (.int ((0 : Nat) : Int)), none, none, none] (by unfold FUEL; omega)
    (fun m ρ ⟨w, k, g4, g5, g6, e, kn', hk, hd, hm⟩ => by
      subst e
      rw [cond]
      by_cases hlt : k < w.length
      · refine .inr ⟨by rw [decide_eq_true hlt], ?_⟩
        obtain ⟨here, hh⟩ : ∃ h, w[k]? = some h := ⟨w[k], List.getElem?_eq_getElem hlt⟩
        have hin : here ∈ w := List.mem_of_getElem? hh
        obtain ⟨ρ2, hfr, hI⟩ := frD_inv (t := fun x ρ => CT.bind (.tp (.cons (.nm 4) (.cons (.nm 5) (.cons (.nm 6) .nil)))) x ρ) (b := fun ρ => CB.run T_57 LRi ρ) dD (fun w' ρ => RI ds s k w' ρ ∧ Rn ds V s w' ∧ w'[k]? = some here) (rstep here) ds w
          [some (.lst (ds.map dD)), some (.str s), some (.lst (strsL w)), some (.int k), g4, g5, g6]
          (fun w' ρ d hd' ⟨i1, i2, i3⟩ => by
            have hl : w'.length < LIM := by have := lenW i2; unfold LIM; omega
            obtain ⟨ρ1, ρ', q1, q2, q3⟩ := rin_run (T := T_57) (d := d) i1 i3 hl
            obtain ⟨k3, ⟨t, ht⟩, _⟩ := rstep_ok hd' hV i2 (List.mem_of_getElem? i3)
            refine ⟨ρ1, ρ', q1, q2, q3, k3, ?_⟩
            rw [ht, List.getElem?_append_left (List.getElem?_eq_some_iff.mp i3).1]
            exact i3) ⟨⟨_, _, _, rfl⟩, kn', hh⟩
        obtain ⟨k3, ⟨t, ht⟩, kd⟩ := rfold hV ds w (fun p hp => hp) kn' hin
        generalize hw2 : ds.foldl (rstep here) w = w2 at hI k3 ht kd
        obtain ⟨⟨q4, q5, q6, rfl⟩, _, _⟩ := hI
        refine ⟨[some (.lst (ds.map dD)), some (.str s), some (.lst (strsL w2)), some (.int ((k + 1 : Nat) : Int)), q4, q5, q6], 63 - (k + 1), ?_, .inl ?_, w2, k + 1, _, _, _, rfl, k3, ?_, ?_, rfl⟩
        · have := lenW kn'
          omega
        · exact run_nx (fr_of rfl hfr) (run_nx rfl run_nil)
        · rw [ht, List.length_append]
          omega
        · intro i h hi he
          by_cases hik : i = k
          · subst hik
            have : w2[i]? = some here := by
              rw [ht, List.getElem?_append_left hlt]
              exact hh
            rw [this] at he
            cases he
            exact kd
          · have hlt2 : i < w.length := by omega
            rw [ht, List.getElem?_append_left hlt2] at he
            rw [ht]
            exact fun d hd' e => List.mem_append.mpr (.inl (hd i h (by omega) he d hd' e))
      · exact .inl (by rw [decide_eq_false hlt]))
    ⟨[s], 0, _, _, _, rfl, k0, Nat.zero_le _, fun i h hi => absurd hi (Nat.not_lt_zero i), rfl⟩
  refine ⟨w, ?_, kn', fun d hd' hm => ?_⟩
  · refine sem_rt rfl (run_nx rfl (run_nx rfl (run_nx (whl_of h1) (run_rt (ret_of (bi1 rfl ?_))))))
    show (sortD (strsL w)).map D.lst = _
    rw [sortD_strs (by have := lenW kn'; omega)]
    rfl
  · have hkw : w.length ≤ k := by
      have h3 : (CE.sem T_57 LRc [some (.lst (ds.map dD)), some (.str s), some (.lst (strsL w)), some (.int k), g4, g5, g6]).bind truD = some false := h3
      rw [cond] at h3
      have := of_decide_eq_false (Option.some.inj h3)
      omega
    obtain ⟨i, hi, e⟩ := List.mem_iff_getElem.mp hm
    exact hd i d.2.1 (by omega) (by rw [List.getElem?_eq_getElem hi, e]) d hd' rfl
end PV

set_option Elab.async false
set_option linter.all false
set_option maxRecDepth 100000
set_option maxHeartbeats 4000000
/-! M7: _law_fallen, _law_classes. -/
namespace PV
open PySem LawC
theorem perm_of_mem {α : Type} [DecidableEq α] : ∀ {l m : List α}, l.Nodup → m.Nodup → (∀ x, x ∈ l ↔ x ∈ m) → l.Perm m
  | [], m, _, _, h => by
    cases m with
    | nil => exact .refl _
    | cons y m => exact absurd ((h y).mpr List.mem_cons_self) (by simp)
  | x :: l, m, nl, nm, h => by
    obtain ⟨n1, n2⟩ := List.nodup_cons.mp nl
    have hx : x ∈ m := (h x).mp List.mem_cons_self
    refine (List.Perm.cons x (perm_of_mem (m := m.erase x) n2 (nm.erase x) fun y => ?_)).trans (List.perm_cons_erase hx).symm
    rw [nm.mem_erase_iff]
    constructor
    · intro hy
      exact ⟨fun z => n1 (by rw [← z]; exact hy), (h y).mp (List.mem_cons_of_mem _ hy)⟩
    · rintro ⟨h1, h2⟩
      rcases List.mem_cons.mp ((h y).mpr h2) with h3 | h3
      · exact absurd h3 h1
      · exact h3
theorem sort_eq {w v : List Str} (nw : w.Nodup) (nv : v.Nodup) (h : ∀ x, x ∈ w ↔ x ∈ v) : sortS leStr w = sortS leStr v :=
  sorted_unique leStr_anti ((sortS_perm w).trans ((perm_of_mem nw nv h).trans (sortS_perm v).symm)) (sortS_sorted leStr_tot leStr_tr w) (sortS_sorted leStr_tot leStr_tr v)
theorem sort_mem {w : List Str} {x : Str} : x ∈ sortS leStr w ↔ x ∈ w := (sortS_perm w).mem_iff
/-! ### lists of lists of texts -/
def lsL (ws : List (List Str)) : List D := ws.map fun w => D.lst (strsL w)
theorem pln_strs : ∀ (w : List Str), D.plns (strsL w) = true
  | [] => rfl
  | a :: w => by
    show (true && D.plns (strsL w)) = true
    rw [pln_strs w]
    rfl
theorem eqvs_strs : ∀ (w v : List Str), D.eqvs (strsL w) (strsL v) = decide (w = v)
  | [], [] => rfl
  | [], _ :: _ => rfl
  | _ :: _, [] => rfl
  | a :: w, b :: v => by
    show ((a == b) && D.eqvs (strsL w) (strsL v)) = _
    rw [eqvs_strs w v]
    by_cases h : a = b
    · subst h
      simp
    · rw [show (a == b) = false from beq_eq_false_iff_ne.mpr h]
      simp [h]
theorem toPys_strs : ∀ (w : List Str), D.toPys (strsL w) = w.map PyData.str
  | [] => rfl
  | a :: w => by
    show _ :: D.toPys (strsL w) = _
    rw [toPys_strs w]
    rfl
/-! ### data that may be compared -/
mutual
def dOk : Nat → D → Bool
  | _, .non => true | _, .bl _ => true | _, .int _ => true
  | _, .str x => x.cps.all (· < 0x110000)
  | n + 1, .lst xs => dOks n xs
  | n + 1, .tup xs => dOks n xs
  | _, _ => false
def dOks : Nat → List D → Bool
  | _, [] => true
  | n, x :: xs => dOk n x && dOks n xs
end
mutual
theorem dOk_ok : ∀ (n : Nat) (d : D), dOk n d = true → d.pln = true ∧ d.toPy.canLay0 = true ∧ d.toPy.depth ≤ n
  | n, .non, _ => ⟨rfl, by simp [D.toPy, PyData.canLay0], by simp [D.toPy, PyData.depth]⟩
  | n, .bl _, _ => ⟨rfl, by simp [D.toPy, PyData.canLay0], by simp [D.toPy, PyData.depth]⟩
  | n, .int _, _ => ⟨rfl, by simp [D.toPy, PyData.canLay0], by simp [D.toPy, PyData.depth]⟩
  | n, .str x, h => ⟨rfl, by
      unfold dOk at h
      simpa [D.toPy, PyData.canLay0, PyData.strOk] using h, by simp [D.toPy, PyData.depth]⟩
  | 0, .lst xs, h => by unfold dOk at h; cases h
  | 0, .tup xs, h => by unfold dOk at h; cases h
  | n + 1, .lst xs, h => by
    unfold dOk at h
    obtain ⟨a, b, c⟩ := dOks_ok n xs h
    exact ⟨a, by simpa [D.toPy, PyData.canLay0] using b, by simpa [D.toPy, PyData.depth] using c⟩
  | n + 1, .tup xs, h => by
    unfold dOk at h
    obtain ⟨a, b, c⟩ := dOks_ok n xs h
    exact ⟨a, by simpa [D.toPy, PyData.canLay0] using b, by simpa [D.toPy, PyData.depth] using c⟩
  | n, .dct _, h => by unfold dOk at h; cases h
  | n, .ins _ _, h => by unfold dOk at h; cases h
theorem dOks_ok : ∀ (n : Nat) (xs : List D), dOks n xs = true → D.plns xs = true ∧ PyData.canLayAll0 (D.toPys xs) = true ∧ PyData.depthAll (D.toPys xs) ≤ n
  | n, [], _ => ⟨rfl, by simp [D.toPys, PyData.canLayAll0], by simp [D.toPys, PyData.depthAll]⟩
  | n, x :: xs, h => by
    unfold dOks at h
    obtain ⟨h1, h2⟩ := ands h
    obtain ⟨a, b, c⟩ := dOk_ok n x h1
    obtain ⟨a', b', c'⟩ := dOks_ok n xs h2
    refine ⟨by show (x.pln && D.plns xs) = true; rw [a, a']; rfl, by simp [D.toPys, PyData.canLayAll0, b, b'], ?_⟩
    simp only [D.toPys, PyData.depthAll]
    omega
end
theorem okEq_of {n : Nat} {d : D} (hn : n ≤ 64) (h : dOk n d = true) : d.okEq = true := by
  obtain ⟨a, b, c⟩ := dOk_ok n d h
  unfold D.okEq SeqAt.shaped
  rw [a, b, decide_eq_true (Nat.le_trans c hn)]
  rfl
def sOk (x : Str) : Bool := x.cps.all (· < 0x110000)
theorem dOks_strs (n : Nat) : ∀ {w : List Str}, (∀ x ∈ w, sOk x = true) → dOks n (strsL w) = true
  | [], _ => by simp [strsL, dOks]
  | a :: w, h => by
    show dOks n (D.str a :: strsL w) = true
    unfold dOks
    rw [dOks_strs n fun x hx => h x (List.mem_cons_of_mem _ hx)]
    have := h a List.mem_cons_self
    unfold sOk at this
    cases n <;> (unfold dOk; rw [this]; rfl)
theorem dOks_ints (n : Nat) : ∀ {w : List Nat}, dOks n (intsL w) = true
  | [] => by simp [intsL, dOks]
  | a :: w => by
    show dOks n (D.int a :: intsL w) = true
    unfold dOks
    rw [dOks_ints n]
    cases n <;> (unfold dOk; rfl)
theorem dOks_ls {ws : List (List Str)} (h : ∀ w ∈ ws, ∀ x ∈ w, sOk x = true) : dOks 1 (lsL ws) = true := by
  induction ws with
  | nil => simp [lsL, dOks]
  | cons w ws ih =>
    show dOks 1 (D.lst (strsL w) :: lsL ws) = true
    unfold dOks
    rw [ih fun v hv => h v (List.mem_cons_of_mem _ hv)]
    unfold dOk
    rw [dOks_strs 0 (h w List.mem_cons_self)]
    rfl
theorem nin_ls {w : List Str} {ws : List (List Str)} (hw : ∀ x ∈ w, sOk x = true) (h : ∀ w ∈ ws, ∀ x ∈ w, sOk x = true) : cmpD .nin (.lst (strsL w)) (.lst (lsL ws)) = some (!decide (w ∈ ws)) := by
  have e : (D.lst (strsL w)).okEq = true := okEq_of (n := 1) (by decide) (by unfold dOk; exact dOks_strs 0 hw)
  have e2 : (D.lst (lsL ws)).okEq = true := okEq_of (n := 2) (by decide) (by unfold dOk; exact dOks_ls h)
  show (if ((D.lst (strsL w)).flat && (lsL ws).all D.flat) || ((D.lst (strsL w)).okEq && (D.lst (lsL ws)).okEq) then some ((lsL ws).any fun y => D.eqv y (.lst (strsL w))) else none).map (!·) = _
  rw [if_pos (by rw [e, e2]; simp)]
  show some _ = some _
  congr 2
  unfold lsL
  rw [List.any_map]
  clear e e2 h
  induction ws with
  | nil => rfl
  | cons v ws ih =>
    rw [List.any_cons, ih]
    show (D.eqvs (strsL v) (strsL w) || decide (w ∈ ws)) = decide (w ∈ v :: ws)
    rw [eqvs_strs]
    by_cases hv : v = w
    · simp [hv]
    · simp [hv, show ¬ w = v from fun z => hv z.symm]
/-! ### _law_fallen -/
def keep (es : List St) (cs : List Nat) : List St := ((List.range es.length).filter fun k => !decide (k ∈ cs)).map fun k => es.getD k default
theorem mem_keep {es : List St} {cs : List Nat} {e : St} : e ∈ keep es cs ↔ ∃ k, k < es.length ∧ k ∉ cs ∧ es[k]? = some e := by
  unfold keep
  rw [List.mem_map]
  constructor
  · rintro ⟨k, hk, he⟩
    obtain ⟨h1, h2⟩ := List.mem_filter.mp hk
    have h1 := List.mem_range.mp h1
    refine ⟨k, h1, by simpa using h2, ?_⟩
    rw [← he, List.getD_eq_getElem?_getD, List.getElem?_eq_getElem h1]
    rfl
  · rintro ⟨k, h1, h2, h3⟩
    refine ⟨k, List.mem_filter.mpr ⟨List.mem_range.mpr h1, by simpa using h2⟩, ?_⟩
    rw [List.getD_eq_getElem?_getD, h3]
    rfl
theorem keep_len (es : List St) (cs : List Nat) : (keep es cs).length ≤ es.length := by
  unfold keep
  rw [List.length_map]
  exact Nat.le_trans (List.length_filter_le _ _) (Nat.le_of_eq List.length_range)
theorem open_iff {es : List St} {cs : List Nat} {χ : Str → Bool} : Open es cs χ ↔ ∀ d ∈ drs (keep es cs), χ d.2.1 = χ d.2.2 := by
  have key : Open es cs χ ↔ ∀ e ∈ keep es cs, χ e.1 = χ e.2 := by
    constructor
    · intro h e he
      obtain ⟨k, h1, h2, h3⟩ := mem_keep.mp he
      exact h (e, k) (List.mk_mem_zipIdx_iff_getElem?.mpr h3) h2
    · intro h p hp hc
      have h3 := List.mk_mem_zipIdx_iff_getElem?.mp (show (p.1, p.2) ∈ es.zipIdx from hp)
      exact h p.1 (mem_keep.mpr ⟨p.2, (List.getElem?_eq_some_iff.mp h3).1, hc, h3⟩)
  rw [key]
  constructor
  · intro h d hd
    obtain ⟨k, e, he, hd | hd⟩ := mem_drs.mp hd
    · rw [hd]; exact h e (List.mem_of_getElem? he)
    · rw [hd]; exact (h e (List.mem_of_getElem? he)).symm
  · intro h e he
    obtain ⟨k, hk, e1⟩ := List.mem_iff_getElem.mp he
    exact h (k, e.1, e.2) (mem_drs.mpr ⟨k, e, by rw [List.getElem?_eq_getElem hk, e1], .inl rfl⟩)
/-- what one gets to from p, sorted -/
def Own (ds : List Dr) (V : List Str) (p : Str) (w : List Str) : Prop := ∃ w0, w = sortS leStr w0 ∧ Rn ds V p w0 ∧ ∀ d ∈ ds, d.2.1 ∈ w0 → d.2.2 ∈ w0
theorem drs_rev {es : List St} {d : Dr} (h : d ∈ drs es) : (d.1, d.2.2, d.2.1) ∈ drs es := by
  obtain ⟨k, e, he, h | h⟩ := mem_drs.mp h
  · rw [h]; exact mem_drs.mpr ⟨k, e, he, .inr rfl⟩
  · rw [h]; exact mem_drs.mpr ⟨k, e, he, .inl rfl⟩
section
variable {V : List Str} {es : List St} {cs : List Nat}
theorem closed_chi {es : List St} {w : List Str} (hc : ∀ d ∈ drs es, d.2.1 ∈ w → d.2.2 ∈ w) : ∀ d ∈ drs es, decide (d.2.1 ∈ w) = decide (d.2.2 ∈ w) := fun d hd =>
  decide_eq_decide.mpr ⟨hc d hd, fun h => hc _ (drs_rev hd) h⟩
theorem own_sub {es : List St} {p : Str} {w v : List Str} (a : Rn (drs es) V p w) (hp : p ∈ v) (hc : ∀ d ∈ drs es, d.2.1 ∈ v → d.2.2 ∈ v) : ∀ x ∈ w, x ∈ v := fun x hx => by
  have := a.chi (fun y => decide (y ∈ v)) (closed_chi hc) x hx
  rw [decide_eq_true hp] at this
  exact of_decide_eq_true this
theorem own_uniq {es : List St} {p : Str} {w v : List Str} (a : Own (drs es) V p w) (b : Own (drs es) V p v) : w = v := by
  obtain ⟨w0, rfl, a1, a2⟩ := a
  obtain ⟨v0, rfl, b1, b2⟩ := b
  exact sort_eq a1.nd b1.nd fun x => ⟨own_sub a1 b1.st b2 x, own_sub b1 a1.st a2 x⟩
/-- the list of the parts: longer than one if the town falls -/
theorem parts_len (t : Town V es) {found : List (List Str)} (nd : found.Nodup) (h1 : ∀ p ∈ V, ∃ w ∈ found, Own (drs (keep es cs)) V p w) (h2 : ∀ w ∈ found, ∃ p ∈ V, Own (drs (keep es cs)) V p w) : decide (1 < found.length) = parts V es cs := by
  refine Bool.eq_iff_iff.mpr ?_
  rw [decide_eq_true_iff, parts_iff]
  constructor
  · intro hl hc
    have full : ∀ {p w0}, p ∈ V → Rn (drs (keep es cs)) V p w0 → (∀ d ∈ drs (keep es cs), d.2.1 ∈ w0 → d.2.2 ∈ w0) → ∀ x, x ∈ w0 ↔ x ∈ V := fun {p w0} hp a1 a2 x => by
      refine ⟨a1.v x, fun hx => ?_⟩
      have := hc (fun y => decide (y ∈ w0)) (open_iff.mpr (closed_chi a2)) x hx p hp
      rw [decide_eq_true a1.st] at this
      exact of_decide_eq_true this
    match found, nd, hl, h2 with
    | a :: b :: r, nd, _, h2 =>
      obtain ⟨p, hp, w0, rfl, a1, a2⟩ := h2 a List.mem_cons_self
      obtain ⟨q, hq, v0, rfl, b1, b2⟩ := h2 b (List.mem_cons_of_mem _ List.mem_cons_self)
      have : sortS leStr w0 = sortS leStr v0 := sort_eq a1.nd b1.nd fun x => (full hp a1 a2 x).trans (full hq b1 b2 x).symm
      exact (List.nodup_cons.mp nd).1 (by rw [this]; exact List.mem_cons_self)
  · intro hn
    obtain ⟨χ, ho, u, hu, v, hv, hne⟩ := not_conn hn
    have ho := open_iff.mp ho
    obtain ⟨w, hw, w0, ew, a1, a2⟩ := h1 u hu
    obtain ⟨w', hw', v0, ew', b1, b2⟩ := h1 v hv
    refine Nat.lt_of_not_le fun hle => hne ?_
    have : w = w' := by
      match found, hle, hw, hw' with
      | [x], _, hw, hw' => rw [List.mem_singleton.mp hw, List.mem_singleton.mp hw']
      | [], _, hw, _ => cases hw
    have hv0 : v ∈ w0 := by
      rw [← sort_mem, ← ew, this, ew', sort_mem]
      exact b1.st
    exact (a1.chi χ ho v hv0).symm
theorem own_mem {es : List St} {p : Str} {w : List Str} (a : Own (drs es) V p w) : ∀ x ∈ w, x ∈ V := fun x hx => by
  obtain ⟨w0, rfl, a1, _⟩ := a
  exact a1.v x (sort_mem.mp hx)
abbrev LFb : CB := (.cons (.asg (.nm 6) (.call ix_f_law_reached (.cons (.var 3) (.cons (.var 5) .nil)))) (.cons (.ife (.cmp .nin (.var 6) (.var 4)) (.cons (.app 4 (.var 6)) .nil) .nil) .nil))
end
end PV

set_option Elab.async false
set_option linter.all false
set_option maxRecDepth 100000
set_option maxHeartbeats 4000000
/-! M8: _law_classes. -/
namespace PV
open PySem LawC
theorem range_split {n : Nat} {ys zs : List Nat} {x : Nat} (h : List.range n = ys ++ x :: zs) : x = ys.length ∧ ys = List.range x ∧ x < n := by
  have hl := congrArg List.length h
  rw [List.length_range, List.length_append, List.length_cons] at hl
  have hlt : ys.length < n := by omega
  have e1 : (List.range n)[ys.length]? = some x := by
    rw [h, List.getElem?_append_right (Nat.le_refl _), Nat.sub_self]
    rfl
  rw [List.getElem?_range hlt] at e1
  have e1 := Option.some.inj e1
  refine ⟨e1.symm, ?_, by omega⟩
  have e2 := congrArg (List.take ys.length) h
  rw [List.take_left, List.take_range] at e2
  rw [← e2, ← e1]
  congr 1
  omega
section
variable {R : Nat → Nat → Bool} (E : Eqv R) {n i : Nat}
theorem mem_cls {j : Nat} : j ∈ cls R n i ↔ j < n ∧ R i j = true := by
  unfold cls
  rw [List.mem_filter, List.mem_range]
include E in
/-- the class of a number has a first member -/
theorem first_of : ∀ (m i : Nat), i ≤ m → ∃ r, r ≤ i ∧ rep R r = true ∧ R r i = true := fun m => by
  induction m with
  | zero =>
    intro i hi
    refine ⟨i, Nat.le_refl _, rep_iff.mpr fun k hk => by omega, E.refl i⟩
  | succ m ih =>
    intro i hi
    cases hr : rep R i with
    | true => exact ⟨i, Nat.le_refl _, hr, E.refl i⟩
    | false =>
      have : ∃ k, k < i ∧ R k i = true := by
        refine Classical.byContradiction fun hn => ?_
        have : rep R i = true := rep_iff.mpr fun k hk => by
          cases h : R k i with
          | false => rfl
          | true => exact absurd ⟨k, hk, h⟩ hn
        rw [hr] at this
        cases this
      obtain ⟨k, hk, hR⟩ := this
      obtain ⟨r, h1, h2, h3⟩ := ih k (by omega)
      exact ⟨r, by omega, h2, E.trans r k i h3 hR⟩
include E in
theorem no_class (hi : i < n) : (((reps R i).map (cls R n)).filter fun c => decide (i ∈ c)).isEmpty = rep R i := by
  refine Bool.eq_iff_iff.mpr ?_
  rw [List.isEmpty_iff, List.filter_eq_nil_iff, rep_iff]
  constructor
  · intro h k hk
    cases hR : R k i with
    | false => rfl
    | true =>
      obtain ⟨r, h1, h2, h3⟩ := first_of E k k (Nat.le_refl _)
      have hm : cls R n r ∈ (reps R i).map (cls R n) := List.mem_map.mpr ⟨r, List.mem_filter.mpr ⟨List.mem_range.mpr (by omega), h2⟩, rfl⟩
      exact absurd (decide_eq_true (mem_cls.mpr ⟨hi, E.trans r k i h3 hR⟩)) (h _ hm)
  · intro h c hc
    obtain ⟨r, hr, rfl⟩ := List.mem_map.mp hc
    have hr := List.mem_range.mp (List.mem_filter.mp hr).1
    intro hm
    have := (mem_cls.mp (of_decide_eq_true hm)).2
    rw [h r hr] at this
    cases this
theorem reps_succ : reps R (i + 1) = if rep R i = true then reps R i ++ [i] else reps R i := by
  unfold reps
  rw [List.range_succ, List.filter_append]
  cases h : rep R i <;> simp [h]
end
theorem dOks_lsts (cs : List (List Nat)) : dOks 1 (lstsL cs) = true := by
  induction cs with
  | nil => simp [lstsL, dOks]
  | cons w ws ih =>
    show dOks 1 (D.lst (intsL w) :: lstsL ws) = true
    unfold dOks
    rw [ih]
    unfold dOk
    rw [dOks_ints 0]
    rfl
theorem okEq_lsts (cs : List (List Nat)) : (D.lst (lstsL cs)).okEq = true := okEq_of (n := 2) (by decide) (by unfold dOk; exact dOks_lsts cs)
theorem eq_lsts_nil (cs : List (List Nat)) : cmpD .eq (.lst (lstsL cs)) (.lst []) = some cs.isEmpty := by
  show (if D.scalP (.lst (lstsL cs)) (.lst []) || ((D.lst (lstsL cs)).okEq && (D.lst []).okEq) then some (D.eqv (.lst (lstsL cs)) (.lst [])) else none) = _
  rw [okEq_lsts, if_pos (by rfl)]
  cases cs <;> rfl
section
variable {V : List Str} {es : List St}
end
end PV

set_option Elab.async false
set_option linter.all false
set_option maxRecDepth 100000
set_option maxHeartbeats 4000000
/-! M9: a town is made. -/
namespace PV
open PySem LawC
/-! ### dicts of lists by place -/
structure DK {α : Type} (enc : α → D) (P : α → Prop) (V : List Str) (m : Nat) (kvs : List (Key × D)) : Prop where
  keys : kvs.map (·.1) = V.map Sum.inr
  vals : ∀ p ∈ kvs, ∃ xs : List α, p.2 = .lst (xs.map enc) ∧ xs.length ≤ m ∧ ∀ x ∈ xs, P x
section
variable {α : Type} {enc : α → D} {P : α → Prop} {V : List Str} {m : Nat}
theorem dk_mod : ∀ {kvs : List (Key × D)} {V : List Str} {x : Str} {a : α}, DK enc P V m kvs → x ∈ V → P a → m < LIM → ∃ kvs', modK (.inr x) (fun y => appD y (enc a)) kvs = some kvs' ∧ DK enc P V (m + 1) kvs'
  | [], V, x, a, h, hx, _, _ => by
    have := h.keys
    cases V with
    | nil => cases hx
    | cons v V => cases this
  | (j, y) :: r, V, x, a, h, hx, hp, hm => by
    cases V with
    | nil => cases hx
    | cons v V =>
      have hk := h.keys
      rw [List.map_cons, List.map_cons] at hk
      injection hk with h1 h2
      have h1 : j = .inr v := h1
      subst h1
      obtain ⟨xs, e1, e2, e3⟩ := h.vals _ List.mem_cons_self
      have e1 : y = .lst (xs.map enc) := e1
      subst e1
      unfold modK
      by_cases hvx : v = x
      · subst hvx
        rw [if_pos rfl]
        have : appD (.lst (xs.map enc)) (enc a) = some (.lst ((xs ++ [a]).map enc)) := by
          show (if (xs.map enc).length < LIM then some (D.lst (xs.map enc ++ [enc a])) else none) = _
          rw [if_pos (by rw [List.length_map]; omega), List.map_append]
          rfl
        rw [this]
        refine ⟨_, rfl, ⟨by rw [List.map_cons, List.map_cons, h2], fun p hp' => ?_⟩⟩
        rcases List.mem_cons.mp hp' with rfl | hp'
        · refine ⟨xs ++ [a], rfl, by rw [List.length_append]; show xs.length + 1 ≤ m + 1; omega, fun z hz => ?_⟩
          rcases List.mem_append.mp hz with hz | hz
          · exact e3 z hz
          · obtain rfl := List.mem_singleton.mp hz
            exact hp
        · obtain ⟨zs, q1, q2, q3⟩ := h.vals p (List.mem_cons_of_mem _ hp')
          exact ⟨zs, q1, by omega, q3⟩
      · rw [if_neg fun z => hvx (Sum.inr.inj z)]
        have hxV : x ∈ V := by
          rcases List.mem_cons.mp hx with z | z
          · exact absurd z.symm hvx
          · exact z
        obtain ⟨r', hr, hd⟩ := dk_mod (kvs := r) (V := V) ⟨h2, fun p hp' => h.vals p (List.mem_cons_of_mem _ hp')⟩ hxV hp hm
        rw [hr]
        refine ⟨_, rfl, ⟨by rw [List.map_cons, List.map_cons, hd.keys], fun p hp' => ?_⟩⟩
        rcases List.mem_cons.mp hp' with rfl | hp'
        · exact ⟨xs, rfl, by omega, e3⟩
        · exact hd.vals p hp'
theorem dk_app {kvs : List (Key × D)} {V : List Str} {x : Str} {a : α} (h : DK enc P V m kvs) (hx : x ∈ V) (hp : P a) (hm : m < LIM) : ∃ kvs', appAtD (.dct kvs) (.str x) (enc a) = some (.dct kvs') ∧ DK enc P V (m + 1) kvs' := by
  obtain ⟨kvs', h1, h2⟩ := dk_mod h hx hp hm
  refine ⟨kvs', ?_, h2⟩
  show (modK (.inr x) (fun y => appD y (enc a)) kvs).map D.dct = _
  rw [h1]
  rfl
/-- {p: [] for p in V} -/
theorem dc_new {T : Tab} {own : List (Str × Nat)} {i : Nat} {ρ : Env} (hi : i < ρ.length) (V : List Str) (nd : V.Nodup) (hb : ∀ x, CT.bind (.nm i) x (wipeD ρ (own.map (·.2))) = some ((wipeD ρ (own.map (·.2))).set i (some x))) :
    dcD true (fun x => (CT.bind (.nm i) x (wipeD ρ (own.map (·.2)))).bind fun ρ' => (CE.sem T (.var i) ρ').bind fun y => (keyD y).bind fun q => (CE.sem T (.lst .nil) ρ').map fun z => (q, z)) [] (strsL V) = some (V.map fun p => (.inr p, .lst [])) := by
  have key : ∀ (W acc : List Str), (acc ++ W).Nodup → dcD true (fun x => (CT.bind (.nm i) x (wipeD ρ (own.map (·.2)))).bind fun ρ' => (CE.sem T (.var i) ρ').bind fun y => (keyD y).bind fun q => (CE.sem T (.lst .nil) ρ').map fun z => (q, z)) (acc.map fun p => (.inr p, .lst [])) (strsL W) = some ((acc ++ W).map fun p => (.inr p, .lst [])) := fun W => by
    induction W with
    | nil => intro acc _; rw [List.append_nil]; rfl
    | cons p W ih =>
      intro acc hnd
      have hp : p ∉ acc := fun hm => (List.nodup_append.mp hnd).2.2 p hm p List.mem_cons_self rfl
      show ((CT.bind (.nm i) (.str p) _).bind _).bind _ = _
      rw [hb]
      have hv : CE.sem T (.var i) ((wipeD ρ (own.map (·.2))).set i (some (.str p))) = some (.str p) := by
        show (((wipeD ρ (own.map (·.2))).set i (some (.str p)))[i]?).bind id = _
        rw [List.getElem?_set_self (by rw [wipeD_length]; exact hi)]
        rfl
      rw [Option.bind_some, hv]
      show (if (true && ((acc.map fun p => ((.inr p : Key), D.lst [])).any fun q => decide (q.1 = .inr p))) = true then none else dcD true _ (putKD (.inr p) (.lst []) (acc.map fun p => (.inr p, .lst []))) (strsL W)) = _
      have ha : ((acc.map fun p => ((.inr p : Key), D.lst [])).any fun q => decide (q.1 = .inr p)) = false := by
        rw [List.any_map]
        refine List.any_eq_false.mpr fun x hx => ?_
        simp only [Function.comp, decide_eq_true_eq]
        exact fun z => hp (by rw [← Sum.inr.inj z]; exact hx)
      rw [ha, if_neg (by simp)]
      have hput : putKD (.inr p) (.lst []) (acc.map fun p => ((.inr p : Key), D.lst [])) = (acc ++ [p]).map fun p => ((.inr p : Key), D.lst []) := by
        unfold putKD
        rw [ha, if_neg (by simp), List.map_append]
        rfl
      rw [hput, ih (acc ++ [p]) (by rw [List.append_assoc]; exact hnd), List.append_assoc]
      rfl
  exact key V [] nd
theorem dk_new (V : List Str) : DK enc P V 0 (V.map fun p => (.inr p, .lst [])) :=
  ⟨by rw [List.map_map]; rfl, fun p hp => by
    obtain ⟨x, _, rfl⟩ := List.mem_map.mp hp
    exact ⟨[], rfl, Nat.le_refl _, fun x hx => by cases hx⟩⟩
end
theorem appAt_of {T : Tab} {i : Nat} {k e : CE} {ρ : Env} {z y x x' : D} (h1 : CE.sem T k ρ = some z) (h2 : CE.sem T e ρ = some y) (h3 : ρ[i]? = some (some x)) (h4 : appAtD x z y = some x') : CS.run T (.appAt i k e) ρ = some (.nx (ρ.set i (some x'))) := by
  unfold CS.run upS
  rw [h1, Option.bind_some, h2, Option.bind_some, h3]
  show (appAtD x z y).map _ = _
  rw [h4]
  rfl
theorem dc_of {T : Tab} {own : List (Str × Nat)} {t : CT} {src : CI} {k v : CE} {ρ : Env} {xs : List D} {ys : List (Key × D)} (h : CI.sem T src ρ = some xs) (h2 : dcD v.isNil (fun x => (CT.bind t x (wipeD ρ (own.map (·.2)))).bind fun ρ' => (CE.sem T k ρ').bind fun y => (keyD y).bind fun q => (CE.sem T v ρ').map fun z => (q, z)) [] xs = some ys) :
    CE.sem T (.dc own t src k v) ρ = some (.dct ys) := by
  unfold CE.sem
  rw [h, Option.bind_some, h2]
  rfl
section
variable {V : List Str} {es : List St}
/-! ### the checks -/
theorem is_end_ok {v : Str} (h : v ∈ V) : s_f_is_end [.lst (strsL V), .str v] = some (.bl true) := by
  have := and2 (T := T_17) (ρ := [some (.lst (strsL V)), some (.str v)]) (e1 := .isi (.var 1) .tstr) (e2 := .cmp .in_ (.var 1) (.var 0)) (p := true) (q := decide (v ∈ V)) rfl fun _ => cmp1 rfl rfl (in_lst_strs v V)
  rw [decide_eq_true h] at this
  exact sem_rt rfl (run_rt (ret_of this))
theorem is_street_ok {e : St} (h1 : e.1 ∈ V) (h2 : e.2 ∈ V) (h3 : e.1 ≠ e.2) : s_f_is_street_of [.lst (strsL V), eS e] = some (.bl true) := by
  have c1 : CE.sem T_19 (.bop false (.cons (.not (.call ix_f_is_end (.cons (.var 0) (.cons (.var 2) .nil)))) (.cons (.not (.call ix_f_is_end (.cons (.var 0) (.cons (.var 3) .nil)))) (.cons (.cmp .eq (.var 2) (.var 3)) .nil)))) [some (.lst (strsL V)), some (eS e), some (.str e.1), some (.str e.2), some (.str two)] = some (.bl false) := by
    have a1 := not1 (call_of (T := T_19) (f := ix_f_is_end) (es := .cons (.var 0) (.cons (.var 2) .nil)) (ρ := [some (.lst (strsL V)), some (eS e), some (.str e.1), some (.str e.2), some (.str two)]) rfl (is_end_ok h1))
    have a2 := not1 (call_of (T := T_19) (f := ix_f_is_end) (es := .cons (.var 0) (.cons (.var 3) .nil)) (ρ := [some (.lst (strsL V)), some (eS e), some (.str e.1), some (.str e.2), some (.str two)]) rfl (is_end_ok h2))
    have a3 := cmp1 (T := T_19) (ρ := [some (.lst (strsL V)), some (eS e), some (.str e.1), some (.str e.2), some (.str two)]) (e1 := .var 2) (e2 := .var 3) rfl rfl (eq_strs e.1 e.2)
    rw [decide_eq_false h3] at a3
    show (CE.sem T_19 (.not _) _).bind _ = _
    rw [a1]
    show (CE.sem T_19 (.not _) _).bind _ = _
    rw [a2]
    exact a3
  refine sem_rt rfl (run_nx rfl (run_nx (asgT_of rfl rfl) (run_nx (ife_bl c1 rfl) (run_rt (ret_of (call_of rfl ?_))))))
  exact (rfl : s_f_is_word [.str two] = some (.bl true))
theorem first_wrong_ok (h : ∀ e ∈ es, e.1 ∈ V ∧ e.2 ∈ V ∧ e.1 ≠ e.2) : s_f_first_wrong_street [.lst (strsL V), .lst (stsL es)] = some .non := by
  obtain ⟨ρ', hf, g2, g3, rfl⟩ := frD_inv (t := fun x ρ => CT.bind (.tp (.cons (.nm 2) (.cons (.nm 3) .nil))) x ρ) (b := fun ρ => CB.run T_20 (.cons (.ife (.not (.call ix_f_is_street_of (.cons (.var 0) (.cons (.var 3) .nil)))) (.cons (.ret (.var 2)) .nil) .nil) .nil) ρ) eI
    (fun (_ : Unit) ρ => ∃ g2 g3, ρ = [some (.lst (strsL V)), some (.lst (stsL es)), g2, g3]) (fun _ _ => ()) es.zipIdx () [some (.lst (strsL V)), some (.lst (stsL es)), none, none]
    (fun _ ρ p hp ⟨g2, g3, e⟩ => by
      subst e
      have he : p.1 ∈ es := by
        obtain ⟨_, _, e2⟩ := List.mem_zipIdx hp
        rw [e2]
        exact List.getElem_mem _
      obtain ⟨a, b, c⟩ := h _ he
      exact ⟨[some (.lst (strsL V)), some (.lst (stsL es)), some (.int p.2), some (eS p.1)], [some (.lst (strsL V)), some (.lst (stsL es)), some (.int p.2), some (eS p.1)], rfl, .inl (run_nx (ife_bl (not1 (call_of rfl (is_street_ok a b c))) rfl) run_nil), _, _, rfl⟩) ⟨_, _, rfl⟩
  refine sem_rt rfl (run_nx (ρ' := [some (.lst (strsL V)), some (.lst (stsL es)), g2, g3]) (fr_of (xs := enumD 0 (stsL es)) rfl ?_) (run_rt rfl))
  rw [enumD_zip]
  exact hf
theorem check_town_ok (hpl : s_f_are_places [.lst (strsL V)] = some (.bl true)) (hl : es.length ≤ 24) (h : ∀ e ∈ es, e.1 ∈ V ∧ e.2 ∈ V ∧ e.1 ≠ e.2) : s_f_check_town [.lst (strsL V), .lst (stsL es)] = some .non := by
  have c2 : CE.sem T_21 (.bop false (.cons (.not (.isi (.var 1) .tlist)) (.cons (.cmp .gt (.bi .len (.cons (.var 1) .nil)) (.glob gl_MOST_STREETS)) .nil))) [some (.lst (strsL V)), some (.lst (stsL es)), none] = some (.bl false) := by
    refine or2 (p := false) (q := false) rfl fun _ => cmp1 (x := .int (stsL es).length) (y := .int 24) rfl rfl ?_
    show some (decide ((24 : Int) < ((stsL es).length : Int))) = _
    rw [len_sts, decide_eq_false (by omega)]
  exact sem_nx rfl (run_nx (ife_bl (not1 (call_of rfl hpl)) rfl) (run_nx (ife_bl c2 rfl) (run_nx (asg_of (call_of rfl (first_wrong_ok h))) (run_nx (ife_bl rfl rfl) run_nil))))
/-! ### the tables -/
theorem all_drives_ok (hes : es.length ≤ 1000) : s_f_all_drives [.lst (stsL es)] = some (.lst ((es.zipIdx.flatMap fun p => [(p.2, p.1.1, p.1.2), (p.2, p.1.2, p.1.1)]).map dD)) := by
  obtain ⟨ρ', hf, g2, g3, rfl⟩ := frD_pre (t := fun x ρ => CT.bind (.tp (.cons (.nm 2) (.cons (.nm 3) .nil))) x ρ) (b := fun ρ => CB.run T_11 (.cons (.ext 1 (.call ix_f_drives_of (.cons (.var 2) (.cons (.var 3) .nil)))) .nil) ρ) eI
    (fun (ys : List (St × Nat)) ρ => ∃ g2 g3, ρ = [some (.lst (stsL es)), some (.lst ((ys.flatMap fun p => [(p.2, p.1.1, p.1.2), (p.2, p.1.2, p.1.1)]).map dD)), g2, g3]) es.zipIdx [] [some (.lst (stsL es)), some (.lst []), none, none]
    (fun ys p zs ρ e ⟨g2, g3, eρ⟩ => by
      subst eρ
      rw [List.nil_append] at e
      have hy : ys.length ≤ 1000 := by
        have := congrArg List.length e
        rw [List.length_zipIdx, List.length_append] at this
        omega
      have hfl : ∀ (l : List (St × Nat)), (l.flatMap fun p => [(p.2, p.1.1, p.1.2), (p.2, p.1.2, p.1.1)]).length = 2 * l.length := fun l => by
        induction l with
        | nil => rfl
        | cons a l ih =>
          rw [List.flatMap_cons, List.length_append, ih, List.length_cons]
          show 2 + 2 * l.length = 2 * (l.length + 1)
          omega
      have hd : s_f_drives_of [.int p.2, eS p.1] = some (.lst ([(p.2, p.1.1, p.1.2), (p.2, p.1.2, p.1.1)].map dD)) := sem_rt rfl (run_nx rfl (run_nx rfl (run_nx (ife_bl rfl rfl) (run_rt rfl))))
      refine ⟨[some (.lst (stsL es)), some (.lst ((ys.flatMap fun p => [(p.2, p.1.1, p.1.2), (p.2, p.1.2, p.1.1)]).map dD)), some (.int p.2), some (eS p.1)], [some (.lst (stsL es)), some (.lst (((ys ++ [p]).flatMap fun p => [(p.2, p.1.1, p.1.2), (p.2, p.1.2, p.1.1)]).map dD)), some (.int p.2), some (eS p.1)], rfl, .inl (run_nx ?_ run_nil), _, _, rfl⟩
      have hcall : CE.sem T_11 (.call ix_f_drives_of (.cons (.var 2) (.cons (.var 3) .nil))) [some (.lst (stsL es)), some (.lst ((ys.flatMap fun p => [(p.2, p.1.1, p.1.2), (p.2, p.1.2, p.1.1)]).map dD)), some (.int p.2), some (eS p.1)] = some (.lst ([(p.2, p.1.1, p.1.2), (p.2, p.1.2, p.1.1)].map dD)) := call_of rfl hd
      unfold CS.run upS
      rw [hcall]
      show (if ((ys.flatMap fun p => [(p.2, p.1.1, p.1.2), (p.2, p.1.2, p.1.1)]).map dD).length + 2 ≤ LIM then some (D.lst (((ys.flatMap fun p => [(p.2, p.1.1, p.1.2), (p.2, p.1.2, p.1.1)]).map dD) ++ ([(p.2, p.1.1, p.1.2), (p.2, p.1.2, p.1.1)].map dD))) else none).map _ = _
      rw [if_pos (by rw [List.length_map, hfl]; unfold LIM; omega), List.flatMap_append, List.map_append]
      rfl) ⟨_, _, rfl⟩
  refine sem_rt rfl (run_nx rfl (run_nx (ρ' := [some (.lst (stsL es)), some (.lst ((es.zipIdx.flatMap fun p => [(p.2, p.1.1, p.1.2), (p.2, p.1.2, p.1.1)]).map dD)), g2, g3]) (fr_of (xs := enumD 0 (stsL es)) rfl ?_) (run_rt rfl)))
  rw [enumD_zip]
  exact hf
end
end PV

set_option Elab.async false
set_option linter.all false
set_option maxRecDepth 100000
set_option maxHeartbeats 4000000
/-! M10: Town.__init__. -/
namespace PV
open PySem LawC
section
variable {V : List Str} {es : List St}
def okDr (V : List Str) (d : Dr) : Prop := d.2.1 ∈ V ∧ d.2.2 ∈ V
theorem init_of {T : Tab} {f : CF} {c : Nat} {ds : List D} {d : D} {ρ' : Env} (hl : ds.length + 1 = f.np) (h : CB.run T f.body (some (.ins c []) :: ds.map some ++ List.replicate (f.n - f.np) none) = some (.nx ρ')) (hd : (ρ'[0]?).bind id = some d) : CF.init T f c ds = some d := by
  unfold CF.init
  rw [if_pos hl, h]
  exact hd
theorem new_env {T : Tab} {ρ : Env} {own : List (Str × Nat)} {i : Nat} {V : List Str} (hi : i < ρ.length) (nd : V.Nodup) {src : CI} (hs : CI.sem T src ρ = some (strsL V)) : CE.sem T (.dc own (.nm i) src (.var i) (.lst .nil)) ρ = some (.dct (V.map fun p => (.inr p, .lst []))) :=
  dc_of hs (dc_new hi V nd fun _ => rfl)
theorem by_place_ok (nd : V.Nodup) {ds : List Dr} (hd : ∀ d ∈ ds, okDr V d) (hl : ds.length ≤ 3000) (part : Nat) (hp : part = 1 ∨ part = 2) : ∃ kvs, s_f_by_place [.lst (strsL V), .tup (ds.map dD), .int part] = some (.dct kvs) := by
  have hix : ∀ d ∈ ds, ∃ x, x ∈ V ∧ ixD (dD d) (.int part) = some (.str x) := fun d hd' => by
    obtain ⟨h1, h2⟩ := hd d hd'
    rcases hp with rfl | rfl
    · exact ⟨_, h1, rfl⟩
    · exact ⟨_, h2, rfl⟩
  obtain ⟨ρ', hf, kvs, g4, rfl, _⟩ := frD_pre (t := fun x ρ => CT.bind (.nm 4) x ρ) (b := fun ρ => CB.run T_22 (.cons (.appAt 3 (.ix (.var 4) (.var 2)) (.var 4)) .nil) ρ) dD
    (fun (ys : List Dr) ρ => ∃ (kvs : List (Key × D)) (g4 : Option D), ρ = [some (.lst (strsL V)), some (.tup (ds.map dD)), some (.int part), some (.dct kvs), g4, none] ∧ DK dD (fun _ : Dr => True) V ys.length kvs) ds [] [some (.lst (strsL V)), some (.tup (ds.map dD)), some (.int part), some (.dct (V.map fun p => (.inr p, .lst []))), none, none]
    (fun ys d zs ρ e ⟨kvs, g4, eρ, dk⟩ => by
      subst eρ
      rw [List.nil_append] at e
      obtain ⟨x, hx, hi⟩ := hix d (by rw [e]; simp)
      have hy : ys.length ≤ 3000 := by
        have := congrArg List.length e
        rw [List.length_append] at this
        omega
      obtain ⟨kvs', k1, k2⟩ := dk_app (a := d) dk hx trivial (by unfold LIM; omega)
      exact ⟨[some (.lst (strsL V)), some (.tup (ds.map dD)), some (.int part), some (.dct kvs), some (dD d), none], [some (.lst (strsL V)), some (.tup (ds.map dD)), some (.int part), some (.dct kvs'), some (dD d), none], rfl, .inl (run_nx (appAt_of (ix_of rfl rfl hi) rfl rfl k1) run_nil), kvs', _, rfl, by rw [List.length_append]; exact k2⟩) ⟨_, _, rfl, dk_new V⟩
  refine ⟨kvs, sem_rt rfl (run_nx (asg_of (new_env (by show 5 < 6; decide) nd rfl)) (run_nx (ρ' := [some (.lst (strsL V)), some (.tup (ds.map dD)), some (.int part), some (.dct kvs), g4, none]) (fr_of rfl hf) (run_rt rfl)))⟩
theorem streets_at_ok (nd : V.Nodup) (h : ∀ e ∈ es, e.1 ∈ V ∧ e.2 ∈ V) (hl : es.length ≤ 24) : ∃ kvs, s_f_streets_at [.lst (strsL V), .lst (stsL es)] = some (.dct kvs) ∧ DK (fun (k : Nat) => D.int (k : Int)) (fun k => k < es.length) V 48 kvs := by
  obtain ⟨ρ', hf, kvs, g3, g4, rfl, dk⟩ := frD_pre (t := fun x ρ => CT.bind (.tp (.cons (.nm 3) (.cons (.nm 4) .nil))) x ρ) (b := fun ρ => CB.run T_23 (.cons (.appAt 2 (.ix (.var 4) (.cD (.int (0)))) (.var 3)) (.cons (.appAt 2 (.ix (.var 4) (.cD (.int (1)))) (.var 3)) .nil)) ρ) eI
    (fun (ys : List (St × Nat)) ρ => ∃ (kvs : List (Key × D)) (g3 g4 : Option D), ρ = [some (.lst (strsL V)), some (.lst (stsL es)), some (.dct kvs), g3, g4, none] ∧ DK (fun (k : Nat) => D.int (k : Int)) (fun k => k < es.length) V (2 * ys.length) kvs) es.zipIdx [] [some (.lst (strsL V)), some (.lst (stsL es)), some (.dct (V.map fun p => (.inr p, .lst []))), none, none, none]
    (fun ys p zs ρ e ⟨kvs, g3, g4, eρ, dk⟩ => by
      subst eρ
      rw [List.nil_append] at e
      have hm : p ∈ es.zipIdx := by rw [e]; simp
      obtain ⟨_, hlt, e2⟩ := List.mem_zipIdx hm
      have he : p.1 ∈ es := by rw [e2]; exact List.getElem_mem _
      have hlt : p.2 < es.length := by omega
      obtain ⟨h1, h2⟩ := h _ he
      have hy : ys.length ≤ 24 := by
        have := congrArg List.length e
        rw [List.length_zipIdx, List.length_append] at this
        omega
      obtain ⟨kvs1, k1, k2⟩ := dk_app (a := p.2) dk h1 hlt (by unfold LIM; omega)
      obtain ⟨kvs2, k3, k4⟩ := dk_app (a := p.2) k2 h2 hlt (by unfold LIM; omega)
      refine ⟨[some (.lst (strsL V)), some (.lst (stsL es)), some (.dct kvs), some (.int p.2), some (eS p.1), none], [some (.lst (strsL V)), some (.lst (stsL es)), some (.dct kvs2), some (.int p.2), some (eS p.1), none], rfl, .inl (run_nx (appAt_of (z := .str p.1.1) rfl rfl rfl k1) (run_nx (appAt_of (z := .str p.1.2) rfl rfl rfl k3) run_nil)), kvs2, _, _, rfl, ?_⟩
      rw [List.length_append]
      exact ⟨k4.keys, fun q hq => by
        obtain ⟨xs, a, b, c⟩ := k4.vals q hq
        exact ⟨xs, a, by show xs.length ≤ 2 * (ys.length + 1); omega, c⟩⟩) ⟨_, _, _, rfl, dk_new V⟩
  refine ⟨kvs, sem_rt rfl (run_nx (asg_of (new_env (by show 5 < 6; decide) nd rfl)) (run_nx (ρ' := [some (.lst (strsL V)), some (.lst (stsL es)), some (.dct kvs), g3, g4, none]) (fr_of (xs := enumD 0 (stsL es)) rfl ?_) (run_rt rfl))), ⟨dk.keys, fun q hq => ?_⟩⟩
  · rw [enumD_zip]
    exact hf
  · obtain ⟨xs, a, b, c⟩ := dk.vals q hq
    exact ⟨xs, a, by rw [List.nil_append, List.length_zipIdx] at b; omega, c⟩
theorem dk_look {α : Type} {enc : α → D} {P : α → Prop} {m : Nat} : ∀ {kvs : List (Key × D)} {V : List Str} {x : Str}, DK enc P V m kvs → x ∈ V → ∃ xs : List α, lookK (.inr x) kvs = some (.lst (xs.map enc)) ∧ xs.length ≤ m ∧ ∀ x ∈ xs, P x
  | [], V, x, h, hx => by
    have := h.keys
    cases V with
    | nil => cases hx
    | cons v V => cases this
  | (j, y) :: r, V, x, h, hx => by
    cases V with
    | nil => cases hx
    | cons v V =>
      have hk := h.keys
      rw [List.map_cons, List.map_cons] at hk
      injection hk with h1 h2
      have h1 : j = .inr v := h1
      subst h1
      obtain ⟨xs, e1, e2, e3⟩ := h.vals _ List.mem_cons_self
      have e1 : y = .lst (xs.map enc) := e1
      subst e1
      unfold lookK
      by_cases hvx : v = x
      · subst hvx
        rw [if_pos rfl]
        exact ⟨xs, rfl, e2, e3⟩
      · rw [if_neg fun z => hvx (Sum.inr.inj z)]
        have hxV : x ∈ V := by
          rcases List.mem_cons.mp hx with z | z
          · exact absurd z.symm hvx
          · exact z
        exact dk_look (V := V) ⟨h2, fun p hp => h.vals p (List.mem_cons_of_mem _ hp)⟩ hxV
theorem kn_put (w : List Str) (b : Str) : ∃ w', putKD (.inr b) (.bl true) (kn w) = kn w' ∧ w'.length ≤ w.length + 1 := by
  by_cases h : b ∈ w
  · refine ⟨w, ?_, by omega⟩
    unfold putKD
    rw [kn_any, if_pos (by simpa using h)]
    unfold kn
    rw [List.map_map]
    refine List.map_congr_left fun x _ => ?_
    show (if (Sum.inr x : Key) = Sum.inr b then ((Sum.inr x : Key), D.bl true) else (Sum.inr x, .bl true)) = _
    split <;> rfl
  · exact ⟨w ++ [b], put_kn h, by rw [List.length_append]; exact Nat.le_refl _⟩
/-- a dict of texts, each told True -/
theorem dc_kn {α : Type} {f : D → Option (Key × D)} (e : α → D) : ∀ (xs : List α) (w : List Str), (∀ x ∈ xs, ∃ s : Str, f (e x) = some (.inr s, .bl true)) → ∃ w', dcD false f (kn w) (xs.map e) = some (kn w') ∧ w'.length ≤ w.length + xs.length
  | [], w, _ => ⟨w, rfl, Nat.le_refl _⟩
  | x :: xs, w, h => by
    obtain ⟨s, hs⟩ := h x List.mem_cons_self
    obtain ⟨w1, p1, p2⟩ := kn_put w s
    obtain ⟨w', q1, q2⟩ := dc_kn e xs w1 fun y hy => h y (List.mem_cons_of_mem _ hy)
    refine ⟨w', ?_, by rw [List.length_cons]; omega⟩
    show (f (e x)).bind _ = _
    rw [hs]
    show dcD false f (putKD (.inr s) (.bl true) (kn w)) (xs.map e) = _
    rw [p1]
    exact q1
theorem other_end_ok (e : St) (p : Str) : ∃ s, s_f_other_end [eS e, .str p] = some (.str s) := by
  have hc : CE.sem T_1 (.ife (.cmp .eq (.ix (.var 0) (.cD (.int (0)))) (.var 1)) (.ix (.var 0) (.cD (.int (1)))) (.ix (.var 0) (.cD (.int (0))))) [some (eS e), some (.str p)] = some (.str (if decide (e.1 = p) = true then e.2 else e.1)) := by
    have h1 : CE.sem T_1 (.cmp .eq (.ix (.var 0) (.cD (.int (0)))) (.var 1)) [some (eS e), some (.str p)] = some (.bl (decide (e.1 = p))) := cmp1 (x := .str e.1) rfl rfl (eq_strs _ _)
    show (CE.sem T_1 (.cmp .eq (.ix (.var 0) (.cD (.int (0)))) (.var 1)) [some (eS e), some (.str p)]).bind _ = _
    rw [h1]
    show (if decide (e.1 = p) = true then _ else _) = _
    by_cases h : e.1 = p
    · rw [decide_eq_true h]; rfl
    · rw [decide_eq_false h]; rfl
  exact ⟨_, sem_rt rfl (run_rt (ret_of hc))⟩
theorem places_beside_ok (hVl : V.length ≤ 1000) {kvs : List (Key × D)} (dk : DK (fun (k : Nat) => D.int (k : Int)) (fun k => k < es.length) V 48 kvs) : ∃ d, s_f_places_beside [.lst (strsL V), .lst (stsL es), .dct kvs] = some d := by
  obtain ⟨ρ', hf, fnd, g4, g5, rfl, _⟩ := frD_pre (t := fun x ρ => CT.bind (.nm 4) x ρ) (b := fun ρ => CB.run T_24 (.cons (.asg (.nm 5) (.dc [(Str.ofString "street", 6)] (.nm 6) (.seq (.ix (.var 2) (.var 4))) (.call ix_f_other_end (.cons (.ix (.var 1) (.var 6)) (.cons (.var 4) .nil))) (.cD (.bl true)))) (.cons (.setix 3 (.var 4) (.bi .sorted (.cons (.var 5) .nil))) .nil)) ρ) D.str
    (fun (ys : List Str) ρ => ∃ (fnd : List (Key × D)) (g4 g5 : Option D), ρ = [some (.lst (strsL V)), some (.lst (stsL es)), some (.dct kvs), some (.dct fnd), g4, g5, none] ∧ fnd.length ≤ ys.length) V [] [some (.lst (strsL V)), some (.lst (stsL es)), some (.dct kvs), some (.dct []), none, none, none]
    (fun ys p zs ρ e ⟨fnd, g4, g5, eρ, hl⟩ => by
      subst eρ
      rw [List.nil_append] at e
      have hp : p ∈ V := by rw [e]; simp
      have hy : ys.length ≤ 1000 := by
        have := congrArg List.length e
        rw [List.length_append] at this
        omega
      obtain ⟨ks, k1, k2, k3⟩ := dk_look dk hp
      obtain ⟨w', q1, q2⟩ := dc_kn (f := fun x => (CT.bind (.nm 6) x (wipeD [some (.lst (strsL V)), some (.lst (stsL es)), some (.dct kvs), some (.dct fnd), some (.str p), g5, none] ([(Str.ofString "street", 6)].map (·.2)))).bind fun ρ' => (CE.sem T_24 (.call ix_f_other_end (.cons (.ix (.var 1) (.var 6)) (.cons (.var 4) .nil))) ρ').bind fun y => (keyD y).bind fun q => (CE.sem T_24 (.cD (.bl true)) ρ').map fun z => (q, z)) (fun (k : Nat) => D.int (k : Int)) ks [] fun k hk => by
        have hlt := k3 k hk
        obtain ⟨s, hs⟩ := other_end_ok es[k] p
        refine ⟨s, ?_⟩
        have hc : CE.sem T_24 (.call ix_f_other_end (.cons (.ix (.var 1) (.var 6)) (.cons (.var 4) .nil))) [some (.lst (strsL V)), some (.lst (stsL es)), some (.dct kvs), some (.dct fnd), some (.str p), g5, some (.int k)] = some (.str s) := call_of (es_cons (ix_of rfl rfl (st_ix (List.getElem?_eq_getElem hlt))) (es_cons rfl es_nil)) hs
        show (CE.sem T_24 (.call ix_f_other_end (.cons (.ix (.var 1) (.var 6)) (.cons (.var 4) .nil))) [some (.lst (strsL V)), some (.lst (stsL es)), some (.dct kvs), some (.dct fnd), some (.str p), g5, some (.int k)]).bind _ = _
        rw [hc]
        rfl
      have hw : w'.length < 64 := by
        have : w'.length ≤ 0 + ks.length := q2
        omega
      have hso : biD .sorted [.dct (kn w')] = some (.lst (strsL (sortS leStr w'))) := by
        show (if (kn w').length < 64 then (sortD ((kn w').map fun p => keyV p.1)).map D.lst else none) = _
        rw [if_pos (by rw [len_kn]; exact hw)]
        have : ((kn w').map fun p => keyV p.1) = strsL w' := by
          unfold kn strsL
          rw [List.map_map]
          rfl
        rw [this, sortD_strs hw]
        rfl
      refine ⟨[some (.lst (strsL V)), some (.lst (stsL es)), some (.dct kvs), some (.dct fnd), some (.str p), g5, none], [some (.lst (strsL V)), some (.lst (stsL es)), some (.dct kvs), some (.dct (putKD (.inr p) (.lst (strsL (sortS leStr w'))) fnd)), some (.str p), some (.dct (kn w')), none], rfl, .inl ?_, _, _, _, rfl, ?_⟩
      · refine run_nx (asg_of (dc_of (xs := ks.map fun (k : Nat) => D.int (k : Int)) ?_ q1)) (run_nx ?_ run_nil)
        · show (CE.sem T_24 (.ix (.var 2) (.var 4)) _).bind seqD = _
          rw [ix_of (T := T_24) (e := .var 2) (f := .var 4) (x := .dct kvs) (y := .str p) (d := .lst (ks.map fun (k : Nat) => D.int (k : Int))) rfl rfl k1]
          rfl
        · unfold CS.run upS
          rw [bi1 (T := T_24) (m := .sorted) (e := .var 5) (x := .dct (kn w')) rfl hso]
          show (if fnd.length < LIM then some (D.dct (putKD (.inr p) (.lst (strsL (sortS leStr w'))) fnd)) else none).map _ = _
          rw [if_pos (by unfold LIM; omega)]
          rfl
      · rw [List.length_append]
        have : (putKD (.inr p) (.lst (strsL (sortS leStr w'))) fnd).length ≤ fnd.length + 1 := by
          unfold putKD
          split
          · rw [List.length_map]; omega
          · rw [List.length_append]; exact Nat.le_refl _
        show _ ≤ ys.length + 1
        omega) ⟨_, _, _, rfl, Nat.le_refl _⟩
  exact ⟨_, sem_rt rfl (run_nx rfl (run_nx (ρ' := [some (.lst (strsL V)), some (.lst (stsL es)), some (.dct kvs), some (.dct fnd), g4, g5, none]) (fr_of rfl hf) (run_rt rfl)))⟩
/-- Town(places, streets) -/
theorem init_town (t : Town V es) (hpl : s_f_are_places [.lst (strsL V)] = some (.bl true)) (hl : es.length ≤ 24) (hne : ∀ e ∈ es, e.1 ≠ e.2) : ∃ fs, s_m_town_init [.lst (strsL V), .lst (stsL es)] = some (tw V es fs) ∧ plainF fs := by
  have he : ∀ e ∈ es, e.1 ∈ V ∧ e.2 ∈ V ∧ e.1 ≠ e.2 := fun e h => ⟨(t.ends e h).1, (t.ends e h).2, hne e h⟩
  have hdr : ∀ d ∈ (es.zipIdx.flatMap fun p => [(p.2, p.1.1, p.1.2), (p.2, p.1.2, p.1.1)]), okDr V d := fun d hd => by
    obtain ⟨p, hp, hd⟩ := List.mem_flatMap.mp hd
    obtain ⟨_, _, e2⟩ := List.mem_zipIdx hp
    have hm : p.1 ∈ es := by rw [e2]; exact List.getElem_mem _
    obtain ⟨h1, h2⟩ := t.ends _ hm
    simp at hd
    rcases hd with rfl | rfl
    · exact ⟨h1, h2⟩
    · exact ⟨h2, h1⟩
  have hfl : ∀ (l : List (St × Nat)), (l.flatMap fun p => [(p.2, p.1.1, p.1.2), (p.2, p.1.2, p.1.1)]).length = 2 * l.length := fun l => by
    induction l with
    | nil => rfl
    | cons a l ih =>
      rw [List.flatMap_cons, List.length_append, ih, List.length_cons]
      show 2 + 2 * l.length = 2 * (l.length + 1)
      omega
  have hdl : (es.zipIdx.flatMap fun p => [(p.2, p.1.1, p.1.2), (p.2, p.1.2, p.1.1)]).length ≤ 3000 := by
    rw [hfl, List.length_zipIdx]
    have := t.few
    omega
  generalize hds : (es.zipIdx.flatMap fun p => [(p.2, p.1.1, p.1.2), (p.2, p.1.2, p.1.1)]) = ds at hdr hdl
  have had : s_f_all_drives [.lst (stsL es)] = some (.lst (ds.map dD)) := by rw [← hds]; exact all_drives_ok t.few
  obtain ⟨o1, ho1⟩ := by_place_ok t.nd hdr hdl 1 (.inl rfl)
  obtain ⟨o2, ho2⟩ := by_place_ok t.nd hdr hdl 2 (.inr rfl)
  obtain ⟨at_, hat, dk⟩ := streets_at_ok t.nd t.ends hl
  obtain ⟨bs, hbs⟩ := places_beside_ok t.pl dk
  refine ⟨[(Str.ofString "_drives", .tup (ds.map dD)), (Str.ofString "_out", .dct o1), (Str.ofString "_into", .dct o2), (Str.ofString "_at", .dct at_), (Str.ofString "_beside", bs)], ?_, ⟨rfl, rfl, rfl⟩⟩
  have setf_of : ∀ {T : Tab} {f : Str} {e : CE} {fs : List (Str × D)} {d : D} {r : Env}, CE.sem T e (some (.ins 0 fs) :: r) = some d → fs.length < 100 → CS.run T (.setf 0 0 f e) (some (.ins 0 fs) :: r) = some (.nx (some (.ins 0 (putFD f d fs)) :: r)) := fun {T f e fs d r} h hl => by
    unfold CS.run upS
    rw [h]
    show (if 0 = 0 ∧ fs.length < 100 then some (D.ins 0 (putFD f d fs)) else none).map _ = _
    rw [if_pos ⟨rfl, hl⟩]
    rfl
  have run : CB.run T_25 c_m_town_init.body [some (.ins 0 []), some (.lst (strsL V)), some (.lst (stsL es))] = some (.nx [some (tw V es [(Str.ofString "_drives", .tup (ds.map dD)), (Str.ofString "_out", .dct o1), (Str.ofString "_into", .dct o2), (Str.ofString "_at", .dct at_), (Str.ofString "_beside", bs)]), some (.lst (strsL V)), some (.lst (stsL es))]) := by
    refine run_nx (expr_of (call_of rfl (check_town_ok hpl hl he))) ?_
    refine run_nx (setf_of (d := .tup (strsL V)) (bi1 rfl rfl) (by decide)) ?_
    refine run_nx (setf_of (d := .tup (stsL es)) (bi1 rfl rfl) (by show 1 < 100; decide)) ?_
    refine run_nx (setf_of (d := .tup (ds.map dD)) (bi1 (call_of rfl had) rfl) (by show 2 < 100; decide)) ?_
    refine run_nx (setf_of (d := .dct o1) (call_of rfl ho1) (by show 3 < 100; decide)) ?_
    refine run_nx (setf_of (d := .dct o2) (call_of rfl ho2) (by show 4 < 100; decide)) ?_
    refine run_nx (setf_of (d := .dct at_) (call_of rfl hat) (by show 5 < 100; decide)) ?_
    refine run_nx (setf_of (d := bs) (call_of rfl hbs) (by show 6 < 100; decide)) ?_
    rfl
  exact init_of rfl run rfl
end
end PV

set_option Elab.async false
set_option linter.all false
set_option maxRecDepth 100000
set_option maxHeartbeats 4000000
/-! M11: the law, once the town is there. -/
namespace PV
open PySem LawC
theorem eqvs_ints_self : ∀ (w : List Nat), D.eqvs (intsL w) (intsL w) = true
  | [] => rfl
  | a :: w => by
    show (((a : Int) == (a : Int)) && D.eqvs (intsL w) (intsL w)) = true
    rw [eqvs_ints_self w]
    simp
theorem eqvs_lsts_self : ∀ (cs : List (List Nat)), D.eqvs (lstsL cs) (lstsL cs) = true
  | [] => rfl
  | c :: cs => by
    show (D.eqvs (intsL c) (intsL c) && D.eqvs (lstsL cs) (lstsL cs)) = true
    rw [eqvs_ints_self, eqvs_lsts_self cs]
    rfl
theorem ne_lsts (cs : List (List Nat)) : cmpD .ne (.lst (lstsL cs)) (.lst (lstsL cs)) = some false := by
  show (if D.scalP (.lst (lstsL cs)) (.lst (lstsL cs)) || ((D.lst (lstsL cs)).okEq && (D.lst (lstsL cs)).okEq) then some (D.eqvs (lstsL cs) (lstsL cs)) else none).map (!·) = _
  rw [okEq_lsts, if_pos (by rfl), eqvs_lsts_self]
  rfl
theorem ne_ints (w : List Nat) : cmpD .ne (.lst (intsL w)) (.lst (intsL w)) = some false := by
  have e : (D.lst (intsL w)).okEq = true := okEq_of (n := 1) (by decide) (by unfold dOk; exact dOks_ints 0)
  show (if D.scalP (.lst (intsL w)) (.lst (intsL w)) || ((D.lst (intsL w)).okEq && (D.lst (intsL w)).okEq) then some (D.eqvs (intsL w) (intsL w)) else none).map (!·) = _
  rw [e, if_pos (by rfl), eqvs_ints_self]
  rfl
section
variable {R : Nat → Nat → Bool} (E : Eqv R) {n i : Nat}
include E in
theorem cls_eq {r : Nat} (h : R r i = true) : cls R n r = cls R n i := by
  unfold cls
  refine List.filter_congr fun j _ => Bool.eq_iff_iff.mpr ⟨fun h2 => E.trans i r j (E.symm r i h) h2, fun h2 => E.trans r i j h h2⟩
include E in
theorem own_head (hi : i < n) : ∃ rest, (classesOf R n).filter (fun c => decide (i ∈ c)) = cls R n i :: rest := by
  cases h : (classesOf R n).filter (fun c => decide (i ∈ c)) with
  | nil =>
    obtain ⟨r, h1, h2, h3⟩ := first_of E i i (Nat.le_refl _)
    have hm : cls R n r ∈ classesOf R n := List.mem_map.mpr ⟨r, List.mem_filter.mpr ⟨List.mem_range.mpr (by omega), h2⟩, rfl⟩
    exact absurd (decide_eq_true (mem_cls.mpr ⟨hi, h3⟩)) (List.filter_eq_nil_iff.mp h _ hm)
  | cons c rest =>
    have hc : c ∈ (classesOf R n).filter (fun c => decide (i ∈ c)) := by rw [h]; exact List.mem_cons_self
    obtain ⟨hc1, hc2⟩ := List.mem_filter.mp hc
    obtain ⟨r, hr, rfl⟩ := List.mem_map.mp hc1
    have := (mem_cls.mp (of_decide_eq_true hc2)).2
    exact ⟨rest, by rw [cls_eq E this]⟩
include E in
theorem flat_perm : (classesOf R n).flatten.Perm (List.range n) := by
  refine perm_of_mem ?_ List.nodup_range fun x => ?_
  · refine List.pairwise_flatten.mpr ⟨fun c hc => ?_, ?_⟩
    · obtain ⟨r, _, rfl⟩ := List.mem_map.mp hc
      exact List.Pairwise.filter _ List.nodup_range
    · unfold classesOf
      rw [List.pairwise_map]
      have : (reps R n).Pairwise (· < ·) := sorted_filter _ n
      refine this.imp_of_mem fun {a b} ha hb hab => ?_
      intro x hx y hy hxy
      subst hxy
      have h1 := (mem_cls.mp hx).2
      have h2 := (mem_cls.mp hy).2
      have hb := (List.mem_filter.mp hb).2
      have := rep_iff.mp hb a hab
      rw [E.trans a x b h1 (E.symm b x h2)] at this
      cases this
  · rw [List.mem_flatten, List.mem_range]
    constructor
    · rintro ⟨c, hc, hx⟩
      obtain ⟨r, _, rfl⟩ := List.mem_map.mp hc
      exact (mem_cls.mp hx).1
    · intro hx
      obtain ⟨r, h1, h2, h3⟩ := first_of E x x (Nat.le_refl _)
      exact ⟨cls R n r, List.mem_map.mpr ⟨r, List.mem_filter.mpr ⟨List.mem_range.mpr (by omega), h2⟩, rfl⟩, mem_cls.mpr ⟨hx, h3⟩⟩
end
theorem intsD_ints : ∀ (w : List Nat), intsD (intsL w) = some (w.map fun (k : Nat) => (k : Int))
  | [] => rfl
  | a :: w => by
    show (intsD (intsL w)).map ((a : Int) :: ·) = _
    rw [intsD_ints w]
    rfl
theorem sorted_ints {w : List Nat} {n : Nat} (p : w.Perm (List.range n)) : sortD (intsL w) = some (intsL (List.range n)) := by
  unfold sortD
  rw [intsD_ints]
  have : (List.range n).map (fun (k : Nat) => (k : Int)) = sortS (fun a b => decide (a ≤ b)) (w.map fun (k : Nat) => (k : Int)) := by
    refine sort_ints (p.symm.map _) ?_
    rw [List.pairwise_map]
    exact List.pairwise_lt_range.imp fun {a b} h => by omega
  show some ((sortS (fun a b => decide (a ≤ b)) (w.map fun (k : Nat) => (k : Int))).map D.int) = _
  rw [← this, List.map_map]
  rfl
/-- ascending -/
abbrev Asc (V : List Str) : Prop := V.Pairwise fun a b => a.cps.toList < b.cps.toList
/-- all that is asked of the law's town -/
structure LawTown (V : List Str) (es : List St) : Prop where
  t : Town V es
  hv : V.length ≤ 63
  hs : ∀ x ∈ V, sOk x = true
  hl : es.length ≤ 24
  ne : ∀ e ∈ es, e.1 ≠ e.2
  pl : s_f_are_places [.lst (strsL V)] = some (.bl true)
  h0 : Conn V es []
  h1 : ∀ k, Conn V es [k]
  asc : Asc V
section
variable {V : List Str} {es : List St}
/-- the law's names: script, at, town, due, turn, whole, own, i, places, streets, told, j, one -/
abbrev LE (sc : D) (tn : D) (cs : List (List Nat)) (V : List Str) (es : List St) (g4 : Option D) (wh : Option D) (ow g7 g10 g11 : Option D) : Env := [some sc, some (.int 0), some tn, some (.lst (lstsL cs)), g4, wh, ow, g7, some (.lst (strsL V)), some (.lst (stsL es)), g10, g11, none]
theorem rng1_of {T : Tab} {ρ : Env} {e : CE} {i : Int} {xs : List D} (h : CE.sem T e ρ = some (.int i)) (h2 : rngD 0 i = some xs) : CI.sem T (.rng1 e) ρ = some xs := by
  unfold CI.sem
  rw [h]
  exact h2
theorem ne_bl (a : Bool) : cmpD .ne (.bl a) (.bl a) = some false := by
  show (some (a == a)).map (!·) = _
  simp
theorem frD_one {t : D → Env → Option Env} {b : Env → Option O} {x : D} {ρ ρ1 ρ' : Env} (h1 : t x ρ = some ρ1) (h2 : b ρ1 = some (.nx ρ')) : frD t b [x] ρ = some (.nx ρ') := by
  show (t x ρ).bind _ = _
  rw [h1, Option.bind_some, h2]
  rfl
theorem law_mod (a n : Nat) (h : 0 < n) : binD .mod (.int (a : Int)) (.int (n : Int)) = some (.int ((a % n : Nat) : Int)) := by
  show (if (0 : Int) < (n : Int) then some (D.int ((a : Int) % (n : Int))) else none) = _
  rw [if_pos (by omega)]
  rfl
theorem len_es {T : Tab} {ρ : Env} (h : ρ[9]? = some (some (.lst (stsL es)))) : CE.sem T (.bi .len (.cons (.var 9) .nil)) ρ = some (.int es.length) := by
  have v : CE.sem T (.var 9) ρ = some (.lst (stsL es)) := by show (ρ[9]?).bind id = _; rw [h]; rfl
  refine bi1 v ?_
  show some (D.int ((stsL es).length : Int)) = _
  rw [len_sts]
theorem rl_mem {i j : Nat} (hj : j < es.length) : decide (j ∈ cls (rl V es) es.length i) = rl V es i j := by
  cases h : rl V es i j with
  | true => exact decide_eq_true (mem_cls.mpr ⟨hj, h⟩)
  | false =>
    refine decide_eq_false fun hm => ?_
    have := (mem_cls.mp hm).2
    rw [h] at this
    cases this
end
end PV

set_option Elab.async false
set_option linter.all false
set_option maxRecDepth 100000
set_option maxHeartbeats 4000000
/-! M12: _law_numbers. -/
namespace PV
open PySem LawC
theorem mul_r {i j : Int} (h : -(2 ^ 64) < j ∧ j < 2 ^ 64) : binD .mul (.int i) (.int j) = some (.int (i * j)) := by
  show (if (-(2 ^ 64) < i ∧ i < 2 ^ 64) ∨ (-(2 ^ 64) < j ∧ j < 2 ^ 64) then some (D.int (i * j)) else none) = _
  rw [if_pos (.inr h)]
def IntsB (l : List Int) (n : Nat) : Prop := l.length = n ∧ ∀ x ∈ l, 0 ≤ x ∧ x < 1009
abbrev NE (sc : D) (cell : Int) (l : List Int) (g5 g6 : Option D) : Env := [some sc, some (.int 0), some (.int 60), some (.int cell), some (.lst (l.map D.int)), g5, g6]
abbrev Nb : CB := (.cons (.ife (.cmp .ge (.var 3) (.bin .pow (.cD (.int (10))) (.cD (.int (18))))) (.cons (.app 4 (.bin .mod (.var 3) (.cD (.int (1009))))) (.cons (.asg (.nm 3) (.bin .fdiv (.var 3) (.cD (.int (1009))))) .nil)) (.cons (.asg (.nm 6) (.bin .mod (.bin .add (.bin .add (.bin .mul (.var 3) (.cD (.int (48271)))) (.bin .mul (.bin .add (.var 5) (.cD (.int (1)))) (.cD (.int (69621))))) (.bin .mul (.var 1) (.cD (.int (4001))))) (.cD (.int (2147483647))))) (.cons (.asg (.nm 6) (.bin .mod (.bin .add (.bin .mul (.var 6) (.var 6)) (.bin .mul (.cD (.int (16807))) (.bin .add (.var 5) (.cD (.int (3)))))) (.cD (.int (2147483629))))) (.cons (.app 4 (.bin .mod (.bin .fdiv (.var 6) (.cD (.int (7)))) (.cD (.int (1009))))) .nil)))) .nil)
theorem app_ints {T : Tab} {c : CE} {sc : D} {cell v : Int} {l : List Int} {g5 g6 : Option D} (h : CE.sem T c (NE sc cell l g5 g6) = some (.int v)) (hl : l.length ≤ 1000) : CS.run T (.app 4 c) (NE sc cell l g5 g6) = some (.nx (NE sc cell (l ++ [v]) g5 g6)) := by
  rw [app_of h rfl (by rw [List.length_map]; unfold LIM; omega)]
  have e : l.map D.int ++ [D.int v] = (l ++ [v]).map D.int := by
    rw [List.map_append]
    rfl
  show some (O.nx [_, _, _, _, some (.lst (l.map D.int ++ [D.int v])), _, _]) = _
  rw [e]
theorem num_turn {sc : D} {cell : Int} {l : List Int} {k : Nat} {g6 : Option D} {n : Nat} (hl : IntsB l n) (hn : n ≤ 1000) (hc : 0 ≤ cell) : ∃ cell' l' g6', CB.run T_55 Nb (NE sc cell l (some (.int k)) g6) = some (.nx (NE sc cell' l' (some (.int k)) g6')) ∧ IntsB l' (n + 1) ∧ 0 ≤ cell' := by
  obtain ⟨h1, h2⟩ := hl
  have cond : CE.sem T_55 (.cmp .ge (.var 3) (.bin .pow (.cD (.int (10))) (.cD (.int (18))))) (NE sc cell l (some (.int k)) g6) = some (.bl (decide ((1000000000000000000 : Int) ≤ cell))) := cmp1 (x := .int cell) (y := .int 1000000000000000000) rfl rfl rfl
  have snoc : ∀ {v : Int}, 0 ≤ v → v < 1009 → IntsB (l ++ [v]) (n + 1) := fun h3 h4 => ⟨by rw [List.length_append, h1]; rfl, fun x hx => by
    rcases List.mem_append.mp hx with hx | hx
    · exact h2 x hx
    · obtain rfl := List.mem_singleton.mp hx
      exact ⟨h3, h4⟩⟩
  by_cases hge : (1000000000000000000 : Int) ≤ cell
  · refine ⟨cell / 1009, l ++ [cell % 1009], g6, run_nx (ife_bl cond ?_) run_nil, snoc (Int.emod_nonneg _ (by decide)) (Int.emod_lt_of_pos _ (by decide)), Int.ediv_nonneg hc (by decide)⟩
    rw [if_pos (by simpa using hge)]
    exact run_nx (app_ints rfl (by omega)) (run_nx rfl run_nil)
  · let m1 : Int := (cell * 48271 + ((k : Int) + 1) * 69621 + 0 * 4001) % 2147483647
    let m2 : Int := (m1 * m1 + 16807 * ((k : Int) + 3)) % 2147483629
    have hm1 : 0 ≤ m1 ∧ m1 < 2147483647 := ⟨Int.emod_nonneg _ (by decide), Int.emod_lt_of_pos _ (by decide)⟩
    have hm2 : 0 ≤ m2 := Int.emod_nonneg _ (by decide)
    refine ⟨cell, l ++ [m2 / 7 % 1009], some (.int m2), run_nx (ife_bl cond ?_) run_nil, snoc (Int.emod_nonneg _ (by decide)) (Int.emod_lt_of_pos _ (by decide)), hc⟩
    rw [if_neg (by simpa using hge)]
    refine run_nx (ρ' := NE sc cell l (some (.int k)) (some (.int m1))) (asg_of (bin_of (bin_of (bin_of (bin_of rfl rfl (mul_r (by omega))) (bin_of rfl rfl (mul_r (by omega))) rfl) rfl rfl) rfl rfl)) (run_nx (ρ' := NE sc cell l (some (.int k)) (some (.int m2))) (asg_of (bin_of (bin_of (bin_of rfl rfl (mul_r (by omega))) rfl rfl) rfl rfl)) (run_nx (app_ints rfl (by omega)) run_nil))
theorem numbers_ok (ns : List Int) : ∃ l, s_f_law_numbers [.lst (ns.map D.int), .int 0, .int 60] = some (.lst (l.map D.int)) ∧ IntsB l 60 := by
  have loop : ∀ cell : Int, 0 ≤ cell → ∃ l cell' g5 g6, CS.run T_55 (.fr (.nm 5) (.rng1 (.var 2)) Nb) (NE (.lst (ns.map D.int)) cell [] none none) = some (.nx (NE (.lst (ns.map D.int)) cell' l g5 g6)) ∧ IntsB l 60 := fun cell hcell => by
    obtain ⟨ρ', hf, cell', l, g5, g6, rfl, hl, _⟩ := frD_pre (t := fun x ρ => CT.bind (.nm 5) x ρ) (b := fun ρ => CB.run T_55 Nb ρ) (fun (k : Nat) => D.int (k : Int))
      (fun (ys : List Nat) ρ => ∃ cell' l g5 g6, ρ = NE (.lst (ns.map D.int)) cell' l g5 g6 ∧ IntsB l ys.length ∧ 0 ≤ cell') (List.range 60) [] (NE (.lst (ns.map D.int)) cell [] none none)
      (fun ys k zs ρ e ⟨cell', l, g5, g6, eρ, hl, hc⟩ => by
        subst eρ
        rw [List.nil_append] at e
        have hy : ys.length ≤ 1000 := by
          have := congrArg List.length e
          rw [List.length_range, List.length_append] at this
          omega
        obtain ⟨c2, l2, g2, h1, h2, h3⟩ := num_turn (sc := .lst (ns.map D.int)) (k := k) (g6 := g6) hl hy hc
        exact ⟨NE (.lst (ns.map D.int)) cell' l (some (.int k)) g6, _, rfl, .inl h1, c2, l2, _, g2, rfl, by rw [List.length_append]; exact h2, h3⟩) ⟨cell, [], none, none, rfl, ⟨rfl, fun x hx => by cases hx⟩, hcell⟩
    exact ⟨l, cell', g5, g6, fr_of (rng1_of rfl (rng_nat 60 (by decide))) hf, by rw [List.nil_append, List.length_range] at hl; exact hl⟩
  -- the cell, made not negative
  have neg : ∀ cell : Int, ∃ cell', 0 ≤ cell' ∧ CS.run T_55 (.ife (.cmp .lt (.var 3) (.cD (.int (0)))) (.cons (.asg (.nm 3) (.bin .sub (.cD (.int (1))) (.bin .mul (.cD (.int (2))) (.var 3)))) .nil) .nil) [some (.lst (ns.map D.int)), some (.int 0), some (.int 60), some (.int cell), none, none, none] = some (.nx [some (.lst (ns.map D.int)), some (.int 0), some (.int 60), some (.int cell'), none, none, none]) := fun cell => by
    have cond : CE.sem T_55 (.cmp .lt (.var 3) (.cD (.int (0)))) [some (.lst (ns.map D.int)), some (.int 0), some (.int 60), some (.int cell), none, none, none] = some (.bl (decide (cell < 0))) := cmp1 rfl rfl rfl
    by_cases h : cell < 0
    · refine ⟨1 - 2 * cell, by omega, ife_bl cond ?_⟩
      rw [if_pos (by simpa using h)]
      exact run_nx (asg_of (bin_of rfl (bin_of rfl rfl rfl) rfl)) run_nil
    · refine ⟨cell, by omega, ife_bl cond ?_⟩
      rw [if_neg (by simpa using h)]
      rfl
  have fin : ∀ cell : Int, CB.run T_55 (.cons (.asg (.nm 3) (.bin .mul (.cD (.int (1000003))) (.bin .add (.var 1) (.cD (.int (1)))))) (.cons (.ife (.cmp .lt (.var 1) (.bi .len (.cons (.var 0) .nil))) (.cons (.asg (.nm 3) (.bi .int_ (.cons (.ix (.var 0) (.var 1)) .nil))) .nil) .nil) .nil)) [some (.lst (ns.map D.int)), some (.int 0), some (.int 60), none, none, none, none] = some (.nx [some (.lst (ns.map D.int)), some (.int 0), some (.int 60), some (.int cell), none, none, none]) → True := fun _ _ => trivial
  have two_ : ∃ cell : Int, ∀ {b : CB} {o : Option O}, CB.run T_55 b [some (.lst (ns.map D.int)), some (.int 0), some (.int 60), some (.int cell), none, none, none] = o → CB.run T_55 (.cons (.asg (.nm 3) (.bin .mul (.cD (.int (1000003))) (.bin .add (.var 1) (.cD (.int (1)))))) (.cons (.ife (.cmp .lt (.var 1) (.bi .len (.cons (.var 0) .nil))) (.cons (.asg (.nm 3) (.bi .int_ (.cons (.ix (.var 0) (.var 1)) .nil))) .nil) .nil) b)) [some (.lst (ns.map D.int)), some (.int 0), some (.int 60), none, none, none, none] = o := by
    cases ns with
    | nil => exact ⟨1000003, fun h => run_nx rfl (run_nx (ife_bl rfl rfl) h)⟩
    | cons x ns =>
      refine ⟨x, fun h => run_nx rfl (run_nx (ρ' := [some (.lst ((x :: ns).map D.int)), some (.int 0), some (.int 60), some (.int x), none, none, none]) (ife_bl (k := true) (cmp1 (x := .int 0) (y := .int ((x :: ns).map D.int).length) rfl rfl ?_) ?_) h)⟩
      · show some (decide ((0 : Int) < (((x :: ns).map D.int).length : Int))) = _
        rw [decide_eq_true (by simp)]
      · rw [if_pos rfl]
        refine run_nx (asg_of (d := .int x) (bi1 (ix_of rfl rfl (?_ : _ = some (D.int x))) rfl)) run_nil
        show L2.atI ((x :: ns).map D.int) ((0 : Nat) : Int) = _
        rw [atI_nat (by simp)]
        rfl
  obtain ⟨cell, h2⟩ := two_
  obtain ⟨cell', hc, h3⟩ := neg cell
  obtain ⟨l, cell'', g5, g6, h4, h5⟩ := loop cell' hc
  exact ⟨l, sem_rt rfl (h2 (run_nx h3 (run_nx rfl (run_nx h4 (run_rt rfl))))), h5⟩
end PV

set_option Elab.async false
set_option linter.all false
set_option maxRecDepth 100000
set_option maxHeartbeats 4000000
/-! M13: towns made of ways that hang on each other have no link. -/
namespace PV
open PySem LawC
abbrev NE2 := Nat × Nat
def crs (χ : Nat → Bool) (e : NE2) : Bool := χ e.1 != χ e.2
def GoodN (n : Nat) (E : List NE2) : Prop := ∀ χ : Nat → Bool, E.countP (crs χ) ≤ 1 → ∀ u, u < n → ∀ v, v < n → χ u = χ v
/-- the pieces of a way -/
def pe : List Nat → List NE2
  | a :: b :: r => (a, b) :: pe (b :: r)
  | _ => []
theorem pe_zero {χ : Nat → Bool} : ∀ {a : Nat} {r : List Nat}, (pe (a :: r)).countP (crs χ) = 0 → ∀ x ∈ a :: r, χ x = χ a
  | a, [], _, x, hx => by rw [List.mem_singleton.mp hx]
  | a, b :: r, h, x, hx => by
    have h : ((a, b) :: pe (b :: r)).countP (crs χ) = 0 := h
    rw [List.countP_cons] at h
    have hab : χ a = χ b := by
      have : crs χ (a, b) = false := by
        cases hc : crs χ (a, b) with
        | false => rfl
        | true => rw [hc, if_pos rfl] at h; omega
      unfold crs at this
      simpa using this
    rcases List.mem_cons.mp hx with rfl | hx
    · rfl
    · rw [pe_zero (χ := χ) (a := b) (r := r) (Nat.add_eq_zero_iff.mp h).1 x hx, hab]
theorem pe_par {χ : Nat → Bool} : ∀ (a : Nat) (r : List Nat) (g : Nat), (a :: r).getLast? = some g → ((pe (a :: r)).countP (crs χ) % 2 = 0 ↔ χ a = χ g)
  | a, [], g, h => by
    have : a = g := by simpa using h
    subst this
    exact ⟨fun _ => rfl, fun _ => rfl⟩
  | a, b :: r, g, h => by
    have ih := pe_par (χ := χ) b r g (by rw [List.getLast?_cons_cons] at h; exact h)
    show ((a, b) :: pe (b :: r)).countP (crs χ) % 2 = 0 ↔ _
    rw [List.countP_cons]
    cases hc : crs χ (a, b) with
    | false =>
      have hab : χ a = χ b := by unfold crs at hc; simpa using hc
      rw [if_neg Bool.false_ne_true, hab]
      exact ih
    | true =>
      have hab : χ a ≠ χ b := by unfold crs at hc; simpa using hc
      rw [if_pos rfl]
      constructor
      · intro h1
        have : ¬ χ b = χ g := fun z => by have := ih.mpr z; omega
        revert hab this
        cases χ a <;> cases χ b <;> cases χ g <;> simp
      · intro h1
        have : ¬ χ b = χ g := fun z => hab (h1.trans z.symm)
        have := mt ih.mp this
        omega
theorem good_one : GoodN 1 [] := fun χ _ u hu v hv => by
  obtain rfl : u = 0 := by omega
  obtain rfl : v = 0 := by omega
  rfl
/-- a way more -/
theorem good_ear {u m s g : Nat} {E : List NE2} (h : GoodN u E) (hs : s < u) (hg : g < u) : GoodN (u + m) (E ++ pe (s :: (List.range' u m ++ [g]))) := by
  intro χ hc
  rw [List.countP_append] at hc
  have hE := h χ (by omega)
  have hp := (pe_par (χ := χ) s (List.range' u m ++ [g]) g (by rw [List.getLast?_cons, List.getLast?_append]; rfl)).mpr (hE s hs g hg)
  have h0 : (pe (s :: (List.range' u m ++ [g]))).countP (crs χ) = 0 := by omega
  have hall := pe_zero h0
  have key : ∀ x, x < u + m → χ x = χ s := fun x hx => by
    by_cases hxu : x < u
    · exact hE x hxu s hs
    · exact hall x (List.mem_cons_of_mem _ (List.mem_append.mpr (.inl (List.mem_range'_1.mpr ⟨by omega, hx⟩))))
  intro a ha b hb
  rw [key a ha, key b hb]
theorem good_more {n : Nat} {E X : List NE2} (h : GoodN n E) : GoodN n (E ++ X) := fun χ hc => h χ (by rw [List.countP_append] at hc; omega)
theorem good_perm {n : Nat} {E F : List NE2} (h : GoodN n E) (p : F.Perm E) : GoodN n F := fun χ hc => h χ (by rw [← p.countP_eq]; exact hc)
theorem good_map {n : Nat} {E : List NE2} {α : Type} (l : List α) (f g : α → NE2) (hg : E = l.map g) (h : GoodN n E) (hf : ∀ x ∈ l, f x = g x ∨ f x = ((g x).2, (g x).1)) : GoodN n (l.map f) := fun χ hc => h χ (by
  rw [hg, List.countP_map]
  rw [List.countP_map] at hc
  refine Nat.le_trans (Nat.le_of_eq (List.countP_congr fun x hx => ?_)) hc
  show crs χ (g x) = true ↔ crs χ (f x) = true
  rcases hf x hx with e | e
  · rw [e]
  · rw [e]
    unfold crs
    cases χ (g x).1 <;> cases χ (g x).2 <;> simp)
/-! ### from the numbers to the names -/
def nmE (f : Nat → Str) (E : List NE2) : List St := E.map fun e => (f e.1, f e.2)
theorem open_count {k : Nat} {χ : Str → Bool} : ∀ (es : List St) (o : Nat), (∀ p ∈ es.zipIdx o, p.2 ≠ k → χ p.1.1 = χ p.1.2) → es.countP (fun e => χ e.1 != χ e.2) ≤ (if o ≤ k then 1 else 0)
  | [], o, _ => Nat.zero_le _
  | e :: es, o, h => by
    have ih := open_count es (o + 1) fun p hp => h p (by rw [List.zipIdx_cons]; exact List.mem_cons_of_mem _ hp)
    rw [List.countP_cons]
    have h0 := h (e, o) (by rw [List.zipIdx_cons]; exact List.mem_cons_self)
    by_cases hk : o = k
    · subst hk
      rw [if_neg (by omega)] at ih
      rw [if_pos (Nat.le_refl _)]
      split <;> omega
    · have := h0 hk
      have hz : (χ e.1 != χ e.2) = false := by rw [this]; simp
      rw [hz, if_neg Bool.false_ne_true]
      refine Nat.le_trans ih ?_
      split <;> split <;> omega
theorem conn_of {n : Nat} {E : List NE2} {f : Nat → Str} (h : GoodN n E) : Conn ((List.range n).map f) (nmE f E) [] ∧ ∀ k, Conn ((List.range n).map f) (nmE f E) [k] := by
  have key : ∀ (χ : Str → Bool), (nmE f E).countP (fun e => χ e.1 != χ e.2) ≤ 1 → ∀ u ∈ (List.range n).map f, ∀ v ∈ (List.range n).map f, χ u = χ v := fun χ hc u hu v hv => by
    obtain ⟨a, ha, rfl⟩ := List.mem_map.mp hu
    obtain ⟨b, hb, rfl⟩ := List.mem_map.mp hv
    refine h (fun i => χ (f i)) ?_ a (List.mem_range.mp ha) b (List.mem_range.mp hb)
    unfold nmE at hc
    rw [List.countP_map] at hc
    exact hc
  refine ⟨fun χ ho => key χ ?_, fun k χ ho => key χ ?_⟩
  · have := open_count (k := 0) (nmE f E) 0 fun p hp _ => ho p hp (by simp)
    rw [if_pos (Nat.zero_le _)] at this
    exact this
  · have := open_count (k := k) (nmE f E) 0 fun p hp hk => ho p hp (by simpa using hk)
    rw [if_pos (Nat.zero_le _)] at this
    exact this
end PV

set_option Elab.async false
set_option linter.all false
set_option maxRecDepth 100000
set_option maxHeartbeats 4000000
/-! M14: the places' names. -/
namespace PV
open PySem LawC
def nm (d k : Nat) : Str := (⟨#[(Str.ofString "abcdefghijkl").cps.toList.getD k 0]⟩ : Str) ++ (toString (d : Int) : String)
abbrev Vn (d n : Nat) : List Str := (List.range n).map (nm d)
def isT : Option D → Bool
  | some (.bl true) => true
  | _ => false
theorem isT_ok {o : Option D} (h : isT o = true) : o = some (.bl true) := by
  unfold isT at h
  split at h
  · rfl
  · cases h
def chkN (d n : Nat) : Bool := isT (s_f_are_places [.lst (strsL (Vn d n))]) && decide (Vn d n).Nodup && (Vn d n).all sOk && decide (Asc (Vn d n))
theorem all_names : ((List.range 10).all fun d => (List.range 8).all fun n => chkN d (n + 1)) = true := by decide +kernel
end PV

set_option Elab.async false
set_option linter.all false
set_option maxRecDepth 100000
set_option maxHeartbeats 4000000
/-! M15: _law_good_town. -/
namespace PV
open PySem LawC
abbrev GE (sc : D) (l : List Int) (n d : Nat) (E : List NE2) (x8 x9 x10 x11 x12 x13 x14 x15 x16 x17 : Option D) : Env :=
  [some sc, some (.int 0), some (.int 8), some (.int 14), some (.lst (l.map D.int)), some (.int n), some (.lst (strsL (Vn d n))), some (.lst (stsL (nmE (nm d) E))), x8, x9, x10, x11, x12, x13, x14, x15, x16, x17, none]
theorem num_ix {l : List Int} (hl : IntsB l 60) {k : Nat} (hk : k < 60) : ∃ x : Nat, x < 1009 ∧ ixD (.lst (l.map D.int)) (.int k) = some (.int x) := by
  obtain ⟨h1, h2⟩ := hl
  have hlt : k < l.length := by omega
  obtain ⟨a, b⟩ := h2 l[k] (List.getElem_mem hlt)
  refine ⟨l[k].toNat, by omega, ?_⟩
  show L2.atI (l.map D.int) (k : Int) = _
  rw [atI_nat (by rw [List.length_map]; exact hlt), List.getElem?_map, List.getElem?_eq_getElem hlt]
  show some (D.int l[k]) = _
  rw [Int.toNat_of_nonneg a]
theorem place_ix {d n i : Nat} (h : i < n) : ixD (.lst (strsL (Vn d n))) (.int i) = some (.str (nm d i)) :=
  str_ix (by rw [List.getElem?_map, List.getElem?_range h]; rfl)
theorem mod_nat (a n : Nat) (h : 0 < n) : binD .mod (.int (a : Int)) (.int (n : Int)) = some (.int ((a % n : Nat) : Int)) := law_mod a n h
/-- a number of the script, by an index that is told -/
theorem num_of {T : Tab} {ρ : Env} {l : List Int} (hl : IntsB l 60) (r4 : ρ[4]? = some (some (.lst (l.map D.int)))) {e : CE} {k : Nat} (hk : k < 60) (he : CE.sem T e ρ = some (.int k)) : ∃ x : Nat, x < 1009 ∧ CE.sem T (.ix (.var 4) e) ρ = some (.int x) := by
  obtain ⟨x, h1, h2⟩ := num_ix hl hk
  exact ⟨x, h1, ix_of (by show (ρ[4]?).bind id = _; rw [r4]; rfl) he h2⟩
theorem pe_range : ∀ (w : List Nat), (List.range (w.length - 1)).map (fun k => (w.getD k 0, w.getD (k + 1) 0)) = pe w
  | [] => rfl
  | [a] => rfl
  | a :: b :: r => by
    have ih := pe_range (b :: r)
    show (List.range ((b :: r).length)).map _ = (a, b) :: pe (b :: r)
    rw [← ih, List.length_cons, List.range_succ_eq_map, List.map_cons, List.map_map]
    rfl
abbrev EFb : CB := (.cons (.app 7 (.tup (.cons (.ix (.var 6) (.ix (.var 15) (.var 10))) (.cons (.ix (.var 6) (.ix (.var 15) (.bin .add (.var 10) (.cD (.int (1)))))) (.cons (.cD (.str (Str.ofString "two"))) .nil))))) .nil)
theorem int_ix {w : List Nat} {k : Nat} (h : k < w.length) : ixD (.lst (intsL w)) (.int k) = some (.int (w.getD k 0 : Nat)) := by
  show L2.atI (intsL w) (k : Int) = _
  rw [atI_nat (by rw [len_ints]; exact h)]
  unfold intsL
  rw [List.getElem?_map, List.getElem?_eq_getElem h, List.getD_eq_getElem?_getD, List.getElem?_eq_getElem h]
  rfl
theorem nmE_snoc {f : Nat → Str} {E : List NE2} {e : NE2} : stsL (nmE f (E ++ [e])) = stsL (nmE f E) ++ [eS (f e.1, f e.2)] := by
  unfold nmE stsL
  rw [List.map_append, List.map_append]
  rfl
theorem len_nmE {f : Nat → Str} {E : List NE2} : (stsL (nmE f E)).length = E.length := by
  unfold nmE stsL
  rw [List.length_map, List.length_map]
section
variable {sc : D} {l : List Int} {n d : Nat}
/-- a street is put behind the others -/
theorem app_st {T : Tab} {E : List NE2} {a b : Nat} {x8 x9 x10 x11 x12 x13 x14 x15 x16 x17 : Option D} {ea eb : CE} (ha : a < n) (hb : b < n) (hE : E.length ≤ 1000)
    (h1 : CE.sem T ea (GE sc l n d E x8 x9 x10 x11 x12 x13 x14 x15 x16 x17) = some (.int a)) (h2 : CE.sem T eb (GE sc l n d E x8 x9 x10 x11 x12 x13 x14 x15 x16 x17) = some (.int b)) :
    CS.run T (.app 7 (.tup (.cons (.ix (.var 6) ea) (.cons (.ix (.var 6) eb) (.cons (.cD (.str (Str.ofString "two"))) .nil))))) (GE sc l n d E x8 x9 x10 x11 x12 x13 x14 x15 x16 x17) = some (.nx (GE sc l n d (E ++ [(a, b)]) x8 x9 x10 x11 x12 x13 x14 x15 x16 x17)) := by
  rw [app_of (tup_of (es_cons (ix_of rfl h1 (place_ix ha)) (es_cons (ix_of rfl h2 (place_ix hb)) (es_cons rfl es_nil)))) rfl (by rw [len_nmE]; unfold LIM; omega)]
  show some (O.nx [_, _, _, _, _, _, _, some (.lst (stsL (nmE (nm d) E) ++ [eS (nm d a, nm d b)])), _, _, _, _, _, _, _, _, _, _, _]) = _
  rw [← nmE_snoc (e := (a, b))]
theorem min_nat (a b : Nat) : biD .min2 [.int (a : Int), .int (b : Int)] = some (.int ((min a b : Nat) : Int)) := by
  show some (D.int (if (b : Int) < (a : Int) then (b : Int) else a)) = _
  congr 2
  split <;> omega
theorem bi2 {T : Tab} {ρ : Env} {m : Bi} {e f : CE} {x y d : D} (h : CE.sem T e ρ = some x) (h2 : CE.sem T f ρ = some y) (hb : biD m [x, y] = some d) : CE.sem T (.bi m (.cons e (.cons f .nil))) ρ = some d := by
  unfold CE.sem
  rw [es_cons h (es_cons h2 es_nil)]
  exact hb
theorem add_nat (a b : Nat) : binD .add (.int (a : Int)) (.int (b : Int)) = some (.int ((a + b : Nat) : Int)) := by
  show some (D.int ((a : Int) + (b : Int))) = _
  rw [Int.natCast_add]
theorem sub_nat {a b : Nat} (h : b ≤ a) : binD .sub (.int (a : Int)) (.int (b : Int)) = some (.int ((a - b : Nat) : Int)) := by
  show some (D.int ((a : Int) - (b : Int))) = _
  rw [Int.ofNat_sub h]
theorem rng2_of {T : Tab} {ρ : Env} {e f : CE} {a m : Nat} (h : CE.sem T e ρ = some (.int a)) (h2 : CE.sem T f ρ = some (.int ((a + m : Nat) : Int))) (hb : a + m ≤ 1000) : CE.sem T (.lstr (.rng2 e f)) ρ = some (.lst (intsL (List.range' a m))) := by
  have : rngD (a : Int) ((a + m : Nat) : Int) = some (intsL (List.range' a m)) := by
    unfold rngD
    rw [if_pos (by omega)]
    congr 1
    have : (((a + m : Nat) : Int) - (a : Int)).toNat = m := by omega
    rw [this]
    unfold intsL
    rw [List.range'_eq_map_range, List.map_map]
    exact List.map_congr_left fun k _ => by
      show D.int ((a : Int) + (k : Int)) = D.int ((a + k : Nat) : Int)
      rw [Int.natCast_add]
  unfold CE.sem CI.sem
  rw [h, Option.bind_some, h2, Option.bind_some]
  show (rngD _ _).map D.lst = _
  rw [this]
  rfl
end
end PV

set_option Elab.async false
set_option linter.all false
set_option maxRecDepth 100000
set_option maxHeartbeats 4000000
/-! M16: the ways of _law_good_town. -/
namespace PV
open PySem LawC
/-- what holds of the streets so far -/
structure Ear (u : Nat) (E : List NE2) : Prop where
  good : GoodN u E
  ix : ∀ e ∈ E, e.1 < u ∧ e.2 < u ∧ e.1 ≠ e.2
  len : E.length ≤ 2 * (u - 1)
  ne : 2 ≤ u → E ≠ []
theorem pe_mem : ∀ {w : List Nat} {e : NE2}, e ∈ pe w → e.1 ∈ w ∧ e.2 ∈ w
  | [], e, h => by cases h
  | [a], e, h => by cases h
  | a :: b :: r, e, h => by
    rcases List.mem_cons.mp (show e ∈ (a, b) :: pe (b :: r) from h) with rfl | h
    · exact ⟨List.mem_cons_self, List.mem_cons_of_mem _ List.mem_cons_self⟩
    · have := pe_mem h
      exact ⟨List.mem_cons_of_mem _ this.1, List.mem_cons_of_mem _ this.2⟩
theorem pe_len : ∀ (w : List Nat), (pe w).length = w.length - 1
  | [] => rfl
  | [a] => rfl
  | a :: b :: r => by
    show (pe (b :: r)).length + 1 = _
    rw [pe_len (b :: r)]
    rfl
theorem pe_ne : ∀ {w : List Nat}, w.Pairwise (· < ·) → ∀ e ∈ pe w, e.1 ≠ e.2
  | [], _, e, h => by cases h
  | [a], _, e, h => by cases h
  | a :: b :: r, hp, e, h => by
    rw [List.pairwise_cons] at hp
    rcases List.mem_cons.mp (show e ∈ (a, b) :: pe (b :: r) from h) with rfl | h
    · exact Nat.ne_of_lt (hp.1 b List.mem_cons_self)
    · exact pe_ne hp.2 e h
theorem pe_snoc : ∀ (a : Nat) (r : List Nat) (g : Nat), ∃ z, (a :: r).getLast? = some z ∧ pe (a :: r ++ [g]) = pe (a :: r) ++ [(z, g)]
  | a, [], g => ⟨a, rfl, rfl⟩
  | a, b :: r, g => by
    obtain ⟨z, h1, h2⟩ := pe_snoc b r g
    refine ⟨z, by rw [List.getLast?_cons_cons]; exact h1, ?_⟩
    show (a, b) :: pe (b :: r ++ [g]) = _
    rw [h2]
    rfl
theorem ear_step {u m s g : Nat} {E : List NE2} (h : Ear u E) (hu : 1 ≤ u) (hm : 1 ≤ m) (hs : s < u) (hg : g < u) : Ear (u + m) (E ++ pe (s :: (List.range' u m ++ [g]))) := by
  have hmem : ∀ x ∈ s :: (List.range' u m ++ [g]), x < u + m := fun x hx => by
    rcases List.mem_cons.mp hx with rfl | hx
    · omega
    · rcases List.mem_append.mp hx with hx | hx
      · exact (List.mem_range'_1.mp hx).2
      · rw [List.mem_singleton.mp hx]; omega
  have hlen : (pe (s :: (List.range' u m ++ [g]))).length = m + 1 := by
    rw [pe_len]
    simp
  refine ⟨good_ear h.good hs hg, fun e he => ?_, ?_, fun _ z => ?_⟩
  · rcases List.mem_append.mp he with he | he
    · obtain ⟨a, b, c⟩ := h.ix e he
      exact ⟨by omega, by omega, c⟩
    · obtain ⟨a, b⟩ := pe_mem he
      refine ⟨hmem _ a, hmem _ b, ?_⟩
      obtain ⟨z, hz, hpe⟩ := pe_snoc s (List.range' u m) g
      rw [show s :: (List.range' u m ++ [g]) = s :: List.range' u m ++ [g] from rfl, hpe] at he
      have hsort : (s :: List.range' u m).Pairwise (· < ·) := List.pairwise_cons.mpr ⟨fun x hx => by have := (List.mem_range'_1.mp hx).1; omega, List.pairwise_lt_range'⟩
      rcases List.mem_append.mp he with he | he
      · exact pe_ne hsort e he
      · obtain rfl := List.mem_singleton.mp he
        have hzm : z ∈ List.range' u m := by
          rw [List.getLast?_cons] at hz
          have hz := Option.some.inj hz
          cases hr : (List.range' u m).getLast? with
          | none =>
            rw [List.getLast?_eq_none_iff] at hr
            have := congrArg List.length hr
            rw [List.length_range'] at this
            simp at this
            omega
          | some q =>
            rw [hr] at hz
            have : q = z := hz
            rw [← this]
            exact List.mem_of_getLast? hr
        have := (List.mem_range'_1.mp hzm).1
        show z ≠ g
        omega
  · rw [List.length_append, hlen]
    have := h.len
    omega
  · have := congrArg List.length z
    rw [List.length_append, hlen] at this
    simp at this
section
variable {sc : D} {l : List Int} {n d : Nat}
abbrev EWb : CB := (.cons (.asg (.nm 12) (.bi .min2 (.cons (.bin .add (.cD (.int (1))) (.bin .mod (.ix (.var 4) (.bin .add (.cD (.int (1))) (.var 8))) (.cD (.int (3))))) (.cons (.bin .sub (.var 5) (.var 8)) .nil)))) (.cons (.asg (.nm 13) (.bin .mod (.ix (.var 4) (.bin .add (.cD (.int (10))) (.var 8))) (.var 8))) (.cons (.asg (.nm 14) (.bin .mod (.ix (.var 4) (.bin .add (.cD (.int (20))) (.var 8))) (.var 8))) (.cons (.asg (.nm 15) (.bin .add (.bin .add (.lst (.cons (.var 13) .nil)) (.lstr (.rng2 (.var 8) (.bin .add (.var 8) (.var 12))))) (.lst (.cons (.var 14) .nil)))) (.cons (.fr (.nm 10) (.rng1 (.bin .sub (.bi .len (.cons (.var 15) .nil)) (.cD (.int (1))))) EFb) (.cons (.asg (.nm 8) (.bin .add (.var 8) (.var 12))) .nil))))))
end
end PV

set_option Elab.async false
set_option linter.all false
set_option maxRecDepth 100000
set_option maxHeartbeats 4000000
/-! M17: the rest of _law_good_town; the law. -/
namespace PV
open PySem LawC
/-- streets of a town of n places -/
structure Sts (n : Nat) (E : List NE2) : Prop where
  good : GoodN n E
  ix : ∀ e ∈ E, e.1 < n ∧ e.2 < n ∧ e.1 ≠ e.2
section
variable {sc : D} {l : List Int} {n d : Nat}
abbrev XFb : CB := (.cons (.asg (.nm 16) (.bin .mod (.ix (.var 4) (.bin .add (.cD (.int (30))) (.bin .mul (.cD (.int (2))) (.var 10)))) (.var 5))) (.cons (.asg (.nm 17) (.bin .mod (.bin .add (.bin .add (.var 16) (.cD (.int (1)))) (.bin .mod (.ix (.var 4) (.bin .add (.cD (.int (31))) (.bin .mul (.cD (.int (2))) (.var 10)))) (.bin .sub (.var 5) (.cD (.int (1)))))) (.var 5))) (.cons (.app 7 (.tup (.cons (.ix (.var 6) (.var 16)) (.cons (.ix (.var 6) (.var 17)) (.cons (.cD (.str (Str.ofString "two"))) .nil))))) .nil)))
theorem mul2_nat (k : Nat) : binD .mul (.int ((2 : Nat) : Int)) (.int (k : Int)) = some (.int ((2 * k : Nat) : Int)) := by
  show some (D.int (((2 : Nat) : Int) * (k : Int))) = _
  rw [Int.natCast_mul]
theorem neq_mod {a y n : Nat} (hn : 2 ≤ n) (ha : a < n) : (a + 1 + y % (n - 1)) % n ≠ a := by
  have hy : y % (n - 1) < n - 1 := Nat.mod_lt _ (by omega)
  generalize y % (n - 1) = z at hy
  by_cases h : a + 1 + z < n
  · rw [Nat.mod_eq_of_lt h]; omega
  · rw [Nat.mod_eq_sub_mod (by omega), Nat.mod_eq_of_lt (by omega)]
    omega
theorem nmE_append {f : Nat → Str} {E F : List NE2} : stsL (nmE f E) ++ stsL (nmE f F) = stsL (nmE f (E ++ F)) := by
  unfold nmE stsL
  rw [List.map_append, List.map_append]
theorem slc_drop {E : List NE2} {f : Nat → Str} {t : Nat} (ht : t ≤ E.length) : cutD (stsL (nmE f E)) (some (t : Int)) none = stsL (nmE f (E.drop t)) ∧ cutD (stsL (nmE f E)) none (some (t : Int)) = stsL (nmE f (E.take t)) := by
  have e1 : stsL (nmE f (E.drop t)) = (stsL (nmE f E)).drop t := by unfold nmE stsL; rw [List.map_drop, List.map_drop]
  have e2 : stsL (nmE f (E.take t)) = (stsL (nmE f E)).take t := by unfold nmE stsL; rw [List.map_take, List.map_take]
  have hl : (stsL (nmE f E)).length = E.length := len_nmE
  rw [e1, e2]
  unfold cutD
  rw [HT.sIx_none, HT.sIx_none, HT.sIx_nat, HT.sIx_nat, hl, Nat.min_eq_left ht]
  refine ⟨List.take_of_length_le (by rw [List.length_drop, hl]; exact Nat.le_refl _), ?_⟩
  rw [List.drop_zero, Nat.sub_zero]
def num (l : List Int) (k : Nat) : Nat := (l.getD k 0).toNat
theorem num_ix2 {l : List Int} (hl : IntsB l 60) {k : Nat} (hk : k < 60) : ixD (.lst (l.map D.int)) (.int k) = some (.int (num l k : Nat)) := by
  obtain ⟨h1, h2⟩ := hl
  have hlt : k < l.length := by omega
  obtain ⟨a, b⟩ := h2 l[k] (List.getElem_mem hlt)
  show L2.atI (l.map D.int) (k : Int) = _
  rw [atI_nat (by rw [List.length_map]; exact hlt), List.getElem?_map, List.getElem?_eq_getElem hlt]
  show some (D.int l[k]) = some (D.int (((l.getD k 0).toNat : Nat) : Int))
  rw [List.getD_eq_getElem?_getD, List.getElem?_eq_getElem hlt]
  show _ = some (D.int ((l[k].toNat : Nat) : Int))
  rw [Int.toNat_of_nonneg a]
def swp (l : List Int) (p : NE2 × Nat) : NE2 := if num l (40 + p.2 % 18) % 2 = 0 then p.1 else (p.1.2, p.1.1)
abbrev XL : CE := .lc [(Str.ofString "k", 10), (Str.ofString "street", 18)] (.tp (.cons (.nm 10) (.cons (.nm 18) .nil))) (.enum (.var 7)) .nil (.ix (.lst (.cons (.var 18) (.cons (.tup (.cons (.ix (.var 18) (.cD (.int (1)))) (.cons (.ix (.var 18) (.cD (.int (0)))) (.cons (.cD (.str (Str.ofString "two"))) .nil)))) .nil))) (.bin .mod (.ix (.var 4) (.bin .add (.cD (.int (40))) (.bin .mod (.var 10) (.cD (.int (18)))))) (.cD (.int (2)))))
theorem sts_swap {E : List NE2} (h : Sts n E) : Sts n (E.zipIdx.map (swp l)) := by
  refine ⟨good_map E.zipIdx (swp l) Prod.fst (List.zipIdx_map_fst 0 E).symm h.good fun p _ => ?_, fun e he => ?_⟩
  · unfold swp
    split
    · exact .inl rfl
    · exact .inr rfl
  · obtain ⟨p, hp, rfl⟩ := List.mem_map.mp he
    obtain ⟨_, _, e2⟩ := List.mem_zipIdx hp
    have hm : p.1 ∈ E := by rw [e2]; exact List.getElem_mem _
    obtain ⟨a, b, c⟩ := h.ix _ hm
    unfold swp
    split
    · exact ⟨a, b, c⟩
    · exact ⟨b, a, c.symm⟩
theorem sts_rot {E : List NE2} (h : Sts n E) (t : Nat) : Sts n (E.drop t ++ E.take t) := by
  have p : (E.drop t ++ E.take t).Perm E := (List.perm_append_comm).trans (by rw [List.take_append_drop])
  exact ⟨good_perm h.good p, fun e he => h.ix e (p.mem_iff.mp he)⟩
end
end PV

set_option Elab.async false
set_option linter.all false
set_option maxRecDepth 100000
set_option maxHeartbeats 4000000
/-! M18: the law's town; the law is true. -/
namespace PV
open PySem LawC
theorem dig_len : ∀ d : Nat, d < 10 → (Str.ofString (toString (d : Int))).length ≤ 5 := by decide +kernel
theorem abc_ix : ∀ (k : Nat), k < 8 → ixD (.str (Str.ofString "abcdefghijkl")) (.int (k : Int)) = some (.str ⟨#[(Str.ofString "abcdefghijkl").cps.toList.getD k 0]⟩)
  | 0, _ => rfl | 1, _ => rfl | 2, _ => rfl | 3, _ => rfl | 4, _ => rfl | 5, _ => rfl | 6, _ => rfl | 7, _ => rfl
  | k + 8, h => absurd h (by omega)
theorem nm_ok {d k : Nat} (hd : d < 10) : binD .add (.str ⟨#[(Str.ofString "abcdefghijkl").cps.toList.getD k 0]⟩) (.str (Str.ofString (toString (d : Int)))) = some (.str (nm d k)) := by
  show (if (1 : Nat) + (Str.ofString (toString (d : Int))).length ≤ LIM then some (D.str (_ ++ _)) else none) = _
  rw [if_pos (by have := dig_len d hd; unfold LIM; omega)]
  rfl
theorem str_dig {d : Nat} (hd : d < 10) : biD .str_ [.int (d : Int)] = some (.str (Str.ofString (toString (d : Int)))) := by
  show (if (d : Int).natAbs < 1000000000000000000 then some (D.str _) else none) = _
  rw [if_pos (by omega)]
theorem names_facts {d n : Nat} (hd : d < 10) (h1 : 1 ≤ n) (h8 : n ≤ 8) : s_f_are_places [.lst (strsL (Vn d n))] = some (.bl true) ∧ (Vn d n).Nodup ∧ (∀ x ∈ Vn d n, sOk x = true) ∧ Asc (Vn d n) := by
  have h := List.all_eq_true.mp (List.all_eq_true.mp all_names d (List.mem_range.mpr hd)) (n - 1) (List.mem_range.mpr (by omega))
  rw [show n - 1 + 1 = n by omega] at h
  unfold chkN at h
  obtain ⟨h, h4⟩ := ands h
  obtain ⟨h, h3⟩ := ands h
  obtain ⟨h1, h2⟩ := ands h
  exact ⟨isT_ok h1, of_decide_eq_true h2, List.all_eq_true.mp h3, of_decide_eq_true h4⟩
theorem town_of {d n : Nat} (hd : d < 10) (h1 : 1 ≤ n) (h8 : n ≤ 8) {E : List NE2} (h : Sts n E) (hl : E.length ≤ 24) : LawTown (Vn d n) (nmE (nm d) E) := by
  obtain ⟨a, b, c, asc⟩ := names_facts hd h1 h8
  have hmem : ∀ i, i < n → nm d i ∈ Vn d n := fun i hi => List.mem_map.mpr ⟨i, List.mem_range.mpr hi, rfl⟩
  have inj : ∀ i j, i < n → j < n → nm d i = nm d j → i = j := fun i j hi hj e => by
    exact (List.getElem_inj (xs := Vn d n) (i := i) (j := j) (h₀ := by simpa using hi) (h₁ := by simpa using hj) b).mp (by simpa using e)
  obtain ⟨g0, g1⟩ := conn_of (f := nm d) h.good
  have hE : (nmE (nm d) E).length = E.length := by unfold nmE; rw [List.length_map]
  refine ⟨⟨b, fun e he => ?_, by rw [hE]; omega, by simp; omega, fun z => ?_⟩, by simp; omega, c, by rw [hE]; exact hl, fun e he => ?_, a, g0, g1, asc⟩
  · obtain ⟨q, hq, rfl⟩ := List.mem_map.mp he
    obtain ⟨x, y, _⟩ := h.ix q hq
    exact ⟨hmem _ x, hmem _ y⟩
  · have := congrArg List.length z
    simp at this
    omega
  · obtain ⟨q, hq, rfl⟩ := List.mem_map.mp he
    obtain ⟨x, y, w⟩ := h.ix q hq
    exact fun z => w (inj _ _ x y z)
section
variable {sc : D} {l : List Int} {n d : Nat}
abbrev XT : CB := (.cons (.asg (.nm 8) (.cD (.int (1)))) (.cons (.whl (.cmp .lt (.var 8) (.var 5)) EWb) (.cons (.asg (.nm 9) (.bi .min2 (.cons (.bin .mod (.ix (.var 4) (.cD (.int (2)))) (.cD (.int (4)))) (.cons (.bin .sub (.cD (.int (24))) (.bi .len (.cons (.var 7) .nil))) .nil)))) (.cons (.fr (.nm 10) (.rng1 (.var 9)) XFb) (.cons (.asg (.nm 11) (.bin .mod (.ix (.var 4) (.cD (.int (3)))) (.bi .len (.cons (.var 7) .nil)))) (.cons (.asg (.nm 7) (.bin .add (.slc (.var 7) (.some (.var 11)) .none) (.slc (.var 7) .none (.some (.var 11))))) (.cons (.asg (.nm 7) XL) .nil)))))))
end
end PV
namespace LawM
open PySem PV LawC
end LawM

set_option Elab.async false
set_option linter.all false
set_option maxRecDepth 100000
set_option maxHeartbeats 4000000
/-! N1: a town's tables, exactly. -/
namespace PV
open PySem LawC
/-- a dict of lists by place -/
def dkm (V : List Str) (f : Str → List D) : List (Key × D) := V.map fun p => (Sum.inr p, D.lst (f p))
theorem dkm_look {f : Str → List D} : ∀ {V : List Str} {x : Str}, x ∈ V → lookK (.inr x) (dkm V f) = some (.lst (f x))
  | [], x, h => by cases h
  | v :: V, x, h => by
    show (if (Sum.inr v : Key) = Sum.inr x then some (D.lst (f v)) else lookK (.inr x) (dkm V f)) = _
    by_cases hvx : v = x
    · subst hvx
      rw [if_pos rfl]
    · rw [if_neg fun z => hvx (Sum.inr.inj z)]
      rcases List.mem_cons.mp h with z | z
      · exact absurd z.symm hvx
      · exact dkm_look z
theorem dkm_mod {f : Str → List D} {d : D} {x : Str} (hl : (f x).length < LIM) : ∀ {V : List Str}, V.Nodup → x ∈ V → modK (.inr x) (fun y => appD y d) (dkm V f) = some (dkm V fun p => if p = x then f p ++ [d] else f p)
  | [], _, h => by cases h
  | v :: V, nd, h => by
    obtain ⟨hv, nd⟩ := List.nodup_cons.mp nd
    show (if (Sum.inr v : Key) = Sum.inr x then (appD (D.lst (f v)) d).map (fun y => ((Sum.inr v : Key), y) :: dkm V f) else (modK (.inr x) (fun y => appD y d) (dkm V f)).map fun r' => ((Sum.inr v : Key), D.lst (f v)) :: r') = _
    by_cases hvx : v = x
    · subst hvx
      rw [if_pos rfl]
      have e : appD (D.lst (f v)) d = some (.lst (f v ++ [d])) := by
        show (if (f v).length < LIM then some (D.lst (f v ++ [d])) else none) = _
        rw [if_pos hl]
      rw [e]
      show some (((Sum.inr v : Key), D.lst (f v ++ [d])) :: dkm V f) = some (((Sum.inr v : Key), D.lst (if v = v then f v ++ [d] else f v)) :: dkm V fun p => if p = v then f p ++ [d] else f p)
      rw [if_pos rfl]
      congr 2
      unfold dkm
      refine List.map_congr_left fun p hp => ?_
      show _ = ((Sum.inr p : Key), D.lst (if p = v then f p ++ [d] else f p))
      rw [if_neg fun z => hv (by rw [← z]; exact hp)]
    · rw [if_neg fun z => hvx (Sum.inr.inj z)]
      have hx : x ∈ V := by
        rcases List.mem_cons.mp h with z | z
        · exact absurd z.symm hvx
        · exact z
      rw [dkm_mod hl nd hx]
      show some (((Sum.inr v : Key), D.lst (f v)) :: dkm V fun p => if p = x then f p ++ [d] else f p) = some (((Sum.inr v : Key), D.lst (if v = x then f v ++ [d] else f v)) :: dkm V fun p => if p = x then f p ++ [d] else f p)
      rw [if_neg hvx]
theorem dkm_app {f : Str → List D} {d : D} {x : Str} {V : List Str} (hl : (f x).length < LIM) (nd : V.Nodup) (hx : x ∈ V) : appAtD (.dct (dkm V f)) (.str x) d = some (.dct (dkm V fun p => if p = x then f p ++ [d] else f p)) := by
  show (modK (.inr x) (fun y => appD y d) (dkm V f)).map D.dct = _
  rw [dkm_mod hl nd hx]
  rfl
theorem dkm_congr {V : List Str} {f g : Str → List D} (h : ∀ p, f p = g p) : dkm V f = dkm V g := by
  rw [show f = g from funext h]
/-! ### what stands in the tables -/
def dre (es : List St) : List Dr := es.zipIdx.flatMap fun p => [(p.2, p.1.1, p.1.2), (p.2, p.1.2, p.1.1)]
def atN (es : List (St × Nat)) (p : Str) : List Nat := (es.filter fun q => decide (q.1.1 = p) || decide (q.1.2 = p)).map (·.2)
def outT (V : List Str) (es : List St) : List (Key × D) := dkm V fun p => ((dre es).filter fun d => decide (d.2.1 = p)).map dD
def intoT (V : List Str) (es : List St) : List (Key × D) := dkm V fun p => ((dre es).filter fun d => decide (d.2.2 = p)).map dD
def atT (V : List Str) (es : List St) : List (Key × D) := dkm V fun p => intsL (atN es.zipIdx p)
def fsT (V : List Str) (es : List St) (bs : D) : List (Str × D) := [(Str.ofString "_drives", .tup ((dre es).map dD)), (Str.ofString "_out", .dct (outT V es)), (Str.ofString "_into", .dct (intoT V es)), (Str.ofString "_at", .dct (atT V es)), (Str.ofString "_beside", bs)]
abbrev tv (V : List Str) (es : List St) (bs : D) : D := tw V es (fsT V es bs)
section
variable {V : List Str} {es : List St}
theorem by_place_x (nd : V.Nodup) {ds : List Dr} (hl : ds.length ≤ 3000) (part : Nat) (pr : Dr → Str) (hix : ∀ d ∈ ds, pr d ∈ V ∧ ixD (dD d) (.int part) = some (.str (pr d))) : s_f_by_place [.lst (strsL V), .tup (ds.map dD), .int part] = some (.dct (dkm V fun p => (ds.filter fun d => decide (pr d = p)).map dD)) := by
  obtain ⟨ρ', hf, g4, rfl⟩ := frD_pre (t := fun x ρ => CT.bind (.nm 4) x ρ) (b := fun ρ => CB.run T_22 (.cons (.appAt 3 (.ix (.var 4) (.var 2)) (.var 4)) .nil) ρ) dD
    (fun (ys : List Dr) ρ => ∃ (g4 : Option D), ρ = [some (.lst (strsL V)), some (.tup (ds.map dD)), some (.int part), some (.dct (dkm V fun p => (ys.filter fun d => decide (pr d = p)).map dD)), g4, none]) ds [] [some (.lst (strsL V)), some (.tup (ds.map dD)), some (.int part), some (.dct (dkm V fun _ => [])), none, none]
    (fun ys d zs ρ e ⟨g4, eρ⟩ => by
      subst eρ
      rw [List.nil_append] at e
      obtain ⟨hx, hi⟩ := hix d (by rw [e]; simp)
      have hy : ys.length ≤ 3000 := by
        have := congrArg List.length e
        rw [List.length_append] at this
        omega
      have hlen : ((ys.filter fun q => decide (pr q = pr d)).map dD).length < LIM := by
        rw [List.length_map]
        have := List.length_filter_le (fun q => decide (pr q = pr d)) ys
        unfold LIM
        omega
      refine ⟨[some (.lst (strsL V)), some (.tup (ds.map dD)), some (.int part), some (.dct (dkm V fun p => (ys.filter fun d => decide (pr d = p)).map dD)), some (dD d), none], _, rfl, .inl (run_nx (appAt_of (ix_of rfl rfl hi) rfl rfl (dkm_app (f := fun p => (ys.filter fun d => decide (pr d = p)).map dD) hlen nd hx)) run_nil), some (dD d), ?_⟩
      show [_, _, _, some (D.dct (dkm V _)), _, _] = _
      rw [dkm_congr (g := fun p => ((ys ++ [d]).filter fun d => decide (pr d = p)).map dD) fun p => ?_]
      show (if p = pr d then (ys.filter fun d => decide (pr d = p)).map dD ++ [dD d] else _) = ((ys ++ [d]).filter fun d => decide (pr d = p)).map dD
      rw [List.filter_append, List.map_append]
      by_cases hp : p = pr d
      · rw [if_pos hp, List.filter_cons, if_pos (by simpa using hp.symm)]
        rfl
      · rw [if_neg hp, List.filter_cons, if_neg (by simpa using fun z : pr d = p => hp z.symm)]
        simp) ⟨_, rfl⟩
  refine sem_rt rfl (run_nx (asg_of (new_env (by show 5 < 6; decide) nd rfl)) (run_nx (ρ' := [some (.lst (strsL V)), some (.tup (ds.map dD)), some (.int part), some (.dct (dkm V fun p => (ds.filter fun d => decide (pr d = p)).map dD)), g4, none]) (fr_of rfl hf) (run_rt rfl)))
theorem atN_snoc (ys : List (St × Nat)) (q : St × Nat) (hne : q.1.1 ≠ q.1.2) (p : Str) : intsL (atN (ys ++ [q]) p) = if p = q.1.2 then (if p = q.1.1 then intsL (atN ys p) ++ [.int q.2] else intsL (atN ys p)) ++ [.int q.2] else if p = q.1.1 then intsL (atN ys p) ++ [.int q.2] else intsL (atN ys p) := by
  unfold atN intsL
  rw [List.filter_append, List.map_append, List.map_append]
  by_cases h2 : p = q.1.2
  · have h1 : p ≠ q.1.1 := fun z => hne (by rw [← z, ← h2])
    rw [if_pos h2, if_neg h1, List.filter_cons, if_pos (by simp [h2])]
    rfl
  · rw [if_neg h2]
    by_cases h1 : p = q.1.1
    · rw [if_pos h1, List.filter_cons, if_pos (by simp [h1])]
      rfl
    · rw [if_neg h1, List.filter_cons, if_neg (by simpa using ⟨fun z => h1 z.symm, fun z => h2 z.symm⟩)]
      simp
theorem atN_len (ys : List (St × Nat)) (p : Str) : (intsL (atN ys p)).length ≤ ys.length := by
  rw [len_ints]
  unfold atN
  rw [List.length_map]
  exact List.length_filter_le _ _
theorem streets_at_x (nd : V.Nodup) (h : ∀ e ∈ es, e.1 ∈ V ∧ e.2 ∈ V ∧ e.1 ≠ e.2) (hl : es.length ≤ 24) : s_f_streets_at [.lst (strsL V), .lst (stsL es)] = some (.dct (atT V es)) := by
  obtain ⟨ρ', hf, g3, g4, rfl⟩ := frD_pre (t := fun x ρ => CT.bind (.tp (.cons (.nm 3) (.cons (.nm 4) .nil))) x ρ) (b := fun ρ => CB.run T_23 (.cons (.appAt 2 (.ix (.var 4) (.cD (.int (0)))) (.var 3)) (.cons (.appAt 2 (.ix (.var 4) (.cD (.int (1)))) (.var 3)) .nil)) ρ) eI
    (fun (ys : List (St × Nat)) ρ => ∃ (g3 g4 : Option D), ρ = [some (.lst (strsL V)), some (.lst (stsL es)), some (.dct (dkm V fun p => intsL (atN ys p))), g3, g4, none]) es.zipIdx [] [some (.lst (strsL V)), some (.lst (stsL es)), some (.dct (dkm V fun _ => [])), none, none, none]
    (fun ys p zs ρ e ⟨g3, g4, eρ⟩ => by
      subst eρ
      rw [List.nil_append] at e
      have hm : p ∈ es.zipIdx := by rw [e]; simp
      obtain ⟨_, hlt, e2⟩ := List.mem_zipIdx hm
      have he : p.1 ∈ es := by rw [e2]; exact List.getElem_mem _
      obtain ⟨h1, h2, h3⟩ := h _ he
      have hy : ys.length ≤ 24 := by
        have := congrArg List.length e
        rw [List.length_zipIdx, List.length_append] at this
        omega
      have b1 : ∀ q, (intsL (atN ys q)).length ≤ 24 := fun q => Nat.le_trans (atN_len ys q) hy
      have k1 := dkm_app (f := fun q => intsL (atN ys q)) (d := .int p.2) (by have := b1 p.1.1; unfold LIM; show (intsL (atN ys p.1.1)).length < 1000000; omega) nd h1
      have k2 := dkm_app (f := fun q => if q = p.1.1 then intsL (atN ys q) ++ [.int p.2] else intsL (atN ys q)) (d := .int p.2) (by
        have := b1 p.1.2
        show (if p.1.2 = p.1.1 then _ else intsL (atN ys p.1.2)).length < 1000000
        rw [if_neg (fun z => h3 z.symm)]
        omega) nd h2
      refine ⟨[some (.lst (strsL V)), some (.lst (stsL es)), some (.dct (dkm V fun q => intsL (atN ys q))), some (.int p.2), some (eS p.1), none], _, rfl, .inl (run_nx (appAt_of (z := .str p.1.1) rfl rfl rfl k1) (run_nx (appAt_of (z := .str p.1.2) rfl rfl rfl k2) run_nil)), some (.int p.2), some (eS p.1), ?_⟩
      show [_, _, some (D.dct (dkm V _)), _, _, _] = _
      rw [dkm_congr (g := fun q => intsL (atN (ys ++ [p]) q)) fun q => (atN_snoc ys p h3 q).symm]) ⟨_, _, rfl⟩
  refine sem_rt rfl (run_nx (asg_of (new_env (by show 5 < 6; decide) nd rfl)) (run_nx (ρ' := [some (.lst (strsL V)), some (.lst (stsL es)), some (.dct (atT V es)), g3, g4, none]) (fr_of (xs := enumD 0 (stsL es)) rfl ?_) (run_rt rfl)))
  rw [enumD_zip]
  exact hf
theorem dk_at (h : es.length ≤ 24) : DK (fun (k : Nat) => D.int (k : Int)) (fun k => k < es.length) V 48 (atT V es) := by
  refine ⟨?_, fun p hp => ?_⟩
  · unfold atT dkm
    rw [List.map_map]
    rfl
  · obtain ⟨x, _, rfl⟩ := List.mem_map.mp hp
    refine ⟨atN es.zipIdx x, rfl, ?_, fun k hk => ?_⟩
    · have := atN_len es.zipIdx x
      rw [len_ints, List.length_zipIdx] at this
      omega
    · obtain ⟨q, hq, rfl⟩ := List.mem_map.mp hk
      obtain ⟨_, hlt, _⟩ := List.mem_zipIdx (List.mem_filter.mp hq).1
      omega
theorem dre_len (es : List St) : (dre es).length = 2 * es.length := by
  have hfl : ∀ (l : List (St × Nat)), (l.flatMap fun p => [(p.2, p.1.1, p.1.2), (p.2, p.1.2, p.1.1)]).length = 2 * l.length := fun l => by
    induction l with
    | nil => rfl
    | cons a l ih =>
      rw [List.flatMap_cons, List.length_append, ih, List.length_cons]
      show 2 + 2 * l.length = 2 * (l.length + 1)
      omega
  unfold dre
  rw [hfl, List.length_zipIdx]
theorem mem_dre {d : Dr} (hd : d ∈ dre es) : ∃ p ∈ es.zipIdx, d = (p.2, p.1.1, p.1.2) ∨ d = (p.2, p.1.2, p.1.1) := by
  obtain ⟨p, hp, hd⟩ := List.mem_flatMap.mp hd
  refine ⟨p, hp, ?_⟩
  simpa using hd
theorem zip_mem {p : St × Nat} (hp : p ∈ es.zipIdx) : p.1 ∈ es ∧ p.2 < es.length ∧ es[p.2]? = some p.1 := by
  obtain ⟨_, hlt, e2⟩ := List.mem_zipIdx hp
  have hlt : p.2 < es.length := by omega
  have e3 : p.1 = es[p.2] := by rw [e2]; rfl
  exact ⟨by rw [e3]; exact List.getElem_mem _, hlt, by rw [List.getElem?_eq_getElem hlt, e3]⟩
theorem town_x (t : Town V es) (hpl : s_f_are_places [.lst (strsL V)] = some (.bl true)) (hl : es.length ≤ 24) (hne : ∀ e ∈ es, e.1 ≠ e.2) : ∃ bs, s_m_town_init [.lst (strsL V), .lst (stsL es)] = some (tv V es bs) := by
  have he : ∀ e ∈ es, e.1 ∈ V ∧ e.2 ∈ V ∧ e.1 ≠ e.2 := fun e h => ⟨(t.ends e h).1, (t.ends e h).2, hne e h⟩
  have hdr : ∀ d ∈ dre es, okDr V d := fun d hd => by
    obtain ⟨p, hp, hd⟩ := mem_dre hd
    obtain ⟨h1, h2⟩ := t.ends _ (zip_mem hp).1
    rcases hd with rfl | rfl
    · exact ⟨h1, h2⟩
    · exact ⟨h2, h1⟩
  have hdl : (dre es).length ≤ 3000 := by rw [dre_len]; omega
  have had : s_f_all_drives [.lst (stsL es)] = some (.lst ((dre es).map dD)) := all_drives_ok t.few
  have ho1 : s_f_by_place [.lst (strsL V), .tup ((dre es).map dD), .int (1 : Nat)] = some (.dct (outT V es)) := by_place_x t.nd hdl 1 (fun d => d.2.1) fun d hd => ⟨(hdr d hd).1, rfl⟩
  have ho2 : s_f_by_place [.lst (strsL V), .tup ((dre es).map dD), .int (2 : Nat)] = some (.dct (intoT V es)) := by_place_x t.nd hdl 2 (fun d => d.2.2) fun d hd => ⟨(hdr d hd).2, rfl⟩
  have hat := streets_at_x t.nd he hl
  obtain ⟨bs, hbs⟩ := places_beside_ok t.pl (dk_at (V := V) hl)
  refine ⟨bs, ?_⟩
  have setf_of : ∀ {T : Tab} {f : Str} {e : CE} {fs : List (Str × D)} {d : D} {r : Env}, CE.sem T e (some (.ins 0 fs) :: r) = some d → fs.length < 100 → CS.run T (.setf 0 0 f e) (some (.ins 0 fs) :: r) = some (.nx (some (.ins 0 (putFD f d fs)) :: r)) := fun {T f e fs d r} h hl => by
    unfold CS.run upS
    rw [h]
    show (if 0 = 0 ∧ fs.length < 100 then some (D.ins 0 (putFD f d fs)) else none).map _ = _
    rw [if_pos ⟨rfl, hl⟩]
    rfl
  have run : CB.run T_25 c_m_town_init.body [some (.ins 0 []), some (.lst (strsL V)), some (.lst (stsL es))] = some (.nx [some (tv V es bs), some (.lst (strsL V)), some (.lst (stsL es))]) := by
    refine run_nx (expr_of (call_of rfl (check_town_ok hpl hl he))) ?_
    refine run_nx (setf_of (d := .tup (strsL V)) (bi1 rfl rfl) (by decide)) ?_
    refine run_nx (setf_of (d := .tup (stsL es)) (bi1 rfl rfl) (by show 1 < 100; decide)) ?_
    refine run_nx (setf_of (d := .tup ((dre es).map dD)) (bi1 (call_of rfl had) rfl) (by show 2 < 100; decide)) ?_
    refine run_nx (setf_of (d := .dct (outT V es)) (call_of rfl ho1) (by show 3 < 100; decide)) ?_
    refine run_nx (setf_of (d := .dct (intoT V es)) (call_of rfl ho2) (by show 4 < 100; decide)) ?_
    refine run_nx (setf_of (d := .dct (atT V es)) (call_of rfl hat) (by show 5 < 100; decide)) ?_
    refine run_nx (setf_of (d := bs) (call_of rfl hbs) (by show 6 < 100; decide)) ?_
    rfl
  exact init_of rfl run rfl
theorem tv_plain {bs : D} : plainF (fsT V es bs) := ⟨rfl, rfl, rfl⟩
/-- a method of a town -/
theorem cm {T : Tab} {f : Nat} {e : FnE} {bs : D} {ds : List D} (h : T.fn[f]? = some e) (hk : e.kind = .meth 0) (hl : (((Str.ofString "_places", D.tup (strsL V)) :: (Str.ofString "_streets", D.tup (stsL es)) :: fsT V es bs).lookup e.name).isNone = true) : T.callM f (tv V es bs) ds = e.sem (tv V es bs :: ds) := by
  unfold Tab.callM
  rw [h]
  show (match e.kind, (D.ins 0 ((Str.ofString "_places", .tup (strsL V)) :: (Str.ofString "_streets", .tup (stsL es)) :: fsT V es bs)) with
    | .meth c, .ins c' fs => if c = c' ∧ (fs.lookup e.name).isNone = true then e.sem (tv V es bs :: ds) else none
    | _, _ => none) = _
  rw [hk]
  show (if 0 = 0 ∧ _ then _ else none) = _
  rw [if_pos ⟨rfl, hl⟩]
end
end PV

set_option Elab.async false
set_option linter.all false
set_option maxRecDepth 100000
set_option maxHeartbeats 4000000
/-! N2: going through a town; numbers_from, numbers_to, all_get. -/
namespace PV
open PySem LawC
def bstep (w : List Str) (y : Str) : List Str := if y ∈ w then w else w ++ [y]
theorem bstep_pre (w : List Str) (y : Str) : ∃ t, bstep w y = w ++ t := by
  unfold bstep
  split
  · exact ⟨[], (List.append_nil _).symm⟩
  · exact ⟨[y], rfl⟩
theorem bstep_mem {w : List Str} {x y : Str} : x ∈ bstep w y ↔ x ∈ w ∨ x = y := by
  unfold bstep
  split
  · rename_i h
    exact ⟨.inl, fun z => z.elim id fun e => e ▸ h⟩
  · rw [List.mem_append, List.mem_singleton]
theorem bstep_nd {w : List Str} {y : Str} (h : w.Nodup) : (bstep w y).Nodup := by
  unfold bstep
  split
  · exact h
  · rename_i hy
    exact nodup_snoc h hy
/-- the list of those met, in the order in which they are met -/
structure Bn (nx : Str → List Str) (V : List Str) (s : Str) (w : List Str) : Prop where
  nd : w.Nodup
  st : s ∈ w
  v : ∀ x ∈ w, x ∈ V
  mn : ∀ χ : Str → Bool, χ s = true → (∀ x ∈ V, χ x = true → ∀ y ∈ nx x, χ y = true) → ∀ x ∈ w, χ x = true
section
variable {nx : Str → List Str} {V : List Str} {s here : Str}
theorem Bn.len {w : List Str} (h : Bn nx V s w) : w.length ≤ V.length := nodup_sub h.nd h.v
theorem Bn.one (hs : s ∈ V) : Bn nx V s [s] := ⟨by simp, by simp, fun x hx => by obtain rfl := List.mem_singleton.mp hx; exact hs, fun χ h _ x hx => by obtain rfl := List.mem_singleton.mp hx; exact h⟩
theorem Bn.step {w : List Str} {y : Str} (hV : ∀ x ∈ V, ∀ y ∈ nx x, y ∈ V) (b : Bn nx V s w) (hh : here ∈ w) (hy : y ∈ nx here) : Bn nx V s (bstep w y) :=
  ⟨bstep_nd b.nd, bstep_mem.mpr (.inl b.st), fun x hx => (bstep_mem.mp hx).elim (b.v x) fun e => e ▸ hV _ (b.v _ hh) _ hy, fun χ h1 h2 x hx => (bstep_mem.mp hx).elim (b.mn χ h1 h2 x) fun e => e ▸ h2 _ (b.v _ hh) (b.mn χ h1 h2 _ hh) _ hy⟩
theorem bfold (hV : ∀ x ∈ V, ∀ y ∈ nx x, y ∈ V) : ∀ (ys : List Str) (w : List Str), (∀ y ∈ ys, y ∈ nx here) → Bn nx V s w → here ∈ w → Bn nx V s (ys.foldl bstep w) ∧ (∃ t, ys.foldl bstep w = w ++ t) ∧ ∀ y ∈ ys, y ∈ ys.foldl bstep w
  | [], w, _, b, _ => ⟨b, ⟨[], (List.append_nil _).symm⟩, fun y hy => by cases hy⟩
  | y :: ys, w, hy, b, hh => by
    have hh2 : here ∈ bstep w y := bstep_mem.mpr (.inl hh)
    obtain ⟨b2, ⟨t, ht⟩, hd⟩ := bfold hV ys (bstep w y) (fun z hz => hy z (List.mem_cons_of_mem _ hz)) (b.step hV hh (hy y List.mem_cons_self)) hh2
    obtain ⟨u, hu⟩ := bstep_pre w y
    refine ⟨b2, ⟨u ++ t, by rw [List.foldl_cons, ht, hu, List.append_assoc]⟩, fun z hz => ?_⟩
    rcases List.mem_cons.mp hz with rfl | hz
    · rw [List.foldl_cons, ht]
      exact List.mem_append.mpr (.inl (bstep_mem.mpr (.inr rfl)))
    · exact hd z hz
theorem bfs {T : Tab} {c : CE} {b : CB} (hV : ∀ x ∈ V, ∀ y ∈ nx x, y ∈ V) (hs : s ∈ V) (hl : V.length ≤ 1000) (J : List Str → Nat → Env → Prop)
    (hc : ∀ w k ρ, J w k ρ → (CE.sem T c ρ).bind truD = some (decide (k < w.length)))
    (hb : ∀ w k ρ here, J w k ρ → Bn nx V s w → w[k]? = some here → ∃ ρ', CB.run T b ρ = some (.nx ρ') ∧ J ((nx here).foldl bstep w) (k + 1) ρ') {ρ0 : Env} (h0 : J [s] 0 ρ0) :
    ∃ w k ρ', whlD (fun ρ => (CE.sem T c ρ).bind truD) (fun ρ => CB.run T b ρ) FUEL ρ0 = some (.nx ρ') ∧ J w k ρ' ∧ Bn nx V s w ∧ ∀ x ∈ w, ∀ y ∈ nx x, y ∈ w := by
  obtain ⟨m', ρ', h1, ⟨w, k, j, bn, hk, hd, _⟩, h3⟩ := whlD_inv (c := fun ρ => (CE.sem T c ρ).bind truD) (b := fun ρ => CB.run T b ρ)
    (fun m ρ => ∃ w k, J w k ρ ∧ Bn nx V s w ∧ k ≤ w.length ∧ (∀ i h, i < k → w[i]? = some h → ∀ y ∈ nx h, y ∈ w) ∧ m = V.length - k) FUEL V.length ρ0 (by unfold FUEL; omega)
    (fun m ρ ⟨w, k, j, bn, hk, hd, hm⟩ => by
      rw [hc w k ρ j]
      by_cases hlt : k < w.length
      · have hh : w[k]? = some w[k] := List.getElem?_eq_getElem hlt
        obtain ⟨ρ', r, j'⟩ := hb w k ρ _ j bn hh
        obtain ⟨b2, ⟨t, ht⟩, dn⟩ := bfold (here := w[k]) hV (nx w[k]) w (fun y h => h) bn (List.getElem_mem _)
        have := bn.len
        refine .inr ⟨by rw [decide_eq_true hlt], ρ', V.length - (k + 1), by omega, .inl r, _, k + 1, j', b2, by rw [ht, List.length_append]; omega, fun i h hi he y hy => ?_, rfl⟩
        by_cases hik : i = k
        · subst hik
          rw [ht, List.getElem?_append_left hlt, hh] at he
          cases he
          exact dn y hy
        · have hlt2 : i < w.length := by omega
          rw [ht, List.getElem?_append_left hlt2] at he
          rw [ht]
          exact List.mem_append.mpr (.inl (hd i h (by omega) he y hy))
      · exact .inl (by rw [decide_eq_false hlt])) ⟨[s], 0, h0, Bn.one hs, Nat.zero_le _, fun i h hi => absurd hi (Nat.not_lt_zero i), by omega⟩
  refine ⟨w, k, ρ', h1, j, bn, fun x hx y hy => ?_⟩
  have h3 : (CE.sem T c ρ').bind truD = some false := h3
  rw [hc w k ρ' j] at h3
  have hk2 := of_decide_eq_false (Option.some.inj h3)
  obtain ⟨i, hi, e⟩ := List.mem_iff_getElem.mp hx
  exact hd i x (by omega) (by rw [List.getElem?_eq_getElem hi, e]) y hy
end
theorem seq_of {T : Tab} {e : CE} {ρ : Env} {d : D} {xs : List D} (h : CE.sem T e ρ = some d) (h2 : seqD d = some xs) : CI.sem T (.seq e) ρ = some xs := by
  unfold CI.sem
  rw [h]
  exact h2
/-! ### a dict of numbers -/
def KeyI (kvs : List (Key × D)) (w : List Str) : Prop := kvs.map (·.1) = w.map Sum.inr ∧ ∀ p ∈ kvs, ∃ i : Int, p.2 = .int i
theorem key_any {kvs : List (Key × D)} {w : List Str} (h : KeyI kvs w) (b : Str) : (kvs.any fun p => decide (p.1 = Sum.inr b)) = decide (b ∈ w) := by
  have e : (kvs.any fun p => decide (p.1 = Sum.inr b)) = (kvs.map (·.1)).any fun q => decide (q = Sum.inr b) := by rw [List.any_map]; rfl
  rw [e, h.1, List.any_map]
  refine Bool.eq_iff_iff.mpr ?_
  rw [List.any_eq_true, decide_eq_true_iff]
  constructor
  · rintro ⟨x, hx, e⟩
    have : (Sum.inr x : Key) = Sum.inr b := of_decide_eq_true e
    rw [← Sum.inr.inj this]
    exact hx
  · exact fun hb => ⟨b, hb, decide_eq_true rfl⟩
theorem key_look : ∀ {kvs : List (Key × D)} {w : List Str} {x : Str}, KeyI kvs w → x ∈ w → ∃ i : Int, lookK (.inr x) kvs = some (.int i)
  | [], w, x, h, hx => by
    have := h.1
    cases w with
    | nil => cases hx
    | cons v w => cases this
  | (j, y) :: r, w, x, h, hx => by
    cases w with
    | nil => cases hx
    | cons v w =>
      have hk := h.1
      rw [List.map_cons, List.map_cons] at hk
      injection hk with h1 h2
      have h1 : j = .inr v := h1
      subst h1
      obtain ⟨i, e1⟩ := h.2 _ List.mem_cons_self
      have e1 : y = .int i := e1
      subst e1
      unfold lookK
      by_cases hvx : v = x
      · subst hvx
        rw [if_pos rfl]
        exact ⟨i, rfl⟩
      · rw [if_neg fun z => hvx (Sum.inr.inj z)]
        rcases List.mem_cons.mp hx with z | z
        · exact absurd z.symm hvx
        · exact key_look ⟨h2, fun p hp => h.2 p (List.mem_cons_of_mem _ hp)⟩ z
theorem key_put {kvs : List (Key × D)} {w : List Str} (h : KeyI kvs w) {b : Str} (hb : b ∉ w) (i : Int) : KeyI (putKD (.inr b) (.int i) kvs) (w ++ [b]) := by
  unfold putKD
  rw [key_any h, if_neg (by simpa using hb)]
  refine ⟨by rw [List.map_append, List.map_append, h.1]; rfl, fun p hp => ?_⟩
  rcases List.mem_append.mp hp with hp | hp
  · exact h.2 p hp
  · obtain rfl := List.mem_singleton.mp hp
    exact ⟨i, rfl⟩
theorem key_len {kvs : List (Key × D)} {w : List Str} (h : KeyI kvs w) : kvs.length = w.length := by
  have := congrArg List.length h.1
  rw [List.length_map, List.length_map] at this
  exact this
/-! ### numbers_from, numbers_to -/
abbrev NUi : CB := (.cons (.ife (.cmp .nin (.var 7) (.var 2)) (.cons (.setix 2 (.var 7) (.bin .add (.ix (.var 2) (.var 5)) (.cD (.int (1))))) (.cons (.app 3 (.var 7)) .nil)) .nil) .nil)
abbrev NUc : CE := .cmp .lt (.var 4) (.bi .len (.cons (.var 3) .nil))
abbrev NUb (t : CT) (m : Nat) : CB := (.cons (.asg (.nm 5) (.ix (.var 3) (.var 4))) (.cons (.fr t (.seq (.meth m (.var 0) (.cons (.var 5) .nil))) NUi) (.cons (.aug 4 .add (.cD (.int (1)))) .nil)))
abbrev NUe (a0 a1 : D) (kvs : List (Key × D)) (w : List Str) (k : Nat) (g5 g6 g7 : Option D) : Env := [some a0, some a1, some (.dct kvs), some (.lst (strsL w)), some (.int k), g5, g6, g7]
theorem strs_snoc (w : List Str) (b : Str) : strsL w ++ [.str b] = strsL (w ++ [b]) := by
  unfold strsL
  rw [List.map_append]
  rfl
theorem nu_in {T : Tab} {a0 a1 : D} {kvs : List (Key × D)} {w : List Str} {k : Nat} {here y : Str} {g6 : Option D} (h : KeyI kvs w) (hh : here ∈ w) (hl : w.length ≤ 1000) :
    ∃ kvs', CB.run T NUi (NUe a0 a1 kvs w k (some (.str here)) g6 (some (.str y))) = some (.nx (NUe a0 a1 kvs' (bstep w y) k (some (.str here)) g6 (some (.str y)))) ∧ KeyI kvs' (bstep w y) := by
  have c1 : CE.sem T (.cmp .nin (.var 7) (.var 2)) (NUe a0 a1 kvs w k (some (.str here)) g6 (some (.str y))) = some (.bl (!decide (y ∈ w))) := by
    refine cmp1 (x := .str y) (y := .dct kvs) rfl rfl ?_
    show (some (kvs.any fun p => decide (p.1 = Sum.inr y))).map (!·) = _
    rw [key_any h]
    rfl
  unfold bstep
  by_cases hy : y ∈ w
  · rw [if_pos hy]
    refine ⟨kvs, run_nx (ife_bl c1 ?_) run_nil, h⟩
    rw [if_neg (by simpa using hy)]
    rfl
  · rw [if_neg hy]
    obtain ⟨i, hi⟩ := key_look h hh
    refine ⟨putKD (.inr y) (.int (i + 1)) kvs, run_nx (ife_bl c1 ?_) run_nil, key_put h hy _⟩
    rw [if_pos (by simpa using hy)]
    have e1 : CE.sem T (.bin .add (.ix (.var 2) (.var 5)) (.cD (.int (1)))) (NUe a0 a1 kvs w k (some (.str here)) g6 (some (.str y))) = some (.int (i + 1)) := bin_of (x := .int i) (y := .int 1) (ix_of (x := .dct kvs) (y := .str here) rfl rfl hi) rfl rfl
    refine run_nx (ρ' := NUe a0 a1 (putKD (.inr y) (.int (i + 1)) kvs) w k (some (.str here)) g6 (some (.str y))) ?_ (run_nx (app_of (d := .str y) rfl rfl (by unfold strsL LIM; rw [List.length_map]; omega)) ?_)
    · unfold CS.run
      rw [e1, Option.bind_some, show CE.sem T (.var 7) _ = some (D.str y) from rfl, Option.bind_some]
      show ((if kvs.length < LIM then some (D.dct (putKD (.inr y) (.int (i + 1)) kvs)) else none).map _) = _
      rw [if_pos (by rw [key_len h]; unfold LIM; omega)]
      rfl
    · rw [strs_snoc]
      rfl
theorem strs_ix {w : List Str} {k : Nat} {h : Str} (e : w[k]? = some h) : ixD (.lst (strsL w)) (.int k) = some (.str h) := str_ix e
theorem nums_ok {T : Tab} {V : List Str} {es : List St} {bs : D} {t : CT} {m : Nat} {s : Str} {ds : Str → List Dr} {pr : Dr → Str} (hl : V.length ≤ 1000) (hs : s ∈ V) (hV : ∀ x ∈ V, ∀ d ∈ ds x, pr d ∈ V)
    (ht : ∀ (d : Dr) (a0 a1 a2 a3 a4 a5 g6 g7 : Option D), ∃ g6', CT.bind t (dD d) [a0, a1, a2, a3, a4, a5, g6, g7] = some [a0, a1, a2, a3, a4, a5, g6', some (.str (pr d))])
    (hm : ∀ x ∈ V, T.callM m (tv V es bs) [.str x] = some (.lst ((ds x).map dD))) :
    ∃ kvs w k g5 g6 g7, whlD (fun ρ => (CE.sem T NUc ρ).bind truD) (fun ρ => CB.run T (NUb t m) ρ) FUEL (NUe (tv V es bs) (.str s) [(.inr s, .int 0)] [s] 0 none none none) = some (.nx (NUe (tv V es bs) (.str s) kvs w k g5 g6 g7)) ∧
      KeyI kvs w ∧ Bn (fun x => (ds x).map pr) V s w ∧ ∀ x ∈ w, ∀ d ∈ ds x, pr d ∈ w := by
  have hV2 : ∀ x ∈ V, ∀ y ∈ (ds x).map pr, y ∈ V := fun x hx y hy => by
    obtain ⟨d, hd, rfl⟩ := List.mem_map.mp hy
    exact hV x hx d hd
  obtain ⟨w, k, ρ', h1, ⟨kvs, g5, g6, g7, rfl, hk⟩, bn, cl⟩ := bfs (T := T) (c := NUc) (b := NUb t m) (nx := fun x => (ds x).map pr) hV2 hs hl
    (fun w k ρ => ∃ kvs g5 g6 g7, ρ = NUe (tv V es bs) (.str s) kvs w k g5 g6 g7 ∧ KeyI kvs w)
    (fun w k ρ ⟨kvs, g5, g6, g7, e, _⟩ => by
      subst e
      have : CE.sem T NUc (NUe (tv V es bs) (.str s) kvs w k g5 g6 g7) = some (.bl (decide (k < w.length))) := by
        refine cmp1 (x := .int k) (y := .int (strsL w).length) rfl rfl ?_
        show some (decide ((k : Int) < ((strsL w).length : Int))) = _
        rw [lt_nat, len_strs]
      rw [this]
      rfl)
    (fun w k ρ here ⟨kvs, g5, g6, g7, e, hk⟩ bn hh => by
      subst e
      have hin : here ∈ w := List.mem_of_getElem? hh
      have hhV := bn.v _ hin
      obtain ⟨ρ2, hf, ⟨kvs2, q6, q7, e2, hk2⟩, _, _⟩ := frD_inv (t := fun x ρ => CT.bind t x ρ) (b := fun ρ => CB.run T NUi ρ) dD
        (fun w ρ => (∃ kvs g6 g7, ρ = NUe (tv V es bs) (.str s) kvs w k (some (.str here)) g6 g7 ∧ KeyI kvs w) ∧ Bn (fun x => (ds x).map pr) V s w ∧ here ∈ w) (fun w d => bstep w (pr d)) (ds here) w (NUe (tv V es bs) (.str s) kvs w k (some (.str here)) g6 g7)
        (fun w ρ d hd ⟨⟨kvs, g6, g7, e, hk⟩, bn, hin⟩ => by
          subst e
          obtain ⟨g6', hb⟩ := ht d (some (tv V es bs)) (some (.str s)) (some (.dct kvs)) (some (.lst (strsL w))) (some (.int k)) (some (.str here)) g6 g7
          obtain ⟨kvs', hr, hk'⟩ := nu_in (T := T) (a0 := tv V es bs) (a1 := .str s) (k := k) (y := pr d) (g6 := g6') hk hin (by have := bn.len; omega)
          exact ⟨_, _, hb, .inl hr, ⟨kvs', g6', _, rfl, hk'⟩, bn.step hV2 hin (List.mem_map_of_mem hd), bstep_mem.mpr (.inl hin)⟩) ⟨⟨kvs, g6, g7, rfl, hk⟩, bn, hin⟩
      have hfold : (ds here).foldl (fun w d => bstep w (pr d)) w = ((ds here).map pr).foldl bstep w := by rw [List.foldl_map]
      rw [hfold] at hk2
      rw [hfold] at e2
      subst e2
      refine ⟨NUe (tv V es bs) (.str s) kvs2 _ (k + 1) (some (.str here)) q6 q7, run_nx (asg_of (ix_of rfl rfl (strs_ix hh))) (run_nx (ρ' := NUe (tv V es bs) (.str s) kvs2 _ k (some (.str here)) q6 q7) (fr_of (xs := (ds here).map dD) ?_ hf) (run_nx rfl run_nil)), kvs2, _, _, _, rfl, hk2⟩
      show (CE.sem T (.meth m (.var 0) (.cons (.var 5) .nil)) _).bind seqD = _
      rw [meth_of (x := tv V es bs) (ds := [.str here]) rfl rfl (hm here hhV)]
      rfl)
    ⟨[(.inr s, .int 0)], none, none, none, rfl, rfl, fun p hp => by obtain rfl := List.mem_singleton.mp hp; exact ⟨0, rfl⟩⟩
  exact ⟨kvs, w, k, g5, g6, g7, h1, hk, bn, fun x hx d hd => cl x hx _ (List.mem_map_of_mem hd)⟩
section
variable {V : List Str} {es : List St} {bs : D}
theorem out_ok {T : Tab} (h : T.fn[ix_m_town_drives_from]? = some e_m_town_drives_from) {x : Str} (hx : x ∈ V) : T.callM ix_m_town_drives_from (tv V es bs) [.str x] = some (.lst (((dre es).filter fun d => decide (d.2.1 = x)).map dD)) := by
  rw [cm h rfl rfl]
  show s_m_town_drives_from [tv V es bs, .str x] = _
  exact sem_rt rfl (run_rt (ret_of (ix_of (x := .dct (outT V es)) (y := .str x) rfl rfl (dkm_look hx))))
theorem into_ok {T : Tab} (h : T.fn[ix_m_town_drives_to]? = some e_m_town_drives_to) {x : Str} (hx : x ∈ V) : T.callM ix_m_town_drives_to (tv V es bs) [.str x] = some (.lst (((dre es).filter fun d => decide (d.2.2 = x)).map dD)) := by
  rw [cm h rfl rfl]
  show s_m_town_drives_to [tv V es bs, .str x] = _
  exact sem_rt rfl (run_rt (ret_of (ix_of (x := .dct (intoT V es)) (y := .str x) rfl rfl (dkm_look hx))))
theorem dre_mem (t : Town V es) {d : Dr} (hd : d ∈ dre es) : d.2.1 ∈ V ∧ d.2.2 ∈ V := by
  obtain ⟨p, hp, hd⟩ := mem_dre hd
  obtain ⟨h1, h2⟩ := t.ends _ (zip_mem hp).1
  rcases hd with rfl | rfl
  · exact ⟨h1, h2⟩
  · exact ⟨h2, h1⟩
theorem dre_in {p : St × Nat} (hp : p ∈ es.zipIdx) : (p.2, p.1.1, p.1.2) ∈ dre es ∧ (p.2, p.1.2, p.1.1) ∈ dre es :=
  ⟨List.mem_flatMap.mpr ⟨p, hp, by simp⟩, List.mem_flatMap.mpr ⟨p, hp, by simp⟩⟩
theorem all_met (t : Town V es) (h0 : Conn V es []) {s : Str} {w : List Str} (hs : s ∈ V) (nd : w.Nodup) (hw : s ∈ w) (hv : ∀ x ∈ w, x ∈ V) (cl : ∀ d ∈ dre es, d.2.1 ∈ w → d.2.2 ∈ w) : w.length = V.length := by
  have hall : ∀ v ∈ V, v ∈ w := fun v hv => by
    have := h0 (fun x => decide (x ∈ w)) (fun p hp _ => by
      obtain ⟨d1, d2⟩ := dre_in hp
      exact decide_eq_decide.mpr ⟨cl _ d1, cl _ d2⟩) v hv s hs
    rw [decide_eq_true hw] at this
    exact of_decide_eq_true this
  exact Nat.le_antisymm (nodup_sub nd hv) (nodup_sub t.nd hall)
theorem numbers_from_ok (t : Town V es) (h0 : Conn V es []) {s : Str} (hs : s ∈ V) : ∃ kvs, s_f_numbers_from [tv V es bs, .str s] = some (.dct kvs) ∧ kvs.length = V.length := by
  obtain ⟨kvs, w, k, g5, g6, g7, h1, hk, bn, cl⟩ := nums_ok (T := T_35) (bs := bs) (t := .tp (.cons (.nm 6) (.cons (.nm 6) (.cons (.nm 7) .nil)))) (m := ix_m_town_drives_from) (ds := fun x => (dre es).filter fun d => decide (d.2.1 = x)) (pr := fun d => d.2.2) t.pl hs
    (fun x hx d hd => (dre_mem t (List.mem_filter.mp hd).1).2) (fun d _ _ _ _ _ _ _ _ => ⟨_, rfl⟩) fun x hx => out_ok rfl hx
  refine ⟨kvs, sem_rt rfl (run_nx rfl (run_nx rfl (run_nx rfl (run_nx (ρ' := NUe (tv V es bs) (.str s) kvs w k g5 g6 g7) (whl_of h1) (run_rt rfl))))), ?_⟩
  rw [key_len hk]
  exact all_met t h0 hs bn.nd bn.st bn.v fun d hd hx => cl _ hx d (List.mem_filter.mpr ⟨hd, by simp⟩)
theorem numbers_to_ok (t : Town V es) (h0 : Conn V es []) {s : Str} (hs : s ∈ V) : ∃ kvs, s_f_numbers_to [tv V es bs, .str s] = some (.dct kvs) ∧ kvs.length = V.length := by
  obtain ⟨kvs, w, k, g5, g6, g7, h1, hk, bn, cl⟩ := nums_ok (T := T_47) (bs := bs) (t := .tp (.cons (.nm 6) (.cons (.nm 7) (.cons (.nm 6) .nil)))) (m := ix_m_town_drives_to) (ds := fun x => (dre es).filter fun d => decide (d.2.2 = x)) (pr := fun d => d.2.1) t.pl hs
    (fun x hx d hd => (dre_mem t (List.mem_filter.mp hd).1).1) (fun d _ _ _ _ _ _ _ _ => ⟨_, rfl⟩) fun x hx => into_ok rfl hx
  refine ⟨kvs, sem_rt rfl (run_nx rfl (run_nx rfl (run_nx rfl (run_nx (ρ' := NUe (tv V es bs) (.str s) kvs w k g5 g6 g7) (whl_of h1) (run_rt rfl))))), ?_⟩
  rw [key_len hk]
  refine all_met t h0 hs bn.nd bn.st bn.v fun d hd hx => ?_
  obtain ⟨p, hp, e⟩ := mem_dre hd
  obtain ⟨d1, d2⟩ := dre_in hp
  rcases e with rfl | rfl
  · exact cl _ hx (p.2, p.1.2, p.1.1) (List.mem_filter.mpr ⟨d2, by simp⟩)
  · exact cl _ hx (p.2, p.1.1, p.1.2) (List.mem_filter.mpr ⟨d1, by simp⟩)
theorem eq_self_nat (n : Nat) : cmpD .eq (.int (n : Int)) (.int (n : Int)) = some true := by
  show some ((n : Int) == (n : Int)) = _
  simp
theorem all_get_ok (t : Town V es) (h0 : Conn V es []) : s_f_all_get [tv V es bs] = some (.bl true) := by
  obtain ⟨s, hs, hix⟩ := head_ix t.ne
  obtain ⟨k1, a1, b1⟩ := numbers_from_ok (bs := bs) t h0 hs
  obtain ⟨k2, a2, b2⟩ := numbers_to_ok (bs := bs) t h0 hs
  have hp : ∀ {T : Tab} {ρ : Env}, T.fn[ix_m_town_places]? = some e_m_town_places → ρ[0]? = some (some (tv V es bs)) → CE.sem T (.meth ix_m_town_places (.var 0) .nil) ρ = some (.lst (strsL V)) := fun h h2 =>
    meth_of (x := tv V es bs) (by show (_ : Option _).bind id = _; rw [h2]; rfl) rfl (callM_places tv_plain h)
  refine sem_rt rfl (run_nx (asg_of (ix_of (hp rfl rfl) rfl hix)) (run_nx (asg_of (bi1 (hp rfl rfl) rfl)) (run_rt (ret_of (and2 (p := true) (q := true) (cmp1 (x := .int (V.length : Nat)) (y := .int ((V.length : Nat) : Int)) (bi1 (call_of rfl a1) ?_) ?_ (eq_self_nat _)) fun _ => cmp1 (x := .int (V.length : Nat)) (y := .int ((V.length : Nat) : Int)) (bi1 (call_of rfl a2) ?_) ?_ (eq_self_nat _))))))
  · show some (D.int (k1.length : Int)) = _
    rw [b1]
  · show some (D.int ((strsL V).length : Int)) = _
    rw [len_strs]
  · show some (D.int (k2.length : Int)) = _
    rw [b2]
  · show some (D.int ((strsL V).length : Int)) = _
    rw [len_strs]
end
end PV

set_option Elab.async false
set_option linter.all false
set_option maxRecDepth 100000
set_option maxHeartbeats 4000000
/-! N3: hanging together; links, halves, blocks. -/
namespace PV
open PySem LawC
/-! ### barred streets -/
def barK (cs : List Nat) : List (Key × D) := cs.map fun (k : Nat) => (Sum.inl (k : Int), D.bl true)
theorem nin_bar (k : Nat) (cs : List Nat) : cmpD .nin (.int k) (.dct (barK cs)) = some (!decide (k ∈ cs)) := by
  show (some ((barK cs).any fun p => decide (p.1 = Sum.inl (k : Int)))).map (!·) = _
  have : ((barK cs).any fun p => decide (p.1 = Sum.inl (k : Int))) = decide (k ∈ cs) := by
    unfold barK
    rw [List.any_map]
    refine Bool.eq_iff_iff.mpr ?_
    rw [List.any_eq_true, decide_eq_true_iff]
    constructor
    · rintro ⟨x, hx, e⟩
      have : (Sum.inl (x : Int) : Key) = Sum.inl (k : Int) := of_decide_eq_true e
      have := Int.ofNat.inj (Sum.inl.inj this)
      rw [← this]
      exact hx
    · exact fun h => ⟨k, h, decide_eq_true rfl⟩
  rw [this]
  rfl
/-- x hangs together with s -/
def Hang (es : List St) (cs : List Nat) (s x : Str) : Prop := ∀ χ, Open es cs χ → χ x = χ s
def oth (es : List St) (here : Str) (k : Nat) : Str := match es[k]? with
  | some e => if e.1 = here then e.2 else e.1
  | none => here
def hnx (es : List St) (cs : List Nat) (here : Str) : List Str := ((atN es.zipIdx here).filter fun k => !decide (k ∈ cs)).map (oth es here)
section
variable {V : List Str} {es : List St} {bs : D}
theorem mem_at {k : Nat} {x : Str} : k ∈ atN es.zipIdx x ↔ ∃ e, es[k]? = some e ∧ (e.1 = x ∨ e.2 = x) := by
  unfold atN
  rw [List.mem_map]
  constructor
  · rintro ⟨q, hq, rfl⟩
    obtain ⟨h1, h2⟩ := List.mem_filter.mp hq
    exact ⟨q.1, (zip_mem h1).2.2, by simpa using h2⟩
  · rintro ⟨e, h1, h2⟩
    refine ⟨(e, k), List.mem_filter.mpr ⟨List.mk_mem_zipIdx_iff_getElem?.mpr h1, by simpa using h2⟩, rfl⟩
theorem oth_at {k : Nat} {x : Str} (hne : ∀ e ∈ es, e.1 ≠ e.2) {e : St} (he : es[k]? = some e) : (e.1 = x → oth es x k = e.2) ∧ (e.2 = x → oth es x k = e.1) := by
  unfold oth
  rw [he]
  refine ⟨fun h => if_pos h, fun h => if_neg fun z => hne e (List.mem_of_getElem? he) (by rw [z, h])⟩
theorem hnx_V (t : Town V es) (hne : ∀ e ∈ es, e.1 ≠ e.2) (cs : List Nat) : ∀ x ∈ V, ∀ y ∈ hnx es cs x, y ∈ V := fun x _ y hy => by
  obtain ⟨k, hk, rfl⟩ := List.mem_map.mp hy
  obtain ⟨e, he, h⟩ := mem_at.mp (List.mem_filter.mp hk).1
  obtain ⟨a, b⟩ := oth_at (x := x) hne he
  obtain ⟨v1, v2⟩ := t.ends e (List.mem_of_getElem? he)
  rcases h with h | h
  · rw [a h]; exact v2
  · rw [b h]; exact v1
theorem hang_of (t : Town V es) (hne : ∀ e ∈ es, e.1 ≠ e.2) {cs : List Nat} {s : Str} {w : List Str} (bn : Bn (hnx es cs) V s w) (cl : ∀ x ∈ w, ∀ y ∈ hnx es cs x, y ∈ w) (x : Str) : x ∈ w ↔ x ∈ V ∧ Hang es cs s x := by
  constructor
  · intro hx
    refine ⟨bn.v x hx, fun χ ho => ?_⟩
    have := bn.mn (fun y => χ y == χ s) (by simp) (fun z _ hz y hy => by
      obtain ⟨k, hk, rfl⟩ := List.mem_map.mp hy
      obtain ⟨h1, h2⟩ := List.mem_filter.mp hk
      obtain ⟨e, he, h⟩ := mem_at.mp h1
      have hc : k ∉ cs := by simpa using h2
      have hp := ho (e, k) (List.mk_mem_zipIdx_iff_getElem?.mpr he) hc
      obtain ⟨a, b⟩ := oth_at (x := z) hne he
      rcases h with h | h
      · rw [a h, ← show χ e.1 = χ e.2 from hp, h]; exact hz
      · rw [b h, show χ e.1 = χ e.2 from hp, h]; exact hz) x hx
    simpa using this
  · rintro ⟨hx, hh⟩
    have := hh (fun y => decide (y ∈ w)) fun p hp hc => by
      obtain ⟨_, hlt, he⟩ := zip_mem hp
      have nk : ∀ z, (p.1.1 = z ∨ p.1.2 = z) → oth es z p.2 ∈ hnx es cs z := fun z hz => List.mem_map_of_mem (List.mem_filter.mpr ⟨mem_at.mpr ⟨p.1, he, hz⟩, by simpa using hc⟩)
      refine decide_eq_decide.mpr ⟨fun h => ?_, fun h => ?_⟩
      · have := cl _ h _ (nk p.1.1 (.inl rfl))
        rw [(oth_at hne he).1 rfl] at this
        exact this
      · have := cl _ h _ (nk p.1.2 (.inr rfl))
        rw [(oth_at hne he).2 rfl] at this
        exact this
    have this : decide (x ∈ w) = decide (s ∈ w) := this
    rw [decide_eq_true bn.st] at this
    exact of_decide_eq_true this
/-! ### hanging_from -/
abbrev HFi : CB := (.cons (.asg (.nm 8) (.meth ix_m_town_across (.var 0) (.cons (.var 7) (.cons (.var 6) .nil)))) (.cons (.ife (.bop true (.cons (.cmp .nin (.var 7) (.var 2)) (.cons (.cmp .nin (.var 8) (.var 3)) .nil))) (.cons (.setix 3 (.var 8) (.cD (.bl true))) (.cons (.app 4 (.var 8)) .nil)) .nil) .nil))
abbrev HFc : CE := .cmp .lt (.var 5) (.bi .len (.cons (.var 4) .nil))
abbrev HFb : CB := (.cons (.asg (.nm 6) (.ix (.var 4) (.var 5))) (.cons (.fr (.nm 7) (.seq (.meth ix_m_town_streets_with (.var 0) (.cons (.var 6) .nil))) HFi) (.cons (.aug 5 .add (.cD (.int (1)))) .nil)))
abbrev HFe (a0 a1 : D) (cs : List Nat) (w : List Str) (k : Nat) (g6 g7 g8 : Option D) : Env := [some a0, some a1, some (.dct (barK cs)), some (.dct (kn w)), some (.lst (strsL w)), some (.int k), g6, g7, g8]
theorem at_ok {T : Tab} (h : T.fn[ix_m_town_streets_with]? = some e_m_town_streets_with) {x : Str} (hx : x ∈ V) : T.callM ix_m_town_streets_with (tv V es bs) [.str x] = some (.lst (intsL (atN es.zipIdx x))) := by
  rw [cm h rfl rfl]
  show s_m_town_streets_with [tv V es bs, .str x] = _
  exact sem_rt rfl (run_rt (ret_of (ix_of (x := .dct (atT V es)) (y := .str x) rfl rfl (dkm_look hx))))
theorem st_ixT {k : Nat} {e : St} (h : es[k]? = some e) : ixD (.tup (stsL es)) (.int k) = some (eS e) := by
  obtain ⟨hlt, he⟩ := List.getElem?_eq_some_iff.mp h
  show L2.atI (stsL es) (k : Int) = _
  rw [atI_nat (by rw [len_sts]; exact hlt), List.getElem?_map, h]
  rfl
theorem other_end_x (e : St) (p : Str) : s_f_other_end [eS e, .str p] = some (.str (if e.1 = p then e.2 else e.1)) := by
  have h1 : CE.sem T_1 (.cmp .eq (.ix (.var 0) (.cD (.int (0)))) (.var 1)) [some (eS e), some (.str p)] = some (.bl (decide (e.1 = p))) := cmp1 (x := .str e.1) rfl rfl (eq_strs _ _)
  refine sem_rt rfl (run_rt (ret_of ?_))
  show (CE.sem T_1 (.cmp .eq (.ix (.var 0) (.cD (.int (0)))) (.var 1)) [some (eS e), some (.str p)]).bind _ = _
  rw [h1]
  show (if decide (e.1 = p) = true then _ else _) = _
  by_cases h : e.1 = p
  · rw [decide_eq_true h, if_pos h]; rfl
  · rw [decide_eq_false h, if_neg h]; rfl
theorem across_ok {T : Tab} (h : T.fn[ix_m_town_across]? = some e_m_town_across) {x : Str} {k : Nat} (hk : k < es.length) : T.callM ix_m_town_across (tv V es bs) [.int k, .str x] = some (.str (oth es x k)) := by
  rw [cm h rfl rfl]
  have he := List.getElem?_eq_getElem hk
  have : s_m_town_across [tv V es bs, .int k, .str x] = some (.str (if es[k].1 = x then es[k].2 else es[k].1)) :=
    sem_rt rfl (run_rt (ret_of (call_of (es_cons (ix_of (x := .tup (stsL es)) (y := .int k) rfl rfl (st_ixT he)) (es_cons rfl es_nil)) (other_end_x es[k] x))))
  show s_m_town_across [tv V es bs, .int k, .str x] = _
  rw [this]
  unfold oth
  rw [he]
theorem hf_in {T : Tab} (hT : T.fn[ix_m_town_across]? = some e_m_town_across) {a1 : D} {cs : List Nat} {w : List Str} {k : Nat} {here : Str} {j : Nat} {g8 : Option D} (hj : j < es.length) (hl : w.length ≤ 1000) :
    CB.run T HFi (HFe (tv V es bs) a1 cs w k (some (.str here)) (some (.int j)) g8) = some (.nx (HFe (tv V es bs) a1 cs (if j ∈ cs then w else bstep w (oth es here j)) k (some (.str here)) (some (.int j)) (some (.str (oth es here j))))) := by
  refine run_nx (ρ' := HFe (tv V es bs) a1 cs w k (some (.str here)) (some (.int j)) (some (.str (oth es here j)))) (asg_of (meth_of (x := tv V es bs) (ds := [.int j, .str here]) rfl rfl (across_ok hT hj))) ?_
  generalize oth es here j = y
  have c1 : CE.sem T (.bop true (.cons (.cmp .nin (.var 7) (.var 2)) (.cons (.cmp .nin (.var 8) (.var 3)) .nil))) (HFe (tv V es bs) a1 cs w k (some (.str here)) (some (.int j)) (some (.str y))) = some (.bl (!decide (j ∈ cs) && !decide (y ∈ w))) :=
    and2 (cmp1 rfl rfl (nin_bar j cs)) fun _ => cmp1 rfl rfl (nin_kn y w)
  by_cases hc : j ∈ cs
  · rw [if_pos hc]
    refine run_nx (ife_bl c1 ?_) run_nil
    rw [if_neg (by simp [hc])]
    rfl
  · rw [if_neg hc]
    unfold bstep
    by_cases hy : y ∈ w
    · rw [if_pos hy]
      refine run_nx (ife_bl c1 ?_) run_nil
      rw [if_neg (by simp [hy])]
      rfl
    · rw [if_neg hy]
      refine run_nx (ife_bl c1 ?_) run_nil
      rw [if_pos (by simp [hy, hc])]
      refine run_nx (ρ' := [some (tv V es bs), some a1, some (.dct (barK cs)), some (.dct (kn (w ++ [y]))), some (.lst (strsL w)), some (.int k), some (.str here), some (.int j), some (.str y)]) ?_ (run_nx (app_of (d := .str y) rfl rfl (by rw [len_strs]; unfold LIM; omega)) ?_)
      · unfold CS.run
        rw [show CE.sem T (.cD (.bl true)) _ = some (D.bl true) from rfl, Option.bind_some, show CE.sem T (.var 8) _ = some (D.str y) from rfl, Option.bind_some]
        show ((if (kn w).length < LIM then some (D.dct (putKD (.inr y) (.bl true) (kn w))) else none).map _) = _
        rw [if_pos (by rw [len_kn]; unfold LIM; omega), put_kn hy]
        rfl
      · rw [strs_snoc]
        rfl
theorem hfold (cs : List Nat) (here : Str) : ∀ (ks : List Nat) (w : List Str), ks.foldl (fun w k => if k ∈ cs then w else bstep w (oth es here k)) w = ((ks.filter fun k => !decide (k ∈ cs)).map (oth es here)).foldl bstep w
  | [], w => rfl
  | k :: ks, w => by
    rw [List.foldl_cons, hfold cs here ks, List.filter_cons]
    by_cases h : k ∈ cs
    · rw [if_pos h, if_neg (by simp [h])]
    · rw [if_neg h, if_pos (by simp [h])]
      rfl
theorem hanging_ok (t : Town V es) (hne : ∀ e ∈ es, e.1 ≠ e.2) {s : Str} (hs : s ∈ V) (cs : List Nat) : ∃ w, s_f_hanging_from [tv V es bs, .str s, .dct (barK cs)] = some (.dct (kn w)) ∧ w.Nodup ∧ ∀ x, x ∈ w ↔ x ∈ V ∧ Hang es cs s x := by
  obtain ⟨w, k, ρ', h1, ⟨g6, g7, g8, rfl⟩, bn, cl⟩ := bfs (T := T_3) (c := HFc) (b := HFb) (nx := hnx es cs) (hnx_V t hne cs) hs t.pl
    (fun w k ρ => ∃ g6 g7 g8, ρ = HFe (tv V es bs) (.str s) cs w k g6 g7 g8)
    (fun w k ρ ⟨g6, g7, g8, e⟩ => by
      subst e
      have : CE.sem T_3 HFc (HFe (tv V es bs) (.str s) cs w k g6 g7 g8) = some (.bl (decide (k < w.length))) := by
        refine cmp1 (x := .int k) (y := .int (strsL w).length) rfl rfl ?_
        show some (decide ((k : Int) < ((strsL w).length : Int))) = _
        rw [lt_nat, len_strs]
      rw [this]
      rfl)
    (fun w k ρ here ⟨g6, g7, g8, e⟩ bn hh => by
      subst e
      have hin : here ∈ w := List.mem_of_getElem? hh
      have hhV := bn.v _ hin
      obtain ⟨ρ2, hf, ⟨q7, q8, e2⟩, _⟩ := frD_inv (t := fun x ρ => CT.bind (.nm 7) x ρ) (b := fun ρ => CB.run T_3 HFi ρ) (fun (k : Nat) => D.int (k : Int))
        (fun w ρ => (∃ g7 g8, ρ = HFe (tv V es bs) (.str s) cs w k (some (.str here)) g7 g8) ∧ Bn (hnx es cs) V s w ∧ here ∈ w) (fun w k => if k ∈ cs then w else bstep w (oth es here k)) (atN es.zipIdx here) w (HFe (tv V es bs) (.str s) cs w k (some (.str here)) g7 g8)
        (fun w ρ j hj ⟨⟨g7, g8, e⟩, bn, hin⟩ => by
          subst e
          obtain ⟨e, he, _⟩ := mem_at.mp hj
          have hlt := (List.getElem?_eq_some_iff.mp he).1
          refine ⟨HFe (tv V es bs) (.str s) cs w k (some (.str here)) (some (.int j)) g8, _, rfl, .inl (hf_in rfl hlt (by have := bn.len; have := t.pl; omega)), ⟨_, _, rfl⟩, ?_, ?_⟩
          · by_cases hc : j ∈ cs
            · rw [if_pos hc]; exact bn
            · rw [if_neg hc]
              exact bn.step (hnx_V t hne cs) hin (List.mem_map_of_mem (List.mem_filter.mpr ⟨hj, by simpa using hc⟩))
          · by_cases hc : j ∈ cs
            · rw [if_pos hc]; exact hin
            · rw [if_neg hc]; exact bstep_mem.mpr (.inl hin)) ⟨⟨g7, g8, rfl⟩, bn, hin⟩
      rw [hfold] at e2
      subst e2
      refine ⟨HFe (tv V es bs) (.str s) cs ((hnx es cs here).foldl bstep w) (k + 1) (some (.str here)) q7 q8, run_nx (asg_of (ix_of rfl rfl (strs_ix hh))) (run_nx (ρ' := HFe (tv V es bs) (.str s) cs ((hnx es cs here).foldl bstep w) k (some (.str here)) q7 q8) (fr_of (xs := intsL (atN es.zipIdx here)) ?_ hf) (run_nx rfl run_nil)), _, _, _, rfl⟩
      show (CE.sem T_3 (.meth ix_m_town_streets_with (.var 0) (.cons (.var 6) .nil)) _).bind seqD = _
      rw [meth_of (x := tv V es bs) (ds := [.str here]) rfl rfl (at_ok rfl hhV)]
      rfl)
    (ρ0 := HFe (tv V es bs) (.str s) cs [s] 0 none none none) ⟨none, none, none, rfl⟩
  exact ⟨w, sem_rt rfl (run_nx rfl (run_nx rfl (run_nx rfl (run_nx (ρ' := HFe (tv V es bs) (.str s) cs w k g6 g7 g8) (whl_of h1) (run_rt rfl))))), bn.nd, hang_of t hne bn cl⟩
noncomputable def hangs (es : List St) (cs : List Nat) (s x : Str) : Bool := @decide (Hang es cs s x) (Classical.propDecidable _)
theorem hangs_iff {cs : List Nat} {s x : Str} : hangs es cs s x = true ↔ Hang es cs s x := by
  unfold hangs
  exact @decide_eq_true_iff _ (Classical.propDecidable _)
/-- a street is a link -/
noncomputable def lnk (es : List St) (k : Nat) : Bool := match es[k]? with
  | some e => !hangs es [k] e.1 e.2
  | none => false
theorem ends_ok {T : Tab} (h : T.fn[ix_m_town_ends]? = some e_m_town_ends) {k : Nat} {e : St} (he : es[k]? = some e) : T.callM ix_m_town_ends (tv V es bs) [.int k] = some (.tup [.str e.1, .str e.2]) := by
  rw [cm h rfl rfl]
  show s_m_town_ends [tv V es bs, .int k] = _
  exact sem_rt rfl (run_nx (asgT_of (d := eS e) (ix_of (x := .tup (stsL es)) (y := .int k) rfl rfl (st_ixT he)) rfl) (run_rt rfl))
theorem in_kn (b : Str) (w : List Str) : cmpD .in_ (.str b) (.dct (kn w)) = some (decide (b ∈ w)) := by
  show some ((kn w).any fun p => decide (p.1 = Sum.inr b)) = _
  rw [kn_any]
theorem hang_together_ok (t : Town V es) (hne : ∀ e ∈ es, e.1 ≠ e.2) {s x : Str} (hs : s ∈ V) (hx : x ∈ V) (cs : List Nat) : s_f_hang_together [tv V es bs, .str s, .str x, .dct (barK cs)] = some (.bl (hangs es cs s x)) := by
  obtain ⟨w, h1, h2, h3⟩ := hanging_ok (bs := bs) t hne hs cs
  refine sem_rt rfl (run_rt (ret_of (cmp1 (x := .str x) (y := .dct (kn w)) rfl (call_of rfl h1) ?_)))
  rw [in_kn]
  congr 1
  refine Bool.eq_iff_iff.mpr ?_
  rw [decide_eq_true_iff, hangs_iff, h3]
  exact ⟨fun z => z.2, fun z => ⟨hx, z⟩⟩
theorem is_link_ok (t : Town V es) (hne : ∀ e ∈ es, e.1 ≠ e.2) {k : Nat} (hk : k < es.length) : s_f_is_link [tv V es bs, .int k] = some (.bl (lnk es k)) := by
  have he := List.getElem?_eq_getElem hk
  obtain ⟨v1, v2⟩ := t.ends es[k] (List.getElem_mem _)
  have h1 := hang_together_ok (bs := bs) t hne v1 v2 [k]
  have : lnk es k = !hangs es [k] es[k].1 es[k].2 := by unfold lnk; rw [he]
  rw [this]
  exact sem_rt rfl (run_nx (ρ' := [some (tv V es bs), some (.int k), some (.str es[k].1), some (.str es[k].2)]) (asgT_of (d := .tup [.str es[k].1, .str es[k].2]) (meth_of (x := tv V es bs) (ds := [.int k]) rfl rfl (ends_ok rfl he)) rfl) (run_rt (ret_of (not1 (call_of (ds := [tv V es bs, .str es[k].1, .str es[k].2, .dct (barK [k])]) rfl h1)))))
theorem all_links_ok (t : Town V es) (hne : ∀ e ∈ es, e.1 ≠ e.2) : s_f_all_links [tv V es bs] = some (.lst (intsL ((List.range es.length).filter (lnk es)))) := by
  refine sem_rt rfl (run_rt (ret_of ?_))
  have hsrc : CI.sem T_8 (.rng1 (.bi .len (.cons (.meth ix_m_town_streets (.var 0) .nil) .nil))) [some (tv V es bs), none] = some (intsL (List.range es.length)) := by
    refine rng1_of (i := (es.length : Nat)) (bi1 (meth_of (x := tv V es bs) (ds := []) rfl rfl (callM_streets tv_plain rfl)) ?_) (rng_nat _ t.few)
    show some (D.int ((stsL es).length : Int)) = _
    rw [len_sts]
  exact lc_of hsrc (lc_if _ _ _ _ fun k hk => ⟨[some (tv V es bs), some (.int k)], rfl, call_of rfl (is_link_ok t hne (List.mem_range.mp hk)), fun _ => rfl⟩)
theorem links_ok (t : Town V es) (hne : ∀ e ∈ es, e.1 ≠ e.2) : s_f_links [tv V es bs] = some (.lst (intsL ((List.range es.length).filter (lnk es)))) :=
  sem_rt rfl (run_rt (ret_of (call_of rfl (all_links_ok t hne))))
theorem as_list_ok (w : List Str) : s_f_as_list [tv V es bs, .dct (kn w)] = some (.lst (strsL (V.filter fun p => decide (p ∈ w)))) := by
  refine sem_rt rfl (run_rt (ret_of (lc_of (seq_of (meth_of (x := tv V es bs) (ds := []) rfl rfl (callM_places tv_plain rfl)) rfl) (lc_if _ _ _ _ fun p hp => ⟨[some (tv V es bs), some (.dct (kn w)), some (.str p)], rfl, cmp1 rfl rfl (in_kn p w), fun _ => rfl⟩))))
end
end PV

set_option Elab.async false
set_option linter.all false
set_option maxRecDepth 100000
set_option maxHeartbeats 4000000
/-! N4: a street is closed. -/
namespace PV
open PySem LawC
def cl (es : List St) (i : Nat) : List St := es.take i ++ es.drop (i + 1)
def up (i k : Nat) : Nat := if k < i then k else k + 1
def dn (i k : Nat) : Nat := if i < k then k - 1 else k
theorem up_ne (i k : Nat) : up i k ≠ i := by unfold up; split <;> omega
theorem dn_up (i k : Nat) : dn i (up i k) = k := by
  unfold up
  by_cases h : k < i
  · rw [if_pos h]; unfold dn; rw [if_neg (by omega)]
  · rw [if_neg h]; unfold dn; rw [if_pos (by omega)]; omega
theorem up_dn {i k : Nat} (h : k ≠ i) : up i (dn i k) = k := by
  unfold dn
  by_cases h2 : i < k
  · rw [if_pos h2]; unfold up; rw [if_neg (by omega)]; omega
  · rw [if_neg h2]; unfold up; rw [if_pos (by omega)]
theorem up_inj {i k j : Nat} (h : up i k = up i j) : k = j := by
  have := congrArg (dn i) h
  rw [dn_up, dn_up] at this
  exact this
section
variable {V : List Str} {es : List St} {i : Nat} {cs : List Nat}
theorem cl_get (hi : i < es.length) (k : Nat) : (cl es i)[k]? = es[up i k]? := by
  unfold cl up
  have hl : (es.take i).length = i := by rw [List.length_take]; omega
  by_cases h : k < i
  · rw [if_pos h, List.getElem?_append_left (by omega), List.getElem?_take, if_pos h]
  · rw [if_neg h, List.getElem?_append_right (by omega), hl, List.getElem?_drop]
    congr 1
    omega
theorem cl_len (hi : i < es.length) : (cl es i).length = es.length - 1 := by
  unfold cl
  rw [List.length_append, List.length_take, List.length_drop]
  omega
theorem cl_mem {e : St} (h : e ∈ cl es i) : e ∈ es := by
  rcases List.mem_append.mp h with h | h
  · exact List.mem_of_mem_take h
  · exact List.mem_of_mem_drop h
theorem open_get {χ : Str → Bool} : Open es cs χ ↔ ∀ k e, es[k]? = some e → k ∉ cs → χ e.1 = χ e.2 :=
  ⟨fun h k e he hk => h (e, k) (List.mk_mem_zipIdx_iff_getElem?.mpr he) hk, fun h p hp hk => h p.2 p.1 (zip_mem hp).2.2 hk⟩
theorem open_cl (hi : i < es.length) {χ : Str → Bool} : Open (cl es i) cs χ ↔ Open es (i :: cs.map (up i)) χ := by
  rw [open_get, open_get]
  constructor
  · intro h k e he hk
    have hki : k ≠ i := fun z => hk (by rw [z]; exact List.mem_cons_self)
    refine h (dn i k) e (by rw [cl_get hi, up_dn hki]; exact he) fun hm => hk (List.mem_cons_of_mem _ ?_)
    rw [← up_dn hki]
    exact List.mem_map_of_mem hm
  · intro h k e he hk
    rw [cl_get hi] at he
    refine h _ e he fun hm => ?_
    rcases List.mem_cons.mp hm with z | z
    · exact up_ne i k z
    · obtain ⟨j, hj, e2⟩ := List.mem_map.mp z
      exact hk (by rw [← up_inj e2]; exact hj)
theorem hang_cl (hi : i < es.length) {s x : Str} : Hang (cl es i) cs s x ↔ Hang es (i :: cs.map (up i)) s x :=
  ⟨fun h χ ho => h χ ((open_cl hi).mpr ho), fun h χ ho => h χ ((open_cl hi).mp ho)⟩
theorem conn_cl (hi : i < es.length) : Conn V (cl es i) cs ↔ Conn V es (i :: cs.map (up i)) :=
  ⟨fun h χ ho => h χ ((open_cl hi).mpr ho), fun h χ ho => h χ ((open_cl hi).mp ho)⟩
theorem town_cl (t : Town V es) : Town V (cl es i) :=
  ⟨t.nd, fun e he => t.ends e (cl_mem he), by
    have : (cl es i).length ≤ es.length := by
      unfold cl
      rw [List.length_append, List.length_take, List.length_drop]
      by_cases h : i < es.length <;> omega
    have := t.few
    omega, t.pl, t.ne⟩
/-- a street that is a link of a town in one piece -/
theorem hang_parts (t : Town V es) {j : Nat} {e : St} (h0 : Conn V es cs) (he : es[j]? = some e) : (!hangs es (cs ++ [j]) e.1 e.2) = parts V es (cs ++ [j]) := by
  refine Bool.eq_iff_iff.mpr ?_
  rw [Bool.not_eq_true', ← Bool.not_eq_true, hangs_iff, parts_iff]
  obtain ⟨v1, v2⟩ := t.ends e (List.mem_of_getElem? he)
  refine ⟨fun h hc => h fun χ ho => hc χ ho _ v2 _ v1, fun h hh => h fun χ ho => ?_⟩
  refine h0 χ (open_get.mpr fun k e' hk hkc => ?_)
  by_cases hkj : k = j
  · subst hkj
    rw [he] at hk
    cases hk
    exact (hh χ ho).symm
  · exact open_get.mp ho k e' hk fun hm => by
      rcases List.mem_append.mp hm with z | z
      · exact hkc z
      · exact hkj (List.mem_singleton.mp z)
theorem lnk_cl (t : Town V es) (hi : i < es.length) (h1 : Conn V es [i]) {k : Nat} (hk : k < (cl es i).length) : lnk (cl es i) k = parts V es [i, up i k] := by
  have he := List.getElem?_eq_getElem hk
  have he2 : es[up i k]? = some (cl es i)[k] := by rw [← cl_get hi]; exact he
  have hp := hang_parts (cs := [i]) t h1 he2
  unfold lnk
  rw [he]
  show (!hangs (cl es i) [k] (cl es i)[k].1 (cl es i)[k].2) = _
  rw [show parts V es [i, up i k] = parts V es ([i] ++ [up i k]) from rfl, ← hp]
  congr 1
  refine Bool.eq_iff_iff.mpr ?_
  rw [hangs_iff, hangs_iff]
  exact hang_cl hi
theorem lnk_good (t : Town V es) (h0 : Conn V es []) (h1 : ∀ k, Conn V es [k]) (k : Nat) : lnk es k = false := by
  unfold lnk
  cases he : es[k]? with
  | none => rfl
  | some e =>
    show (!hangs es [k] e.1 e.2) = false
    rw [show [k] = [] ++ [k] from rfl, hang_parts t h0 he]
    exact Bool.eq_false_iff.mpr fun z => parts_iff.mp z (h1 k)
end
/-! ### the other streets of a class -/
theorem range_cut {n i : Nat} (hi : i < n) : (List.range n).filter (fun o => !decide (o = i)) = (List.range (n - 1)).map (up i) := by
  obtain ⟨m, rfl⟩ : ∃ m, n = i + (m + 1) := ⟨n - i - 1, by omega⟩
  have e1 : List.range (i + (m + 1)) = List.range i ++ ((0 :: (List.range m).map Nat.succ).map (i + ·)) := by rw [List.range_add, List.range_succ_eq_map]
  have e2 : List.range (i + (m + 1) - 1) = List.range i ++ (List.range m).map (i + ·) := by rw [show i + (m + 1) - 1 = i + m by omega, List.range_add]
  rw [e1, e2, List.filter_append, List.map_append, List.map_cons, List.filter_cons, if_neg (by simp)]
  congr 1
  · rw [List.filter_eq_self.mpr fun a ha => by have := List.mem_range.mp ha; simp; omega]
    have : (List.range i).map (up i) = (List.range i).map id := List.map_congr_left fun a ha => by
      have := List.mem_range.mp ha
      unfold up
      rw [if_pos this]
      rfl
    rw [this, List.map_id]
  · rw [List.filter_eq_self.mpr fun a ha => by
      obtain ⟨b, hb, rfl⟩ := List.mem_map.mp ha
      obtain ⟨c, _, rfl⟩ := List.mem_map.mp hb
      simp]
    rw [List.map_map, List.map_map]
    refine List.map_congr_left fun a _ => ?_
    show i + (a + 1) = up i (i + a)
    unfold up
    rw [if_neg (by omega)]
    omega
theorem due_eq {n i : Nat} (hi : i < n) (P : Nat → Bool) : (List.range (n - 1)).filter (fun k => P (up i k)) = (((List.range n).filter fun o => decide (o = i) || P o).filter fun o => !decide (o = i)).map (dn i) := by
  rw [List.filter_filter]
  have : ((List.range n).filter fun o => !decide (o = i) && (decide (o = i) || P o)) = ((List.range n).filter fun o => !decide (o = i)).filter P := by
    rw [List.filter_filter]
    refine List.filter_congr fun o _ => ?_
    by_cases h : o = i <;> simp [h]
  rw [this, range_cut hi, List.filter_map, List.map_map, show (P ∘ up i) = fun k => P (up i k) from rfl]
  have : ((List.range (n - 1)).filter fun k => P (up i k)).map (dn i ∘ up i) = ((List.range (n - 1)).filter fun k => P (up i k)).map id := List.map_congr_left fun a _ => dn_up i a
  rw [this, List.map_id]
/-! ### the town without a street, by the code -/
section
variable {V : List Str} {es : List St} {bs : D} {i : Nat}
theorem le_int (a b : Int) : cmpD .le (.int a) (.int b) = some (decide (a ≤ b)) := rfl
theorem tstreet_ok {T : Tab} (h : T.fn[ix_m_town_check_street]? = some e_m_town_check_street) (hi : i < es.length) : T.callM ix_m_town_check_street (tv V es bs) [.int i] = some .non := by
  rw [cm h rfl rfl]
  show s_m_town_check_street [tv V es bs, .int i] = _
  have hw : s_f_is_whole [.int i] = some (.bl true) := rfl
  have hf : s_f_is_from_to [.int i, .int 0, .int ((es.length : Int) - 1)] = some (.bl true) := by
    refine sem_rt rfl (run_rt (ret_of (and2 (p := true) (q := true) (call_of rfl hw) fun _ => cmp2_of (x := .int 0) (y := .int i) (z := .int ((es.length : Int) - 1)) rfl rfl rfl ?_ ?_)))
    · show some (decide ((0 : Int) ≤ (i : Int))) = _
      rw [decide_eq_true (Int.natCast_nonneg i)]
    · show some (decide ((i : Int) ≤ (es.length : Int) - 1)) = _
      rw [decide_eq_true (by omega)]
  have hs : T_32.callM ix_m_town_is_street (tv V es bs) [.int i] = some (.bl true) := by
    rw [cm (e := e_m_town_is_street) rfl rfl rfl]
    show s_m_town_is_street [tv V es bs, .int i] = _
    refine sem_rt rfl (run_rt (ret_of (call_of (es_cons rfl (es_cons rfl (es_cons (bin_of (x := .int (es.length : Nat)) (y := .int 1) (bi1 (x := .tup (stsL es)) rfl ?_) rfl rfl) es_nil))) hf)))
    show some (D.int ((stsL es).length : Int)) = _
    rw [len_sts]
  exact sem_nx rfl (run_nx (ife_bl (not1 (p := true) (meth_of (x := tv V es bs) (ds := [.int i]) rfl rfl hs)) rfl) run_nil)
theorem sts_take (k : Nat) : (stsL es).take k = stsL (es.take k) := (List.map_take ..).symm
theorem sts_drop (k : Nat) : (stsL es).drop k = stsL (es.drop k) := (List.map_drop ..).symm
theorem cut_to (hi : i ≤ es.length) : cutD (stsL es) none (some (i : Int)) = stsL (es.take i) := by
  unfold cutD
  have h1 : HT.sIx (stsL es).length 0 none = 0 := rfl
  have h2 : HT.sIx (stsL es).length (stsL es).length (some (i : Int)) = i := by
    rw [HT.sIx_nat, len_sts]
    omega
  rw [h1, h2, List.drop_zero, Nat.sub_zero, sts_take]
theorem cut_from (hi : i ≤ es.length) : cutD (stsL es) (some (i : Int)) none = stsL (es.drop i) := by
  unfold cutD
  have h1 : HT.sIx (stsL es).length 0 (some (i : Int)) = i := by
    rw [HT.sIx_nat, len_sts]
    omega
  have h2 : HT.sIx (stsL es).length (stsL es).length none = es.length := by rw [len_sts]; rfl
  rw [h1, h2, sts_drop, List.take_of_length_le]
  rw [len_sts, List.length_drop]
  exact Nat.le_refl _
theorem halves_ok (t : Town V es) (hne : ∀ e ∈ es, e.1 ≠ e.2) {e : St} (he : es[i]? = some e) (hl : lnk es i = true) : ∃ wa wb : List Str, s_f_halves [tv V es bs, .int i] = some (.tup [.lst (strsL (V.filter fun p => decide (p ∈ wa))), .lst (strsL (V.filter fun p => decide (p ∈ wb)))]) ∧ (∀ x, x ∈ wa ↔ x ∈ V ∧ Hang es [i] e.1 x) ∧ ∀ x, x ∈ wb ↔ x ∈ V ∧ Hang es [i] e.2 x := by
  have hi := (List.getElem?_eq_some_iff.mp he).1
  obtain ⟨v1, v2⟩ := t.ends e (List.mem_of_getElem? he)
  obtain ⟨wa, a1, _, a3⟩ := hanging_ok (bs := bs) t hne v1 [i]
  obtain ⟨wb, b1, _, b3⟩ := hanging_ok (bs := bs) t hne v2 [i]
  have hof : s_f_halves_of [tv V es bs, .int i] = some (.tup [.lst (strsL (V.filter fun p => decide (p ∈ wa))), .lst (strsL (V.filter fun p => decide (p ∈ wb)))]) :=
    sem_rt rfl (run_nx (ρ' := [some (tv V es bs), some (.int i), none, some (.str e.1), some (.str e.2)]) (asgT_of (d := .tup [.str e.1, .str e.2]) (meth_of (x := tv V es bs) (ds := [.int i]) rfl rfl (ends_ok rfl he)) rfl) (run_nx (ρ' := [some (tv V es bs), some (.int i), some (.dct (barK [i])), some (.str e.1), some (.str e.2)]) rfl (run_rt (ret_of (tup_of (es_cons (call_of (es_cons rfl (es_cons (call_of rfl a1) es_nil)) (as_list_ok wa)) (es_cons (call_of (es_cons rfl (es_cons (call_of rfl b1) es_nil)) (as_list_ok wb)) es_nil)))))))
  have hlk := is_link_ok (bs := bs) t hne hi
  rw [hl] at hlk
  exact ⟨wa, wb, sem_rt rfl (run_nx (expr_of (meth_of (x := tv V es bs) (ds := [.int i]) rfl rfl (tstreet_ok rfl hi))) (run_nx (ife_bl (not1 (call_of rfl hlk)) rfl) (run_rt (ret_of (call_of rfl hof))))), a3, b3⟩
end
end PV

set_option Elab.async false
set_option linter.all false
set_option maxRecDepth 100000
set_option maxHeartbeats 4000000
/-! N5: blocks, shows_together. -/
namespace PV
open PySem LawC
theorem put_all : ∀ (b a : List Str), (a ++ b).Nodup → putAllD (kn a) (kn b) = kn (a ++ b)
  | [], a, _ => by rw [List.append_nil]; rfl
  | x :: b, a, h => by
    have hx : x ∉ a := fun hm => (List.nodup_append.mp h).2.2 x hm x List.mem_cons_self rfl
    show putAllD (putKD (.inr x) (.bl true) (kn a)) (kn b) = _
    rw [put_kn hx, put_all b (a ++ [x]) (by rw [List.append_assoc]; exact h), List.append_assoc]
    rfl
theorem bools_ok {α : Type} (f : α → Bool) : ∀ xs : List α, boolsD (xs.map fun x => D.bl (f x)) = some (xs.map f)
  | [] => rfl
  | x :: xs => by
    show (boolsD (xs.map fun x => D.bl (f x))).map (f x :: ·) = _
    rw [bools_ok f xs]
    rfl
theorem all_bools {α : Type} (f : α → Bool) (xs : List α) (h : ∀ x ∈ xs, f x = true) : biD .all [.lst (xs.map fun x => D.bl (f x))] = some (.bl true) := by
  show (boolsD (xs.map fun x => D.bl (f x))).map (fun bs => D.bl (bs.all id)) = _
  rw [bools_ok]
  show some (D.bl ((xs.map f).all id)) = _
  rw [List.all_map, show (id ∘ f) = f from rfl, List.all_eq_true.mpr fun x hx => h x hx]
theorem zip_strs : ∀ (A B : List Str), zipD (strsL A) (strsL B) = (A.zip B).map fun p => D.tup [.str p.1, .str p.2]
  | [], B => by cases B <;> rfl
  | a :: A, [] => rfl
  | a :: A, b :: B => by
    show D.tup [.str a, .str b] :: zipD (strsL A) (strsL B) = _
    rw [zip_strs A B]
    rfl
theorem cut_one (A : List Str) : cutD (strsL A) (some 1) none = strsL (A.drop 1) := by
  unfold cutD
  have h1 : HT.sIx (strsL A).length 0 (some (1 : Int)) = min 1 (strsL A).length := HT.sIx_nat _ _ 1
  have h2 : HT.sIx (strsL A).length (strsL A).length none = (strsL A).length := rfl
  rw [h1, h2]
  cases A with
  | nil => rfl
  | cons a A =>
    show ((strsL (a :: A)).drop (min 1 ((strsL A).length + 1))).take ((strsL A).length + 1 - min 1 ((strsL A).length + 1)) = _
    rw [Nat.min_eq_left (by omega)]
    show (strsL A).take ((strsL A).length + 1 - 1) = strsL A
    rw [Nat.add_sub_cancel, List.take_length]
theorem asc_next {A : List Str} (h : Asc A) : ∀ p ∈ A.zip (A.drop 1), p.1.cps.toList < p.2.cps.toList := fun p hp => by
  obtain ⟨k, hk, e⟩ := List.mem_iff_getElem.mp hp
  have hl : (A.zip (A.drop 1)).length ≤ A.length - 1 := by rw [List.length_zip, List.length_drop]; omega
  have h1 : k + 1 < A.length := by omega
  have := List.pairwise_iff_getElem.mp h k (k + 1) (by omega) h1 (by omega)
  rw [List.getElem_zip] at e
  subst e
  have h3 : k < (A.drop 1).length := by rw [List.length_drop]; omega
  show A[k].cps.toList < ((A.drop 1)[k]'h3).cps.toList
  rw [List.getElem_drop]
  have e2 : A[1 + k]'(by omega) = A[k + 1] := by congr 1; omega
  rw [e2]
  exact this
theorem sorted_self {w V : List Str} (asc : Asc V) (p : w.Perm V) : sortS leStr w = V := by
  refine sorted_unique leStr_anti ((sortS_perm w).trans p) (sortS_sorted leStr_tot leStr_tr w) (asc.imp fun {a b} h => ?_)
  unfold leStr
  exact decide_eq_true fun z => List.lt_irrefl _ (List.lt_trans h z)
theorem eq_strs_self {w : List Str} (hs : ∀ x ∈ w, sOk x = true) : cmpD .eq (.lst (strsL w)) (.lst (strsL w)) = some true := by
  have e : (D.lst (strsL w)).okEq = true := okEq_of (n := 1) (by decide) (by unfold dOk; exact dOks_strs 0 hs)
  show (if D.scalP (.lst (strsL w)) (.lst (strsL w)) || ((D.lst (strsL w)).okEq && (D.lst (strsL w)).okEq) then some (D.eqvs (strsL w) (strsL w)) else none) = _
  rw [e, if_pos (by rfl), eqvs_strs, decide_eq_true rfl]
theorem eqvs_ls_self : ∀ ws : List (List Str), D.eqvs (lsL ws) (lsL ws) = true
  | [] => by unfold lsL; rw [List.map_nil]; unfold D.eqvs; rfl
  | w :: ws => by
    show (D.eqv (.lst (strsL w)) (.lst (strsL w)) && D.eqvs (lsL ws) (lsL ws)) = true
    have : D.eqv (.lst (strsL w)) (.lst (strsL w)) = D.eqvs (strsL w) (strsL w) := by unfold D.eqv; rfl
    rw [this, eqvs_ls_self ws, eqvs_strs, decide_eq_true rfl]
    rfl
theorem ne_ls {ws : List (List Str)} (h : ∀ w ∈ ws, ∀ x ∈ w, sOk x = true) : cmpD .ne (.lst (lsL ws)) (.lst (lsL ws)) = some false := by
  have e : (D.lst (lsL ws)).okEq = true := okEq_of (n := 2) (by decide) (by unfold dOk; exact dOks_ls h)
  show (if D.scalP (.lst (lsL ws)) (.lst (lsL ws)) || ((D.lst (lsL ws)).okEq && (D.lst (lsL ws)).okEq) then some (D.eqvs (lsL ws) (lsL ws)) else none).map (!·) = _
  rw [e, if_pos (by rfl), eqvs_ls_self]
  rfl
theorem ne_bools (a b : Bool) : cmpD .ne (.bl a) (.bl b) = some (a != b) := by cases a <;> cases b <;> rfl
section
variable {V : List Str} {es : List St} {bs : D}
/-! ### blocks -/
/-! ### shows_together -/
theorem or3 {T : Tab} {ρ : Env} {e1 e2 e3 : CE} {p q r : Bool} (h1 : CE.sem T e1 ρ = some (.bl p)) (h2 : p = false → CE.sem T e2 ρ = some (.bl q)) (h3 : p = false → q = false → CE.sem T e3 ρ = some (.bl r)) : CE.sem T (.bop false (.cons e1 (.cons e2 (.cons e3 .nil)))) ρ = some (.bl (p || q || r)) := by
  show (CE.sem T e1 ρ).bind _ = _
  rw [h1]
  cases p with
  | true => rfl
  | false =>
    show (CE.sem T e2 ρ).bind _ = _
    rw [h2 rfl]
    cases q with
    | true => rfl
    | false => exact h3 rfl rfl
end
end PV

set_option Elab.async false
set_option linter.all false
set_option maxRecDepth 100000
set_option maxHeartbeats 4000000
/-! N6: the law. -/
namespace PV
open PySem LawC
theorem eq_ints_nil (w : List Nat) : cmpD .eq (.lst (intsL w)) (.lst []) = some w.isEmpty := by
  have e : (D.lst (intsL w)).okEq = true := okEq_of (n := 1) (by decide) (by unfold dOk; exact dOks_ints 0)
  show (if D.scalP (.lst (intsL w)) (.lst []) || ((D.lst (intsL w)).okEq && (D.lst []).okEq) then some (D.eqv (.lst (intsL w)) (.lst [])) else none) = _
  rw [e, if_pos (by rfl)]
  cases w <;> rfl
theorem eq_strs_nil {w : List Str} (hs : ∀ x ∈ w, sOk x = true) : cmpD .eq (.lst (strsL w)) (.lst []) = some w.isEmpty := by
  have e : (D.lst (strsL w)).okEq = true := okEq_of (n := 1) (by decide) (by unfold dOk; exact dOks_strs 0 hs)
  show (if D.scalP (.lst (strsL w)) (.lst []) || ((D.lst (strsL w)).okEq && (D.lst []).okEq) then some (D.eqv (.lst (strsL w)) (.lst [])) else none) = _
  rw [e, if_pos (by rfl)]
  cases w <;> rfl
theorem eq_bools (a b : Bool) : cmpD .eq (.bl a) (.bl b) = some (a == b) := by cases a <;> cases b <;> rfl
theorem ne_nat (a b : Nat) : cmpD .ne (.int a) (.int b) = some (!decide (a = b)) := by
  show (cmpD .eq (.int (a : Int)) (.int (b : Int))).map (!·) = _
  rw [eq_nat]
  rfl
theorem gt_nat (a b : Nat) : cmpD .gt (.int a) (.int b) = some (decide (b < a)) := by
  show some (decide ((b : Int) < (a : Int))) = _
  rw [lt_nat]
section
variable {V : List Str} {es : List St} {bs : D}
/-- the names of the law: script, town, listed, own, single, places, streets, street, other, due, k, pair -/
abbrev WE (sc tn : D) (cs : List (List Nat)) (g3 g4 : Option D) (V : List Str) (es : List St) (g7 g8 g9 g10 g11 : Option D) : Env := [some sc, some tn, some (.lst (lstsL cs)), g3, g4, some (.lst (strsL V)), some (.lst (stsL es)), g7, g8, g9, g10, g11]
/-- k - int(k > street) -/
theorem down_ok {T : Tab} {ρ : Env} {k i : Nat} (hk : CE.sem T (.var 10) ρ = some (.int k)) (hi : CE.sem T (.var 7) ρ = some (.int i)) : CE.sem T (.bin .sub (.var 10) (.bi .int_ (.cons (.cmp .gt (.var 10) (.var 7)) .nil))) ρ = some (.int (dn i k : Nat)) := by
  refine bin_of hk (bi1 (d := .int (if decide (i < k) = true then 1 else 0)) (cmp1 hk hi (gt_nat k i)) ?_) ?_
  · show some (D.int _) = _
    rfl
  · show some (D.int ((k : Int) - if decide (i < k) = true then 1 else 0)) = _
    unfold dn
    by_cases h : i < k
    · rw [if_pos (by simpa using h), if_pos h]
      congr 2 <;> omega
    · rw [if_neg (by simpa using h), if_neg h]
      congr 2 <;> omega
noncomputable def ownOf (V : List Str) (es : List St) (i : Nat) : List Nat := cls (rl V es) es.length i
noncomputable def due (V : List Str) (es : List St) (i : Nat) : List Nat := ((ownOf V es i).filter fun o => !decide (o = i)).map (dn i)
theorem links_closed (L : LawTown V es) {i : Nat} (hi : i < es.length) {bs' : D} : s_f_links [tv V (cl es i) bs'] = some (.lst (intsL (due V es i))) := by
  rw [links_ok (town_cl L.t) fun e he => L.ne e (cl_mem he)]
  have : (List.range (cl es i).length).filter (lnk (cl es i)) = due V es i := by
    have h1 : (List.range (cl es i).length).filter (lnk (cl es i)) = (List.range (es.length - 1)).filter fun k => parts V es [i, up i k] := by
      rw [cl_len hi]
      exact List.filter_congr fun k hk => lnk_cl L.t hi (L.h1 i) (by rw [cl_len hi]; exact List.mem_range.mp hk)
    rw [h1, due_eq hi fun o => parts V es [i, o]]
    rfl
  rw [this]
/-! ### the pairs -/
/-! ### a street -/
theorem own_len {k : Nat} (hk : k < es.length) (E : Eqv (rl V es)) : (due V es k).isEmpty = !decide (1 < (ownOf V es k).length) := by
  have hm : k ∈ ownOf V es k := mem_cls.mpr ⟨hk, E.refl k⟩
  have nd : (ownOf V es k).Nodup := List.Pairwise.filter _ List.nodup_range
  refine Bool.eq_iff_iff.mpr ?_
  rw [Bool.not_eq_true', decide_eq_false_iff_not, List.isEmpty_iff]
  unfold due
  rw [List.map_eq_nil_iff, List.filter_eq_nil_iff]
  constructor
  · intro h hl
    have hall : ∀ o ∈ ownOf V es k, o = k := fun o ho => by simpa using h o ho
    have := nodup_sub nd (V := [k]) fun o ho => by rw [hall o ho]; simp
    simp at this
    omega
  · intro h o ho hk2
    have hko : o ≠ k := by simpa using hk2
    have : [k, o].length ≤ (ownOf V es k).length := nodup_sub (by simp; exact fun z => hko z.symm) fun x hx => by
      rcases List.mem_cons.mp hx with rfl | hx
      · exact hm
      · obtain rfl := List.mem_singleton.mp hx
        exact ho
    simp at this
    omega
end
end PV

set_option Elab.async false
set_option linter.all false
set_option maxRecDepth 100000
set_option maxHeartbeats 4000000
/-! N7: the law's end. -/
namespace PV
open PySem LawC
section
variable {V : List Str} {es : List St} {bs : D}
theorem class_of_mem (E : Eqv (rl V es)) {c : List Nat} (hc : c ∈ classesOf (rl V es) es.length) {i : Nat} (hi : i ∈ c) : i < es.length ∧ ownOf V es i = c := by
  obtain ⟨r, hr, rfl⟩ := List.mem_map.mp hc
  obtain ⟨h1, h2⟩ := mem_cls.mp hi
  exact ⟨h1, (cls_eq E h2).symm⟩
theorem own_mem_classes (E : Eqv (rl V es)) {i : Nat} (hi : i < es.length) : ownOf V es i ∈ classesOf (rl V es) es.length := by
  obtain ⟨r, h1, h2, h3⟩ := first_of E i i (Nat.le_refl _)
  exact List.mem_map.mpr ⟨r, List.mem_filter.mpr ⟨List.mem_range.mpr (by omega), h2⟩, cls_eq E h3⟩
theorem class_has (E : Eqv (rl V es)) {c : List Nat} (hc : c ∈ classesOf (rl V es) es.length) : ∃ i ∈ c, i < es.length := by
  obtain ⟨r, hr, rfl⟩ := List.mem_map.mp hc
  have := List.mem_range.mp (List.mem_filter.mp hr).1
  exact ⟨r, mem_cls.mpr ⟨this, E.refl r⟩, this⟩
end
end PV
namespace LawM
open PySem PV LawC
end LawM

set_option Elab.async false
set_option linter.all false
set_option maxRecDepth 100000
set_option maxHeartbeats 4000000
/-! W1: towns with streets of both words. -/
namespace PW
open PySem PV LawC
abbrev Env := PV.Env
abbrev Sw := Str × Str × Bool
def wd : Bool → Str
  | true => two
  | false => Str.ofString "one"
def eW (e : Sw) : D := .tup [.str e.1, .str e.2.1, .str (wd e.2.2)]
abbrev swL (es : List Sw) : List D := es.map eW
def eJ (p : Sw × Nat) : D := .tup [.int p.2, eW p.1]
def pj (e : Sw) : St := (e.1, e.2.1)
def tw (V : List Str) (es : List Sw) (fs : List (Str × D)) : D := .ins 0 ((Str.ofString "_places", .tup (strsL V)) :: (Str.ofString "_streets", .tup (swL es)) :: fs)
theorem enumD_zip : ∀ (es : List Sw) (n : Nat), enumD n (swL es) = (es.zipIdx n).map eJ
  | [], _ => rfl
  | e :: es, n => by
    show D.tup [.int n, eW e] :: enumD (n + 1) (swL es) = _
    rw [enumD_zip es (n + 1), List.zipIdx_cons, List.map_cons]
    rfl
theorem len_sts {es : List Sw} : (swL es).length = es.length := List.length_map ..
theorem wd_two (b : Bool) : cmpD .eq (.str (wd b)) (.str two) = some b := by
  rw [eq_strs]
  cases b
  · rw [decide_eq_false (by decide +kernel)]
  · exact congrArg some (decide_eq_true rfl)
theorem is_word_ok (b : Bool) : s_f_is_word [.str (wd b)] = some (.bl true) := by cases b <;> rfl
structure Town (V : List Str) (es : List Sw) : Prop where
  nd : V.Nodup
  ends : ∀ e ∈ es, e.1 ∈ V ∧ e.2.1 ∈ V
  few : es.length ≤ 1000
  pl : V.length ≤ 1000
  ne : V ≠ []
theorem Town.pj {V : List Str} {es : List Sw} (t : Town V es) : PV.Town V (es.map pj) := ⟨t.nd, fun e he => by
  obtain ⟨q, hq, rfl⟩ := List.mem_map.mp he
  exact t.ends q hq, by rw [List.length_map]; exact t.few, t.pl, t.ne⟩
theorem zip_mem {es : List Sw} {p : Sw × Nat} (hp : p ∈ es.zipIdx) : p.1 ∈ es ∧ p.2 < es.length ∧ es[p.2]? = some p.1 := by
  obtain ⟨_, hlt, e2⟩ := List.mem_zipIdx hp
  have hlt : p.2 < es.length := by omega
  have e3 : p.1 = es[p.2] := by rw [e2]; rfl
  exact ⟨by rw [e3]; exact List.getElem_mem _, hlt, by rw [List.getElem?_eq_getElem hlt, e3]⟩
theorem st_ix {es : List Sw} {k : Nat} {e : Sw} (h : es[k]? = some e) : ixD (.lst (swL es)) (.int k) = some (eW e) := by
  obtain ⟨hlt, he⟩ := List.getElem?_eq_some_iff.mp h
  show L2.atI (swL es) (k : Int) = _
  rw [atI_nat (by rw [len_sts]; exact hlt), List.getElem?_map, h]
  rfl
/-! ### drives -/
def drv (p : Sw × Nat) : List Dr := if p.1.2.2 = true then [(p.2, p.1.1, p.1.2.1), (p.2, p.1.2.1, p.1.1)] else [(p.2, p.1.1, p.1.2.1)]
def dre (es : List Sw) : List Dr := es.zipIdx.flatMap drv
theorem drv_len (p : Sw × Nat) : (drv p).length ≤ 2 := by unfold drv; split <;> simp
theorem flat_drv : ∀ (l : List (Sw × Nat)), (l.flatMap drv).length ≤ 2 * l.length
  | [] => Nat.le_refl _
  | a :: l => by
    have := flat_drv l
    have := drv_len a
    rw [List.flatMap_cons, List.length_append, List.length_cons]
    omega
theorem dre_len (es : List Sw) : (dre es).length ≤ 2 * es.length := by
  have := flat_drv es.zipIdx
  rw [List.length_zipIdx] at this
  exact this
theorem mem_drv {p : Sw × Nat} {d : Dr} : d ∈ drv p ↔ d = (p.2, p.1.1, p.1.2.1) ∨ (p.1.2.2 = true ∧ d = (p.2, p.1.2.1, p.1.1)) := by
  unfold drv
  by_cases h : p.1.2.2 = true
  · rw [if_pos h]; simp [h]
  · rw [if_neg h]; simp [h]
theorem mem_dre {es : List Sw} {d : Dr} (hd : d ∈ dre es) : ∃ p ∈ es.zipIdx, d = (p.2, p.1.1, p.1.2.1) ∨ (p.1.2.2 = true ∧ d = (p.2, p.1.2.1, p.1.1)) := by
  obtain ⟨p, hp, hd⟩ := List.mem_flatMap.mp hd
  exact ⟨p, hp, mem_drv.mp hd⟩
theorem drives_of_ok (p : Sw × Nat) : s_f_drives_of [.int p.2, eW p.1] = some (.lst ((drv p).map dD)) := by
  obtain ⟨⟨a, b, w⟩, k⟩ := p
  have c : ∀ l : List D, CE.sem T_10 (.cmp .eq (.var 5) (.glob gl_TWO_WAY)) [some (.int k), some (eW (a, b, w)), some (.lst l), some (.str a), some (.str b), some (.str (wd w))] = some (.bl w) := fun l => cmp1 (x := .str (wd w)) (y := .str two) rfl rfl (wd_two w)
  cases w with
  | true => exact sem_rt rfl (run_nx rfl (run_nx rfl (run_nx (ife_bl (c _) rfl) (run_rt rfl))))
  | false => exact sem_rt rfl (run_nx rfl (run_nx rfl (run_nx (ife_bl (c _) rfl) (run_rt rfl))))
section
variable {V : List Str} {es : List Sw}
theorem is_street_ok {e : Sw} (h1 : e.1 ∈ V) (h2 : e.2.1 ∈ V) (h3 : e.1 ≠ e.2.1) : s_f_is_street_of [.lst (strsL V), eW e] = some (.bl true) := by
  have c1 : CE.sem T_19 (.bop false (.cons (.not (.call ix_f_is_end (.cons (.var 0) (.cons (.var 2) .nil)))) (.cons (.not (.call ix_f_is_end (.cons (.var 0) (.cons (.var 3) .nil)))) (.cons (.cmp .eq (.var 2) (.var 3)) .nil)))) [some (.lst (strsL V)), some (eW e), some (.str e.1), some (.str e.2.1), some (.str (wd e.2.2))] = some (.bl false) := by
    have a1 := not1 (call_of (T := T_19) (f := ix_f_is_end) (es := .cons (.var 0) (.cons (.var 2) .nil)) (ρ := [some (.lst (strsL V)), some (eW e), some (.str e.1), some (.str e.2.1), some (.str (wd e.2.2))]) rfl (is_end_ok h1))
    have a2 := not1 (call_of (T := T_19) (f := ix_f_is_end) (es := .cons (.var 0) (.cons (.var 3) .nil)) (ρ := [some (.lst (strsL V)), some (eW e), some (.str e.1), some (.str e.2.1), some (.str (wd e.2.2))]) rfl (is_end_ok h2))
    have a3 := cmp1 (T := T_19) (ρ := [some (.lst (strsL V)), some (eW e), some (.str e.1), some (.str e.2.1), some (.str (wd e.2.2))]) (e1 := .var 2) (e2 := .var 3) rfl rfl (eq_strs e.1 e.2.1)
    rw [decide_eq_false h3] at a3
    show (CE.sem T_19 (.not _) _).bind _ = _
    rw [a1]
    show (CE.sem T_19 (.not _) _).bind _ = _
    rw [a2]
    exact a3
  refine sem_rt rfl (run_nx rfl (run_nx (asgT_of rfl rfl) (run_nx (ife_bl c1 rfl) (run_rt (ret_of (call_of rfl ?_))))))
  exact is_word_ok e.2.2
theorem first_wrong_ok (h : ∀ e ∈ es, e.1 ∈ V ∧ e.2.1 ∈ V ∧ e.1 ≠ e.2.1) : s_f_first_wrong_street [.lst (strsL V), .lst (swL es)] = some .non := by
  obtain ⟨ρ', hf, g2, g3, rfl⟩ := frD_inv (t := fun x ρ => CT.bind (.tp (.cons (.nm 2) (.cons (.nm 3) .nil))) x ρ) (b := fun ρ => CB.run T_20 (.cons (.ife (.not (.call ix_f_is_street_of (.cons (.var 0) (.cons (.var 3) .nil)))) (.cons (.ret (.var 2)) .nil) .nil) .nil) ρ) eJ
    (fun (_ : Unit) ρ => ∃ g2 g3, ρ = [some (.lst (strsL V)), some (.lst (swL es)), g2, g3]) (fun _ _ => ()) es.zipIdx () [some (.lst (strsL V)), some (.lst (swL es)), none, none]
    (fun _ ρ p hp ⟨g2, g3, e⟩ => by
      subst e
      have he : p.1 ∈ es := by
        obtain ⟨_, _, e2⟩ := List.mem_zipIdx hp
        rw [e2]
        exact List.getElem_mem _
      obtain ⟨a, b, c⟩ := h _ he
      exact ⟨[some (.lst (strsL V)), some (.lst (swL es)), some (.int p.2), some (eW p.1)], [some (.lst (strsL V)), some (.lst (swL es)), some (.int p.2), some (eW p.1)], rfl, .inl (run_nx (ife_bl (not1 (call_of rfl (is_street_ok a b c))) rfl) run_nil), _, _, rfl⟩) ⟨_, _, rfl⟩
  refine sem_rt rfl (run_nx (ρ' := [some (.lst (strsL V)), some (.lst (swL es)), g2, g3]) (fr_of (xs := enumD 0 (swL es)) rfl ?_) (run_rt rfl))
  rw [enumD_zip]
  exact hf
theorem check_town_ok (hpl : s_f_are_places [.lst (strsL V)] = some (.bl true)) (hl : es.length ≤ 24) (h : ∀ e ∈ es, e.1 ∈ V ∧ e.2.1 ∈ V ∧ e.1 ≠ e.2.1) : s_f_check_town [.lst (strsL V), .lst (swL es)] = some .non := by
  have c2 : CE.sem T_21 (.bop false (.cons (.not (.isi (.var 1) .tlist)) (.cons (.cmp .gt (.bi .len (.cons (.var 1) .nil)) (.glob gl_MOST_STREETS)) .nil))) [some (.lst (strsL V)), some (.lst (swL es)), none] = some (.bl false) := by
    refine or2 (p := false) (q := false) rfl fun _ => cmp1 (x := .int (swL es).length) (y := .int 24) rfl rfl ?_
    show some (decide ((24 : Int) < ((swL es).length : Int))) = _
    rw [len_sts, decide_eq_false (by omega)]
  exact sem_nx rfl (run_nx (ife_bl (not1 (call_of rfl hpl)) rfl) (run_nx (ife_bl c2 rfl) (run_nx (asg_of (call_of rfl (first_wrong_ok h))) (run_nx (ife_bl rfl rfl) run_nil))))
theorem all_drives_ok (hes : es.length ≤ 1000) : s_f_all_drives [.lst (swL es)] = some (.lst ((dre es).map dD)) := by
  obtain ⟨ρ', hf, g2, g3, rfl⟩ := frD_pre (t := fun x ρ => CT.bind (.tp (.cons (.nm 2) (.cons (.nm 3) .nil))) x ρ) (b := fun ρ => CB.run T_11 (.cons (.ext 1 (.call ix_f_drives_of (.cons (.var 2) (.cons (.var 3) .nil)))) .nil) ρ) eJ
    (fun (ys : List (Sw × Nat)) ρ => ∃ g2 g3, ρ = [some (.lst (swL es)), some (.lst ((ys.flatMap drv).map dD)), g2, g3]) es.zipIdx [] [some (.lst (swL es)), some (.lst []), none, none]
    (fun ys p zs ρ e ⟨g2, g3, eρ⟩ => by
      subst eρ
      rw [List.nil_append] at e
      have hy : ys.length ≤ 1000 := by
        have := congrArg List.length e
        rw [List.length_zipIdx, List.length_append] at this
        omega
      refine ⟨[some (.lst (swL es)), some (.lst ((ys.flatMap drv).map dD)), some (.int p.2), some (eW p.1)], [some (.lst (swL es)), some (.lst (((ys ++ [p]).flatMap drv).map dD)), some (.int p.2), some (eW p.1)], rfl, .inl (run_nx ?_ run_nil), _, _, rfl⟩
      have hcall : CE.sem T_11 (.call ix_f_drives_of (.cons (.var 2) (.cons (.var 3) .nil))) [some (.lst (swL es)), some (.lst ((ys.flatMap drv).map dD)), some (.int p.2), some (eW p.1)] = some (.lst ((drv p).map dD)) := call_of rfl (drives_of_ok p)
      unfold CS.run upS
      rw [hcall]
      show (if ((ys.flatMap drv).map dD).length + ((drv p).map dD).length ≤ LIM then some (D.lst (((ys.flatMap drv).map dD) ++ ((drv p).map dD))) else none).map _ = _
      rw [if_pos (by
        rw [List.length_map, List.length_map]
        have := flat_drv ys
        have := drv_len p
        unfold LIM
        omega), List.flatMap_append, List.map_append, List.flatMap_cons, List.flatMap_nil, List.append_nil]
      rfl) ⟨_, _, rfl⟩
  refine sem_rt rfl (run_nx rfl (run_nx (ρ' := [some (.lst (swL es)), some (.lst ((dre es).map dD)), g2, g3]) (fr_of (xs := enumD 0 (swL es)) rfl ?_) (run_rt rfl)))
  rw [enumD_zip]
  exact hf
end
def atN (es : List (Sw × Nat)) (p : Str) : List Nat := (es.filter fun q => decide (q.1.1 = p) || decide (q.1.2.1 = p)).map (·.2)
def atT (V : List Str) (es : List Sw) : List (Key × D) := dkm V fun p => intsL (atN es.zipIdx p)
def outT (V : List Str) (es : List Sw) : List (Key × D) := dkm V fun p => ((dre es).filter fun d => decide (d.2.1 = p)).map dD
def intoT (V : List Str) (es : List Sw) : List (Key × D) := dkm V fun p => ((dre es).filter fun d => decide (d.2.2 = p)).map dD
def fsT (V : List Str) (es : List Sw) (bs : D) : List (Str × D) := [(Str.ofString "_drives", .tup ((dre es).map dD)), (Str.ofString "_out", .dct (outT V es)), (Str.ofString "_into", .dct (intoT V es)), (Str.ofString "_at", .dct (atT V es)), (Str.ofString "_beside", bs)]
abbrev tv (V : List Str) (es : List Sw) (bs : D) : D := tw V es (fsT V es bs)
section
variable {V : List Str} {es : List Sw}
theorem atN_snoc (ys : List (Sw × Nat)) (q : Sw × Nat) (hne : q.1.1 ≠ q.1.2.1) (p : Str) : intsL (atN (ys ++ [q]) p) = if p = q.1.2.1 then (if p = q.1.1 then intsL (atN ys p) ++ [.int q.2] else intsL (atN ys p)) ++ [.int q.2] else if p = q.1.1 then intsL (atN ys p) ++ [.int q.2] else intsL (atN ys p) := by
  unfold atN intsL
  rw [List.filter_append, List.map_append, List.map_append]
  by_cases h2 : p = q.1.2.1
  · have h1 : p ≠ q.1.1 := fun z => hne (by rw [← z, ← h2])
    rw [if_pos h2, if_neg h1, List.filter_cons, if_pos (by simp [h2])]
    rfl
  · rw [if_neg h2]
    by_cases h1 : p = q.1.1
    · rw [if_pos h1, List.filter_cons, if_pos (by simp [h1])]
      rfl
    · rw [if_neg h1, List.filter_cons, if_neg (by simpa using ⟨fun z => h1 z.symm, fun z => h2 z.symm⟩)]
      simp
theorem atN_len (ys : List (Sw × Nat)) (p : Str) : (intsL (atN ys p)).length ≤ ys.length := by
  rw [len_ints]
  unfold atN
  rw [List.length_map]
  exact List.length_filter_le _ _
theorem streets_at_x (nd : V.Nodup) (h : ∀ e ∈ es, e.1 ∈ V ∧ e.2.1 ∈ V ∧ e.1 ≠ e.2.1) (hl : es.length ≤ 24) : s_f_streets_at [.lst (strsL V), .lst (swL es)] = some (.dct (atT V es)) := by
  obtain ⟨ρ', hf, g3, g4, rfl⟩ := frD_pre (t := fun x ρ => CT.bind (.tp (.cons (.nm 3) (.cons (.nm 4) .nil))) x ρ) (b := fun ρ => CB.run T_23 (.cons (.appAt 2 (.ix (.var 4) (.cD (.int (0)))) (.var 3)) (.cons (.appAt 2 (.ix (.var 4) (.cD (.int (1)))) (.var 3)) .nil)) ρ) eJ
    (fun (ys : List (Sw × Nat)) ρ => ∃ (g3 g4 : Option D), ρ = [some (.lst (strsL V)), some (.lst (swL es)), some (.dct (dkm V fun p => intsL (atN ys p))), g3, g4, none]) es.zipIdx [] [some (.lst (strsL V)), some (.lst (swL es)), some (.dct (dkm V fun _ => [])), none, none, none]
    (fun ys p zs ρ e ⟨g3, g4, eρ⟩ => by
      subst eρ
      rw [List.nil_append] at e
      have hm : p ∈ es.zipIdx := by rw [e]; simp
      obtain ⟨_, hlt, e2⟩ := List.mem_zipIdx hm
      have he : p.1 ∈ es := by rw [e2]; exact List.getElem_mem _
      obtain ⟨h1, h2, h3⟩ := h _ he
      have hy : ys.length ≤ 24 := by
        have := congrArg List.length e
        rw [List.length_zipIdx, List.length_append] at this
        omega
      have b1 : ∀ q, (intsL (atN ys q)).length ≤ 24 := fun q => Nat.le_trans (atN_len ys q) hy
      have k1 := dkm_app (f := fun q => intsL (atN ys q)) (d := .int p.2) (by have := b1 p.1.1; unfold LIM; show (intsL (atN ys p.1.1)).length < 1000000; omega) nd h1
      have k2 := dkm_app (f := fun q => if q = p.1.1 then intsL (atN ys q) ++ [.int p.2] else intsL (atN ys q)) (d := .int p.2) (by
        have := b1 p.1.2.1
        show (if p.1.2.1 = p.1.1 then _ else intsL (atN ys p.1.2.1)).length < 1000000
        rw [if_neg (fun z => h3 z.symm)]
        omega) nd h2
      refine ⟨[some (.lst (strsL V)), some (.lst (swL es)), some (.dct (dkm V fun q => intsL (atN ys q))), some (.int p.2), some (eW p.1), none], _, rfl, .inl (run_nx (appAt_of (z := .str p.1.1) rfl rfl rfl k1) (run_nx (appAt_of (z := .str p.1.2.1) rfl rfl rfl k2) run_nil)), some (.int p.2), some (eW p.1), ?_⟩
      show [_, _, some (D.dct (dkm V _)), _, _, _] = _
      rw [dkm_congr (g := fun q => intsL (atN (ys ++ [p]) q)) fun q => (atN_snoc ys p h3 q).symm]) ⟨_, _, rfl⟩
  refine sem_rt rfl (run_nx (asg_of (new_env (by show 5 < 6; decide) nd rfl)) (run_nx (ρ' := [some (.lst (strsL V)), some (.lst (swL es)), some (.dct (atT V es)), g3, g4, none]) (fr_of (xs := enumD 0 (swL es)) rfl ?_) (run_rt rfl)))
  rw [enumD_zip]
  exact hf
theorem dk_at (h : es.length ≤ 24) : DK (fun (k : Nat) => D.int (k : Int)) (fun k => k < es.length) V 48 (atT V es) := by
  refine ⟨?_, fun p hp => ?_⟩
  · unfold atT dkm
    rw [List.map_map]
    rfl
  · obtain ⟨x, _, rfl⟩ := List.mem_map.mp hp
    refine ⟨atN es.zipIdx x, rfl, ?_, fun k hk => ?_⟩
    · have := atN_len es.zipIdx x
      rw [len_ints, List.length_zipIdx] at this
      omega
    · obtain ⟨q, hq, rfl⟩ := List.mem_map.mp hk
      obtain ⟨_, hlt, _⟩ := List.mem_zipIdx (List.mem_filter.mp hq).1
      omega
theorem other_end_ok (e : Sw) (p : Str) : ∃ s, s_f_other_end [eW e, .str p] = some (.str s) := by
  have hc : CE.sem T_1 (.ife (.cmp .eq (.ix (.var 0) (.cD (.int (0)))) (.var 1)) (.ix (.var 0) (.cD (.int (1)))) (.ix (.var 0) (.cD (.int (0))))) [some (eW e), some (.str p)] = some (.str (if decide (e.1 = p) = true then e.2.1 else e.1)) := by
    have h1 : CE.sem T_1 (.cmp .eq (.ix (.var 0) (.cD (.int (0)))) (.var 1)) [some (eW e), some (.str p)] = some (.bl (decide (e.1 = p))) := cmp1 (x := .str e.1) rfl rfl (eq_strs _ _)
    show (CE.sem T_1 (.cmp .eq (.ix (.var 0) (.cD (.int (0)))) (.var 1)) [some (eW e), some (.str p)]).bind _ = _
    rw [h1]
    show (if decide (e.1 = p) = true then _ else _) = _
    by_cases h : e.1 = p
    · rw [decide_eq_true h]; rfl
    · rw [decide_eq_false h]; rfl
  exact ⟨_, sem_rt rfl (run_rt (ret_of hc))⟩
theorem places_beside_ok (hVl : V.length ≤ 1000) {kvs : List (Key × D)} (dk : DK (fun (k : Nat) => D.int (k : Int)) (fun k => k < es.length) V 48 kvs) : ∃ d, s_f_places_beside [.lst (strsL V), .lst (swL es), .dct kvs] = some d := by
  obtain ⟨ρ', hf, fnd, g4, g5, rfl, _⟩ := frD_pre (t := fun x ρ => CT.bind (.nm 4) x ρ) (b := fun ρ => CB.run T_24 (.cons (.asg (.nm 5) (.dc [(Str.ofString "street", 6)] (.nm 6) (.seq (.ix (.var 2) (.var 4))) (.call ix_f_other_end (.cons (.ix (.var 1) (.var 6)) (.cons (.var 4) .nil))) (.cD (.bl true)))) (.cons (.setix 3 (.var 4) (.bi .sorted (.cons (.var 5) .nil))) .nil)) ρ) D.str
    (fun (ys : List Str) ρ => ∃ (fnd : List (Key × D)) (g4 g5 : Option D), ρ = [some (.lst (strsL V)), some (.lst (swL es)), some (.dct kvs), some (.dct fnd), g4, g5, none] ∧ fnd.length ≤ ys.length) V [] [some (.lst (strsL V)), some (.lst (swL es)), some (.dct kvs), some (.dct []), none, none, none]
    (fun ys p zs ρ e ⟨fnd, g4, g5, eρ, hl⟩ => by
      subst eρ
      rw [List.nil_append] at e
      have hp : p ∈ V := by rw [e]; simp
      have hy : ys.length ≤ 1000 := by
        have := congrArg List.length e
        rw [List.length_append] at this
        omega
      obtain ⟨ks, k1, k2, k3⟩ := dk_look dk hp
      obtain ⟨w', q1, q2⟩ := dc_kn (f := fun x => (CT.bind (.nm 6) x (wipeD [some (.lst (strsL V)), some (.lst (swL es)), some (.dct kvs), some (.dct fnd), some (.str p), g5, none] ([(Str.ofString "street", 6)].map (·.2)))).bind fun ρ' => (CE.sem T_24 (.call ix_f_other_end (.cons (.ix (.var 1) (.var 6)) (.cons (.var 4) .nil))) ρ').bind fun y => (keyD y).bind fun q => (CE.sem T_24 (.cD (.bl true)) ρ').map fun z => (q, z)) (fun (k : Nat) => D.int (k : Int)) ks [] fun k hk => by
        have hlt := k3 k hk
        obtain ⟨s, hs⟩ := other_end_ok es[k] p
        refine ⟨s, ?_⟩
        have hc : CE.sem T_24 (.call ix_f_other_end (.cons (.ix (.var 1) (.var 6)) (.cons (.var 4) .nil))) [some (.lst (strsL V)), some (.lst (swL es)), some (.dct kvs), some (.dct fnd), some (.str p), g5, some (.int k)] = some (.str s) := call_of (es_cons (ix_of rfl rfl (st_ix (List.getElem?_eq_getElem hlt))) (es_cons rfl es_nil)) hs
        show (CE.sem T_24 (.call ix_f_other_end (.cons (.ix (.var 1) (.var 6)) (.cons (.var 4) .nil))) [some (.lst (strsL V)), some (.lst (swL es)), some (.dct kvs), some (.dct fnd), some (.str p), g5, some (.int k)]).bind _ = _
        rw [hc]
        rfl
      have hw : w'.length < 64 := by
        have : w'.length ≤ 0 + ks.length := q2
        omega
      have hso : biD .sorted [.dct (kn w')] = some (.lst (strsL (sortS leStr w'))) := by
        show (if (kn w').length < 64 then (sortD ((kn w').map fun p => keyV p.1)).map D.lst else none) = _
        rw [if_pos (by rw [len_kn]; exact hw)]
        have : ((kn w').map fun p => keyV p.1) = strsL w' := by
          unfold kn strsL
          rw [List.map_map]
          rfl
        rw [this, sortD_strs hw]
        rfl
      refine ⟨[some (.lst (strsL V)), some (.lst (swL es)), some (.dct kvs), some (.dct fnd), some (.str p), g5, none], [some (.lst (strsL V)), some (.lst (swL es)), some (.dct kvs), some (.dct (putKD (.inr p) (.lst (strsL (sortS leStr w'))) fnd)), some (.str p), some (.dct (kn w')), none], rfl, .inl ?_, _, _, _, rfl, ?_⟩
      · refine run_nx (asg_of (dc_of (xs := ks.map fun (k : Nat) => D.int (k : Int)) ?_ q1)) (run_nx ?_ run_nil)
        · show (CE.sem T_24 (.ix (.var 2) (.var 4)) _).bind seqD = _
          rw [ix_of (T := T_24) (e := .var 2) (f := .var 4) (x := .dct kvs) (y := .str p) (d := .lst (ks.map fun (k : Nat) => D.int (k : Int))) rfl rfl k1]
          rfl
        · unfold CS.run upS
          rw [bi1 (T := T_24) (m := .sorted) (e := .var 5) (x := .dct (kn w')) rfl hso]
          show (if fnd.length < LIM then some (D.dct (putKD (.inr p) (.lst (strsL (sortS leStr w'))) fnd)) else none).map _ = _
          rw [if_pos (by unfold LIM; omega)]
          rfl
      · rw [List.length_append]
        have : (putKD (.inr p) (.lst (strsL (sortS leStr w'))) fnd).length ≤ fnd.length + 1 := by
          unfold putKD
          split
          · rw [List.length_map]; omega
          · rw [List.length_append]; exact Nat.le_refl _
        show _ ≤ ys.length + 1
        omega) ⟨_, _, _, rfl, Nat.le_refl _⟩
  exact ⟨_, sem_rt rfl (run_nx rfl (run_nx (ρ' := [some (.lst (strsL V)), some (.lst (swL es)), some (.dct kvs), some (.dct fnd), g4, g5, none]) (fr_of rfl hf) (run_rt rfl)))⟩
theorem town_x (t : Town V es) (hpl : s_f_are_places [.lst (strsL V)] = some (.bl true)) (hl : es.length ≤ 24) (hne : ∀ e ∈ es, e.1 ≠ e.2.1) : ∃ bs, s_m_town_init [.lst (strsL V), .lst (swL es)] = some (tv V es bs) := by
  have he : ∀ e ∈ es, e.1 ∈ V ∧ e.2.1 ∈ V ∧ e.1 ≠ e.2.1 := fun e h => ⟨(t.ends e h).1, (t.ends e h).2, hne e h⟩
  have hdr : ∀ d ∈ dre es, okDr V d := fun d hd => by
    obtain ⟨p, hp, hd⟩ := mem_dre hd
    obtain ⟨h1, h2⟩ := t.ends _ (zip_mem hp).1
    rcases hd with rfl | ⟨_, rfl⟩
    · exact ⟨h1, h2⟩
    · exact ⟨h2, h1⟩
  have hdl : (dre es).length ≤ 3000 := by have := dre_len es; omega
  have had : s_f_all_drives [.lst (swL es)] = some (.lst ((dre es).map dD)) := all_drives_ok t.few
  have ho1 : s_f_by_place [.lst (strsL V), .tup ((dre es).map dD), .int (1 : Nat)] = some (.dct (outT V es)) := by_place_x t.nd hdl 1 (fun d => d.2.1) fun d hd => ⟨(hdr d hd).1, rfl⟩
  have ho2 : s_f_by_place [.lst (strsL V), .tup ((dre es).map dD), .int (2 : Nat)] = some (.dct (intoT V es)) := by_place_x t.nd hdl 2 (fun d => d.2.2) fun d hd => ⟨(hdr d hd).2, rfl⟩
  have hat := streets_at_x t.nd he hl
  obtain ⟨bs, hbs⟩ := places_beside_ok t.pl (dk_at (V := V) hl)
  refine ⟨bs, ?_⟩
  have setf_of : ∀ {T : Tab} {f : Str} {e : CE} {fs : List (Str × D)} {d : D} {r : Env}, CE.sem T e (some (.ins 0 fs) :: r) = some d → fs.length < 100 → CS.run T (.setf 0 0 f e) (some (.ins 0 fs) :: r) = some (.nx (some (.ins 0 (putFD f d fs)) :: r)) := fun {T f e fs d r} h hl => by
    unfold CS.run upS
    rw [h]
    show (if 0 = 0 ∧ fs.length < 100 then some (D.ins 0 (putFD f d fs)) else none).map _ = _
    rw [if_pos ⟨rfl, hl⟩]
    rfl
  have run : CB.run T_25 c_m_town_init.body [some (.ins 0 []), some (.lst (strsL V)), some (.lst (swL es))] = some (.nx [some (tv V es bs), some (.lst (strsL V)), some (.lst (swL es))]) := by
    refine run_nx (expr_of (call_of rfl (check_town_ok hpl hl he))) ?_
    refine run_nx (setf_of (d := .tup (strsL V)) (bi1 rfl rfl) (by decide)) ?_
    refine run_nx (setf_of (d := .tup (swL es)) (bi1 rfl rfl) (by show 1 < 100; decide)) ?_
    refine run_nx (setf_of (d := .tup ((dre es).map dD)) (bi1 (call_of rfl had) rfl) (by show 2 < 100; decide)) ?_
    refine run_nx (setf_of (d := .dct (outT V es)) (call_of rfl ho1) (by show 3 < 100; decide)) ?_
    refine run_nx (setf_of (d := .dct (intoT V es)) (call_of rfl ho2) (by show 4 < 100; decide)) ?_
    refine run_nx (setf_of (d := .dct (atT V es)) (call_of rfl hat) (by show 5 < 100; decide)) ?_
    refine run_nx (setf_of (d := bs) (call_of rfl hbs) (by show 6 < 100; decide)) ?_
    rfl
  exact init_of rfl run rfl
theorem tv_plain {bs : D} : plainF (fsT V es bs) := ⟨rfl, rfl, rfl⟩
/-- a method of a town -/
theorem cm {T : Tab} {f : Nat} {e : FnE} {bs : D} {ds : List D} (h : T.fn[f]? = some e) (hk : e.kind = .meth 0) (hl : (((Str.ofString "_places", D.tup (strsL V)) :: (Str.ofString "_streets", D.tup (swL es)) :: fsT V es bs).lookup e.name).isNone = true) : T.callM f (tv V es bs) ds = e.sem (tv V es bs :: ds) := by
  unfold Tab.callM
  rw [h]
  show (match e.kind, (D.ins 0 ((Str.ofString "_places", .tup (strsL V)) :: (Str.ofString "_streets", .tup (swL es)) :: fsT V es bs)) with
    | .meth c, .ins c' fs => if c = c' ∧ (fs.lookup e.name).isNone = true then e.sem (tv V es bs :: ds) else none
    | _, _ => none) = _
  rw [hk]
  show (if 0 = 0 ∧ _ then _ else none) = _
  rw [if_pos ⟨rfl, hl⟩]
end
end PW

set_option Elab.async false
set_option linter.all false
set_option maxRecDepth 100000
set_option maxHeartbeats 4000000
/-! W2: who gets to whom, with one-way streets. -/
namespace PW
open PySem PV LawC
/-- everybody gets everywhere: what is closed under the drives has all places or none -/
def Strong (V : List Str) (ds : List Dr) : Prop := ∀ χ : Str → Bool, (∀ d ∈ ds, χ d.2.1 = true → χ d.2.2 = true) → ∀ u ∈ V, ∀ v ∈ V, χ u = true → χ v = true
noncomputable def strong (V : List Str) (ds : List Dr) : Bool := @decide (Strong V ds) (Classical.propDecidable _)
theorem strong_iff {V : List Str} {ds : List Dr} : strong V ds = true ↔ Strong V ds := by
  unfold strong
  exact @decide_eq_true_iff _ (Classical.propDecidable _)
def rev (ds : List Dr) : List Dr := ds.map fun d => (d.1, d.2.2, d.2.1)
/-- those to whom one gets -/
structure Rc (ds : List Dr) (V : List Str) (s : Str) (w : List Str) : Prop where
  nd : w.Nodup
  st : s ∈ w
  v : ∀ x ∈ w, x ∈ V
  mn : ∀ χ : Str → Bool, χ s = true → (∀ d ∈ ds, χ d.2.1 = true → χ d.2.2 = true) → ∀ x ∈ w, χ x = true
  cl : ∀ d ∈ ds, d.2.1 ∈ w → d.2.2 ∈ w
theorem full_iff {V w : List Str} (nV : V.Nodup) (nw : w.Nodup) (hv : ∀ x ∈ w, x ∈ V) : w.length = V.length ↔ ∀ x ∈ V, x ∈ w :=
  ⟨fun h => nodup_full nw hv (Nat.le_of_eq h.symm), fun h => Nat.le_antisymm (nodup_sub nw hv) (nodup_sub nV h)⟩
theorem strong_len {V : List Str} {ds : List Dr} {s : Str} {wf wb : List Str} (nV : V.Nodup) (hs : s ∈ V) (f : Rc ds V s wf) (b : Rc (rev ds) V s wb) : strong V ds = (decide (wf.length = V.length) && decide (wb.length = V.length)) := by
  refine Bool.eq_iff_iff.mpr ?_
  rw [strong_iff, Bool.and_eq_true, decide_eq_true_iff, decide_eq_true_iff, full_iff nV f.nd f.v, full_iff nV b.nd b.v]
  have rm : ∀ {d : Dr}, d ∈ ds → (d.1, d.2.2, d.2.1) ∈ rev ds := fun h => List.mem_map.mpr ⟨_, h, rfl⟩
  constructor
  · intro h
    refine ⟨fun x hx => ?_, fun x hx => ?_⟩
    · have := h (fun y => decide (y ∈ wf)) (fun d hd h1 => decide_eq_true (f.cl d hd (of_decide_eq_true h1))) s hs x hx (decide_eq_true f.st)
      exact of_decide_eq_true this
    · refine Classical.byContradiction fun hn => ?_
      have := h (fun y => !decide (y ∈ wb)) (fun d hd h1 => by
        have h1 : d.2.1 ∉ wb := by simpa using h1
        have : d.2.2 ∉ wb := fun z => h1 (b.cl _ (rm hd) z)
        simpa using this) x hx s hs (by simpa using hn)
      have : s ∉ wb := by simpa using this
      exact this b.st
  · rintro ⟨h1, h2⟩ χ hc u hu v hv hχ
    by_cases hs1 : χ s = true
    · exact f.mn χ hs1 hc v (h1 v hv)
    · have := b.mn (fun y => !χ y) (by simpa using hs1) (fun d hd hx => by
        obtain ⟨q, hq, rfl⟩ := List.mem_map.mp hd
        have hx : χ q.2.2 = false := by simpa using hx
        have : χ q.2.1 = false := by
          cases hq1 : χ q.2.1 with
          | false => rfl
          | true => rw [hc q hq hq1] at hx; cases hx
        simpa using this) u (h2 u hu)
      rw [hχ] at this
      cases this
theorem nums_ok {T : Tab} {V : List Str} {es : List Sw} {bs : D} {t : CT} {m : Nat} {s : Str} {ds : Str → List Dr} {pr : Dr → Str} (hl : V.length ≤ 1000) (hs : s ∈ V) (hV : ∀ x ∈ V, ∀ d ∈ ds x, pr d ∈ V)
    (ht : ∀ (d : Dr) (a0 a1 a2 a3 a4 a5 g6 g7 : Option D), ∃ g6', CT.bind t (dD d) [a0, a1, a2, a3, a4, a5, g6, g7] = some [a0, a1, a2, a3, a4, a5, g6', some (.str (pr d))])
    (hm : ∀ x ∈ V, T.callM m (tv V es bs) [.str x] = some (.lst ((ds x).map dD))) :
    ∃ kvs w k g5 g6 g7, whlD (fun ρ => (CE.sem T NUc ρ).bind truD) (fun ρ => CB.run T (NUb t m) ρ) FUEL (NUe (tv V es bs) (.str s) [(.inr s, .int 0)] [s] 0 none none none) = some (.nx (NUe (tv V es bs) (.str s) kvs w k g5 g6 g7)) ∧
      KeyI kvs w ∧ Bn (fun x => (ds x).map pr) V s w ∧ ∀ x ∈ w, ∀ d ∈ ds x, pr d ∈ w := by
  have hV2 : ∀ x ∈ V, ∀ y ∈ (ds x).map pr, y ∈ V := fun x hx y hy => by
    obtain ⟨d, hd, rfl⟩ := List.mem_map.mp hy
    exact hV x hx d hd
  obtain ⟨w, k, ρ', h1, ⟨kvs, g5, g6, g7, rfl, hk⟩, bn, cl⟩ := bfs (T := T) (c := NUc) (b := NUb t m) (nx := fun x => (ds x).map pr) hV2 hs hl
    (fun w k ρ => ∃ kvs g5 g6 g7, ρ = NUe (tv V es bs) (.str s) kvs w k g5 g6 g7 ∧ KeyI kvs w)
    (fun w k ρ ⟨kvs, g5, g6, g7, e, _⟩ => by
      subst e
      have : CE.sem T NUc (NUe (tv V es bs) (.str s) kvs w k g5 g6 g7) = some (.bl (decide (k < w.length))) := by
        refine cmp1 (x := .int k) (y := .int (strsL w).length) rfl rfl ?_
        show some (decide ((k : Int) < ((strsL w).length : Int))) = _
        rw [lt_nat, len_strs]
      rw [this]
      rfl)
    (fun w k ρ here ⟨kvs, g5, g6, g7, e, hk⟩ bn hh => by
      subst e
      have hin : here ∈ w := List.mem_of_getElem? hh
      have hhV := bn.v _ hin
      obtain ⟨ρ2, hf, ⟨kvs2, q6, q7, e2, hk2⟩, _, _⟩ := frD_inv (t := fun x ρ => CT.bind t x ρ) (b := fun ρ => CB.run T NUi ρ) dD
        (fun w ρ => (∃ kvs g6 g7, ρ = NUe (tv V es bs) (.str s) kvs w k (some (.str here)) g6 g7 ∧ KeyI kvs w) ∧ Bn (fun x => (ds x).map pr) V s w ∧ here ∈ w) (fun w d => bstep w (pr d)) (ds here) w (NUe (tv V es bs) (.str s) kvs w k (some (.str here)) g6 g7)
        (fun w ρ d hd ⟨⟨kvs, g6, g7, e, hk⟩, bn, hin⟩ => by
          subst e
          obtain ⟨g6', hb⟩ := ht d (some (tv V es bs)) (some (.str s)) (some (.dct kvs)) (some (.lst (strsL w))) (some (.int k)) (some (.str here)) g6 g7
          obtain ⟨kvs', hr, hk'⟩ := nu_in (T := T) (a0 := tv V es bs) (a1 := .str s) (k := k) (y := pr d) (g6 := g6') hk hin (by have := bn.len; omega)
          exact ⟨_, _, hb, .inl hr, ⟨kvs', g6', _, rfl, hk'⟩, bn.step hV2 hin (List.mem_map_of_mem hd), bstep_mem.mpr (.inl hin)⟩) ⟨⟨kvs, g6, g7, rfl, hk⟩, bn, hin⟩
      have hfold : (ds here).foldl (fun w d => bstep w (pr d)) w = ((ds here).map pr).foldl bstep w := by rw [List.foldl_map]
      rw [hfold] at hk2
      rw [hfold] at e2
      subst e2
      refine ⟨NUe (tv V es bs) (.str s) kvs2 _ (k + 1) (some (.str here)) q6 q7, run_nx (asg_of (ix_of rfl rfl (strs_ix hh))) (run_nx (ρ' := NUe (tv V es bs) (.str s) kvs2 _ k (some (.str here)) q6 q7) (fr_of (xs := (ds here).map dD) ?_ hf) (run_nx rfl run_nil)), kvs2, _, _, _, rfl, hk2⟩
      show (CE.sem T (.meth m (.var 0) (.cons (.var 5) .nil)) _).bind seqD = _
      rw [meth_of (x := tv V es bs) (ds := [.str here]) rfl rfl (hm here hhV)]
      rfl)
    ⟨[(.inr s, .int 0)], none, none, none, rfl, rfl, fun p hp => by obtain rfl := List.mem_singleton.mp hp; exact ⟨0, rfl⟩⟩
  exact ⟨kvs, w, k, g5, g6, g7, h1, hk, bn, fun x hx d hd => cl x hx _ (List.mem_map_of_mem hd)⟩
section
variable {V : List Str} {es : List Sw} {bs : D}
theorem out_ok {T : Tab} (h : T.fn[ix_m_town_drives_from]? = some e_m_town_drives_from) {x : Str} (hx : x ∈ V) : T.callM ix_m_town_drives_from (tv V es bs) [.str x] = some (.lst (((dre es).filter fun d => decide (d.2.1 = x)).map dD)) := by
  rw [cm h rfl rfl]
  show s_m_town_drives_from [tv V es bs, .str x] = _
  exact sem_rt rfl (run_rt (ret_of (ix_of (x := .dct (outT V es)) (y := .str x) rfl rfl (dkm_look hx))))
theorem into_ok {T : Tab} (h : T.fn[ix_m_town_drives_to]? = some e_m_town_drives_to) {x : Str} (hx : x ∈ V) : T.callM ix_m_town_drives_to (tv V es bs) [.str x] = some (.lst (((dre es).filter fun d => decide (d.2.2 = x)).map dD)) := by
  rw [cm h rfl rfl]
  show s_m_town_drives_to [tv V es bs, .str x] = _
  exact sem_rt rfl (run_rt (ret_of (ix_of (x := .dct (intoT V es)) (y := .str x) rfl rfl (dkm_look hx))))

theorem dre_mem (t : Town V es) {d : Dr} (hd : d ∈ dre es) : d.2.1 ∈ V ∧ d.2.2 ∈ V := by
  obtain ⟨p, hp, hd⟩ := mem_dre hd
  obtain ⟨h1, h2⟩ := t.ends _ (zip_mem hp).1
  rcases hd with rfl | ⟨_, rfl⟩
  · exact ⟨h1, h2⟩
  · exact ⟨h2, h1⟩
theorem numbers_from_ok (t : Town V es) {s : Str} (hs : s ∈ V) : ∃ kvs w, s_f_numbers_from [tv V es bs, .str s] = some (.dct kvs) ∧ KeyI kvs w ∧ Rc (dre es) V s w := by
  obtain ⟨kvs, w, k, g5, g6, g7, h1, hk, bn, cl⟩ := nums_ok (T := T_35) (bs := bs) (t := .tp (.cons (.nm 6) (.cons (.nm 6) (.cons (.nm 7) .nil)))) (m := ix_m_town_drives_from) (ds := fun x => (dre es).filter fun d => decide (d.2.1 = x)) (pr := fun d => d.2.2) t.pl hs
    (fun x hx d hd => (dre_mem t (List.mem_filter.mp hd).1).2) (fun d _ _ _ _ _ _ _ _ => ⟨_, rfl⟩) fun x hx => out_ok rfl hx
  refine ⟨kvs, w, sem_rt rfl (run_nx rfl (run_nx rfl (run_nx rfl (run_nx (ρ' := NUe (tv V es bs) (.str s) kvs w k g5 g6 g7) (whl_of h1) (run_rt rfl))))), hk, ⟨bn.nd, bn.st, bn.v, fun χ h1 h2 => bn.mn χ h1 fun x hx hχ y hy => ?_, fun d hd hx => cl _ hx d (List.mem_filter.mpr ⟨hd, by simp⟩)⟩⟩
  obtain ⟨d, hd, rfl⟩ := List.mem_map.mp hy
  obtain ⟨hd1, hd2⟩ := List.mem_filter.mp hd
  exact h2 d hd1 (by rw [of_decide_eq_true hd2]; exact hχ)
theorem numbers_to_ok (t : Town V es) {s : Str} (hs : s ∈ V) : ∃ kvs w, s_f_numbers_to [tv V es bs, .str s] = some (.dct kvs) ∧ KeyI kvs w ∧ Rc (rev (dre es)) V s w := by
  obtain ⟨kvs, w, k, g5, g6, g7, h1, hk, bn, cl⟩ := nums_ok (T := T_47) (bs := bs) (t := .tp (.cons (.nm 6) (.cons (.nm 7) (.cons (.nm 6) .nil)))) (m := ix_m_town_drives_to) (ds := fun x => (dre es).filter fun d => decide (d.2.2 = x)) (pr := fun d => d.2.1) t.pl hs
    (fun x hx d hd => (dre_mem t (List.mem_filter.mp hd).1).1) (fun d _ _ _ _ _ _ _ _ => ⟨_, rfl⟩) fun x hx => into_ok rfl hx
  refine ⟨kvs, w, sem_rt rfl (run_nx rfl (run_nx rfl (run_nx rfl (run_nx (ρ' := NUe (tv V es bs) (.str s) kvs w k g5 g6 g7) (whl_of h1) (run_rt rfl))))), hk, ⟨bn.nd, bn.st, bn.v, fun χ h1 h2 => bn.mn χ h1 fun x hx hχ y hy => ?_, fun d hd hx => ?_⟩⟩
  · obtain ⟨d, hd, rfl⟩ := List.mem_map.mp hy
    obtain ⟨hd1, hd2⟩ := List.mem_filter.mp hd
    exact h2 (d.1, d.2.2, d.2.1) (List.mem_map.mpr ⟨d, hd1, rfl⟩) (by show χ d.2.2 = true; rw [of_decide_eq_true hd2]; exact hχ)
  · obtain ⟨q, hq, rfl⟩ := List.mem_map.mp hd
    exact cl _ hx q (List.mem_filter.mpr ⟨hq, by simp⟩)
theorem callM_places {T : Tab} (_ : plainF (fsT V es bs)) (h : T.fn[ix_m_town_places]? = some e_m_town_places) : T.callM ix_m_town_places (tv V es bs) [] = some (.lst (strsL V)) := by
  rw [cm h rfl rfl]
  show s_m_town_places [tv V es bs] = _
  exact sem_rt rfl (run_rt rfl)
theorem callM_streets {T : Tab} (_ : plainF (fsT V es bs)) (h : T.fn[ix_m_town_streets]? = some e_m_town_streets) : T.callM ix_m_town_streets (tv V es bs) [] = some (.lst (swL es)) := by
  rw [cm h rfl rfl]
  show s_m_town_streets [tv V es bs] = _
  exact sem_rt rfl (run_rt rfl)
theorem places_at {T : Tab} {ρ : Env} (h : T.fn[ix_m_town_places]? = some e_m_town_places) (h2 : ρ[0]? = some (some (tv V es bs))) : CE.sem T (.meth ix_m_town_places (.var 0) .nil) ρ = some (.lst (strsL V)) := by
  refine meth_of (x := tv V es bs) (ds := []) (by show (_ : Option _).bind id = _; rw [h2]; rfl) rfl ?_
  rw [cm h rfl rfl]
  show s_m_town_places [tv V es bs] = _
  exact sem_rt rfl (run_rt rfl)
theorem streets_at {T : Tab} {ρ : Env} (h : T.fn[ix_m_town_streets]? = some e_m_town_streets) (h2 : ρ[0]? = some (some (tv V es bs))) : CE.sem T (.meth ix_m_town_streets (.var 0) .nil) ρ = some (.lst (swL es)) := by
  refine meth_of (x := tv V es bs) (ds := []) (by show (_ : Option _).bind id = _; rw [h2]; rfl) rfl ?_
  rw [cm h rfl rfl]
  show s_m_town_streets [tv V es bs] = _
  exact sem_rt rfl (run_rt rfl)
theorem all_get_ok (t : Town V es) : s_f_all_get [tv V es bs] = some (.bl (strong V (dre es))) := by
  obtain ⟨s, hs, hix⟩ := head_ix t.ne
  obtain ⟨k1, w1, a1, b1, c1⟩ := numbers_from_ok (bs := bs) t hs
  obtain ⟨k2, w2, a2, b2, c2⟩ := numbers_to_ok (bs := bs) t hs
  rw [strong_len t.nd hs c1 c2]
  refine sem_rt rfl (run_nx (asg_of (ix_of (places_at rfl rfl) rfl hix)) (run_nx (asg_of (bi1 (places_at rfl rfl) rfl)) (run_rt (ret_of (and2 (cmp1 (x := .int (w1.length : Nat)) (y := .int ((V.length : Nat) : Int)) (bi1 (call_of rfl a1) ?_) ?_ (eq_nat _ _)) fun _ => cmp1 (x := .int (w2.length : Nat)) (y := .int ((V.length : Nat) : Int)) (bi1 (call_of rfl a2) ?_) ?_ (eq_nat _ _))))))
  · show some (D.int (k1.length : Int)) = _
    rw [key_len b1]
  · show some (D.int ((strsL V).length : Int)) = _
    rw [len_strs]
  · show some (D.int (k2.length : Int)) = _
    rw [key_len b2]
  · show some (D.int ((strsL V).length : Int)) = _
    rw [len_strs]
theorem gets_ok (t : Town V es) (h : Strong V (dre es)) {s : Str} (hs : s ∈ V) : s_f_gets_everywhere [tv V es bs, .str s] = some (.bl true) := by
  obtain ⟨k1, w1, a1, b1, c1⟩ := numbers_from_ok (bs := bs) t hs
  have hw : w1.length = V.length := (full_iff t.nd c1.nd c1.v).mpr fun x hx => by
    have := h (fun y => decide (y ∈ w1)) (fun d hd h1 => decide_eq_true (c1.cl d hd (of_decide_eq_true h1))) s hs x hx (decide_eq_true c1.st)
    exact of_decide_eq_true this
  refine sem_rt rfl (run_rt (ret_of (cmp1 (x := .int (V.length : Nat)) (y := .int ((V.length : Nat) : Int)) (bi1 (call_of rfl a1) ?_) (bi1 (places_at rfl rfl) ?_) (eq_self_nat _))))
  · show some (D.int (k1.length : Int)) = _
    rw [key_len b1, hw]
  · show some (D.int ((strsL V).length : Int)) = _
    rw [len_strs]
theorem shut_ok (t : Town V es) (h : Strong V (dre es)) : s_f_first_shut_in [tv V es bs] = some .non := by
  obtain ⟨ρ', hf, g, rfl⟩ := frD_inv (t := fun x ρ => CT.bind (.nm 1) x ρ) (b := fun ρ => CB.run T_38 (.cons (.ife (.not (.call ix_f_gets_everywhere (.cons (.var 0) (.cons (.var 1) .nil)))) (.cons (.ret (.var 1)) .nil) .nil) .nil) ρ) D.str
    (fun (_ : Unit) ρ => ∃ g, ρ = [some (tv V es bs), g]) (fun _ _ => ()) V () [some (tv V es bs), none]
    (fun _ ρ p hp ⟨g, e⟩ => by
      subst e
      exact ⟨[some (tv V es bs), some (.str p)], _, rfl, .inl (run_nx (ife_bl (not1 (call_of rfl (gets_ok t h hp))) rfl) run_nil), _, rfl⟩) ⟨_, rfl⟩
  exact sem_rt rfl (run_nx (fr_of (seq_of (places_at rfl rfl) rfl) hf) (run_rt rfl))
theorem ways_ok (t : Town V es) (h : Strong V (dre es)) : s_f_answer_ways [tv V es bs] = some (.tup [.str (Str.ofString "all")]) :=
  sem_rt rfl (run_nx (asg_of (call_of rfl (shut_ok t h))) (run_rt (ife_t (d := .bl true) rfl rfl (run_rt rfl))))
end
end PW

set_option Elab.async false
set_option linter.all false
set_option maxRecDepth 100000
set_option maxHeartbeats 4000000
/-! W3: links, halves, with one-way streets. -/
namespace PW
open PySem PV LawC
abbrev jn (es : List Sw) : List St := es.map pj
abbrev oth (es : List Sw) (here : Str) (k : Nat) : Str := PV.oth (jn es) here k
abbrev hnx (es : List Sw) (cs : List Nat) (here : Str) : List Str := PV.hnx (jn es) cs here
abbrev Hang (es : List Sw) (cs : List Nat) (s x : Str) : Prop := PV.Hang (jn es) cs s x
noncomputable abbrev hangs (es : List Sw) (cs : List Nat) (s x : Str) : Bool := PV.hangs (jn es) cs s x
noncomputable abbrev lnk (es : List Sw) (k : Nat) : Bool := PV.lnk (jn es) k
section
variable {V : List Str} {es : List Sw} {bs : D} {i : Nat}
theorem jn_get {k : Nat} {e : Sw} (he : es[k]? = some e) : (jn es)[k]? = some (e.1, e.2.1) := by
  rw [List.getElem?_map, he]
  rfl
theorem atN_jn (x : Str) : PV.atN (jn es).zipIdx x = atN es.zipIdx x := by
  unfold PV.atN atN
  rw [List.zipIdx_map, List.filter_map, List.map_map]
  rfl
theorem oth_val {x : Str} {k : Nat} {e : Sw} (he : es[k]? = some e) : oth es x k = if e.1 = x then e.2.1 else e.1 := by
  show PV.oth (jn es) x k = _
  unfold PV.oth
  rw [jn_get he]
theorem lnk_val {k : Nat} {e : Sw} (he : es[k]? = some e) : lnk es k = !hangs es [k] e.1 e.2.1 := by
  show PV.lnk (jn es) k = _
  unfold PV.lnk
  rw [jn_get he]
theorem ne_jn (hne : ∀ e ∈ es, e.1 ≠ e.2.1) : ∀ e ∈ jn es, e.1 ≠ e.2 := fun e he => by
  obtain ⟨q, hq, rfl⟩ := List.mem_map.mp he
  exact hne q hq
theorem mem_at {k : Nat} {x : Str} : k ∈ atN es.zipIdx x ↔ ∃ e, es[k]? = some e ∧ (e.1 = x ∨ e.2.1 = x) := by
  rw [← atN_jn, PV.mem_at]
  constructor
  · rintro ⟨e, h1, h2⟩
    rw [List.getElem?_map] at h1
    obtain ⟨q, hq, rfl⟩ := Option.map_eq_some_iff.mp h1
    exact ⟨q, hq, h2⟩
  · rintro ⟨e, h1, h2⟩
    exact ⟨_, jn_get h1, h2⟩
theorem hnx_eq (cs : List Nat) (here : Str) : hnx es cs here = ((atN es.zipIdx here).filter fun k => !decide (k ∈ cs)).map (oth es here) := by
  show PV.hnx (jn es) cs here = _
  unfold PV.hnx
  rw [atN_jn]
theorem hnx_V (t : Town V es) (hne : ∀ e ∈ es, e.1 ≠ e.2.1) (cs : List Nat) : ∀ x ∈ V, ∀ y ∈ hnx es cs x, y ∈ V := PV.hnx_V t.pj (ne_jn hne) cs
theorem hang_of (t : Town V es) (hne : ∀ e ∈ es, e.1 ≠ e.2.1) {cs : List Nat} {s : Str} {w : List Str} (bn : Bn (hnx es cs) V s w) (cl : ∀ x ∈ w, ∀ y ∈ hnx es cs x, y ∈ w) (x : Str) : x ∈ w ↔ x ∈ V ∧ Hang es cs s x := PV.hang_of t.pj (ne_jn hne) bn cl x
theorem hfold (cs : List Nat) (here : Str) (ks : List Nat) (w : List Str) : ks.foldl (fun w k => if k ∈ cs then w else bstep w (oth es here k)) w = ((ks.filter fun k => !decide (k ∈ cs)).map (oth es here)).foldl bstep w := PV.hfold cs here ks w
theorem at_ok {T : Tab} (h : T.fn[ix_m_town_streets_with]? = some e_m_town_streets_with) {x : Str} (hx : x ∈ V) : T.callM ix_m_town_streets_with (tv V es bs) [.str x] = some (.lst (intsL (atN es.zipIdx x))) := by
  rw [cm h rfl rfl]
  show s_m_town_streets_with [tv V es bs, .str x] = _
  exact sem_rt rfl (run_rt (ret_of (ix_of (x := .dct (atT V es)) (y := .str x) rfl rfl (dkm_look hx))))
theorem st_ixT {k : Nat} {e : Sw} (h : es[k]? = some e) : ixD (.tup (swL es)) (.int k) = some (eW e) := by
  obtain ⟨hlt, he⟩ := List.getElem?_eq_some_iff.mp h
  show L2.atI (swL es) (k : Int) = _
  rw [atI_nat (by rw [len_sts]; exact hlt), List.getElem?_map, h]
  rfl
theorem other_end_x (e : Sw) (p : Str) : s_f_other_end [eW e, .str p] = some (.str (if e.1 = p then e.2.1 else e.1)) := by
  have h1 : CE.sem T_1 (.cmp .eq (.ix (.var 0) (.cD (.int (0)))) (.var 1)) [some (eW e), some (.str p)] = some (.bl (decide (e.1 = p))) := cmp1 (x := .str e.1) rfl rfl (eq_strs _ _)
  refine sem_rt rfl (run_rt (ret_of ?_))
  show (CE.sem T_1 (.cmp .eq (.ix (.var 0) (.cD (.int (0)))) (.var 1)) [some (eW e), some (.str p)]).bind _ = _
  rw [h1]
  show (if decide (e.1 = p) = true then _ else _) = _
  by_cases h : e.1 = p
  · rw [decide_eq_true h, if_pos h]; rfl
  · rw [decide_eq_false h, if_neg h]; rfl
theorem across_ok {T : Tab} (h : T.fn[ix_m_town_across]? = some e_m_town_across) {x : Str} {k : Nat} (hk : k < es.length) : T.callM ix_m_town_across (tv V es bs) [.int k, .str x] = some (.str (oth es x k)) := by
  rw [cm h rfl rfl]
  have he := List.getElem?_eq_getElem hk
  have : s_m_town_across [tv V es bs, .int k, .str x] = some (.str (if es[k].1 = x then es[k].2.1 else es[k].1)) :=
    sem_rt rfl (run_rt (ret_of (call_of (es_cons (ix_of (x := .tup (swL es)) (y := .int k) rfl rfl (st_ixT he)) (es_cons rfl es_nil)) (other_end_x es[k] x))))
  show s_m_town_across [tv V es bs, .int k, .str x] = _
  rw [this]
  rw [oth_val he]
theorem hf_in {T : Tab} (hT : T.fn[ix_m_town_across]? = some e_m_town_across) {a1 : D} {cs : List Nat} {w : List Str} {k : Nat} {here : Str} {j : Nat} {g8 : Option D} (hj : j < es.length) (hl : w.length ≤ 1000) :
    CB.run T HFi (HFe (tv V es bs) a1 cs w k (some (.str here)) (some (.int j)) g8) = some (.nx (HFe (tv V es bs) a1 cs (if j ∈ cs then w else bstep w (oth es here j)) k (some (.str here)) (some (.int j)) (some (.str (oth es here j))))) := by
  refine run_nx (ρ' := HFe (tv V es bs) a1 cs w k (some (.str here)) (some (.int j)) (some (.str (oth es here j)))) (asg_of (meth_of (x := tv V es bs) (ds := [.int j, .str here]) rfl rfl (across_ok hT hj))) ?_
  generalize oth es here j = y
  have c1 : CE.sem T (.bop true (.cons (.cmp .nin (.var 7) (.var 2)) (.cons (.cmp .nin (.var 8) (.var 3)) .nil))) (HFe (tv V es bs) a1 cs w k (some (.str here)) (some (.int j)) (some (.str y))) = some (.bl (!decide (j ∈ cs) && !decide (y ∈ w))) :=
    and2 (cmp1 rfl rfl (nin_bar j cs)) fun _ => cmp1 rfl rfl (nin_kn y w)
  by_cases hc : j ∈ cs
  · rw [if_pos hc]
    refine run_nx (ife_bl c1 ?_) run_nil
    rw [if_neg (by simp [hc])]
    rfl
  · rw [if_neg hc]
    unfold bstep
    by_cases hy : y ∈ w
    · rw [if_pos hy]
      refine run_nx (ife_bl c1 ?_) run_nil
      rw [if_neg (by simp [hy])]
      rfl
    · rw [if_neg hy]
      refine run_nx (ife_bl c1 ?_) run_nil
      rw [if_pos (by simp [hy, hc])]
      refine run_nx (ρ' := [some (tv V es bs), some a1, some (.dct (barK cs)), some (.dct (kn (w ++ [y]))), some (.lst (strsL w)), some (.int k), some (.str here), some (.int j), some (.str y)]) ?_ (run_nx (app_of (d := .str y) rfl rfl (by rw [len_strs]; unfold LIM; omega)) ?_)
      · unfold CS.run
        rw [show CE.sem T (.cD (.bl true)) _ = some (D.bl true) from rfl, Option.bind_some, show CE.sem T (.var 8) _ = some (D.str y) from rfl, Option.bind_some]
        show ((if (kn w).length < LIM then some (D.dct (putKD (.inr y) (.bl true) (kn w))) else none).map _) = _
        rw [if_pos (by rw [len_kn]; unfold LIM; omega), put_kn hy]
        rfl
      · rw [strs_snoc]
        rfl
theorem hanging_ok (t : Town V es) (hne : ∀ e ∈ es, e.1 ≠ e.2.1) {s : Str} (hs : s ∈ V) (cs : List Nat) : ∃ w, s_f_hanging_from [tv V es bs, .str s, .dct (barK cs)] = some (.dct (kn w)) ∧ w.Nodup ∧ ∀ x, x ∈ w ↔ x ∈ V ∧ Hang es cs s x := by
  obtain ⟨w, k, ρ', h1, ⟨g6, g7, g8, rfl⟩, bn, cl⟩ := bfs (T := T_3) (c := HFc) (b := HFb) (nx := hnx es cs) (hnx_V t hne cs) hs t.pl
    (fun w k ρ => ∃ g6 g7 g8, ρ = HFe (tv V es bs) (.str s) cs w k g6 g7 g8)
    (fun w k ρ ⟨g6, g7, g8, e⟩ => by
      subst e
      have : CE.sem T_3 HFc (HFe (tv V es bs) (.str s) cs w k g6 g7 g8) = some (.bl (decide (k < w.length))) := by
        refine cmp1 (x := .int k) (y := .int (strsL w).length) rfl rfl ?_
        show some (decide ((k : Int) < ((strsL w).length : Int))) = _
        rw [lt_nat, len_strs]
      rw [this]
      rfl)
    (fun w k ρ here ⟨g6, g7, g8, e⟩ bn hh => by
      subst e
      have hin : here ∈ w := List.mem_of_getElem? hh
      have hhV := bn.v _ hin
      obtain ⟨ρ2, hf, ⟨q7, q8, e2⟩, _⟩ := frD_inv (t := fun x ρ => CT.bind (.nm 7) x ρ) (b := fun ρ => CB.run T_3 HFi ρ) (fun (k : Nat) => D.int (k : Int))
        (fun w ρ => (∃ g7 g8, ρ = HFe (tv V es bs) (.str s) cs w k (some (.str here)) g7 g8) ∧ Bn (hnx es cs) V s w ∧ here ∈ w) (fun w k => if k ∈ cs then w else bstep w (oth es here k)) (atN es.zipIdx here) w (HFe (tv V es bs) (.str s) cs w k (some (.str here)) g7 g8)
        (fun w ρ j hj ⟨⟨g7, g8, e⟩, bn, hin⟩ => by
          subst e
          obtain ⟨e, he, _⟩ := mem_at.mp hj
          have hlt := (List.getElem?_eq_some_iff.mp he).1
          refine ⟨HFe (tv V es bs) (.str s) cs w k (some (.str here)) (some (.int j)) g8, _, rfl, .inl (hf_in rfl hlt (by have := bn.len; have := t.pl; omega)), ⟨_, _, rfl⟩, ?_, ?_⟩
          · by_cases hc : j ∈ cs
            · rw [if_pos hc]; exact bn
            · rw [if_neg hc]
              exact bn.step (hnx_V t hne cs) hin (by rw [hnx_eq]; exact List.mem_map_of_mem (List.mem_filter.mpr ⟨hj, by simpa using hc⟩))
          · by_cases hc : j ∈ cs
            · rw [if_pos hc]; exact hin
            · rw [if_neg hc]; exact bstep_mem.mpr (.inl hin)) ⟨⟨g7, g8, rfl⟩, bn, hin⟩
      rw [hfold, ← hnx_eq] at e2
      subst e2
      refine ⟨HFe (tv V es bs) (.str s) cs ((hnx es cs here).foldl bstep w) (k + 1) (some (.str here)) q7 q8, run_nx (asg_of (ix_of rfl rfl (strs_ix hh))) (run_nx (ρ' := HFe (tv V es bs) (.str s) cs ((hnx es cs here).foldl bstep w) k (some (.str here)) q7 q8) (fr_of (xs := intsL (atN es.zipIdx here)) ?_ hf) (run_nx rfl run_nil)), _, _, _, rfl⟩
      show (CE.sem T_3 (.meth ix_m_town_streets_with (.var 0) (.cons (.var 6) .nil)) _).bind seqD = _
      rw [meth_of (x := tv V es bs) (ds := [.str here]) rfl rfl (at_ok rfl hhV)]
      rfl)
    (ρ0 := HFe (tv V es bs) (.str s) cs [s] 0 none none none) ⟨none, none, none, rfl⟩
  exact ⟨w, sem_rt rfl (run_nx rfl (run_nx rfl (run_nx rfl (run_nx (ρ' := HFe (tv V es bs) (.str s) cs w k g6 g7 g8) (whl_of h1) (run_rt rfl))))), bn.nd, hang_of t hne bn cl⟩
theorem ends_ok {T : Tab} (h : T.fn[ix_m_town_ends]? = some e_m_town_ends) {k : Nat} {e : Sw} (he : es[k]? = some e) : T.callM ix_m_town_ends (tv V es bs) [.int k] = some (.tup [.str e.1, .str e.2.1]) := by
  rw [cm h rfl rfl]
  show s_m_town_ends [tv V es bs, .int k] = _
  exact sem_rt rfl (run_nx (asgT_of (d := eW e) (ix_of (x := .tup (swL es)) (y := .int k) rfl rfl (st_ixT he)) rfl) (run_rt rfl))
theorem hang_together_ok (t : Town V es) (hne : ∀ e ∈ es, e.1 ≠ e.2.1) {s x : Str} (hs : s ∈ V) (hx : x ∈ V) (cs : List Nat) : s_f_hang_together [tv V es bs, .str s, .str x, .dct (barK cs)] = some (.bl (hangs es cs s x)) := by
  obtain ⟨w, h1, h2, h3⟩ := hanging_ok (bs := bs) t hne hs cs
  refine sem_rt rfl (run_rt (ret_of (cmp1 (x := .str x) (y := .dct (kn w)) rfl (call_of rfl h1) ?_)))
  rw [in_kn]
  congr 1
  refine Bool.eq_iff_iff.mpr ?_
  rw [decide_eq_true_iff, hangs_iff, h3]
  exact ⟨fun z => z.2, fun z => ⟨hx, z⟩⟩
theorem is_link_ok (t : Town V es) (hne : ∀ e ∈ es, e.1 ≠ e.2.1) {k : Nat} (hk : k < es.length) : s_f_is_link [tv V es bs, .int k] = some (.bl (lnk es k)) := by
  have he := List.getElem?_eq_getElem hk
  obtain ⟨v1, v2⟩ := t.ends es[k] (List.getElem_mem _)
  have h1 := hang_together_ok (bs := bs) t hne v1 v2 [k]
  have : lnk es k = !hangs es [k] es[k].1 es[k].2.1 := lnk_val he
  rw [this]
  exact sem_rt rfl (run_nx (ρ' := [some (tv V es bs), some (.int k), some (.str es[k].1), some (.str es[k].2.1)]) (asgT_of (d := .tup [.str es[k].1, .str es[k].2.1]) (meth_of (x := tv V es bs) (ds := [.int k]) rfl rfl (ends_ok rfl he)) rfl) (run_rt (ret_of (not1 (call_of (ds := [tv V es bs, .str es[k].1, .str es[k].2.1, .dct (barK [k])]) rfl h1)))))
theorem all_links_ok (t : Town V es) (hne : ∀ e ∈ es, e.1 ≠ e.2.1) : s_f_all_links [tv V es bs] = some (.lst (intsL ((List.range es.length).filter (lnk es)))) := by
  refine sem_rt rfl (run_rt (ret_of ?_))
  have hsrc : CI.sem T_8 (.rng1 (.bi .len (.cons (.meth ix_m_town_streets (.var 0) .nil) .nil))) [some (tv V es bs), none] = some (intsL (List.range es.length)) := by
    refine rng1_of (i := (es.length : Nat)) (bi1 (meth_of (x := tv V es bs) (ds := []) rfl rfl (callM_streets tv_plain rfl)) ?_) (rng_nat _ t.few)
    show some (D.int ((swL es).length : Int)) = _
    rw [len_sts]
  exact lc_of hsrc (lc_if _ _ _ _ fun k hk => ⟨[some (tv V es bs), some (.int k)], rfl, call_of rfl (is_link_ok t hne (List.mem_range.mp hk)), fun _ => rfl⟩)
theorem links_ok (t : Town V es) (hne : ∀ e ∈ es, e.1 ≠ e.2.1) : s_f_links [tv V es bs] = some (.lst (intsL ((List.range es.length).filter (lnk es)))) :=
  sem_rt rfl (run_rt (ret_of (call_of rfl (all_links_ok t hne))))
theorem as_list_ok (w : List Str) : s_f_as_list [tv V es bs, .dct (kn w)] = some (.lst (strsL (V.filter fun p => decide (p ∈ w)))) := by
  refine sem_rt rfl (run_rt (ret_of (lc_of (seq_of (meth_of (x := tv V es bs) (ds := []) rfl rfl (callM_places tv_plain rfl)) rfl) (lc_if _ _ _ _ fun p hp => ⟨[some (tv V es bs), some (.dct (kn w)), some (.str p)], rfl, cmp1 rfl rfl (in_kn p w), fun _ => rfl⟩))))
theorem tstreet_ok {T : Tab} (h : T.fn[ix_m_town_check_street]? = some e_m_town_check_street) (hi : i < es.length) : T.callM ix_m_town_check_street (tv V es bs) [.int i] = some .non := by
  rw [cm h rfl rfl]
  show s_m_town_check_street [tv V es bs, .int i] = _
  have hw : s_f_is_whole [.int i] = some (.bl true) := rfl
  have hf : s_f_is_from_to [.int i, .int 0, .int ((es.length : Int) - 1)] = some (.bl true) := by
    refine sem_rt rfl (run_rt (ret_of (and2 (p := true) (q := true) (call_of rfl hw) fun _ => cmp2_of (x := .int 0) (y := .int i) (z := .int ((es.length : Int) - 1)) rfl rfl rfl ?_ ?_)))
    · show some (decide ((0 : Int) ≤ (i : Int))) = _
      rw [decide_eq_true (Int.natCast_nonneg i)]
    · show some (decide ((i : Int) ≤ (es.length : Int) - 1)) = _
      rw [decide_eq_true (by omega)]
  have hs : T_32.callM ix_m_town_is_street (tv V es bs) [.int i] = some (.bl true) := by
    rw [cm (e := e_m_town_is_street) rfl rfl rfl]
    show s_m_town_is_street [tv V es bs, .int i] = _
    refine sem_rt rfl (run_rt (ret_of (call_of (es_cons rfl (es_cons rfl (es_cons (bin_of (x := .int (es.length : Nat)) (y := .int 1) (bi1 (x := .tup (swL es)) rfl ?_) rfl rfl) es_nil))) hf)))
    show some (D.int ((swL es).length : Int)) = _
    rw [len_sts]
  exact sem_nx rfl (run_nx (ife_bl (not1 (p := true) (meth_of (x := tv V es bs) (ds := [.int i]) rfl rfl hs)) rfl) run_nil)
theorem halves_ok (t : Town V es) (hne : ∀ e ∈ es, e.1 ≠ e.2.1) {e : Sw} (he : es[i]? = some e) (hl : lnk es i = true) : ∃ wa wb : List Str, s_f_halves [tv V es bs, .int i] = some (.tup [.lst (strsL (V.filter fun p => decide (p ∈ wa))), .lst (strsL (V.filter fun p => decide (p ∈ wb)))]) ∧ (∀ x, x ∈ wa ↔ x ∈ V ∧ Hang es [i] e.1 x) ∧ ∀ x, x ∈ wb ↔ x ∈ V ∧ Hang es [i] e.2.1 x := by
  have hi := (List.getElem?_eq_some_iff.mp he).1
  obtain ⟨v1, v2⟩ := t.ends e (List.mem_of_getElem? he)
  obtain ⟨wa, a1, _, a3⟩ := hanging_ok (bs := bs) t hne v1 [i]
  obtain ⟨wb, b1, _, b3⟩ := hanging_ok (bs := bs) t hne v2 [i]
  have hof : s_f_halves_of [tv V es bs, .int i] = some (.tup [.lst (strsL (V.filter fun p => decide (p ∈ wa))), .lst (strsL (V.filter fun p => decide (p ∈ wb)))]) :=
    sem_rt rfl (run_nx (ρ' := [some (tv V es bs), some (.int i), none, some (.str e.1), some (.str e.2.1)]) (asgT_of (d := .tup [.str e.1, .str e.2.1]) (meth_of (x := tv V es bs) (ds := [.int i]) rfl rfl (ends_ok rfl he)) rfl) (run_nx (ρ' := [some (tv V es bs), some (.int i), some (.dct (barK [i])), some (.str e.1), some (.str e.2.1)]) rfl (run_rt (ret_of (tup_of (es_cons (call_of (es_cons rfl (es_cons (call_of rfl a1) es_nil)) (as_list_ok wa)) (es_cons (call_of (es_cons rfl (es_cons (call_of rfl b1) es_nil)) (as_list_ok wb)) es_nil)))))))
  have hlk := is_link_ok (bs := bs) t hne hi
  rw [hl] at hlk
  exact ⟨wa, wb, sem_rt rfl (run_nx (expr_of (meth_of (x := tv V es bs) (ds := [.int i]) rfl rfl (tstreet_ok rfl hi))) (run_nx (ife_bl (not1 (call_of rfl hlk)) rfl) (run_rt (ret_of (call_of rfl hof))))), a3, b3⟩

end
end PW

set_option Elab.async false
set_option linter.all false
set_option maxRecDepth 100000
set_option maxHeartbeats 4000000
/-! W4: plans; a two-way street that is no link can be directed. -/
namespace PW
open PySem PV LawC
inductive Sg | th | bk | bo
  deriving DecidableEq
def sgS : Sg → Str
  | .th => Str.ofString ">" | .bk => Str.ofString "<" | .bo => Str.ofString "="
abbrev sgL (gs : List Sg) : List D := gs.map fun g => D.str (sgS g)
def byS (e : Sw) : Sg → Sw
  | .bo => (e.1, e.2.1, true) | .th => (e.1, e.2.1, false) | .bk => (e.2.1, e.1, false)
def byL (es : List Sw) (gs : List Sg) : List Sw := (es.zip gs).map fun p => byS p.1 p.2
section
variable {V : List Str} {es : List Sw} {bs : D} {gs : List Sg}
theorem byL_get {j : Nat} {e' : Sw} : (byL es gs)[j]? = some e' ↔ ∃ e g, es[j]? = some e ∧ gs[j]? = some g ∧ e' = byS e g := by
  unfold byL
  rw [List.getElem?_map, Option.map_eq_some_iff]
  constructor
  · rintro ⟨⟨e, g⟩, h, rfl⟩
    obtain ⟨h1, h2⟩ := List.getElem?_zip_eq_some.mp h
    exact ⟨e, g, h1, h2, rfl⟩
  · rintro ⟨e, g, h1, h2, rfl⟩
    exact ⟨(e, g), List.getElem?_zip_eq_some.mpr ⟨h1, h2⟩, rfl⟩
theorem byL_len (h : gs.length = es.length) : (byL es gs).length = es.length := by
  unfold byL
  rw [List.length_map, List.length_zip, h, Nat.min_self]
theorem byL_mem {e' : Sw} (h : e' ∈ byL es gs) : ∃ e ∈ es, ∃ g, e' = byS e g := by
  obtain ⟨p, hp, rfl⟩ := List.mem_map.mp h
  exact ⟨p.1, (List.of_mem_zip hp).1, p.2, rfl⟩
theorem byL_town (t : Town V es) (h : gs.length = es.length) : Town V (byL es gs) :=
  ⟨t.nd, fun e' he => by
    obtain ⟨e, hm, g, rfl⟩ := byL_mem he
    obtain ⟨h1, h2⟩ := t.ends e hm
    cases g
    · exact ⟨h1, h2⟩
    · exact ⟨h2, h1⟩
    · exact ⟨h1, h2⟩, by rw [byL_len h]; exact t.few, t.pl, t.ne⟩
theorem byL_ne (hne : ∀ e ∈ es, e.1 ≠ e.2.1) : ∀ e ∈ byL es gs, e.1 ≠ e.2.1 := fun e' he => by
  obtain ⟨e, hm, g, rfl⟩ := byL_mem he
  cases g
  · exact hne e hm
  · exact fun z => hne e hm z.symm
  · exact hne e hm
/-! ### what is closed under the drives by a plan -/
def ok1 (χ : Str → Bool) (e : Sw) : Sg → Prop
  | .bo => χ e.1 = χ e.2.1
  | .th => χ e.1 = true → χ e.2.1 = true
  | .bk => χ e.2.1 = true → χ e.1 = true
def Cl (es : List Sw) (gs : List Sg) (χ : Str → Bool) : Prop := ∀ (j : Nat) (e : Sw) (g : Sg), es[j]? = some e → gs[j]? = some g → ok1 χ e g
theorem bool_iff {a b : Bool} (h1 : a = true → b = true) (h2 : b = true → a = true) : a = b := by cases a <;> cases b <;> simp_all
theorem cl_iff {χ : Str → Bool} : (∀ d ∈ dre (byL es gs), χ d.2.1 = true → χ d.2.2 = true) ↔ Cl es gs χ := by
  constructor
  · intro h j e g he hg
    have hp : (byS e g, j) ∈ (byL es gs).zipIdx := List.mk_mem_zipIdx_iff_getElem?.mpr (byL_get.mpr ⟨e, g, he, hg, rfl⟩)
    have hd : ∀ d ∈ drv (byS e g, j), χ d.2.1 = true → χ d.2.2 = true := fun d hd => h d (List.mem_flatMap.mpr ⟨_, hp, hd⟩)
    cases g with
    | th => exact hd (j, e.1, e.2.1) (mem_drv.mpr (.inl rfl))
    | bk => exact hd (j, e.2.1, e.1) (mem_drv.mpr (.inl rfl))
    | bo => exact bool_iff (hd (j, e.1, e.2.1) (mem_drv.mpr (.inl rfl))) (hd (j, e.2.1, e.1) (mem_drv.mpr (.inr ⟨rfl, rfl⟩)))
  · intro h d hd
    obtain ⟨p, hp, hd⟩ := mem_dre hd
    obtain ⟨e, g, he, hg, hpe⟩ := byL_get.mp (zip_mem hp).2.2
    have hk := h p.2 e g he hg
    rw [hpe] at hd
    cases g with
    | th =>
      rcases hd with rfl | ⟨z, _⟩
      · exact hk
      · cases z
    | bk =>
      rcases hd with rfl | ⟨z, _⟩
      · exact hk
      · cases z
    | bo =>
      have hk : χ e.1 = χ e.2.1 := hk
      rcases hd with rfl | ⟨_, rfl⟩
      · show χ e.1 = true → χ e.2.1 = true
        rw [hk]; exact id
      · show χ e.2.1 = true → χ e.1 = true
        rw [hk]; exact id
/-- everybody gets everywhere by a plan -/
def Good (V : List Str) (es : List Sw) (gs : List Sg) : Prop := ∀ χ : Str → Bool, Cl es gs χ → ∀ u ∈ V, ∀ v ∈ V, χ u = true → χ v = true
theorem good_iff : Strong V (dre (byL es gs)) ↔ Good V es gs :=
  ⟨fun h χ hc => h χ (cl_iff.mpr hc), fun h χ hc => h χ (cl_iff.mp hc)⟩
theorem set_get {gs : List Sg} {k j : Nat} {g g' : Sg} (h : (gs.set k g')[j]? = some g) : (j = k ∧ g = g') ∨ (j ≠ k ∧ gs[j]? = some g) := by
  by_cases hj : j = k
  · subst hj
    rw [List.getElem?_set] at h
    simp at h
    exact .inl ⟨rfl, h.2.symm⟩
  · rw [List.getElem?_set_ne (fun z => hj z.symm)] at h
    exact .inr ⟨hj, h⟩
theorem ok1_and {χ ψ : Str → Bool} {e : Sw} : ∀ {g : Sg}, ok1 χ e g → ok1 ψ e g → ok1 (fun x => χ x && ψ x) e g
  | .bo, h1, h2 => by
    have h1 : χ e.1 = χ e.2.1 := h1
    have h2 : ψ e.1 = ψ e.2.1 := h2
    show (χ e.1 && ψ e.1) = (χ e.2.1 && ψ e.2.1)
    rw [h1, h2]
  | .th, h1, h2 => fun h => by
    obtain ⟨a, b⟩ := Bool.and_eq_true_iff.mp h
    exact Bool.and_eq_true_iff.mpr ⟨h1 a, h2 b⟩
  | .bk, h1, h2 => fun h => by
    obtain ⟨a, b⟩ := Bool.and_eq_true_iff.mp h
    exact Bool.and_eq_true_iff.mpr ⟨h1 a, h2 b⟩
theorem ok1_or {χ ψ : Str → Bool} {e : Sw} : ∀ {g : Sg}, ok1 χ e g → ok1 ψ e g → ok1 (fun x => χ x || ψ x) e g
  | .bo, h1, h2 => by
    have h1 : χ e.1 = χ e.2.1 := h1
    have h2 : ψ e.1 = ψ e.2.1 := h2
    show (χ e.1 || ψ e.1) = (χ e.2.1 || ψ e.2.1)
    rw [h1, h2]
  | .th, h1, h2 => fun h => Bool.or_eq_true_iff.mpr ((Bool.or_eq_true_iff.mp h).imp h1 h2)
  | .bk, h1, h2 => fun h => Bool.or_eq_true_iff.mpr ((Bool.or_eq_true_iff.mp h).imp h1 h2)
/-- the one of a good plan's two-way streets that is no link can be directed -/
theorem bt (t : Town V es) {k : Nat} (hk : gs[k]? = some .bo) (hs : Good V es gs) (hn : lnk es k = false) (hl : gs.length = es.length) : Good V es (gs.set k .th) ∨ Good V es (gs.set k .bk) := by
  have hlt : k < es.length := by rw [← hl]; exact (List.getElem?_eq_some_iff.mp hk).1
  obtain ⟨e, he⟩ : ∃ e, es[k]? = some e := ⟨_, List.getElem?_eq_getElem hlt⟩
  obtain ⟨v1, v2⟩ := t.ends e (List.mem_of_getElem? he)
  refine Classical.byContradiction fun hnot => ?_
  obtain ⟨n1, n2⟩ := not_or.mp hnot
  have wit : ∀ g', ¬ Good V es (gs.set k g') → ∃ χ : Str → Bool, (∀ (j : Nat) (e : Sw) (g : Sg), j ≠ k → es[j]? = some e → gs[j]? = some g → ok1 χ e g) ∧ ok1 χ e g' ∧ ¬ ok1 χ e .bo := fun g' hng => by
    obtain ⟨χ, h1⟩ := Classical.not_forall.mp hng
    obtain ⟨h1, h2⟩ := Classical.not_imp.mp h1
    have ho : ∀ (j : Nat) (e : Sw) (g : Sg), j ≠ k → es[j]? = some e → gs[j]? = some g → ok1 χ e g := fun j e g hj he hg => h1 j e g he (by rw [List.getElem?_set_ne (fun z => hj z.symm)]; exact hg)
    refine ⟨χ, ho, h1 k e g' he (by rw [List.getElem?_set_self (by rw [hl]; exact hlt)]), fun hb => h2 (hs χ fun j e' g he' hg => ?_)⟩
    by_cases hj : j = k
    · subst hj
      rw [he] at he'
      rw [hk] at hg
      cases he'
      cases hg
      exact hb
    · exact ho j e' g hj he' hg
  obtain ⟨χ, a1, a2, a3⟩ := wit .th n1
  obtain ⟨ψ, b1, b2, b3⟩ := wit .bk n2
  have a2 : χ e.1 = true → χ e.2.1 = true := a2
  have b2 : ψ e.2.1 = true → ψ e.1 = true := b2
  have a3 : ¬ χ e.1 = χ e.2.1 := a3
  have b3 : ¬ ψ e.1 = ψ e.2.1 := b3
  have c1 : χ e.1 = false ∧ χ e.2.1 = true := by
    cases h : χ e.1 <;> cases h' : χ e.2.1 <;> simp_all
  have c2 : ψ e.1 = true ∧ ψ e.2.1 = false := by
    cases h : ψ e.1 <;> cases h' : ψ e.2.1 <;> simp_all
  have all3 : ∀ {ρ : Str → Bool}, (∀ (j : Nat) (e : Sw) (g : Sg), j ≠ k → es[j]? = some e → gs[j]? = some g → ok1 ρ e g) → ok1 ρ e .bo → Cl es gs ρ := fun {ρ} h1 h2 j e' g he' hg => by
    by_cases hj : j = k
    · subst hj
      rw [he] at he'
      rw [hk] at hg
      cases he'
      cases hg
      exact h2
    · exact h1 j e' g hj he' hg
  have hand : ∀ x ∈ V, (χ x && ψ x) = false := fun x hx => by
    cases hc : (χ x && ψ x) with
    | false => rfl
    | true =>
      have := hs (fun y => χ y && ψ y) (all3 (fun j e g hj he hg => ok1_and (a1 j e g hj he hg) (b1 j e g hj he hg)) (by show (χ e.1 && ψ e.1) = (χ e.2.1 && ψ e.2.1); rw [c1.1, c2.2]; simp)) x hx e.1 v1 hc
      have : (χ e.1 && ψ e.1) = true := this
      rw [c1.1] at this
      cases this
  have hor : ∀ x ∈ V, (χ x || ψ x) = true := fun x hx => hs (fun y => χ y || ψ y) (all3 (fun j e g hj he hg => ok1_or (a1 j e g hj he hg) (b1 j e g hj he hg)) (by show (χ e.1 || ψ e.1) = (χ e.2.1 || ψ e.2.1); rw [c1.2, c2.1]; simp)) e.1 v1 x hx (by show (χ e.1 || ψ e.1) = true; rw [c2.1]; simp)
  have hneg : ∀ x ∈ V, ψ x = !χ x := fun x hx => by
    have h1 := hand x hx
    have h2 := hor x hx
    cases hc : χ x <;> simp_all
  have hop : Open (jn es) [k] χ := open_get.mpr fun j e' he' hj => by
    rw [List.getElem?_map] at he'
    obtain ⟨q, hq, rfl⟩ := Option.map_eq_some_iff.mp he'
    have hj : j ≠ k := by simpa using hj
    have hjl : j < gs.length := by rw [hl]; exact (List.getElem?_eq_some_iff.mp hq).1
    obtain ⟨g, hg⟩ : ∃ g, gs[j]? = some g := ⟨_, List.getElem?_eq_getElem hjl⟩
    obtain ⟨u1, u2⟩ := t.ends q (List.mem_of_getElem? hq)
    have x1 := a1 j q g hj hq hg
    have x2 := b1 j q g hj hq hg
    have y1 := hneg q.1 u1
    have y2 := hneg q.2.1 u2
    show χ q.1 = χ q.2.1
    cases g with
    | bo => exact x1
    | th =>
      have x1 : χ q.1 = true → χ q.2.1 = true := x1
      have x2 : ψ q.1 = true → ψ q.2.1 = true := x2
      rw [y1, y2] at x2
      cases h : χ q.1 <;> cases h' : χ q.2.1 <;> simp_all
    | bk =>
      have x1 : χ q.2.1 = true → χ q.1 = true := x1
      have x2 : ψ q.2.1 = true → ψ q.1 = true := x2
      rw [y1, y2] at x2
      cases h : χ q.1 <;> cases h' : χ q.2.1 <;> simp_all
  rw [lnk_val he, Bool.not_eq_false', hangs_iff] at hn
  exact a3 (hn χ hop).symm
/-! ### streets directed one after another -/
noncomputable def dstep (V : List Str) (es : List Sw) (gs : List Sg) (k : Nat) : List Sg := if strong V (dre (byL es (gs.set k .th))) = true then gs.set k .th else gs.set k .bk
theorem dstep_len (gs : List Sg) (k : Nat) : (dstep V es gs k).length = gs.length := by
  unfold dstep
  split <;> rw [List.length_set]
theorem dstep_ne (gs : List Sg) {k j : Nat} (h : j ≠ k) : (dstep V es gs k)[j]? = gs[j]? := by
  unfold dstep
  split <;> rw [List.getElem?_set_ne (fun z => h z.symm)]
theorem dfold_len : ∀ (ks : List Nat) (gs : List Sg), (ks.foldl (dstep V es) gs).length = gs.length
  | [], _ => rfl
  | k :: ks, gs => by rw [List.foldl_cons, dfold_len ks, dstep_len]
theorem dfold_ne {j : Nat} : ∀ (ks : List Nat) (gs : List Sg), j ∉ ks → (ks.foldl (dstep V es) gs)[j]? = gs[j]?
  | [], _, _ => rfl
  | k :: ks, gs, h => by rw [List.foldl_cons, dfold_ne ks _ fun z => h (List.mem_cons_of_mem _ z), dstep_ne _ fun z => h (by rw [z]; exact List.mem_cons_self)]
theorem dfold_good (t : Town V es) : ∀ (ks : List Nat) (gs : List Sg), gs.length = es.length → Good V es gs → ks.Nodup → (∀ k ∈ ks, gs[k]? = some .bo ∧ lnk es k = false) → Good V es (ks.foldl (dstep V es) gs)
  | [], _, _, h, _, _ => h
  | k :: ks, gs, hl, h, nd, hk => by
    obtain ⟨nk, nd⟩ := List.nodup_cons.mp nd
    obtain ⟨k1, k2⟩ := hk k List.mem_cons_self
    refine dfold_good t ks (dstep V es gs k) (by rw [dstep_len]; exact hl) ?_ nd fun j hj => ⟨by rw [dstep_ne _ fun z => nk (by rw [← z]; exact hj)]; exact (hk j (List.mem_cons_of_mem _ hj)).1, (hk j (List.mem_cons_of_mem _ hj)).2⟩
    unfold dstep
    by_cases hs : strong V (dre (byL es (gs.set k .th))) = true
    · rw [if_pos hs]
      exact good_iff.mp (strong_iff.mp hs)
    · rw [if_neg hs]
      rcases bt t k1 h k2 hl with g | g
      · exact absurd (strong_iff.mpr (good_iff.mpr g)) hs
      · exact g
end
end PW

set_option Elab.async false
set_option linter.all false
set_option maxRecDepth 100000
set_option maxHeartbeats 4000000
/-! W5: plans by the code. -/
namespace PW
open PySem PV LawC
theorem cut_to_n {α : Type} {xs : List α} {i : Nat} (h : i ≤ xs.length) : cutD xs none (some (i : Int)) = xs.take i := by
  unfold cutD
  have h1 : HT.sIx xs.length 0 none = 0 := rfl
  have h2 : HT.sIx xs.length xs.length (some (i : Int)) = i := by rw [HT.sIx_nat]; omega
  rw [h1, h2, List.drop_zero, Nat.sub_zero]
theorem cut_from_n {α : Type} {xs : List α} {i : Nat} (h : i ≤ xs.length) : cutD xs (some (i : Int)) none = xs.drop i := by
  unfold cutD
  have h1 : HT.sIx xs.length 0 (some (i : Int)) = i := by rw [HT.sIx_nat]; omega
  have h2 : HT.sIx xs.length xs.length none = xs.length := rfl
  rw [h1, h2, List.take_of_length_le]
  rw [List.length_drop]
  exact Nat.le_refl _
section
variable {V : List Str} {es : List Sw} {bs : D} {gs : List Sg}
theorem len_sg : (sgL gs).length = gs.length := List.length_map ..
theorem street_by_ok (e : Sw) (g : Sg) : s_f_street_by [eW e, .str (sgS g)] = some (eW (byS e g)) := by
  obtain ⟨a, b, w⟩ := e
  cases g with
  | th => exact sem_rt rfl (run_nx rfl (run_nx (ife_bl (k := false) rfl rfl) (run_rt rfl)))
  | bk => exact sem_rt rfl (run_nx rfl (run_nx (ife_bl (k := false) rfl rfl) (run_rt rfl)))
  | bo => exact sem_rt rfl (run_nx rfl (run_rt (ife_t (d := .bl true) rfl rfl (run_rt rfl))))
theorem zip_sg : ∀ (es : List Sw) (gs : List Sg), zipD (swL es) (sgL gs) = (es.zip gs).map fun p => D.tup [eW p.1, .str (sgS p.2)]
  | [], gs => by cases gs <;> rfl
  | e :: es, [] => rfl
  | e :: es, g :: gs => by
    show D.tup [eW e, .str (sgS g)] :: zipD (swL es) (sgL gs) = _
    rw [zip_sg es gs]
    rfl
theorem town_by_ok (t : Town V es) (hpl : s_f_are_places [.lst (strsL V)] = some (.bl true)) (hl : es.length ≤ 24) (hne : ∀ e ∈ es, e.1 ≠ e.2.1) (hg : gs.length = es.length) : ∃ bs', s_f_town_by [tv V es bs, .lst (sgL gs)] = some (tv V (byL es gs) bs') := by
  obtain ⟨bs', h⟩ := town_x (byL_town t hg) hpl (by rw [byL_len hg]; exact hl) (byL_ne hne)
  have c : CE.sem T_44 (.lc [(Str.ofString "street", 3), (Str.ofString "sign", 4)] (.tp (.cons (.nm 3) (.cons (.nm 4) .nil))) (.zip (.meth ix_m_town_streets (.var 0) .nil) (.var 1)) .nil (.call ix_f_street_by (.cons (.var 3) (.cons (.var 4) .nil)))) [some (tv V es bs), some (.lst (sgL gs)), none, none, none] = some (.lst (swL (byL es gs))) := by
    have hs : CI.sem T_44 (.zip (.meth ix_m_town_streets (.var 0) .nil) (.var 1)) [some (tv V es bs), some (.lst (sgL gs)), none, none, none] = some ((es.zip gs).map fun p => D.tup [eW p.1, .str (sgS p.2)]) := by
      unfold CI.sem
      rw [streets_at rfl rfl]
      show some (zipD (swL es) (sgL gs)) = _
      rw [zip_sg]
    have h2 := lc_all (T := T_44) (own := [(Str.ofString "street", 3), (Str.ofString "sign", 4)]) (t := .tp (.cons (.nm 3) (.cons (.nm 4) .nil))) (elt := .call ix_f_street_by (.cons (.var 3) (.cons (.var 4) .nil))) (ρ := [some (tv V es bs), some (.lst (sgL gs)), none, none, none]) (fun p : Sw × Sg => D.tup [eW p.1, .str (sgS p.2)]) (fun p => eW (byS p.1 p.2)) (es.zip gs)
      fun p hp => ⟨[some (tv V es bs), some (.lst (sgL gs)), none, some (eW p.1), some (.str (sgS p.2))], rfl, call_of rfl (street_by_ok p.1 p.2)⟩
    rw [lc_of hs h2]
    unfold byL swL
    rw [List.map_map]
    rfl
  exact ⟨bs', sem_rt rfl (run_nx (asg_of c) (run_rt (ret_of (make_of (es_cons (places_at rfl rfl) (es_cons rfl es_nil)) h))))⟩
theorem with_sign_ok {i : Nat} {g : Sg} (hi : i < gs.length) (hl : gs.length ≤ 24) : s_f_with_sign [.lst (sgL gs), .int i, .str (sgS g)] = some (.lst (sgL (gs.set i g))) := by
  have e1 : (sgL gs).take i = sgL (gs.take i) := (List.map_take ..).symm
  have e2 : (sgL gs).drop (i + 1) = sgL (gs.drop (i + 1)) := (List.map_drop ..).symm
  refine sem_rt rfl (run_rt (ret_of (bin_of (x := .lst (sgL (gs.take i) ++ [.str (sgS g)])) (y := .lst (sgL (gs.drop (i + 1)))) (bin_of (x := .lst (sgL (gs.take i))) (y := .lst [.str (sgS g)]) ?_ rfl ?_) ?_ ?_)))
  · rw [← e1, ← cut_to_n (by rw [len_sg]; omega)]
    rfl
  · show (if (sgL (gs.take i)).length + 1 ≤ LIM then some (D.lst (sgL (gs.take i) ++ [.str (sgS g)])) else none) = _
    rw [if_pos (by rw [len_sg, List.length_take]; unfold LIM; omega)]
  · rw [← e2, ← cut_from_n (by rw [len_sg]; omega)]
    rfl
  · show (if (sgL (gs.take i) ++ [D.str (sgS g)]).length + (sgL (gs.drop (i + 1))).length ≤ LIM then some (D.lst ((sgL (gs.take i) ++ [D.str (sgS g)]) ++ sgL (gs.drop (i + 1)))) else none) = _
    rw [if_pos (by rw [List.length_append, len_sg, len_sg, List.length_take, List.length_drop]; simp; unfold LIM; omega), List.set_eq_take_append_cons_drop, if_pos hi]
    unfold sgL
    rw [List.map_append, List.map_cons, List.append_assoc]
    rfl
abbrev DIb : CB := (.cons (.asg (.nm 4) (.call ix_f_with_sign (.cons (.var 1) (.cons (.var 3) (.cons (.glob gl_THERE) .nil))))) (.cons (.ife (.call ix_f_all_get (.cons (.call ix_f_town_by (.cons (.var 0) (.cons (.var 4) .nil))) .nil)) (.cons (.asg (.nm 1) (.var 4)) .nil) (.cons (.asg (.nm 1) (.call ix_f_with_sign (.cons (.var 1) (.cons (.var 3) (.cons (.glob gl_BACK) .nil))))) .nil)) .nil))
theorem directed_ok (t : Town V es) (hpl : s_f_are_places [.lst (strsL V)] = some (.bl true)) (hl : es.length ≤ 24) (hne : ∀ e ∈ es, e.1 ≠ e.2.1) (hg : gs.length = es.length) {ks : List Nat} (hk : ∀ k ∈ ks, k < es.length) : s_f_directed [tv V es bs, .lst (sgL gs), .lst (intsL ks)] = some (.lst (sgL (ks.foldl (dstep V es) gs))) := by
  obtain ⟨ρ', hf, h1, g3, g4, rfl⟩ := frD_inv (t := fun x ρ => CT.bind (.nm 3) x ρ) (b := fun ρ => CB.run T_49 DIb ρ) (fun (k : Nat) => D.int (k : Int))
    (fun (gs : List Sg) ρ => gs.length = es.length ∧ ∃ g3 g4, ρ = [some (tv V es bs), some (.lst (sgL gs)), some (.lst (intsL ks)), g3, g4]) (dstep V es) ks gs [some (tv V es bs), some (.lst (sgL gs)), some (.lst (intsL ks)), none, none]
    (fun gs ρ k hm ⟨hg, g3, g4, e⟩ => by
      subst e
      have hlt := hk k hm
      have hs := fun g => with_sign_ok (gs := gs) (i := k) (g := g) (by omega) (by omega)
      have hg2 : (gs.set k .th).length = es.length := by rw [List.length_set]; exact hg
      obtain ⟨bs', hb⟩ := town_by_ok (bs := bs) t hpl hl hne hg2
      have ha := all_get_ok (bs := bs') (byL_town t hg2)
      have hc : CE.sem T_49 (.call ix_f_all_get (.cons (.call ix_f_town_by (.cons (.var 0) (.cons (.var 4) .nil))) .nil)) [some (tv V es bs), some (.lst (sgL gs)), some (.lst (intsL ks)), some (.int k), some (.lst (sgL (gs.set k .th)))] = some (.bl (strong V (dre (byL es (gs.set k .th))))) := call_of (es_cons (call_of rfl hb) es_nil) ha
      refine ⟨[some (tv V es bs), some (.lst (sgL gs)), some (.lst (intsL ks)), some (.int k), g4], [some (tv V es bs), some (.lst (sgL (dstep V es gs k))), some (.lst (intsL ks)), some (.int k), some (.lst (sgL (gs.set k .th)))], rfl, .inl (run_nx (asg_of (call_of rfl (hs .th))) (run_nx (ife_bl hc ?_) run_nil)), by rw [dstep_len]; exact hg, _, _, rfl⟩
      unfold dstep
      by_cases h : strong V (dre (byL es (gs.set k .th))) = true
      · rw [if_pos h, if_pos h]
        exact run_nx (asg_of rfl) run_nil
      · rw [if_neg h, if_neg h]
        exact run_nx (asg_of (call_of rfl (hs .bk))) run_nil) ⟨hg, none, none, rfl⟩
  exact sem_rt rfl (run_nx (fr_of rfl hf) (run_rt rfl))
def fsg (e : Sw) : Sg := if e.2.2 then .bo else .th
theorem first_signs_ok : s_f_first_signs [tv V es bs] = some (.lst (sgL (es.map fsg))) := by
  have hs : CI.sem T_42 (.seq (.meth ix_m_town_streets (.var 0) .nil)) [some (tv V es bs), none] = some (swL es) := seq_of (streets_at rfl rfl) rfl
  have h2 := lc_all (T := T_42) (own := [(Str.ofString "street", 1)]) (t := .nm 1) (elt := .ife (.cmp .eq (.ix (.var 1) (.cD (.int (2)))) (.glob gl_TWO)) (.glob gl_BOTH) (.glob gl_THERE)) (ρ := [some (tv V es bs), none]) eW (fun e => D.str (sgS (fsg e))) es
    fun e he => ⟨[some (tv V es bs), some (eW e)], rfl, by
      obtain ⟨a, b, w⟩ := e
      cases w <;> rfl⟩
  refine sem_rt rfl (run_rt (ret_of ((lc_of hs h2).trans ?_)))
  unfold sgL
  rw [List.map_map]
  rfl
def twoN (es : List Sw) : List Nat := (es.zipIdx.filter fun p => p.1.2.2).map (·.2)
theorem mem_two {k : Nat} : k ∈ twoN es ↔ ∃ e, es[k]? = some e ∧ e.2.2 = true := by
  unfold twoN
  rw [List.mem_map]
  constructor
  · rintro ⟨p, hp, rfl⟩
    obtain ⟨h1, h2⟩ := List.mem_filter.mp hp
    exact ⟨p.1, (zip_mem h1).2.2, h2⟩
  · rintro ⟨e, h1, h2⟩
    exact ⟨(e, k), List.mem_filter.mpr ⟨List.mk_mem_zipIdx_iff_getElem?.mpr h1, h2⟩, rfl⟩
theorem two_nd : (twoN es).Nodup := by
  unfold twoN
  have h : ((es.zipIdx).map (·.2)).Nodup := by
    rw [List.zipIdx_map_snd, ← List.range_eq_range']
    exact List.nodup_range
  exact List.Nodup.sublist (List.Sublist.map _ List.filter_sublist) h
theorem two_lt {k : Nat} (h : k ∈ twoN es) : k < es.length := by
  obtain ⟨e, he, _⟩ := mem_two.mp h
  exact (List.getElem?_eq_some_iff.mp he).1
theorem two_way_ok {T : Tab} (h : T.fn[ix_m_town_two_way]? = some e_m_town_two_way) : T.callM ix_m_town_two_way (tv V es bs) [] = some (.lst (intsL (twoN es))) := by
  rw [cm h rfl rfl]
  show s_m_town_two_way [tv V es bs] = _
  have hs : CI.sem T_40 (.enum (.fld 0 (.var 0) (Str.ofString "_streets"))) [some (tv V es bs), none, none] = some (es.zipIdx.map eJ) := by
    show some (enumD 0 (swL es)) = _
    rw [enumD_zip]
  have h2 := lc_if (T := T_40) (own := [(Str.ofString "street", 1), (Str.ofString "ends", 2)]) (t := .tp (.cons (.nm 1) (.cons (.nm 2) .nil))) (c := .cmp .eq (.ix (.var 2) (.cD (.int (2)))) (.glob gl_TWO_WAY)) (elt := .var 1) (ρ := [some (tv V es bs), none, none]) eJ (fun p => p.1.2.2) (fun p => D.int (p.2 : Int)) es.zipIdx
    fun p hp => ⟨[some (tv V es bs), some (.int p.2), some (eW p.1)], rfl, cmp1 (x := .str (wd p.1.2.2)) (y := .str two) rfl rfl (wd_two _), fun _ => rfl⟩
  refine sem_rt rfl (run_rt (ret_of ((lc_of hs h2).trans ?_)))
  unfold intsL twoN
  rw [List.map_map]
  rfl
noncomputable def stayN (es : List Sw) : List Nat := ((List.range es.length).filter (lnk es)).filter fun k => decide (k ∈ twoN es)
theorem two_way_links_ok (t : Town V es) (hne : ∀ e ∈ es, e.1 ≠ e.2.1) : s_f_two_way_links [tv V es bs] = some (.lst (intsL (stayN es))) := by
  have c : CE.sem T_41 (.lc [(Str.ofString "street", 2)] (.nm 2) (.seq (.call ix_f_links (.cons (.var 0) .nil))) (.cons (.cmp .in_ (.var 2) (.var 1)) .nil) (.var 2)) [some (tv V es bs), some (.lst (intsL (twoN es))), none] = some (.lst (intsL (stayN es))) :=
    lc_of (seq_of (call_of rfl (links_ok t hne)) rfl) (lc_if (fun (k : Nat) => D.int (k : Int)) (fun k => decide (k ∈ twoN es)) (fun (k : Nat) => D.int (k : Int)) _ fun k hk => ⟨[some (tv V es bs), some (.lst (intsL (twoN es))), some (.int k)], rfl, cmp1 rfl rfl (in_lst_ints k _), fun _ => rfl⟩)
  exact sem_rt rfl (run_nx (asg_of (meth_of (x := tv V es bs) (ds := []) rfl rfl (two_way_ok rfl))) (run_rt (ret_of c)))
theorem must_stay_ok (t : Town V es) (hne : ∀ e ∈ es, e.1 ≠ e.2.1) : s_f_must_stay [tv V es bs] = some (.lst (intsL (stayN es))) :=
  sem_rt rfl (run_rt (ret_of (call_of rfl (two_way_links_ok t hne))))
/-! ### the plan's text -/
def sgC : Sg → Nat
  | .th => 62 | .bk => 60 | .bo => 61
def planS (gs : List Sg) : Str := ⟨(gs.map sgC).toArray⟩
theorem sgS_c (g : Sg) : sgS g = ⟨#[sgC g]⟩ := by cases g <;> decide +kernel
theorem join_sg : ∀ gs : List Sg, Str.join (Str.ofString "") (gs.map sgS) = planS gs
  | [] => by decide +kernel
  | [g] => sgS_c g
  | g :: g' :: gs => by
    show sgS g ++ Str.ofString "" ++ Str.join (Str.ofString "") ((g' :: gs).map sgS) = _
    rw [join_sg (g' :: gs), sgS_c]
    apply str_ext
    show ((#[sgC g] ++ (Str.ofString "").cps) ++ ((g' :: gs).map sgC).toArray).toList = _
    rw [show (Str.ofString "").cps = #[] from by decide +kernel]
    simp [planS]
theorem join_ok {T : Tab} {c : CE} {ρ : Env} (h : CE.sem T c ρ = some (.lst (sgL gs))) (hl : gs.length ≤ 24) : CE.sem T (.bm .join (.cD (.str (Str.ofString ""))) (.cons c .nil)) ρ = some (.str (planS gs)) := by
  show (CEs.sem T (.cons c .nil) ρ).bind (fun ds => bmD .join (.str (Str.ofString "")) ds) = _
  rw [es_cons h es_nil]
  show (match strsD (sgL gs) with
    | some ss => if (ss.map Str.length).sum + ss.length * (Str.ofString "").length ≤ LIM then some (D.str (Str.join (Str.ofString "") ss)) else none
    | none => none) = _
  have e : sgL gs = strsL (gs.map sgS) := by unfold strsL; rw [List.map_map]; rfl
  rw [e, strsD_strs]
  show (if ((gs.map sgS).map Str.length).sum + (gs.map sgS).length * (Str.ofString "").length ≤ LIM then some (D.str (Str.join (Str.ofString "") (gs.map sgS))) else none) = _
  have hsum : ((gs.map sgS).map Str.length).sum = gs.length := by
    rw [List.map_map]
    clear e h hl
    induction gs with
    | nil => rfl
    | cons g gs ih =>
      rw [List.map_cons, List.sum_cons, ih, List.length_cons]
      have : (Str.length ∘ sgS) g = 1 := by cases g <;> decide +kernel
      show (Str.length ∘ sgS) g + gs.length = _
      omega
  rw [hsum, if_pos (by rw [show (Str.ofString "").length = 0 from by decide +kernel]; unfold LIM; omega), join_sg]
/-- all is well with a town -/
structure WTown (V : List Str) (es : List Sw) : Prop where
  t : Town V es
  pl : s_f_are_places [.lst (strsL V)] = some (.bl true)
  hl : es.length ≤ 24
  ne : ∀ e ∈ es, e.1 ≠ e.2.1
noncomputable def houseG (V : List Str) (es : List Sw) : List Sg := (twoN es).foldl (dstep V es) (es.map fsg)
theorem house_ok (W : WTown V es) : s_f_house_plan [tv V es bs] = some (.str (planS (houseG V es))) := by
  have hd := directed_ok (bs := bs) W.t W.pl W.hl W.ne (gs := es.map fsg) (List.length_map ..) (ks := twoN es) fun k hk => two_lt hk
  refine sem_rt rfl (run_rt (ret_of (join_ok (call_of (es_cons rfl (es_cons (call_of rfl first_signs_ok) (es_cons (meth_of (x := tv V es bs) (ds := []) rfl rfl (two_way_ok rfl)) es_nil))) hd) ?_)))
  unfold houseG
  rw [dfold_len, List.length_map]
  exact W.hl
noncomputable def leanG (V : List Str) (es : List Sw) : List Sg := ((twoN es).filter fun k => !decide (k ∈ stayN es)).foldl (dstep V es) (es.map fsg)
theorem lean_len : (leanG V es).length = es.length := by
  unfold leanG
  rw [dfold_len, List.length_map]
theorem lean_ok (W : WTown V es) : s_f_lean_plan [tv V es bs] = some (.str (planS (leanG V es))) := by
  have hd := directed_ok (bs := bs) W.t W.pl W.hl W.ne (gs := es.map fsg) (List.length_map ..) (ks := (twoN es).filter fun k => !decide (k ∈ stayN es)) fun k hk => two_lt (List.mem_filter.mp hk).1
  have c : CE.sem T_53 (.lc [(Str.ofString "street", 3)] (.nm 3) (.seq (.meth ix_m_town_two_way (.var 0) .nil)) (.cons (.cmp .nin (.var 3) (.var 1)) .nil) (.var 3)) [some (tv V es bs), some (.lst (intsL (stayN es))), none, none] = some (.lst (intsL ((twoN es).filter fun k => !decide (k ∈ stayN es)))) :=
    lc_of (seq_of (meth_of (x := tv V es bs) (ds := []) rfl rfl (two_way_ok rfl)) rfl) (lc_if (fun (k : Nat) => D.int (k : Int)) (fun k => !decide (k ∈ stayN es)) (fun (k : Nat) => D.int (k : Int)) _ fun k hk => ⟨[some (tv V es bs), some (.lst (intsL (stayN es))), none, some (.int k)], rfl, cmp1 rfl rfl (nin_lst_ints k _), fun _ => rfl⟩)
  refine sem_rt rfl (run_nx (asg_of (call_of rfl (must_stay_ok W.t W.ne))) (run_nx (asg_of c) (run_rt (ret_of (join_ok (call_of (es_cons rfl (es_cons (call_of rfl first_signs_ok) (es_cons rfl es_nil))) hd) ?_)))))
  rw [lean_len]
  exact W.hl
theorem first_good (h : Strong V (dre es)) : Good V es (es.map fsg) := by
  have e : byL es (es.map fsg) = es := by
    unfold byL
    rw [List.zip_map_right]
    rw [List.map_map]
    have : ∀ l : List Sw, ((l.zip l).map ((fun p : Sw × Sg => byS p.1 p.2) ∘ Prod.map id fsg)) = l := fun l => by
      induction l with
      | nil => rfl
      | cons a l ih =>
        rw [List.zip_cons_cons, List.map_cons, ih]
        congr 1
        obtain ⟨x, y, w⟩ := a
        cases w <;> rfl
    exact this es
  exact good_iff.mp (by rw [e]; exact h)
theorem lean_good (W : WTown V es) (h : Strong V (dre es)) : Good V es (leanG V es) := by
  refine dfold_good W.t _ _ (List.length_map ..) (first_good h) (List.Nodup.sublist List.filter_sublist two_nd) fun k hk => ?_
  obtain ⟨h1, h2⟩ := List.mem_filter.mp hk
  obtain ⟨e, he, hw⟩ := mem_two.mp h1
  refine ⟨by rw [List.getElem?_map, he]; show some (fsg e) = _; unfold fsg; rw [hw]; rfl, ?_⟩
  cases hl : lnk es k with
  | false => rfl
  | true =>
    have : k ∈ stayN es := List.mem_filter.mpr ⟨List.mem_filter.mpr ⟨List.mem_range.mpr (two_lt h1), hl⟩, decide_eq_true h1⟩
    simp [this] at h2
theorem lean_stay {k : Nat} (h : k ∈ stayN es) : (leanG V es)[k]? = some .bo := by
  obtain ⟨h1, h2⟩ := List.mem_filter.mp h
  obtain ⟨e, he, hw⟩ := mem_two.mp (of_decide_eq_true h2)
  unfold leanG
  rw [dfold_ne _ _ fun z => by
    have := (List.mem_filter.mp z).2
    simp [h] at this, List.getElem?_map, he]
  show some (fsg e) = _
  unfold fsg
  rw [hw]
  rfl
/-! ### the answers -/
theorem kept_ok (W : WTown V es) (h : Strong V (dre es)) : s_f_answer_kept [tv V es bs] = some (.tup [.str (Str.ofString "kept"), .str (planS (leanG V es))]) :=
  sem_rt rfl (run_nx (asg_of (call_of rfl (ways_ok W.t h))) (run_nx (ife_bl (k := false) rfl rfl) (run_rt (ret_of (tup_of (es_cons rfl (es_cons (call_of rfl (lean_ok W)) es_nil)))))))
theorem plans_ok (W : WTown V es) (h : Strong V (dre es)) : ∃ r, s_f_answer_plans [tv V es bs] = some (.tup (.str (Str.ofString (if (stayN es).isEmpty then "plan" else "link")) :: r)) := by
  have hw := ways_ok (bs := bs) W.t h
  have ht := two_way_links_ok (bs := bs) W.t W.ne
  cases hs : stayN es with
  | nil =>
    rw [hs] at ht
    exact ⟨_, sem_rt rfl (run_nx (asg_of (call_of rfl hw)) (run_nx (ife_bl (k := false) rfl rfl) (run_nx (asg_of (call_of rfl ht)) (run_nx (ife_f (d := .lst []) rfl rfl run_nil) (run_rt (ret_of (tup_of (es_cons rfl (es_cons (call_of rfl (house_ok W)) es_nil)))))))))⟩
  | cons k ks =>
    rw [hs] at ht
    have hk : k ∈ stayN es := by rw [hs]; exact List.mem_cons_self
    obtain ⟨h1, h2⟩ := List.mem_filter.mp hk
    obtain ⟨h3, h4⟩ := List.mem_filter.mp h1
    obtain ⟨e, he, _⟩ := mem_two.mp (of_decide_eq_true h2)
    obtain ⟨wa, wb, hh, _⟩ := halves_ok (bs := bs) W.t W.ne he h4
    have hx : ixD (.lst (intsL (k :: ks))) (.int 0) = some (.int (k : Int)) := by
      show L2.atI (intsL (k :: ks)) ((0 : Nat) : Int) = some (D.int (k : Int))
      rw [atI_nat (by simp [intsL])]
      rfl
    refine ⟨[.int k, .lst (strsL (V.filter fun p => decide (p ∈ wa))), .lst (strsL (V.filter fun p => decide (p ∈ wb)))], sem_rt rfl (run_nx (asg_of (call_of rfl hw)) (run_nx (ife_bl (k := false) rfl rfl) (run_nx (asg_of (call_of rfl ht)) ?_)))⟩
    refine run_rt (ife_t (d := .lst (intsL (k :: ks))) rfl rfl (run_nx (asgT_of (call_of (es_cons rfl (es_cons (ix_of (x := .lst (intsL (k :: ks))) (y := .int 0) rfl rfl hx) es_nil)) hh) rfl) (run_rt (ret_of (tup_of (es_cons rfl (es_cons (ix_of (x := .lst (intsL (k :: ks))) (y := .int 0) rfl rfl hx) (es_cons rfl (es_cons rfl es_nil)))))))))
end
end PW

set_option Elab.async false
set_option linter.all false
set_option maxRecDepth 100000
set_option maxHeartbeats 4000000
/-! W6: the law's own going through a town. -/
namespace PW
open PySem PV LawC
section
variable {V : List Str} {es : List Sw} {bs : D} {gs : List Sg}
theorem law_drives_ok (hes : es.length ≤ 1000) : s_f_law_drives [.lst (swL es)] = some (.lst ((dre es).map dD)) := by
  obtain ⟨ρ', h1, g2, g3, g4, g5, rfl⟩ := frD_pre (t := fun x ρ => CT.bind (.nm 2) x ρ) (b := fun ρ => CB.run T_56 LDb ρ) (fun (k : Nat) => D.int (k : Int))
    (fun (ys : List Nat) ρ => ∃ g2 g3 g4 g5, ρ = [some (.lst (swL es)), some (.lst (((es.zipIdx.take ys.length).flatMap drv).map dD)), g2, g3, g4, g5]) (List.range es.length) [] [some (.lst (swL es)), some (.lst []), none, none, none, none]
    (fun ys k zs ρ e ⟨g2, g3, g4, g5, eρ⟩ => by
      subst eρ
      rw [List.nil_append] at e
      obtain ⟨hk1, _, hk⟩ := range_split e
      obtain ⟨⟨a, b, w⟩, hx⟩ : ∃ x, es[k]? = some x := ⟨es[k], List.getElem?_eq_getElem hk⟩
      rw [← hk1]
      have hfl := flat_drv (es.zipIdx.take k)
      rw [List.length_take, List.length_zipIdx] at hfl
      have htk : es.zipIdx.take (k + 1) = es.zipIdx.take k ++ [((a, b, w), k)] := by
        rw [List.take_add_one, List.getElem?_zipIdx, hx]
        show _ ++ [((a, b, w), 0 + k)] = _
        rw [Nat.zero_add]
      have hc : ∀ l : List D, CE.sem T_56 (.cmp .eq (.var 5) (.cD (.str (Str.ofString "two")))) [some (.lst (swL es)), some (.lst l), some (.int k), some (.str a), some (.str b), some (.str (wd w))] = some (.bl w) := fun l => cmp1 (x := .str (wd w)) (y := .str two) rfl rfl (wd_two w)
      refine ⟨[some (.lst (swL es)), some (.lst (((es.zipIdx.take k).flatMap drv).map dD)), some (.int k), g3, g4, g5], [some (.lst (swL es)), some (.lst (((es.zipIdx.take (k + 1)).flatMap drv).map dD)), some (.int k), some (.str a), some (.str b), some (.str (wd w))], rfl, .inl ?_, _, _, _, _, by rw [List.length_append, ← hk1]; rfl⟩
      rw [htk, List.flatMap_append, List.flatMap_cons, List.flatMap_nil, List.append_nil, List.map_append]
      cases w with
      | true =>
        refine run_nx (asgT_of (ix_of rfl rfl (st_ix hx)) rfl) (run_nx (app_of rfl rfl (by rw [List.length_map]; unfold LIM; omega)) (run_nx (ife_bl (hc _) (show (if true = true then _ else _) = _ from run_nx (app_of rfl rfl (by rw [List.length_append, List.length_map]; unfold LIM; show _ + 1 < _; omega)) run_nil)) ?_))
        refine (run_nil).trans ?_
        show some (O.nx [_, some (.lst (((((es.zipIdx.take k).flatMap drv).map dD) ++ [dD (k, a, b)]) ++ [dD (k, b, a)])), _, _, _, _]) = _
        rw [List.append_assoc]
        rfl
      | false =>
        exact run_nx (asgT_of (ix_of rfl rfl (st_ix hx)) rfl) (run_nx (app_of rfl rfl (by rw [List.length_map]; unfold LIM; omega)) (run_nx (ife_bl (hc _) rfl) run_nil))) ⟨_, _, _, _, rfl⟩
  rw [List.nil_append, List.length_range, List.take_of_length_le (by rw [List.length_zipIdx]; exact Nat.le_refl _)] at h1
  refine sem_rt rfl (run_nx rfl (run_nx (fr_of (xs := (List.range es.length).map fun (k : Nat) => D.int (k : Int)) ?_ h1) (run_rt rfl)))
  show rngD 0 ((swL es).length : Int) = _
  rw [len_sts]
  exact rng_nat _ hes
theorem closed_full {ds : List Dr} {s : Str} {w : List Str} (h : Strong V ds) (hs : s ∈ V) (hw : s ∈ w) (cl : ∀ d ∈ ds, d.2.1 ∈ w → d.2.2 ∈ w) : ∀ x ∈ V, x ∈ w := fun x hx => by
  have := h (fun y => decide (y ∈ w)) (fun d hd h1 => decide_eq_true (cl d hd (of_decide_eq_true h1))) s hs x hx (decide_eq_true hw)
  exact of_decide_eq_true this
theorem strong_rev {ds : List Dr} (h : Strong V ds) : Strong V (rev ds) := fun χ hc u hu v hv hχ => by
  cases hv1 : χ v with
  | true => rfl
  | false =>
    have := h (fun y => !χ y) (fun d hd h1 => by
      have h1 : χ d.2.1 = false := by simpa using h1
      have : χ d.2.2 = false := by
        cases h2 : χ d.2.2 with
        | false => rfl
        | true =>
          have := hc (d.1, d.2.2, d.2.1) (List.mem_map.mpr ⟨d, hd, rfl⟩) h2
          rw [show χ d.2.1 = true from this] at h1
          cases h1
      simpa using this) v hv u hu (by simp [hv1])
    rw [hχ] at this
    cases this
theorem law_reach_len (t : Town V es) (hv : V.length ≤ 63) {ds : List Dr} (hV : ∀ d ∈ ds, d.2.2 ∈ V) (h : Strong V ds) {s : Str} (hs : s ∈ V) : ∃ w : List Str, s_f_law_reached [.lst (ds.map dD), .str s] = some (.lst (strsL w)) ∧ w.length = V.length := by
  obtain ⟨w, h1, h2, h3⟩ := reached_ok hs hV hv
  exact ⟨_, h1, by rw [(sortS_perm w).length_eq]; exact (full_iff t.nd h2.nd h2.v).mpr (closed_full h hs h2.st h3)⟩
theorem law_all_get_ok (t : Town V es) (hv : V.length ≤ 63) (h : Strong V (dre es)) : s_f_law_all_get [.lst (strsL V), .lst (swL es)] = some (.bl true) := by
  obtain ⟨s, hs, hix⟩ := head_ix t.ne
  obtain ⟨w1, a1, b1⟩ := law_reach_len t hv (fun d hd => (dre_mem t hd).2) h hs
  obtain ⟨w2, a2, b2⟩ := law_reach_len t hv (ds := rev (dre es)) (fun d hd => by
    obtain ⟨q, hq, rfl⟩ := List.mem_map.mp hd
    exact (dre_mem t hq).1) (strong_rev h) hs
  have c3 : CE.sem T_58 (.lc [(Str.ofString "street", 4), (Str.ofString "start", 5), (Str.ofString "goal", 6)] (.tp (.cons (.nm 4) (.cons (.nm 5) (.cons (.nm 6) .nil)))) (.seq (.var 2)) .nil (.tup (.cons (.var 4) (.cons (.var 6) (.cons (.var 5) .nil))))) [some (.lst (strsL V)), some (.lst (swL es)), some (.lst ((dre es).map dD)), none, none, none, none] = some (.lst ((rev (dre es)).map dD)) := by
    rw [lc_of rfl (lc_all dD (fun d => dD (d.1, d.2.2, d.2.1)) (dre es) fun d hd => ⟨[some (.lst (strsL V)), some (.lst (swL es)), some (.lst ((dre es).map dD)), none, some (.int d.1), some (.str d.2.1), some (.str d.2.2)], rfl, rfl⟩)]
    unfold rev
    rw [List.map_map]
    rfl
  refine sem_rt rfl (run_nx (asg_of (call_of rfl (law_drives_ok t.few))) (run_nx (asg_of c3) (run_rt (ret_of (and2 (p := true) (q := true) (cmp1 (x := .int (V.length : Nat)) (y := .int ((V.length : Nat) : Int)) (bi1 (call_of (es_cons rfl (es_cons (ix_of rfl rfl hix) es_nil)) a1) ?_) (bi1 rfl ?_) (eq_self_nat _)) fun _ => cmp1 (x := .int (V.length : Nat)) (y := .int ((V.length : Nat) : Int)) (bi1 (call_of (es_cons rfl (es_cons (ix_of rfl rfl hix) es_nil)) a2) ?_) (bi1 rfl ?_) (eq_self_nat _))))))
  · show some (D.int ((strsL w1).length : Int)) = _
    rw [len_strs, b1]
  · show some (D.int ((strsL V).length : Int)) = _
    rw [len_strs]
  · show some (D.int ((strsL w2).length : Int)) = _
    rw [len_strs, b2]
  · show some (D.int ((strsL V).length : Int)) = _
    rw [len_strs]
/-! ### _law_by -/
theorem plan_ix {k : Nat} {g : Sg} (h : gs[k]? = some g) (hl : gs.length ≤ 24) : ixD (.str (planS gs)) (.int k) = some (.str (sgS g)) := by
  have hlt := (List.getElem?_eq_some_iff.mp h).1
  show (if (planS gs).length ≤ LIM then (L2.atI (planS gs).cps.toList (k : Int)).map fun c => D.str ⟨#[c]⟩ else none) = _
  have hlen : (planS gs).length = gs.length := by
    show (gs.map sgC).toArray.size = _
    simp
  rw [if_pos (by rw [hlen]; unfold LIM; omega)]
  show (L2.atI (gs.map sgC).toArray.toList (k : Int)).map _ = _
  rw [List.toList_toArray, atI_nat (by rw [List.length_map]; exact hlt), List.getElem?_map, h]
  show some (D.str ⟨#[sgC g]⟩) = _
  rw [sgS_c]
abbrev LBx : CE := (.dsp (.cons (.cD (.str (Str.ofString ">"))) (.cons (.cD (.str (Str.ofString "<"))) (.cons (.cD (.str (Str.ofString "="))) .nil))) (.cons (.tup (.cons (.var 4) (.cons (.var 5) (.cons (.cD (.str (Str.ofString "one"))) .nil)))) (.cons (.tup (.cons (.var 5) (.cons (.var 4) (.cons (.cD (.str (Str.ofString "one"))) .nil)))) (.cons (.tup (.cons (.var 4) (.cons (.var 5) (.cons (.cD (.str (Str.ofString "two"))) .nil)))) .nil))))
theorem by_look (a b : Str) (g : Sg) {w : Bool} : lookK (.inr (sgS g)) (putAllD [] [((Sum.inr (Str.ofString ">") : Key), D.tup [.str a, .str b, .str (Str.ofString "one")]), (.inr (Str.ofString "<"), .tup [.str b, .str a, .str (Str.ofString "one")]), (.inr (Str.ofString "="), .tup [.str a, .str b, .str (Str.ofString "two")])]) = some (eW (byS (a, b, w) g)) := by
  have e : putAllD [] [((Sum.inr (Str.ofString ">") : Key), D.tup [.str a, .str b, .str (Str.ofString "one")]), (.inr (Str.ofString "<"), .tup [.str b, .str a, .str (Str.ofString "one")]), (.inr (Str.ofString "="), .tup [.str a, .str b, .str (Str.ofString "two")])] = [((Sum.inr (Str.ofString ">") : Key), D.tup [.str a, .str b, .str (Str.ofString "one")]), (.inr (Str.ofString "<"), .tup [.str b, .str a, .str (Str.ofString "one")]), (.inr (Str.ofString "="), .tup [.str a, .str b, .str (Str.ofString "two")])] := rfl
  rw [e]
  cases g <;> rfl
theorem law_by_ok (hg : gs.length = es.length) (hl : es.length ≤ 24) : s_f_law_by [.lst (swL es), .str (planS gs)] = some (.lst (swL (byL es gs))) := by
  have hbl := byL_len hg
  obtain ⟨ρ', h1, g3, g4, g5, g6, rfl⟩ := frD_pre (t := fun x ρ => CT.bind (.nm 3) x ρ) (b := fun ρ => CB.run T_59 (.cons (.asg (.tp (.cons (.nm 4) (.cons (.nm 5) (.cons (.nm 6) .nil)))) (.ix (.var 0) (.var 3))) (.cons (.app 2 (.ix LBx (.ix (.var 1) (.var 3)))) .nil)) ρ) (fun (k : Nat) => D.int (k : Int))
    (fun (ys : List Nat) ρ => ∃ g3 g4 g5 g6, ρ = [some (.lst (swL es)), some (.str (planS gs)), some (.lst (swL ((byL es gs).take ys.length))), g3, g4, g5, g6]) (List.range es.length) [] [some (.lst (swL es)), some (.str (planS gs)), some (.lst []), none, none, none, none]
    (fun ys k zs ρ e ⟨g3, g4, g5, g6, eρ⟩ => by
      subst eρ
      rw [List.nil_append] at e
      obtain ⟨hk1, _, hk⟩ := range_split e
      obtain ⟨⟨a, b, w⟩, hx⟩ : ∃ x, es[k]? = some x := ⟨es[k], List.getElem?_eq_getElem hk⟩
      obtain ⟨g, hgk⟩ : ∃ g, gs[k]? = some g := ⟨_, List.getElem?_eq_getElem (by omega)⟩
      have hby : (byL es gs)[k]? = some (byS (a, b, w) g) := byL_get.mpr ⟨_, _, hx, hgk, rfl⟩
      have htk : (byL es gs).take (k + 1) = (byL es gs).take k ++ [byS (a, b, w) g] := by
        rw [List.take_add_one, hby]
        rfl
      rw [← hk1]
      have hix : CE.sem T_59 (.ix LBx (.ix (.var 1) (.var 3))) [some (.lst (swL es)), some (.str (planS gs)), some (.lst (swL ((byL es gs).take k))), some (.int k), some (.str a), some (.str b), some (.str (wd w))] = some (eW (byS (a, b, w) g)) :=
        ix_of (x := .dct (putAllD [] [((Sum.inr (Str.ofString ">") : Key), D.tup [.str a, .str b, .str (Str.ofString "one")]), (.inr (Str.ofString "<"), .tup [.str b, .str a, .str (Str.ofString "one")]), (.inr (Str.ofString "="), .tup [.str a, .str b, .str (Str.ofString "two")])])) (y := .str (sgS g)) rfl (ix_of rfl rfl (plan_ix hgk (by omega))) (by_look a b g)
      refine ⟨[some (.lst (swL es)), some (.str (planS gs)), some (.lst (swL ((byL es gs).take k))), some (.int k), g4, g5, g6], [some (.lst (swL es)), some (.str (planS gs)), some (.lst (swL ((byL es gs).take (k + 1)))), some (.int k), some (.str a), some (.str b), some (.str (wd w))], rfl, .inl (run_nx (asgT_of (ix_of rfl rfl (st_ix hx)) rfl) (run_nx (app_of hix rfl (by rw [len_sts, List.length_take]; unfold LIM; omega)) ?_)), _, _, _, _, by rw [List.length_append, ← hk1]; rfl⟩
      rw [htk]
      unfold swL
      rw [List.map_append]
      rfl) ⟨_, _, _, _, rfl⟩
  have e : (byL es gs).take es.length = byL es gs := by rw [← hbl, List.take_length]
  rw [List.nil_append, List.length_range, e] at h1
  refine sem_rt rfl (run_nx rfl (run_nx (fr_of (xs := (List.range es.length).map fun (k : Nat) => D.int (k : Int)) ?_ h1) (run_rt rfl)))
  show rngD 0 ((swL es).length : Int) = _
  rw [len_sts]
  exact rng_nat _ (by omega)
end
end PW

set_option Elab.async false
set_option linter.all false
set_option maxRecDepth 100000
set_option maxHeartbeats 4000000
/-! W7: _law_numbers, any place and number. -/
namespace PW
open PySem PV LawC
abbrev NE (sc : D) (a m : Nat) (cell : Int) (l : List Int) (g5 g6 : Option D) : Env := [some sc, some (.int (a : Nat)), some (.int (m : Nat)), some (.int cell), some (.lst (l.map D.int)), g5, g6]
theorem add_i (i j : Int) : binD .add (.int i) (.int j) = some (.int (i + j)) := rfl
theorem mod_i (i j : Int) (h : 0 < j) : binD .mod (.int i) (.int j) = some (.int (i % j)) := by
  show (if 0 < j then some (D.int (i % j)) else none) = _
  rw [if_pos h]
theorem mul_l {i : Int} (j : Int) (h : -(2 ^ 64) < i ∧ i < 2 ^ 64) : binD .mul (.int i) (.int j) = some (.int (i * j)) := by
  show (if (-(2 ^ 64) < i ∧ i < 2 ^ 64) ∨ (-(2 ^ 64) < j ∧ j < 2 ^ 64) then some (D.int (i * j)) else none) = _
  rw [if_pos (.inl h)]
theorem app_ints {T : Tab} {c : CE} {sc : D} {a m : Nat} {cell v : Int} {l : List Int} {g5 g6 : Option D} (h : CE.sem T c (NE sc a m cell l g5 g6) = some (.int v)) (hl : l.length ≤ 1000) : CS.run T (.app 4 c) (NE sc a m cell l g5 g6) = some (.nx (NE sc a m cell (l ++ [v]) g5 g6)) := by
  rw [app_of h rfl (by rw [List.length_map]; unfold LIM; omega)]
  have e : l.map D.int ++ [D.int v] = (l ++ [v]).map D.int := by
    rw [List.map_append]
    rfl
  show some (O.nx [_, _, _, _, some (.lst (l.map D.int ++ [D.int v])), _, _]) = _
  rw [e]
theorem num_turn {sc : D} {a m : Nat} {cell : Int} {l : List Int} {k : Nat} {g6 : Option D} {n : Nat} (hl : IntsB l n) (hn : n ≤ 1000) (hc : 0 ≤ cell) : ∃ cell' l' g6', CB.run T_55 Nb (NE sc a m cell l (some (.int k)) g6) = some (.nx (NE sc a m cell' l' (some (.int k)) g6')) ∧ IntsB l' (n + 1) ∧ 0 ≤ cell' := by
  obtain ⟨h1, h2⟩ := hl
  have cond : CE.sem T_55 (.cmp .ge (.var 3) (.bin .pow (.cD (.int (10))) (.cD (.int (18))))) (NE sc a m cell l (some (.int k)) g6) = some (.bl (decide ((1000000000000000000 : Int) ≤ cell))) := cmp1 (x := .int cell) (y := .int 1000000000000000000) rfl rfl rfl
  have snoc : ∀ {v : Int}, 0 ≤ v → v < 1009 → IntsB (l ++ [v]) (n + 1) := fun h3 h4 => ⟨by rw [List.length_append, h1]; rfl, fun x hx => by
    rcases List.mem_append.mp hx with hx | hx
    · exact h2 x hx
    · obtain rfl := List.mem_singleton.mp hx
      exact ⟨h3, h4⟩⟩
  by_cases hge : (1000000000000000000 : Int) ≤ cell
  · refine ⟨cell / 1009, l ++ [cell % 1009], g6, run_nx (ife_bl cond ?_) run_nil, snoc (Int.emod_nonneg _ (by decide)) (Int.emod_lt_of_pos _ (by decide)), Int.ediv_nonneg hc (by decide)⟩
    rw [if_pos (by simpa using hge)]
    exact run_nx (app_ints rfl (by omega)) (run_nx rfl run_nil)
  · let m1 : Int := (cell * 48271 + ((k : Int) + 1) * 69621 + (a : Int) * 4001) % 2147483647
    let m2 : Int := (m1 * m1 + 16807 * ((k : Int) + 3)) % 2147483629
    have hm1 : 0 ≤ m1 ∧ m1 < 2147483647 := ⟨Int.emod_nonneg _ (by decide), Int.emod_lt_of_pos _ (by decide)⟩
    have hm2 : 0 ≤ m2 := Int.emod_nonneg _ (by decide)
    refine ⟨cell, l ++ [m2 / 7 % 1009], some (.int m2), run_nx (ife_bl cond ?_) run_nil, snoc (Int.emod_nonneg _ (by decide)) (Int.emod_lt_of_pos _ (by decide)), hc⟩
    rw [if_neg (by simpa using hge)]
    have e1 : CE.sem T_55 (.bin .mod (.bin .add (.bin .add (.bin .mul (.var 3) (.cD (.int (48271)))) (.bin .mul (.bin .add (.var 5) (.cD (.int (1)))) (.cD (.int (69621))))) (.bin .mul (.var 1) (.cD (.int (4001))))) (.cD (.int (2147483647)))) (NE sc a m cell l (some (.int k)) g6) = some (.int m1) :=
      bin_of (bin_of (bin_of (bin_of (x := .int cell) (y := .int 48271) rfl rfl (mul_r (by omega))) (bin_of (x := .int ((k : Int) + 1)) (y := .int 69621) rfl rfl (mul_r (by omega))) (add_i _ _)) (bin_of (x := .int (a : Int)) (y := .int 4001) rfl rfl (mul_r (by omega))) (add_i _ _)) (y := .int 2147483647) rfl (mod_i _ _ (by omega))
    have e2 : CE.sem T_55 (.bin .mod (.bin .add (.bin .mul (.var 6) (.var 6)) (.bin .mul (.cD (.int (16807))) (.bin .add (.var 5) (.cD (.int (3)))))) (.cD (.int (2147483629)))) (NE sc a m cell l (some (.int k)) (some (.int m1))) = some (.int m2) :=
      bin_of (bin_of (bin_of (x := .int m1) (y := .int m1) rfl rfl (mul_r (by omega))) (bin_of (x := .int 16807) (y := .int ((k : Int) + 3)) rfl rfl (mul_l _ (by omega))) (add_i _ _)) (y := .int 2147483629) rfl (mod_i _ _ (by omega))
    have e3 : CE.sem T_55 (.bin .mod (.bin .fdiv (.var 6) (.cD (.int (7)))) (.cD (.int (1009)))) (NE sc a m cell l (some (.int k)) (some (.int m2))) = some (.int (m2 / 7 % 1009)) :=
      bin_of (bin_of (x := .int m2) (y := .int 7) (d := .int (m2 / 7)) rfl rfl rfl) (y := .int 1009) rfl (mod_i _ _ (by omega))
    exact run_nx (ρ' := NE sc a m cell l (some (.int k)) (some (.int m1))) (asg_of e1) (run_nx (ρ' := NE sc a m cell l (some (.int k)) (some (.int m2))) (asg_of e2) (run_nx (app_ints e3 (by omega)) run_nil))
theorem numbers_gen (ns : List Int) (a m : Nat) (hm : m ≤ 1000) : ∃ l, s_f_law_numbers [.lst (ns.map D.int), .int (a : Nat), .int (m : Nat)] = some (.lst (l.map D.int)) ∧ IntsB l m := by
  have loop : ∀ cell : Int, 0 ≤ cell → ∃ l cell' g5 g6, CS.run T_55 (.fr (.nm 5) (.rng1 (.var 2)) Nb) (NE (.lst (ns.map D.int)) a m cell [] none none) = some (.nx (NE (.lst (ns.map D.int)) a m cell' l g5 g6)) ∧ IntsB l m := fun cell hcell => by
    obtain ⟨ρ', hf, cell', l, g5, g6, rfl, hl, _⟩ := frD_pre (t := fun x ρ => CT.bind (.nm 5) x ρ) (b := fun ρ => CB.run T_55 Nb ρ) (fun (k : Nat) => D.int (k : Int))
      (fun (ys : List Nat) ρ => ∃ cell' l g5 g6, ρ = NE (.lst (ns.map D.int)) a m cell' l g5 g6 ∧ IntsB l ys.length ∧ 0 ≤ cell') (List.range m) [] (NE (.lst (ns.map D.int)) a m cell [] none none)
      (fun ys k zs ρ e ⟨cell', l, g5, g6, eρ, hl, hc⟩ => by
        subst eρ
        rw [List.nil_append] at e
        have hy : ys.length ≤ 1000 := by
          have := congrArg List.length e
          rw [List.length_range, List.length_append] at this
          omega
        obtain ⟨c2, l2, g2, h1, h2, h3⟩ := num_turn (sc := .lst (ns.map D.int)) (k := k) (g6 := g6) hl hy hc
        exact ⟨NE (.lst (ns.map D.int)) a m cell' l (some (.int k)) g6, _, rfl, .inl h1, c2, l2, _, g2, rfl, by rw [List.length_append]; exact h2, h3⟩) ⟨cell, [], none, none, rfl, ⟨rfl, fun x hx => by cases hx⟩, hcell⟩
    exact ⟨l, cell', g5, g6, fr_of (rng1_of rfl (rng_nat m hm)) hf, by rw [List.nil_append, List.length_range] at hl; exact hl⟩
  -- the cell, made not negative
  have neg : ∀ cell : Int, ∃ cell', 0 ≤ cell' ∧ CS.run T_55 (.ife (.cmp .lt (.var 3) (.cD (.int (0)))) (.cons (.asg (.nm 3) (.bin .sub (.cD (.int (1))) (.bin .mul (.cD (.int (2))) (.var 3)))) .nil) .nil) [some (.lst (ns.map D.int)), some (.int (a : Nat)), some (.int (m : Nat)), some (.int cell), none, none, none] = some (.nx [some (.lst (ns.map D.int)), some (.int (a : Nat)), some (.int (m : Nat)), some (.int cell'), none, none, none]) := fun cell => by
    have cond : CE.sem T_55 (.cmp .lt (.var 3) (.cD (.int (0)))) [some (.lst (ns.map D.int)), some (.int (a : Nat)), some (.int (m : Nat)), some (.int cell), none, none, none] = some (.bl (decide (cell < 0))) := cmp1 rfl rfl rfl
    by_cases h : cell < 0
    · refine ⟨1 - 2 * cell, by omega, ife_bl cond ?_⟩
      rw [if_pos (by simpa using h)]
      exact run_nx (asg_of (bin_of rfl (bin_of rfl rfl rfl) rfl)) run_nil
    · refine ⟨cell, by omega, ife_bl cond ?_⟩
      rw [if_neg (by simpa using h)]
      rfl
  have two_ : ∃ cell : Int, ∀ {b : CB} {o : Option O}, CB.run T_55 b [some (.lst (ns.map D.int)), some (.int (a : Nat)), some (.int (m : Nat)), some (.int cell), none, none, none] = o → CB.run T_55 (.cons (.asg (.nm 3) (.bin .mul (.cD (.int (1000003))) (.bin .add (.var 1) (.cD (.int (1)))))) (.cons (.ife (.cmp .lt (.var 1) (.bi .len (.cons (.var 0) .nil))) (.cons (.asg (.nm 3) (.bi .int_ (.cons (.ix (.var 0) (.var 1)) .nil))) .nil) .nil) b)) [some (.lst (ns.map D.int)), some (.int (a : Nat)), some (.int (m : Nat)), none, none, none, none] = o := by
    have hc : CE.sem T_55 (.cmp .lt (.var 1) (.bi .len (.cons (.var 0) .nil))) [some (.lst (ns.map D.int)), some (.int (a : Nat)), some (.int (m : Nat)), some (.int (1000003 * ((a : Int) + 1))), none, none, none] = some (.bl (decide (a < ns.length))) := by
      refine cmp1 (x := .int (a : Nat)) (y := .int ((ns.map D.int).length : Nat)) rfl rfl ?_
      show some (decide ((a : Int) < ((ns.map D.int).length : Int))) = _
      rw [List.length_map, lt_nat]
    have h0 : CE.sem T_55 (.bin .mul (.cD (.int (1000003))) (.bin .add (.var 1) (.cD (.int (1))))) [some (.lst (ns.map D.int)), some (.int (a : Nat)), some (.int (m : Nat)), none, none, none, none] = some (.int (1000003 * ((a : Int) + 1))) := by
      refine bin_of (x := .int 1000003) (y := .int ((a : Int) + 1)) rfl rfl ?_
      show (if (-(2 ^ 64) < (1000003 : Int) ∧ (1000003 : Int) < 2 ^ 64) ∨ (-(2 ^ 64) < (a : Int) + 1 ∧ (a : Int) + 1 < 2 ^ 64) then some (D.int (1000003 * ((a : Int) + 1))) else none) = _
      rw [if_pos (.inl (by omega))]
    by_cases ha : a < ns.length
    · refine ⟨ns[a], fun h => run_nx (asg_of h0) (run_nx (ρ' := [some (.lst (ns.map D.int)), some (.int (a : Nat)), some (.int (m : Nat)), some (.int ns[a]), none, none, none]) (ife_bl hc ?_) h)⟩
      rw [if_pos (by simpa using ha)]
      refine run_nx (asg_of (d := .int ns[a]) (bi1 (ix_of rfl rfl (?_ : _ = some (D.int ns[a]))) rfl)) run_nil
      show L2.atI (ns.map D.int) (a : Int) = _
      rw [atI_nat (by rw [List.length_map]; exact ha), List.getElem?_map, List.getElem?_eq_getElem ha]
      rfl
    · refine ⟨1000003 * ((a : Int) + 1), fun h => run_nx (asg_of h0) (run_nx (ife_bl hc ?_) h)⟩
      rw [if_neg (by simpa using ha)]
      rfl
  obtain ⟨cell, h2⟩ := two_
  obtain ⟨cell', hc, h3⟩ := neg cell
  obtain ⟨l, cell'', g5, g6, h4, h5⟩ := loop cell' hc
  exact ⟨l, sem_rt rfl (h2 (run_nx h3 (run_nx rfl (run_nx h4 (run_rt rfl))))), h5⟩
def num (l : List Int) (k : Nat) : Nat := (l.getD k 0).toNat
theorem num_ix {l : List Int} {n : Nat} (hl : IntsB l n) {k : Nat} (hk : k < n) : ixD (.lst (l.map D.int)) (.int k) = some (.int (num l k : Nat)) := by
  obtain ⟨h1, h2⟩ := hl
  have hlt : k < l.length := by omega
  show L2.atI (l.map D.int) (k : Int) = _
  rw [atI_nat (by rw [List.length_map]; exact hlt), List.getElem?_map, List.getElem?_eq_getElem hlt]
  have := (h2 l[k] (List.getElem_mem _)).1
  show some (D.int l[k]) = some (D.int ((l.getD k 0).toNat : Int))
  rw [List.getD_eq_getElem?_getD, List.getElem?_eq_getElem hlt]
  show some (D.int l[k]) = some (D.int (l[k].toNat : Int))
  rw [Int.toNat_of_nonneg this]
end PW

set_option Elab.async false
set_option linter.all false
set_option maxRecDepth 100000
set_option maxHeartbeats 4000000
/-! W8: rounds that hang at each other. -/
namespace PW
open PySem PV LawC
/-- the k-th place of the s-th round -/
def nmR (s k : Nat) : Str := ⟨#[112 + s, 49 + k]⟩
def Rd (c : Nat → Nat) (s : Nat) : List Str := (List.range (c s)).map (nmR s)
def Vr (m : Nat) (c : Nat → Nat) : List Str := (List.range m).flatMap (Rd c)
def Sd (c : Nat → Nat) (w : Nat → Bool) (s : Nat) : List Sw := if 1 < c s then (List.range (c s)).map fun k => (nmR s k, nmR s ((k + 1) % c s), w s) else []
def Sr (m : Nat) (c : Nat → Nat) (w : Nat → Bool) : List Sw := (List.range m).flatMap (Sd c w)
def Ti (m : Nat) (f g : Nat → Nat) : List Sw := (List.range (m - 1)).map fun s => (nmR s (f s), nmR (s + 1) (g s), true)
theorem nmR_inj {s k s' k' : Nat} (h : nmR s k = nmR s' k') : s = s' ∧ k = k' := by
  unfold nmR at h
  simp at h
  exact h
def side (x : Str) : Nat := x.cps.toList.headD 0
theorem side_nm (s k : Nat) : side (nmR s k) = 112 + s := rfl
/-- what is asked of the numbers -/
structure Cfg (m : Nat) (c f g : Nat → Nat) : Prop where
  m1 : 1 ≤ m
  m3 : m ≤ 3
  c1 : ∀ s, 1 ≤ c s
  c3 : ∀ s, c s ≤ 3
  fc : ∀ s, f s < c s
  gc : ∀ s, g s < c (s + 1)
section
variable {m : Nat} {c f g : Nat → Nat} {w : Nat → Bool}
theorem mem_V {x : Str} : x ∈ Vr m c ↔ ∃ s k, s < m ∧ k < c s ∧ x = nmR s k := by
  unfold Vr Rd
  rw [List.mem_flatMap]
  constructor
  · rintro ⟨s, hs, h⟩
    obtain ⟨k, hk, rfl⟩ := List.mem_map.mp h
    exact ⟨s, k, List.mem_range.mp hs, List.mem_range.mp hk, rfl⟩
  · rintro ⟨s, k, hs, hk, rfl⟩
    exact ⟨s, List.mem_range.mpr hs, List.mem_map.mpr ⟨k, List.mem_range.mpr hk, rfl⟩⟩
theorem mem_S {e : Sw} : e ∈ Sr m c w ↔ ∃ s k, s < m ∧ 1 < c s ∧ k < c s ∧ e = (nmR s k, nmR s ((k + 1) % c s), w s) := by
  unfold Sr Sd
  rw [List.mem_flatMap]
  constructor
  · rintro ⟨s, hs, h⟩
    by_cases hc : 1 < c s
    · rw [if_pos hc] at h
      obtain ⟨k, hk, rfl⟩ := List.mem_map.mp h
      exact ⟨s, k, List.mem_range.mp hs, hc, List.mem_range.mp hk, rfl⟩
    · rw [if_neg hc] at h
      cases h
  · rintro ⟨s, k, hs, hc, hk, rfl⟩
    refine ⟨s, List.mem_range.mpr hs, ?_⟩
    rw [if_pos hc]
    exact List.mem_map.mpr ⟨k, List.mem_range.mpr hk, rfl⟩
theorem mem_T {e : Sw} : e ∈ Ti m f g ↔ ∃ s, s + 1 < m ∧ e = (nmR s (f s), nmR (s + 1) (g s), true) := by
  unfold Ti
  rw [List.mem_map]
  constructor
  · rintro ⟨s, hs, rfl⟩
    exact ⟨s, by have := List.mem_range.mp hs; omega, rfl⟩
  · rintro ⟨s, hs, rfl⟩
    exact ⟨s, List.mem_range.mpr (by omega), rfl⟩
/-! ### the places -/
def chkV (m c0 c1 c2 : Nat) : Bool := let V := Vr m fun s => match s with | 0 => c0 | 1 => c1 | _ => c2
  isT (s_f_are_places [.lst (strsL V)]) && decide V.Nodup && decide (V.length ≤ 9)
theorem all_V : ((List.range 3).all fun m => (List.range 3).all fun a => (List.range 3).all fun b => (List.range 3).all fun d => chkV (m + 1) (a + 1) (b + 1) (d + 1)) = true := by decide +kernel
theorem V_ok (h : Cfg m c f g) : s_f_are_places [.lst (strsL (Vr m c))] = some (.bl true) ∧ (Vr m c).Nodup ∧ (Vr m c).length ≤ 9 := by
  have e : Vr m c = Vr m fun s => match s with | 0 => c 0 | 1 => c 1 | _ => c 2 := by
    unfold Vr
    refine congrArg List.flatten (List.map_congr_left fun s hs => ?_)
    have hs := List.mem_range.mp hs
    have := h.m3
    unfold Rd
    match s, hs with
    | 0, _ => rfl
    | 1, _ => rfl
    | 2, _ => rfl
    | s + 3, hs => omega
  have hm := h.m1
  have hm3 := h.m3
  have a1 := h.c1 0
  have a2 := h.c3 0
  have b1 := h.c1 1
  have b2 := h.c3 1
  have d1 := h.c1 2
  have d2 := h.c3 2
  have hh := List.all_eq_true.mp (List.all_eq_true.mp (List.all_eq_true.mp (List.all_eq_true.mp all_V (m - 1) (List.mem_range.mpr (by omega))) (c 0 - 1) (List.mem_range.mpr (by omega))) (c 1 - 1) (List.mem_range.mpr (by omega))) (c 2 - 1) (List.mem_range.mpr (by omega))
  rw [show m - 1 + 1 = m by omega, show c 0 - 1 + 1 = c 0 by omega, show c 1 - 1 + 1 = c 1 by omega, show c 2 - 1 + 1 = c 2 by omega] at hh
  unfold chkV at hh
  obtain ⟨hh, h3⟩ := ands hh
  obtain ⟨h1, h2⟩ := ands hh
  rw [e]
  exact ⟨isT_ok h1, of_decide_eq_true h2, of_decide_eq_true h3⟩
theorem len_T : (Ti m f g).length = m - 1 := by unfold Ti; rw [List.length_map, List.length_range]
theorem len_Sd (h : Cfg m c f g) (s : Nat) : (Sd c w s).length ≤ 3 := by
  have := h.c3 s
  unfold Sd
  split
  · rw [List.length_map, List.length_range]; exact this
  · exact Nat.zero_le _
theorem len_S (h : Cfg m c f g) : ∀ n, (Sr n c w).length ≤ 3 * n
  | 0 => Nat.le_refl _
  | n + 1 => by
    have := len_S h n
    have h2 := len_Sd (w := w) h n
    unfold Sr at *
    rw [List.range_succ, List.flatMap_append, List.length_append, List.flatMap_cons, List.flatMap_nil, List.append_nil]
    omega
theorem ends_S (h : Cfg m c f g) {e : Sw} (he : e ∈ Sr m c w) : (e.1 ∈ Vr m c ∧ e.2.1 ∈ Vr m c) ∧ e.1 ≠ e.2.1 := by
  obtain ⟨s, k, hs, hc, hk, rfl⟩ := mem_S.mp he
  have := h.c3 s
  refine ⟨⟨mem_V.mpr ⟨s, k, hs, hk, rfl⟩, mem_V.mpr ⟨s, _, hs, Nat.mod_lt _ (by omega), rfl⟩⟩, fun z => ?_⟩
  have := (nmR_inj z).2
  by_cases hlt : k + 1 < c s
  · rw [Nat.mod_eq_of_lt hlt] at this
    omega
  · have hz : k + 1 = c s := by omega
    rw [hz, Nat.mod_self] at this
    omega
theorem ends_T (h : Cfg m c f g) {e : Sw} (he : e ∈ Ti m f g) : (e.1 ∈ Vr m c ∧ e.2.1 ∈ Vr m c) ∧ e.1 ≠ e.2.1 := by
  obtain ⟨s, hs, rfl⟩ := mem_T.mp he
  refine ⟨⟨mem_V.mpr ⟨s, _, by omega, h.fc s, rfl⟩, mem_V.mpr ⟨s + 1, _, hs, h.gc s, rfl⟩⟩, fun z => ?_⟩
  have := (nmR_inj z).1
  omega
/-- towns whose streets are ties and streets of rounds -/
theorem wtown (h : Cfg m c f g) {E : List Sw} (hE : ∀ e ∈ E, e ∈ Ti m f g ∨ e ∈ Sr m c w) (hl : E.length ≤ 24) : WTown (Vr m c) E := by
  obtain ⟨a, b, d⟩ := V_ok h
  have hm := h.m1
  have hc := h.c1 0
  refine ⟨⟨b, fun e he => ?_, by omega, by omega, List.ne_nil_of_mem (mem_V.mpr ⟨0, 0, by omega, by omega, rfl⟩)⟩, a, hl, fun e he => ?_⟩
  · rcases hE e he with z | z
    · exact (ends_T h z).1
    · exact (ends_S h z).1
  · rcases hE e he with z | z
    · exact (ends_T h z).2
    · exact (ends_S h z).2
/-! ### everybody gets everywhere -/
theorem drive_of {E : List Sw} {e : Sw} (he : e ∈ E) {χ : Str → Bool} (hc : ∀ d ∈ dre E, χ d.2.1 = true → χ d.2.2 = true) : (χ e.1 = true → χ e.2.1 = true) ∧ (e.2.2 = true → χ e.2.1 = true → χ e.1 = true) := by
  obtain ⟨i, hi, rfl⟩ := List.mem_iff_getElem.mp he
  have hp : (E[i], i) ∈ E.zipIdx := List.mk_mem_zipIdx_iff_getElem?.mpr (List.getElem?_eq_getElem hi)
  exact ⟨hc (i, E[i].1, E[i].2.1) (List.mem_flatMap.mpr ⟨_, hp, mem_drv.mpr (.inl rfl)⟩), fun hw => hc (i, E[i].2.1, E[i].1) (List.mem_flatMap.mpr ⟨_, hp, mem_drv.mpr (.inr ⟨hw, rfl⟩)⟩)⟩
/-- going once round -/
theorem round_const {n : Nat} (hn : n ≤ 3) {χ : Nat → Bool} (h : ∀ k, 1 < n → k < n → χ k = true → χ ((k + 1) % n) = true) : ∀ k, k < n → χ k = χ 0 := fun k hk => by
  match n, hn, hk with
  | 1, _, hk => rw [show k = 0 by omega]
  | 2, _, hk =>
    have h0 : χ 0 = true → χ 1 = true := h 0 (by omega) (by omega)
    have h1 : χ 1 = true → χ 0 = true := h 1 (by omega) (by omega)
    match k, hk with
    | 0, _ => rfl
    | 1, _ => exact bool_iff h1 h0
  | 3, _, hk =>
    have h0 : χ 0 = true → χ 1 = true := h 0 (by omega) (by omega)
    have h1 : χ 1 = true → χ 2 = true := h 1 (by omega) (by omega)
    have h2 : χ 2 = true → χ 0 = true := h 2 (by omega) (by omega)
    match k, hk with
    | 0, _ => rfl
    | 1, _ => exact bool_iff (fun z => h2 (h1 z)) h0
    | 2, _ => exact bool_iff h2 fun z => h1 (h0 z)
theorem strong_ok (h : Cfg m c f g) {E : List Sw} (hS : ∀ e ∈ Sr m c w, e ∈ E) (hT : ∀ e ∈ Ti m f g, e ∈ E) : Strong (Vr m c) (dre E) := fun χ hc u hu v hv hχ => by
  have rnd : ∀ s, s < m → ∀ k, k < c s → χ (nmR s k) = χ (nmR s 0) := fun s hs => round_const (h.c3 s) (χ := fun k => χ (nmR s k)) fun k h1 hk => (drive_of (hS _ (mem_S.mpr ⟨s, k, hs, h1, hk, rfl⟩)) hc).1
  have tie : ∀ s, s + 1 < m → χ (nmR (s + 1) 0) = χ (nmR s 0) := fun s hs => by
    obtain ⟨d1, d2⟩ := drive_of (hT _ (mem_T.mpr ⟨s, hs, rfl⟩)) hc
    have e1 : χ (nmR s (f s)) = χ (nmR (s + 1) (g s)) := bool_iff d1 (d2 rfl)
    rw [rnd s (by omega) _ (h.fc s), rnd (s + 1) hs _ (h.gc s)] at e1
    exact e1.symm
  have all0 : ∀ s, s < m → χ (nmR s 0) = χ (nmR 0 0) := fun s => by
    induction s with
    | zero => intro _; rfl
    | succ s ih =>
      intro hs
      rw [tie s hs, ih (by omega)]
  obtain ⟨s, k, hs, hk, rfl⟩ := mem_V.mp hu
  obtain ⟨s', k', hs', hk', rfl⟩ := mem_V.mp hv
  rw [rnd s hs k hk, all0 s hs] at hχ
  rw [rnd s' hs' k' hk', all0 s' hs']
  exact hχ
/-! ### links -/
theorem open_mem {E : List Sw} {i : Nat} {χ : Str → Bool} (ho : Open (jn E) [i] χ) {x e : Sw} (hx : E[i]? = some x) (he : e ∈ E) (hne : (e.1, e.2.1) ≠ (x.1, x.2.1)) : χ e.1 = χ e.2.1 := by
  obtain ⟨j, hj, rfl⟩ := List.mem_iff_getElem.mp he
  refine open_get.mp ho j (E[j].1, E[j].2.1) (jn_get (List.getElem?_eq_getElem hj)) fun z => hne ?_
  obtain rfl := List.mem_singleton.mp z
  rw [List.getElem?_eq_getElem hj] at hx
  cases hx
  rfl
theorem round_rest {n : Nat} (hn : n ≤ 3) {χ : Nat → Bool} {k : Nat} (hk : k < n) (h1 : 1 < n) (h : ∀ j, j < n → j ≠ k → χ j = χ ((j + 1) % n)) : χ ((k + 1) % n) = χ k := by
  match n, hn, hk, h1 with
  | 2, _, hk, _ =>
    match k, hk with
    | 0, _ => exact h 1 (by omega) (by omega)
    | 1, _ => exact h 0 (by omega) (by omega)
  | 3, _, hk, _ =>
    match k, hk with
    | 0, _ => exact (h 1 (by omega) (by omega)).trans (h 2 (by omega) (by omega))
    | 1, _ => exact (h 2 (by omega) (by omega)).trans (h 0 (by omega) (by omega))
    | 2, _ => exact (h 0 (by omega) (by omega)).trans (h 1 (by omega) (by omega))
theorem no_link (h : Cfg m c f g) {E : List Sw} (hS : ∀ e ∈ Sr m c w, e ∈ E) {i : Nat} {x : Sw} (hx : E[i]? = some x) (hm : x ∈ Sr m c w) : lnk E i = false := by
  rw [lnk_val hx, Bool.not_eq_false', hangs_iff]
  obtain ⟨s, k, hs, hc, hk, rfl⟩ := mem_S.mp hm
  intro χ ho
  refine round_rest (h.c3 s) (χ := fun k => χ (nmR s k)) hk hc fun j hj hjk => ?_
  exact open_mem ho hx (hS _ (mem_S.mpr ⟨s, j, hs, hc, hj, rfl⟩)) fun z => hjk (nmR_inj (Prod.mk.inj z).1).2
theorem tie_get {i : Nat} (hi : i + 1 < m) : (Ti m f g)[i]? = some (nmR i (f i), nmR (i + 1) (g i), true) := by
  unfold Ti
  rw [List.getElem?_map, List.getElem?_range (by omega)]
  rfl
theorem tie_link (h : Cfg m c f g) {i : Nat} (hi : i + 1 < m) : lnk (Ti m f g ++ Sr m c w) i = true := by
  have hx : (Ti m f g ++ Sr m c w)[i]? = some (nmR i (f i), nmR (i + 1) (g i), true) := by
    rw [List.getElem?_append_left (by rw [len_T]; omega)]
    exact tie_get hi
  rw [lnk_val hx, Bool.not_eq_true', ← Bool.not_eq_true, hangs_iff]
  intro hh
  have := hh (fun y => decide (side y ≤ 112 + i)) (open_get.mpr fun j e he hj => by
    have hj : j ≠ i := by simpa using hj
    rw [List.getElem?_map] at he
    obtain ⟨q, hq, rfl⟩ := Option.map_eq_some_iff.mp he
    by_cases hlt : j < m - 1
    · rw [List.getElem?_append_left (by rw [len_T]; exact hlt), tie_get (by omega)] at hq
      cases hq
      show decide (112 + j ≤ 112 + i) = decide (112 + (j + 1) ≤ 112 + i)
      exact decide_eq_decide.mpr (by omega)
    · rw [List.getElem?_append_right (by rw [len_T]; omega)] at hq
      obtain ⟨s, k, hs, hc, hk, rfl⟩ := mem_S.mp (List.mem_of_getElem? hq)
      rfl)
  have : decide (112 + (i + 1) ≤ 112 + i) = decide (112 + i ≤ 112 + i) := this
  rw [decide_eq_false (by omega), decide_eq_true (by omega)] at this
  cases this
theorem links_town (h : Cfg m c f g) {i : Nat} (hi : i < (Ti m f g ++ Sr m c w).length) : lnk (Ti m f g ++ Sr m c w) i = decide (i < m - 1) := by
  by_cases hlt : i < m - 1
  · rw [decide_eq_true hlt]
    exact tie_link h (by omega)
  · rw [decide_eq_false hlt]
    have hx := List.getElem?_eq_getElem hi
    refine no_link h (fun e he => List.mem_append.mpr (.inr he)) hx ?_
    rw [List.getElem?_append_right (by rw [len_T]; omega)] at hx
    exact List.mem_of_getElem? hx
theorem links_double (h : Cfg m c f g) {i : Nat} (hi : i < (Ti m f g ++ Ti m f g ++ Sr m c w).length) : lnk (Ti m f g ++ Ti m f g ++ Sr m c w) i = false := by
  have hx := List.getElem?_eq_getElem hi
  by_cases hlt : i < (Ti m f g ++ Ti m f g).length
  · rw [lnk_val hx, Bool.not_eq_false', hangs_iff]
    intro χ ho
    have hl := len_T (m := m) (f := f) (g := g)
    rw [List.length_append, hl] at hlt
    generalize hE : Ti m f g ++ Ti m f g ++ Sr m c w = E at hi hx ho
    have other : ∃ j, j ≠ i ∧ E[j]? = some E[i] := by
      rw [← hx]
      have g1 : ∀ k, k < m - 1 → E[k]? = (Ti m f g)[k]? := fun k hk => by
        rw [← hE, List.append_assoc, List.getElem?_append_left (by rw [hl]; exact hk)]
      have g2 : ∀ k, k < m - 1 → E[k + (m - 1)]? = (Ti m f g)[k]? := fun k hk => by
        rw [← hE, List.append_assoc, List.getElem?_append_right (by rw [hl]; omega), hl, Nat.add_sub_cancel, List.getElem?_append_left (by rw [hl]; exact hk)]
      by_cases h1 : i < m - 1
      · exact ⟨i + (m - 1), by omega, by rw [g1 i h1, g2 i h1]⟩
      · refine ⟨i - (m - 1), by omega, ?_⟩
        have := g2 (i - (m - 1)) (by omega)
        rw [show i - (m - 1) + (m - 1) = i by omega] at this
        rw [g1 _ (by omega), this]
    obtain ⟨j, hj, ej⟩ := other
    exact (open_get.mp ho j _ (jn_get ej) (by simpa using hj)).symm
  · refine no_link h (fun e he => List.mem_append.mpr (.inr he)) hx ?_
    rw [List.getElem?_append_right (by omega)] at hx
    exact List.mem_of_getElem? hx
theorem range_lt {n p : Nat} (h : p ≤ n) : (List.range n).filter (fun k => decide (k < p)) = List.range p := by
  obtain ⟨q, rfl⟩ : ∃ q, n = p + q := ⟨n - p, by omega⟩
  rw [List.range_add, List.filter_append, List.filter_eq_self.mpr fun a ha => decide_eq_true (List.mem_range.mp ha), List.filter_eq_nil_iff.mpr fun a ha => by
    obtain ⟨b, _, rfl⟩ := List.mem_map.mp ha
    simp, List.append_nil]
theorem links_list (h : Cfg m c f g) : (List.range (Ti m f g ++ Sr m c w).length).filter (lnk (Ti m f g ++ Sr m c w)) = List.range (m - 1) := by
  rw [List.filter_congr fun i hi => links_town h (List.mem_range.mp hi)]
  refine range_lt ?_
  rw [List.length_append, len_T]
  omega
theorem stay_town (h : Cfg m c f g) : stayN (Ti m f g ++ Sr m c w) = List.range (m - 1) := by
  unfold stayN
  rw [links_list h]
  refine List.filter_eq_self.mpr fun i hi => decide_eq_true (mem_two.mpr ⟨(nmR i (f i), nmR (i + 1) (g i), true), ?_, rfl⟩)
  have hi := List.mem_range.mp hi
  rw [List.getElem?_append_left (by rw [len_T]; omega)]
  exact tie_get (by omega)
theorem stay_double (h : Cfg m c f g) : stayN (Ti m f g ++ Ti m f g ++ Sr m c w) = [] := by
  unfold stayN
  have e : (List.range (Ti m f g ++ Ti m f g ++ Sr m c w).length).filter (lnk (Ti m f g ++ Ti m f g ++ Sr m c w)) = [] := List.filter_eq_nil_iff.mpr fun i hi => by rw [links_double h (List.mem_range.mp hi)]; simp
  rw [e]
  rfl
end
end PW

set_option Elab.async false
set_option linter.all false
set_option maxRecDepth 100000
set_option maxHeartbeats 4000000
/-! W9: the law's rounds, by the code. -/
namespace PW
open PySem PV LawC
theorem add_nat (a b : Nat) : binD .add (.int (a : Int)) (.int (b : Int)) = some (.int ((a + b : Nat) : Int)) := by
  show some (D.int ((a : Int) + (b : Int))) = _
  rw [Int.natCast_add]
theorem mod_nat (a n : Nat) (h : 0 < n) : binD .mod (.int (a : Int)) (.int (n : Int)) = some (.int ((a % n : Nat) : Int)) := law_mod a n h
theorem sub_one (j : Nat) : binD .sub (.int ((j + 1 : Nat) : Int)) (.int 1) = some (.int (j : Int)) := by
  show some (D.int (((j + 1 : Nat) : Int) - 1)) = _
  congr 2
  omega
theorem pq_ok : ∀ j k : Nat, j < 3 → k < 3 → ((ixD (.str (Str.ofString "pqr")) (.int j)).bind fun x => (ixD (.str (Str.ofString "123")) (.int k)).bind fun y => binD .add x y) = some (.str (nmR j k))
  | 0, 0, _, _ => rfl | 0, 1, _, _ => rfl | 0, 2, _, _ => rfl | 1, 0, _, _ => rfl | 1, 1, _, _ => rfl | 1, 2, _, _ => rfl | 2, 0, _, _ => rfl | 2, 1, _, _ => rfl | 2, 2, _, _ => rfl
  | j + 3, _, h, _ => absurd h (by omega)
  | 0, k + 3, _, h => absurd h (by omega)
  | 1, k + 3, _, h => absurd h (by omega)
  | 2, k + 3, _, h => absurd h (by omega)
section
variable {l : List Int} {sc : D}
def cN (l : List Int) (s : Nat) : Nat := 1 + num l (1 + s) % 3
def wN (l : List Int) (s : Nat) : Bool := decide (num l (4 + s) % 2 = 0)
def fN (l : List Int) (s : Nat) : Nat := num l (8 + (s + 1)) % cN l s
def gN (l : List Int) (s : Nat) : Nat := num l (12 + (s + 1)) % cN l (s + 1)
def mN (l : List Int) : Nat := 1 + num l 0 % 3
theorem c_pos (s : Nat) : 0 < cN l s := by unfold cN; omega
theorem cfg (l : List Int) : Cfg (mN l) (cN l) (fN l) (gN l) :=
  ⟨by unfold mN; omega, by unfold mN; have := Nat.mod_lt (num l 0) (show 0 < 3 by decide); omega, fun s => by unfold cN; omega, fun s => by unfold cN; have := Nat.mod_lt (num l (1 + s)) (show 0 < 3 by decide); omega, fun s => Nat.mod_lt _ (c_pos s), fun s => Nat.mod_lt _ (c_pos (s + 1))⟩
/-- the names: script, numbers, rounds, ties, streets, side, places, listed, whole, town, told, double, count, k, first -/
abbrev QE (sc : D) (l : List Int) (ro : List (List Str)) (ti st : List Sw) (g5 g12 g13 g14 : Option D) : Env := [some sc, some (.lst (l.map D.int)), some (.lst (lsL ro)), some (.lst (swL ti)), some (.lst (swL st)), g5, none, none, none, none, none, none, g12, g13, g14]
theorem qe_st {ro : List (List Str)} {ti st : List Sw} {e : Sw} {g5 g12 g13 g14 : Option D} : QE sc l ro ti (st ++ [e]) g5 g12 g13 g14 = [some sc, some (.lst (l.map D.int)), some (.lst (lsL ro)), some (.lst (swL ti)), some (.lst (swL st ++ [eW e])), g5, none, none, none, none, none, none, g12, g13, g14] := by
  unfold QE swL
  rw [List.map_append]
  rfl
theorem qe_ti {ro : List (List Str)} {ti st : List Sw} {e : Sw} {g5 g12 g13 g14 : Option D} : QE sc l ro (ti ++ [e]) st g5 g12 g13 g14 = [some sc, some (.lst (l.map D.int)), some (.lst (lsL ro)), some (.lst (swL ti ++ [eW e])), some (.lst (swL st)), g5, none, none, none, none, none, none, g12, g13, g14] := by
  unfold QE swL
  rw [List.map_append]
  rfl
theorem qe_ro {ro : List (List Str)} {r : List Str} {ti st : List Sw} {g5 g12 g13 g14 : Option D} : QE sc l (ro ++ [r]) ti st g5 g12 g13 g14 = [some sc, some (.lst (l.map D.int)), some (.lst (lsL ro ++ [.lst (strsL r)])), some (.lst (swL ti)), some (.lst (swL st)), g5, none, none, none, none, none, none, g12, g13, g14] := by
  unfold QE lsL
  rw [List.map_append]
  rfl
theorem ls_ix {ro : List (List Str)} {j : Nat} {r : List Str} (h : ro[j]? = some r) : ixD (.lst (lsL ro)) (.int j) = some (.lst (strsL r)) := by
  have hlt := (List.getElem?_eq_some_iff.mp h).1
  show L2.atI (lsL ro) (j : Int) = _
  unfold lsL
  rw [atI_nat (by rw [List.length_map]; exact hlt), List.getElem?_map, h]
  rfl
theorem Rd_get {c : Nat → Nat} {s k : Nat} (hk : k < c s) : (Rd c s)[k]? = some (nmR s k) := by
  unfold Rd
  rw [List.getElem?_map, List.getElem?_range hk]
  rfl
theorem rounds_get {c : Nat → Nat} {n s : Nat} (hs : s < n) : ((List.range n).map (Rd c))[s]? = some (Rd c s) := by
  rw [List.getElem?_map, List.getElem?_range hs]
  rfl
abbrev Qb : CE := .lc [(Str.ofString "k", 13)] (.nm 13) (.rng1 (.var 12)) .nil (.bin .add (.ix (.cD (.str (Str.ofString "pqr"))) (.var 5)) (.ix (.cD (.str (Str.ofString "123"))) (.var 13)))
abbrev Qk : CB := (.cons (.app 4 (.tup (.cons (.ix (.ix (.var 2) (.var 5)) (.var 13)) (.cons (.ix (.ix (.var 2) (.var 5)) (.bin .mod (.bin .add (.var 13) (.cD (.int (1)))) (.var 12))) (.cons (.ix (.lst (.cons (.cD (.str (Str.ofString "two"))) (.cons (.cD (.str (Str.ofString "one"))) .nil))) (.bin .mod (.ix (.var 1) (.bin .add (.cD (.int (4))) (.var 5))) (.cD (.int (2))))) .nil))))) .nil)
abbrev Qt : CB := (.cons (.asg (.nm 14) (.ix (.ix (.var 2) (.bin .sub (.var 5) (.cD (.int (1))))) (.bin .mod (.ix (.var 1) (.bin .add (.cD (.int (8))) (.var 5))) (.bi .len (.cons (.ix (.var 2) (.bin .sub (.var 5) (.cD (.int (1))))) .nil))))) (.cons (.app 3 (.tup (.cons (.var 14) (.cons (.ix (.ix (.var 2) (.var 5)) (.bin .mod (.ix (.var 1) (.bin .add (.cD (.int (12))) (.var 5))) (.var 12))) (.cons (.cD (.str (Str.ofString "two"))) .nil))))) .nil))
abbrev Qs : CB := (.cons (.asg (.nm 12) (.bin .add (.cD (.int (1))) (.bin .mod (.ix (.var 1) (.bin .add (.cD (.int (1))) (.var 5))) (.cD (.int (3)))))) (.cons (.app 2 Qb) (.cons (.ife (.cmp .gt (.var 12) (.cD (.int (1)))) (.cons (.fr (.nm 13) (.rng1 (.var 12)) Qk) .nil) .nil) (.cons (.ife (.cmp .gt (.var 5) (.cD (.int (0)))) Qt .nil) .nil))))
theorem num_at {T : Tab} {ρ : Env} {a j : Nat} (hl : IntsB l 30) (h1 : ρ[1]? = some (some (.lst (l.map D.int)))) (h5 : ρ[5]? = some (some (.int (j : Nat)))) (hk : a + j < 30) : CE.sem T (.ix (.var 1) (.bin .add (.cD (.int (a : Nat))) (.var 5))) ρ = some (.int (num l (a + j) : Nat)) := by
  have v1 : CE.sem T (.var 1) ρ = some (.lst (l.map D.int)) := by show (ρ[1]?).bind id = _; rw [h1]; rfl
  have v5 : CE.sem T (.var 5) ρ = some (.int (j : Nat)) := by show (ρ[5]?).bind id = _; rw [h5]; rfl
  exact ix_of v1 (bin_of rfl v5 (add_nat a j)) (num_ix hl hk)
theorem word_ok {n : Nat} : ixD (.lst [.str (Str.ofString "two"), .str (Str.ofString "one")]) (.int ((n % 2 : Nat) : Int)) = some (.str (wd (decide (n % 2 = 0)))) := by
  have : n % 2 < 2 := Nat.mod_lt _ (by decide)
  generalize n % 2 = r at *
  match r, this with
  | 0, _ => rfl
  | 1, _ => rfl
theorem round_run {j : Nat} {ro : List (List Str)} {ti st : List Sw} {g13 g14 : Option D} (hl : IntsB l 30) (hj : j < 3) (hro : ro[j]? = some (Rd (cN l) j)) (hst : st.length ≤ 20) :
    ∃ g13', CS.run T_60 (.fr (.nm 13) (.rng1 (.var 12)) Qk) (QE sc l ro ti st (some (.int j)) (some (.int (cN l j : Nat))) g13 g14) = some (.nx (QE sc l ro ti (st ++ (List.range (cN l j)).map fun k => (nmR j k, nmR j ((k + 1) % cN l j), wN l j)) (some (.int j)) (some (.int (cN l j : Nat))) g13' g14)) := by
  have hc3 := (cfg l).c3 j
  have hc0 := c_pos (l := l) j
  generalize hss : ((List.range (cN l j)).map fun k => ((nmR j k, nmR j ((k + 1) % cN l j), wN l j) : Sw)) = ss
  have hsl : ss.length = cN l j := by rw [← hss, List.length_map, List.length_range]
  obtain ⟨ρ', hf, g13', rfl⟩ := frD_pre (t := fun x ρ => CT.bind (.nm 13) x ρ) (b := fun ρ => CB.run T_60 Qk ρ) (fun (k : Nat) => D.int (k : Int))
    (fun (ys : List Nat) ρ => ∃ g13, ρ = QE sc l ro ti (st ++ ss.take ys.length) (some (.int j)) (some (.int (cN l j : Nat))) g13 g14) (List.range (cN l j)) [] (QE sc l ro ti st (some (.int j)) (some (.int (cN l j : Nat))) g13 g14)
    (fun ys k zs ρ e ⟨g13, eρ⟩ => by
      subst eρ
      rw [List.nil_append] at e
      obtain ⟨hk1, _, hk⟩ := range_split e
      rw [← hk1]
      have hssk : ss[k]? = some (nmR j k, nmR j ((k + 1) % cN l j), wN l j) := by
        rw [← hss, List.getElem?_map, List.getElem?_range hk]
        rfl
      have htk : ss.take (k + 1) = ss.take k ++ [(nmR j k, nmR j ((k + 1) % cN l j), wN l j)] := by
        rw [List.take_add_one, hssk]
        rfl
      have hr : CE.sem T_60 (.ix (.var 2) (.var 5)) (QE sc l ro ti (st ++ ss.take k) (some (.int j)) (some (.int (cN l j : Nat))) (some (.int k)) g14) = some (.lst (strsL (Rd (cN l) j))) := ix_of rfl rfl (ls_ix hro)
      have h2 : CE.sem T_60 (.bin .mod (.bin .add (.var 13) (.cD (.int (1)))) (.var 12)) (QE sc l ro ti (st ++ ss.take k) (some (.int j)) (some (.int (cN l j : Nat))) (some (.int k)) g14) = some (.int (((k + 1) % cN l j : Nat) : Int)) := bin_of (bin_of (y := .int ((1 : Nat) : Int)) rfl rfl (add_nat k 1)) rfl (mod_nat _ _ hc0)
      have h3 : CE.sem T_60 (.ix (.lst (.cons (.cD (.str (Str.ofString "two"))) (.cons (.cD (.str (Str.ofString "one"))) .nil))) (.bin .mod (.ix (.var 1) (.bin .add (.cD (.int (4))) (.var 5))) (.cD (.int (2))))) (QE sc l ro ti (st ++ ss.take k) (some (.int j)) (some (.int (cN l j : Nat))) (some (.int k)) g14) = some (.str (wd (wN l j))) :=
        ix_of rfl (bin_of (y := .int ((2 : Nat) : Int)) (num_at (a := 4) hl rfl rfl (by omega)) rfl (mod_nat _ 2 (by decide))) word_ok
      refine ⟨QE sc l ro ti (st ++ ss.take k) (some (.int j)) (some (.int (cN l j : Nat))) (some (.int k)) g14, QE sc l ro ti (st ++ ss.take (k + 1)) (some (.int j)) (some (.int (cN l j : Nat))) (some (.int k)) g14, rfl, .inl (run_nx (app_of (tup_of (es_cons (ix_of hr rfl (strs_ix (Rd_get hk))) (es_cons (ix_of hr h2 (strs_ix (Rd_get (Nat.mod_lt _ hc0)))) (es_cons h3 es_nil)))) rfl (by rw [len_sts, List.length_append, List.length_take]; unfold LIM; omega)) ?_), _, by rw [List.length_append, ← hk1]; rfl⟩
      rw [htk, ← List.append_assoc, qe_st]
      rfl) ⟨g13, by rw [List.length_nil, List.take_zero, List.append_nil]⟩
  rw [List.nil_append, List.length_range, ← hsl, List.take_length] at hf
  rw [hsl] at hf
  exact ⟨_, fr_of (rng1_of rfl (rng_nat _ (by omega))) hf⟩
theorem side_run {j : Nat} {g5 g12 g13 g14 : Option D} (hl : IntsB l 30) (hj : j < 3) :
    ∃ g12' g13' g14', CB.run T_60 Qs (QE sc l ((List.range j).map (Rd (cN l))) (Ti j (fN l) (gN l)) (Sr j (cN l) (wN l)) (some (.int j)) g12 g13 g14) = some (.nx (QE sc l ((List.range (j + 1)).map (Rd (cN l))) (Ti (j + 1) (fN l) (gN l)) (Sr (j + 1) (cN l) (wN l)) (some (.int j)) g12' g13' g14')) := by
  have hc3 := (cfg l).c3 j
  have hc0 := c_pos (l := l) j
  have hm3 := (cfg l).m3
  have hSl := len_S (w := wN l) (cfg l) j
  have hTl := len_T (m := j) (f := fN l) (g := gN l)
  have e12 : CE.sem T_60 (.bin .add (.cD (.int (1))) (.bin .mod (.ix (.var 1) (.bin .add (.cD (.int (1))) (.var 5))) (.cD (.int (3))))) (QE sc l ((List.range j).map (Rd (cN l))) (Ti j (fN l) (gN l)) (Sr j (cN l) (wN l)) (some (.int j)) g12 g13 g14) = some (.int (cN l j : Nat)) :=
    bin_of (x := .int ((1 : Nat) : Int)) rfl (bin_of (y := .int ((3 : Nat) : Int)) (num_at (a := 1) hl rfl rfl (by omega)) rfl (mod_nat _ 3 (by decide))) (add_nat 1 _)
  have eb : CE.sem T_60 Qb (QE sc l ((List.range j).map (Rd (cN l))) (Ti j (fN l) (gN l)) (Sr j (cN l) (wN l)) (some (.int j)) (some (.int (cN l j : Nat))) g13 g14) = some (.lst (strsL (Rd (cN l) j))) := by
    have h2 := lc_all (T := T_60) (own := [(Str.ofString "k", 13)]) (t := .nm 13) (elt := .bin .add (.ix (.cD (.str (Str.ofString "pqr"))) (.var 5)) (.ix (.cD (.str (Str.ofString "123"))) (.var 13))) (ρ := QE sc l ((List.range j).map (Rd (cN l))) (Ti j (fN l) (gN l)) (Sr j (cN l) (wN l)) (some (.int j)) (some (.int (cN l j : Nat))) g13 g14) (fun (k : Nat) => D.int (k : Int)) (fun k => D.str (nmR j k)) (List.range (cN l j))
      fun k hk => ⟨QE sc l ((List.range j).map (Rd (cN l))) (Ti j (fN l) (gN l)) (Sr j (cN l) (wN l)) (some (.int j)) (some (.int (cN l j : Nat))) (some (.int k)) g14, rfl, by
        have hk := List.mem_range.mp hk
        exact pq_ok j k hj (by omega)⟩
    rw [lc_of (rng1_of rfl (rng_nat _ (by omega))) h2]
    unfold Rd strsL
    rw [List.map_map]
    rfl
  have hro : ((List.range (j + 1)).map (Rd (cN l))) = (List.range j).map (Rd (cN l)) ++ [Rd (cN l) j] := by rw [List.range_succ, List.map_append]; rfl
  have hS : Sr (j + 1) (cN l) (wN l) = Sr j (cN l) (wN l) ++ Sd (cN l) (wN l) j := by
    unfold Sr
    rw [List.range_succ, List.flatMap_append, List.flatMap_cons, List.flatMap_nil, List.append_nil]
  -- the streets of the round
  have hstr : ∃ g13', CB.run T_60 (.cons (.ife (.cmp .gt (.var 12) (.cD (.int (1)))) (.cons (.fr (.nm 13) (.rng1 (.var 12)) Qk) .nil) .nil) (.cons (.ife (.cmp .gt (.var 5) (.cD (.int (0)))) Qt .nil) .nil)) (QE sc l ((List.range (j + 1)).map (Rd (cN l))) (Ti j (fN l) (gN l)) (Sr j (cN l) (wN l)) (some (.int j)) (some (.int (cN l j : Nat))) g13 g14) = CB.run T_60 (.cons (.ife (.cmp .gt (.var 5) (.cD (.int (0)))) Qt .nil) .nil) (QE sc l ((List.range (j + 1)).map (Rd (cN l))) (Ti j (fN l) (gN l)) (Sr (j + 1) (cN l) (wN l)) (some (.int j)) (some (.int (cN l j : Nat))) g13' g14) := by
    have hc : CE.sem T_60 (.cmp .gt (.var 12) (.cD (.int (1)))) (QE sc l ((List.range (j + 1)).map (Rd (cN l))) (Ti j (fN l) (gN l)) (Sr j (cN l) (wN l)) (some (.int j)) (some (.int (cN l j : Nat))) g13 g14) = some (.bl (decide (1 < cN l j))) := cmp1 (y := .int ((1 : Nat) : Int)) rfl rfl (gt_nat _ 1)
    rw [hS]
    unfold Sd
    by_cases h1 : 1 < cN l j
    · rw [if_pos h1]
      obtain ⟨g13', hr⟩ := round_run (sc := sc) (ti := Ti j (fN l) (gN l)) (st := Sr j (cN l) (wN l)) (g13 := g13) (g14 := g14) hl hj (ro := (List.range (j + 1)).map (Rd (cN l))) (rounds_get (by omega)) (by omega)
      refine ⟨g13', run_nx (ife_bl hc ?_) rfl⟩
      rw [if_pos (by simpa using h1)]
      exact run_nx hr run_nil
    · rw [if_neg h1, List.append_nil]
      refine ⟨g13, run_nx (ife_bl hc ?_) rfl⟩
      rw [if_neg (by simpa using h1)]
      rfl
  obtain ⟨g13', hstr⟩ := hstr
  -- the tie
  have htie : ∃ g14', CB.run T_60 (.cons (.ife (.cmp .gt (.var 5) (.cD (.int (0)))) Qt .nil) .nil) (QE sc l ((List.range (j + 1)).map (Rd (cN l))) (Ti j (fN l) (gN l)) (Sr (j + 1) (cN l) (wN l)) (some (.int j)) (some (.int (cN l j : Nat))) g13' g14) = some (.nx (QE sc l ((List.range (j + 1)).map (Rd (cN l))) (Ti (j + 1) (fN l) (gN l)) (Sr (j + 1) (cN l) (wN l)) (some (.int j)) (some (.int (cN l j : Nat))) g13' g14')) := by
    have hc : CE.sem T_60 (.cmp .gt (.var 5) (.cD (.int (0)))) (QE sc l ((List.range (j + 1)).map (Rd (cN l))) (Ti j (fN l) (gN l)) (Sr (j + 1) (cN l) (wN l)) (some (.int j)) (some (.int (cN l j : Nat))) g13' g14) = some (.bl (decide (0 < j))) := cmp1 (y := .int ((0 : Nat) : Int)) rfl rfl (gt_nat _ 0)
    cases j with
    | zero =>
      refine ⟨g14, run_nx (ife_bl hc ?_) run_nil⟩
      rw [if_neg (by simp)]
      rfl
    | succ s =>
      have hT : Ti (s + 1 + 1) (fN l) (gN l) = Ti (s + 1) (fN l) (gN l) ++ [(nmR s (fN l s), nmR (s + 1) (gN l s), true)] := by
        unfold Ti
        rw [show s + 1 + 1 - 1 = s + 1 by omega, show s + 1 - 1 = s by omega, List.range_succ, List.map_append]
        rfl
      have hr : ∀ {g14 : Option D}, CE.sem T_60 (.ix (.var 2) (.bin .sub (.var 5) (.cD (.int (1))))) (QE sc l ((List.range (s + 1 + 1)).map (Rd (cN l))) (Ti (s + 1) (fN l) (gN l)) (Sr (s + 1 + 1) (cN l) (wN l)) (some (.int ((s + 1 : Nat) : Int))) (some (.int (cN l (s + 1) : Nat))) g13' g14) = some (.lst (strsL (Rd (cN l) s))) := fun {g14} => ix_of rfl (bin_of rfl rfl (sub_one s)) (ls_ix (rounds_get (by omega)))
      have hf : CE.sem T_60 (.ix (.ix (.var 2) (.bin .sub (.var 5) (.cD (.int (1))))) (.bin .mod (.ix (.var 1) (.bin .add (.cD (.int (8))) (.var 5))) (.bi .len (.cons (.ix (.var 2) (.bin .sub (.var 5) (.cD (.int (1))))) .nil)))) (QE sc l ((List.range (s + 1 + 1)).map (Rd (cN l))) (Ti (s + 1) (fN l) (gN l)) (Sr (s + 1 + 1) (cN l) (wN l)) (some (.int ((s + 1 : Nat) : Int))) (some (.int (cN l (s + 1) : Nat))) g13' g14) = some (.str (nmR s (fN l s))) := by
        refine ix_of hr (bin_of (y := .int (cN l s : Nat)) (num_at (a := 8) hl rfl rfl (by omega)) (bi1 hr ?_) (mod_nat _ _ (c_pos s))) (strs_ix (Rd_get ((cfg l).fc s)))
        show some (D.int ((strsL (Rd (cN l) s)).length : Int)) = _
        rw [len_strs]
        unfold Rd
        rw [List.length_map, List.length_range]
      have hg : CE.sem T_60 (.ix (.ix (.var 2) (.var 5)) (.bin .mod (.ix (.var 1) (.bin .add (.cD (.int (12))) (.var 5))) (.var 12))) (QE sc l ((List.range (s + 1 + 1)).map (Rd (cN l))) (Ti (s + 1) (fN l) (gN l)) (Sr (s + 1 + 1) (cN l) (wN l)) (some (.int ((s + 1 : Nat) : Int))) (some (.int (cN l (s + 1) : Nat))) g13' (some (.str (nmR s (fN l s))))) = some (.str (nmR (s + 1) (gN l s))) :=
        ix_of (ix_of rfl rfl (ls_ix (rounds_get (by omega)))) (bin_of (num_at (a := 12) hl rfl rfl (by omega)) rfl (mod_nat _ _ (c_pos _))) (strs_ix (Rd_get ((cfg l).gc s)))
      refine ⟨some (.str (nmR s (fN l s))), run_nx (ife_bl hc ?_) run_nil⟩
      rw [if_pos (by simp)]
      refine run_nx (asg_of hf) (run_nx (app_of (tup_of (es_cons rfl (es_cons hg (es_cons rfl es_nil)))) rfl (by rw [len_sts, hTl]; unfold LIM; omega)) ?_)
      rw [hT, qe_ti]
      rfl
  obtain ⟨g14', htie⟩ := htie
  refine ⟨_, g13', g14', run_nx (asg_of e12) (run_nx (ρ' := QE sc l ((List.range (j + 1)).map (Rd (cN l))) (Ti j (fN l) (gN l)) (Sr j (cN l) (wN l)) (some (.int j)) (some (.int (cN l j : Nat))) g13 g14) ?_ (hstr.trans htie))⟩
  refine (app_of eb rfl (by unfold lsL; rw [List.length_map, List.length_map, List.length_range]; unfold LIM; omega)).trans ?_
  rw [hro, qe_ro]
  rfl
theorem sides_run (hl : IntsB l 30) : ∃ g5 g12 g13 g14, CS.run T_60 (.fr (.nm 5) (.rng1 (.bin .add (.cD (.int (1))) (.bin .mod (.ix (.var 1) (.cD (.int (0)))) (.cD (.int (3)))))) Qs) (QE sc l [] [] [] none none none none) = some (.nx (QE sc l ((List.range (mN l)).map (Rd (cN l))) (Ti (mN l) (fN l) (gN l)) (Sr (mN l) (cN l) (wN l)) g5 g12 g13 g14)) := by
  have hm3 := (cfg l).m3
  obtain ⟨ρ', hf, g5, g12, g13, g14, rfl⟩ := frD_pre (t := fun x ρ => CT.bind (.nm 5) x ρ) (b := fun ρ => CB.run T_60 Qs ρ) (fun (k : Nat) => D.int (k : Int))
    (fun (ys : List Nat) ρ => ∃ g5 g12 g13 g14, ρ = QE sc l ((List.range ys.length).map (Rd (cN l))) (Ti ys.length (fN l) (gN l)) (Sr ys.length (cN l) (wN l)) g5 g12 g13 g14) (List.range (mN l)) [] (QE sc l [] [] [] none none none none)
    (fun ys k zs ρ e ⟨g5, g12, g13, g14, eρ⟩ => by
      subst eρ
      rw [List.nil_append] at e
      obtain ⟨hk1, _, hk⟩ := range_split e
      rw [← hk1]
      obtain ⟨a, b, d, hr⟩ := side_run (sc := sc) (j := k) (g5 := g5) (g12 := g12) (g13 := g13) (g14 := g14) hl (by omega)
      exact ⟨QE sc l ((List.range k).map (Rd (cN l))) (Ti k (fN l) (gN l)) (Sr k (cN l) (wN l)) (some (.int k)) g12 g13 g14, _, rfl, .inl hr, _, _, _, _, by rw [List.length_append, ← hk1]; rfl⟩) ⟨none, none, none, none, rfl⟩
  rw [List.nil_append, List.length_range] at hf
  exact ⟨_, _, _, _, fr_of (rng1_of (i := (mN l : Nat)) (bin_of (x := .int ((1 : Nat) : Int)) rfl (bin_of (y := .int ((3 : Nat) : Int)) (ix_of rfl rfl (num_ix (k := 0) hl (by omega))) rfl (mod_nat _ 3 (by decide))) (add_nat 1 _)) (rng_nat _ (by omega))) hf⟩
end
end PW

set_option Elab.async false
set_option linter.all false
set_option maxRecDepth 100000
set_option maxHeartbeats 4000000
/-! W10: the law. -/
namespace PW
open PySem PV LawC
theorem sOk_nm {s k : Nat} (hs : s < 3) (hk : k < 3) : sOk (nmR s k) = true := by
  match s, hs, k, hk with
  | 0, _, 0, _ => decide +kernel
  | 0, _, 1, _ => decide +kernel
  | 0, _, 2, _ => decide +kernel
  | 1, _, 0, _ => decide +kernel
  | 1, _, 1, _ => decide +kernel
  | 1, _, 2, _ => decide +kernel
  | 2, _, 0, _ => decide +kernel
  | 2, _, 1, _ => decide +kernel
  | 2, _, 2, _ => decide +kernel
theorem dOk_eW {e : Sw} (h1 : sOk e.1 = true) (h2 : sOk e.2.1 = true) : dOk 1 (eW e) = true := by
  have h3 : sOk (wd e.2.2) = true := by cases e.2.2 <;> decide +kernel
  have e1 : eW e = .tup (strsL [e.1, e.2.1, wd e.2.2]) := rfl
  rw [e1]
  unfold dOk
  exact dOks_strs 0 fun x hx => by
    simp at hx
    rcases hx with rfl | rfl | rfl
    · exact h1
    · exact h2
    · exact h3
theorem dOks_sw : ∀ {es : List Sw}, (∀ e ∈ es, sOk e.1 = true ∧ sOk e.2.1 = true) → dOks 1 (swL es) = true
  | [], _ => by simp [swL, dOks]
  | e :: es, h => by
    show dOks 1 (eW e :: swL es) = true
    unfold dOks
    rw [dOks_sw fun q hq => h q (List.mem_cons_of_mem _ hq), dOk_eW (h e List.mem_cons_self).1 (h e List.mem_cons_self).2]
    rfl
theorem eq_sw_nil {es : List Sw} (h : ∀ e ∈ es, sOk e.1 = true ∧ sOk e.2.1 = true) : cmpD .eq (.lst (swL es)) (.lst []) = some es.isEmpty := by
  have e : (D.lst (swL es)).okEq = true := okEq_of (n := 2) (by decide) (by unfold dOk; exact dOks_sw h)
  show (if D.scalP (.lst (swL es)) (.lst []) || ((D.lst (swL es)).okEq && (D.lst []).okEq) then some (D.eqv (.lst (swL es)) (.lst [])) else none) = _
  rw [e, if_pos (by rfl)]
  cases es <;> rfl
theorem tup0 {a : D} {r : List D} : ixD (.tup (a :: r)) (.int 0) = some a := by
  show L2.atI (a :: r) ((0 : Nat) : Int) = _
  rw [atI_nat (by simp)]
  rfl
theorem ne_str_self (a : Str) : cmpD .ne (.str a) (.str a) = some false := by
  show (cmpD .eq (.str a) (.str a)).map (!·) = _
  rw [eq_strs, decide_eq_true rfl]
  rfl
theorem take_bo {gs : List Sg} {n : Nat} (h : ∀ k, k < n → gs[k]? = some .bo) : gs.take n = List.replicate n .bo := by
  apply List.ext_getElem?
  intro i
  rw [List.getElem?_take, List.getElem?_replicate]
  by_cases hi : i < n
  · rw [if_pos hi, if_pos hi, h i hi]
  · rw [if_neg hi, if_neg hi]
theorem eqs_ok {n : Nat} (h : n < 3) : Txt.mul (Str.ofString "=") (n : Int) = planS (List.replicate n .bo) := by
  match n, h with
  | 0, _ => decide +kernel
  | 1, _ => decide +kernel
  | 2, _ => decide +kernel
theorem slc_plan {gs : List Sg} {n : Nat} (hn : n ≤ gs.length) (hl : gs.length ≤ 24) : slcD (.str (planS gs)) none (some (n : Int)) = some (.str (planS (gs.take n))) := by
  have hlen : (planS gs).length = gs.length := by
    show (gs.map sgC).toArray.size = _
    simp
  show (if (planS gs).length ≤ LIM then some (D.str ⟨(cutD (planS gs).cps.toList none (some (n : Int))).toArray⟩) else none) = _
  rw [if_pos (by rw [hlen]; unfold LIM; omega)]
  show some (D.str ⟨(cutD (gs.map sgC).toArray.toList none (some (n : Int))).toArray⟩) = _
  rw [List.toList_toArray, cut_to_n (by rw [List.length_map]; exact hn), ← List.map_take]
  rfl
section
variable {l : List Int} {sc : D}
theorem places_run {T : Tab} {c : Nat → Nat} {ro : List (List Str)} (hro : ro.flatten.length ≤ 1000) {a0 a1 a3 a4 a5 a8 a9 a10 a11 a12 a13 a14 g7 : Option D} :
    ∃ g7', CS.run T (.fr (.nm 7) (.seq (.var 2)) (.cons (.asg (.nm 6) (.bin .add (.var 6) (.var 7))) .nil)) [a0, a1, some (.lst (lsL ro)), a3, a4, a5, some (.lst []), g7, a8, a9, a10, a11, a12, a13, a14] = some (.nx [a0, a1, some (.lst (lsL ro)), a3, a4, a5, some (.lst (strsL ro.flatten)), g7', a8, a9, a10, a11, a12, a13, a14]) := by
  obtain ⟨ρ', hf, g7', rfl⟩ := frD_pre (t := fun x ρ => CT.bind (.nm 7) x ρ) (b := fun ρ => CB.run T (.cons (.asg (.nm 6) (.bin .add (.var 6) (.var 7))) .nil) ρ) (fun r : List Str => D.lst (strsL r))
    (fun (ys : List (List Str)) ρ => ∃ g7, ρ = [a0, a1, some (.lst (lsL ro)), a3, a4, a5, some (.lst (strsL ys.flatten)), g7, a8, a9, a10, a11, a12, a13, a14]) ro [] [a0, a1, some (.lst (lsL ro)), a3, a4, a5, some (.lst []), g7, a8, a9, a10, a11, a12, a13, a14]
    (fun ys r zs ρ e ⟨g7, eρ⟩ => by
      subst eρ
      rw [List.nil_append] at e
      have hlen : ys.flatten.length + r.length ≤ 1000 := by
        rw [e, List.flatten_append, List.length_append, List.flatten_cons, List.length_append] at hro
        omega
      refine ⟨[a0, a1, some (.lst (lsL ro)), a3, a4, a5, some (.lst (strsL ys.flatten)), some (.lst (strsL r)), a8, a9, a10, a11, a12, a13, a14], [a0, a1, some (.lst (lsL ro)), a3, a4, a5, some (.lst (strsL (ys ++ [r]).flatten)), some (.lst (strsL r)), a8, a9, a10, a11, a12, a13, a14], rfl, .inl (run_nx (asg_of (d := .lst (strsL (ys ++ [r]).flatten)) (bin_of rfl rfl ?_)) run_nil), _, rfl⟩
      show (if (strsL ys.flatten).length + (strsL r).length ≤ LIM then some (D.lst (strsL ys.flatten ++ strsL r)) else none) = _
      rw [if_pos (by rw [len_strs, len_strs]; unfold LIM; omega), List.flatten_append, List.flatten_cons, List.flatten_nil, List.append_nil]
      unfold strsL
      rw [List.map_append]) ⟨_, rfl⟩
  exact ⟨g7', fr_of rfl hf⟩
theorem law_true_of (hl : IntsB l 30) (hn : s_f_law_numbers [sc, .int 0, .int 30] = some (.lst (l.map D.int))) : s_f_law [sc] = some (.bl true) := by
  have C := cfg l
  have hm1 := C.m1
  have hm3 := C.m3
  obtain ⟨g5, g12, g13, g14, hsides⟩ := sides_run (sc := sc) hl
  obtain ⟨hpl, hnd, hV9⟩ := V_ok C
  have hS := len_S (w := wN l) C (mN l)
  have hT := len_T (m := mN l) (f := fN l) (g := gN l)
  have hflat : ((List.range (mN l)).map (Rd (cN l))).flatten = Vr (mN l) (cN l) := rfl
  have hTs : ∀ e ∈ Ti (mN l) (fN l) (gN l), sOk e.1 = true ∧ sOk e.2.1 = true := fun e he => by
    obtain ⟨s, hs, rfl⟩ := mem_T.mp he
    have := C.fc s
    have := C.c3 s
    have := C.gc s
    have := C.c3 (s + 1)
    exact ⟨sOk_nm (by omega) (by omega), sOk_nm (by omega) (by omega)⟩
  generalize hV : Vr (mN l) (cN l) = V at *
  generalize hTi : Ti (mN l) (fN l) (gN l) = ti at *
  generalize hSr : Sr (mN l) (cN l) (wN l) = st at *
  -- the two towns
  have W1 : WTown V (ti ++ st) := by
    rw [← hV]
    refine wtown (f := fN l) (g := gN l) (w := wN l) C (fun e he => ?_) (by rw [List.length_append]; omega)
    rw [hTi, hSr]
    exact List.mem_append.mp he
  have W2 : WTown V (ti ++ ti ++ st) := by
    rw [← hV]
    refine wtown (f := fN l) (g := gN l) (w := wN l) C (fun e he => ?_) (by rw [List.length_append, List.length_append]; omega)
    rw [hTi, hSr]
    rcases List.mem_append.mp he with z | z
    · exact .inl ((List.mem_append.mp z).elim id id)
    · exact .inr z
  have G1 : Strong V (dre (ti ++ st)) := by
    rw [← hV]
    exact strong_ok (w := wN l) C (fun e he => List.mem_append.mpr (.inr (by rw [← hSr]; exact he))) fun e he => List.mem_append.mpr (.inl (by rw [← hTi]; exact he))
  have G2 : Strong V (dre (ti ++ ti ++ st)) := by
    rw [← hV]
    exact strong_ok (w := wN l) C (fun e he => List.mem_append.mpr (.inr (by rw [← hSr]; exact he))) fun e he => List.mem_append.mpr (.inl (List.mem_append.mpr (.inl (by rw [← hTi]; exact he))))
  have K1 : stayN (ti ++ st) = List.range (mN l - 1) := by rw [← hTi, ← hSr]; exact stay_town C
  have K2 : stayN (ti ++ ti ++ st) = [] := by rw [← hTi, ← hSr]; exact stay_double C
  have L1 : (List.range (ti ++ st).length).filter (lnk (ti ++ st)) = List.range (mN l - 1) := by rw [← hTi, ← hSr]; exact links_list C
  obtain ⟨b1, htn⟩ := town_x W1.t W1.pl W1.hl W1.ne
  obtain ⟨b2, hdu⟩ := town_x W2.t W2.pl W2.hl W2.ne
  have hms := must_stay_ok (bs := b1) W1.t W1.ne
  rw [K1] at hms
  have hlk := links_ok (bs := b1) W1.t W1.ne
  rw [L1] at hlk
  have hms2 := must_stay_ok (bs := b2) W2.t W2.ne
  rw [K2] at hms2
  have hkept := kept_ok (bs := b1) W1 G1
  obtain ⟨r1, hp1⟩ := plans_ok (bs := b1) W1 G1
  rw [K1] at hp1
  obtain ⟨r2, hp2⟩ := plans_ok (bs := b2) W2 G2
  rw [K2] at hp2
  have hGl : (leanG V (ti ++ st)).length = (ti ++ st).length := lean_len
  have hby := law_by_ok (gs := leanG V (ti ++ st)) hGl W1.hl
  have hget := law_all_get_ok (byL_town W1.t hGl) (by omega) (good_iff.mpr (lean_good W1 G1))
  have htk : (leanG V (ti ++ st)).take (mN l - 1) = List.replicate (mN l - 1) .bo := take_bo fun k hk => lean_stay (by rw [K1]; exact List.mem_range.mpr hk)
  generalize leanG V (ti ++ st) = gs at *
  obtain ⟨g7, hpr⟩ := places_run (T := T_60) (c := cN l) (ro := (List.range (mN l)).map (Rd (cN l))) (by rw [hflat]; omega) (a0 := some sc) (a1 := some (.lst (l.map D.int))) (a3 := some (.lst (swL ti))) (a4 := some (.lst (swL st))) (a5 := g5) (a8 := none) (a9 := none) (a10 := none) (a11 := none) (a12 := g12) (a13 := g13) (a14 := g14) (g7 := none)
  rw [hflat] at hpr
  have lenT : ∀ {ρ : Env}, ρ[3]? = some (some (.lst (swL ti))) → CE.sem T_60 (.bi .len (.cons (.var 3) .nil)) ρ = some (.int ((mN l - 1 : Nat) : Int)) := fun {ρ} h => by
    refine bi1 (x := .lst (swL ti)) (by show (ρ[3]?).bind id = _; rw [h]; rfl) ?_
    show some (D.int ((swL ti).length : Int)) = _
    rw [len_sts, hT]
  have cat : ∀ (a b : List Sw), a.length + b.length ≤ 24 → binD .add (.lst (swL a)) (.lst (swL b)) = some (.lst (swL (a ++ b))) := fun a b h => by
    show (if (swL a).length + (swL b).length ≤ LIM then some (D.lst (swL a ++ swL b)) else none) = _
    rw [if_pos (by rw [len_sts, len_sts]; unfold LIM; omega)]
    unfold swL
    rw [List.map_append]
  let ρ9 : Option D → Option D → Env := fun g10 g11 => [some sc, some (.lst (l.map D.int)), some (.lst (lsL ((List.range (mN l)).map (Rd (cN l))))), some (.lst (swL ti)), some (.lst (swL st)), g5, some (.lst (strsL V)), g7, some (.lst (swL (ti ++ st))), some (tv V (ti ++ st) b1), g10, g11, g12, g13, g14]
  have c1 : CE.sem T_60 (.bop false (.cons (.cmp .ne (.call ix_f_must_stay (.cons (.var 9) .nil)) (.lstr (.rng1 (.bi .len (.cons (.var 3) .nil))))) (.cons (.cmp .ne (.call ix_f_links (.cons (.var 9) .nil)) (.lstr (.rng1 (.bi .len (.cons (.var 3) .nil))))) .nil))) (ρ9 none none) = some (.bl false) :=
    or2 (p := false) (q := false) (cmp1 (call_of rfl hms) (lstr_of (lenT rfl) (by omega)) (ne_ints _)) fun _ => cmp1 (call_of rfl hlk) (lstr_of (lenT rfl) (by omega)) (ne_ints _)
  let told : D := .tup [.str (Str.ofString "kept"), .str (planS gs)]
  have told1 : ∀ {ρ : Env}, ρ[10]? = some (some told) → CE.sem T_60 (.ix (.var 10) (.cD (.int (1)))) ρ = some (.str (planS gs)) := fun {ρ} h => ix_of (x := told) (by show (ρ[10]?).bind id = _; rw [h]; rfl) rfl rfl
  have c2 : CE.sem T_60 (.bop false (.cons (.cmp .ne (.ix (.var 10) (.cD (.int (0)))) (.cD (.str (Str.ofString "kept")))) (.cons (.cmp .ne (.slc (.ix (.var 10) (.cD (.int (1)))) .none (.some (.bi .len (.cons (.var 3) .nil)))) (.bin .mul (.cD (.str (Str.ofString "="))) (.bi .len (.cons (.var 3) .nil)))) (.cons (.not (.call ix_f_law_all_get (.cons (.var 6) (.cons (.call ix_f_law_by (.cons (.var 8) (.cons (.ix (.var 10) (.cD (.int (1)))) .nil))) .nil)))) .nil)))) (ρ9 (some told) none) = some (.bl false) := by
    refine or3 (p := false) (q := false) (r := false) (cmp1 (x := .str (Str.ofString "kept")) rfl rfl (ne_str_self _)) (fun _ => ?_) fun _ _ => not1 (p := true) (call_of (es_cons rfl (es_cons (call_of (es_cons rfl (es_cons (told1 rfl) es_nil)) hby) es_nil)) hget)
    have s1 : CE.sem T_60 (.slc (.ix (.var 10) (.cD (.int (1)))) .none (.some (.bi .len (.cons (.var 3) .nil)))) (ρ9 (some told) none) = some (.str (planS (gs.take (mN l - 1)))) := by
      show (CE.sem T_60 (.ix (.var 10) (.cD (.int (1)))) (ρ9 (some told) none)).bind (fun x => (CO.sem T_60 .none (ρ9 (some told) none)).bind fun a => (CO.sem T_60 (.some (.bi .len (.cons (.var 3) .nil))) (ρ9 (some told) none)).bind fun b => slcD x a b) = _
      rw [told1 rfl]
      have : CO.sem T_60 (.some (.bi .len (.cons (.var 3) .nil))) (ρ9 (some told) none) = some (some ((mN l - 1 : Nat) : Int)) := by
        unfold CO.sem
        rw [lenT rfl]
        rfl
      rw [this]
      show slcD (.str (planS gs)) none (some ((mN l - 1 : Nat) : Int)) = _
      rw [slc_plan (by rw [hGl, List.length_append]; omega) (by rw [hGl]; exact W1.hl)]
    have s2 : CE.sem T_60 (.bin .mul (.cD (.str (Str.ofString "="))) (.bi .len (.cons (.var 3) .nil))) (ρ9 (some told) none) = some (.str (planS (List.replicate (mN l - 1) .bo))) := by
      refine bin_of (x := .str (Str.ofString "=")) rfl (lenT rfl) ?_
      show (if 0 ≤ ((mN l - 1 : Nat) : Int) ∧ ((mN l - 1 : Nat) : Int) ≤ 1000 ∧ (Str.ofString "=").length ≤ 1000 then some (D.str (Txt.mul (Str.ofString "=") ((mN l - 1 : Nat) : Int))) else none) = _
      rw [if_pos ⟨by omega, by omega, by decide +kernel⟩, eqs_ok (by omega)]
    refine cmp1 s1 s2 ?_
    rw [htk]
    exact ne_str_self _
  have c3 : CE.sem T_60 (.bop false (.cons (.cmp .ne (.call ix_f_must_stay (.cons (.var 11) .nil)) (.lst .nil)) (.cons (.cmp .ne (.ix (.call ix_f_answer_plans (.cons (.var 11) .nil)) (.cD (.int (0)))) (.cD (.str (Str.ofString "plan")))) .nil))) (ρ9 (some told) (some (tv V (ti ++ ti ++ st) b2))) = some (.bl false) := by
    refine or2 (p := false) (q := false) (cmp1 (x := .lst (intsL [])) (y := .lst []) (call_of rfl hms2) rfl ?_) fun _ => cmp1 (x := .str (Str.ofString "plan")) (y := .str (Str.ofString "plan")) (ix_of (call_of rfl hp2) rfl tup0) rfl (ne_str_self _)
    show (cmpD .eq (.lst (intsL [])) (.lst [])).map (!·) = _
    rw [eq_ints_nil]
    rfl
  have c4 : CE.sem T_60 (.cmp .ne (.cmp .eq (.ix (.call ix_f_answer_plans (.cons (.var 9) .nil)) (.cD (.int (0)))) (.cD (.str (Str.ofString "plan")))) (.cmp .eq (.var 3) (.lst .nil))) (ρ9 (some told) (some (tv V (ti ++ ti ++ st) b2))) = some (.bl false) := by
    have e1 : decide (Str.ofString (if (List.range (mN l - 1)).isEmpty then "plan" else "link") = Str.ofString "plan") = ti.isEmpty := by
      have : ti.isEmpty = decide (mN l - 1 = 0) := by
        rw [← hT]
        cases ti <;> simp
      rw [this]
      by_cases h0 : mN l - 1 = 0
      · rw [h0, decide_eq_true rfl]
        decide +kernel
      · have : (List.range (mN l - 1)).isEmpty = false := by
          cases hr : (List.range (mN l - 1)).isEmpty with
          | false => rfl
          | true =>
            have := congrArg List.length (List.isEmpty_iff.mp hr)
            rw [List.length_range] at this
            exact absurd this h0
        rw [this, decide_eq_false h0]
        decide +kernel
    refine cmp1 (x := .bl ti.isEmpty) (y := .bl ti.isEmpty) (cmp1 (ix_of (call_of rfl hp1) rfl tup0) rfl ?_) (cmp1 (x := .lst (swL ti)) (y := .lst []) rfl rfl (eq_sw_nil hTs)) (ne_bl _)
    rw [eq_strs, e1]
  refine sem_rt rfl (run_nx (asg_of (call_of rfl hn)) (run_nx rfl (run_nx rfl (run_nx rfl (run_nx hsides (run_nx rfl (run_nx hpr (run_nx (asg_of (bin_of rfl rfl (cat ti st (by omega)))) (run_nx (ρ' := ρ9 none none) (asg_of (make_of rfl htn)) (run_nx (ife_bl c1 rfl) (run_nx (ρ' := ρ9 (some told) none) (asg_of (call_of rfl hkept)) (run_nx (ife_bl c2 rfl) (run_nx (ρ' := ρ9 (some told) (some (tv V (ti ++ ti ++ st) b2))) (asg_of (make_of (es_cons rfl (es_cons (bin_of (bin_of rfl rfl (cat ti ti (by omega))) rfl (cat (ti ++ ti) st (by rw [List.length_append]; omega))) es_nil)) hdu)) (run_nx (ife_bl c3 rfl) (run_nx (ife_bl c4 rfl) (run_rt rfl))))))))))))))))
end
end PW
namespace LawM
open PySem PV PW LawC
theorem law_true : ∀ ns : List Int, ns.length ≤ 63 → s_f_law [.lst (ns.map D.int)] = some (.bl true) := fun ns _ =>
  let ⟨_, h1, h2⟩ := numbers_gen ns 0 30 (by decide)
  PW.law_true_of h2 h1
end LawM

set_option Elab.async false
set_option linter.all false
set_option maxRecDepth 100000
set_option maxHeartbeats 0

namespace LawC
open PySem L2 PV PyProof.Rows Hd
theorem ch_m_town_streets_with : chkB T_0 ⟨N_m_town_streets_with, defScope (inClass (top 46) 17), fun _ => true⟩ c_m_town_streets_with.body (defBody (inClass (top 46) 17)) = true := by decide +kernel
theorem ok_m_town_streets_with : CB.okG T_0 G_m_town_streets_with 0 c_m_town_streets_with.body = true := by decide +kernel
theorem sc_m_town_streets_with : FnScope N_m_town_streets_with [Str.ofString "self", Str.ofString "place"] (defScope (inClass (top 46) 17)) := ⟨rfl, rfl, rfl, by decide +kernel, rfl, by decide +kernel, by decide +kernel⟩
theorem ch_f_other_end : chkB T_1 ⟨N_f_other_end, defScope (top 38), fun _ => true⟩ c_f_other_end.body (defBody (top 38)) = true := by decide +kernel
theorem ok_f_other_end : CB.okG T_1 G_f_other_end 0 c_f_other_end.body = true := by decide +kernel
theorem sc_f_other_end : FnScope N_f_other_end [Str.ofString "ends", Str.ofString "place"] (defScope (top 38)) := ⟨rfl, rfl, rfl, by decide +kernel, rfl, by decide +kernel, by decide +kernel⟩
theorem ch_m_town_across : chkB T_2 ⟨N_m_town_across, defScope (inClass (top 46) 18), fun _ => true⟩ c_m_town_across.body (defBody (inClass (top 46) 18)) = true := by decide +kernel
theorem ok_m_town_across : CB.okG T_2 G_m_town_across 0 c_m_town_across.body = true := by decide +kernel
theorem sc_m_town_across : FnScope N_m_town_across [Str.ofString "self", Str.ofString "street", Str.ofString "place"] (defScope (inClass (top 46) 18)) := ⟨rfl, rfl, rfl, by decide +kernel, rfl, by decide +kernel, by decide +kernel⟩
theorem ch_f_hanging_from : chkB T_3 ⟨N_f_hanging_from, defScope (top 2), fun _ => true⟩ c_f_hanging_from.body (defBody (top 2)) = true := by decide +kernel
theorem ok_f_hanging_from : CB.okG T_3 G_f_hanging_from 0 c_f_hanging_from.body = true := by decide +kernel
theorem sc_f_hanging_from : FnScope N_f_hanging_from [Str.ofString "town", Str.ofString "place", Str.ofString "barred"] (defScope (top 2)) := ⟨rfl, rfl, rfl, by decide +kernel, rfl, by decide +kernel, by decide +kernel⟩
theorem ch_f_hang_together : chkB T_4 ⟨N_f_hang_together, defScope (top 4), fun _ => true⟩ c_f_hang_together.body (defBody (top 4)) = true := by decide +kernel
theorem ok_f_hang_together : CB.okG T_4 G_f_hang_together 0 c_f_hang_together.body = true := by decide +kernel
theorem sc_f_hang_together : FnScope N_f_hang_together [Str.ofString "town", Str.ofString "first", Str.ofString "second", Str.ofString "barred"] (defScope (top 4)) := ⟨rfl, rfl, rfl, by decide +kernel, rfl, by decide +kernel, by decide +kernel⟩
theorem ch_m_town_ends : chkB T_5 ⟨N_m_town_ends, defScope (inClass (top 46) 9), fun _ => true⟩ c_m_town_ends.body (defBody (inClass (top 46) 9)) = true := by decide +kernel
theorem ok_m_town_ends : CB.okG T_5 G_m_town_ends 0 c_m_town_ends.body = true := by decide +kernel
theorem sc_m_town_ends : FnScope N_m_town_ends [Str.ofString "self", Str.ofString "street"] (defScope (inClass (top 46) 9)) := ⟨rfl, rfl, rfl, by decide +kernel, rfl, by decide +kernel, by decide +kernel⟩
theorem ch_f_is_link : chkB T_6 ⟨N_f_is_link, defScope (top 5), fun _ => true⟩ c_f_is_link.body (defBody (top 5)) = true := by decide +kernel
theorem ok_f_is_link : CB.okG T_6 G_f_is_link 0 c_f_is_link.body = true := by decide +kernel
theorem sc_f_is_link : FnScope N_f_is_link [Str.ofString "town", Str.ofString "street"] (defScope (top 5)) := ⟨rfl, rfl, rfl, by decide +kernel, rfl, by decide +kernel, by decide +kernel⟩
theorem ch_m_town_streets : chkB T_7 ⟨N_m_town_streets, defScope (inClass (top 46) 2), fun _ => true⟩ c_m_town_streets.body (defBody (inClass (top 46) 2)) = true := by decide +kernel
theorem ok_m_town_streets : CB.okG T_7 G_m_town_streets 0 c_m_town_streets.body = true := by decide +kernel
theorem sc_m_town_streets : FnScope N_m_town_streets [Str.ofString "self"] (defScope (inClass (top 46) 2)) := ⟨rfl, rfl, rfl, by decide +kernel, rfl, by decide +kernel, by decide +kernel⟩
theorem ch_f_all_links : chkB T_8 ⟨N_f_all_links, defScope (top 7), fun _ => true⟩ c_f_all_links.body (defBody (top 7)) = true := by decide +kernel
theorem ok_f_all_links : CB.okG T_8 G_f_all_links 0 c_f_all_links.body = true := by decide +kernel
theorem sc_f_all_links : FnScope N_f_all_links [Str.ofString "town"] (defScope (top 7)) := ⟨rfl, rfl, rfl, by decide +kernel, rfl, by decide +kernel, by decide +kernel⟩
theorem ch_f_links : chkB T_9 ⟨N_f_links, defScope (top 21), fun _ => true⟩ c_f_links.body (defBody (top 21)) = true := by decide +kernel
theorem ok_f_links : CB.okG T_9 G_f_links 0 c_f_links.body = true := by decide +kernel
theorem sc_f_links : FnScope N_f_links [Str.ofString "town"] (defScope (top 21)) := ⟨rfl, rfl, rfl, by decide +kernel, rfl, by decide +kernel, by decide +kernel⟩
theorem ch_f_drives_of : chkB T_10 ⟨N_f_drives_of, defScope (top 36), fun _ => true⟩ c_f_drives_of.body (defBody (top 36)) = true := by decide +kernel
theorem ok_f_drives_of : CB.okG T_10 G_f_drives_of 1 c_f_drives_of.body = true := by decide +kernel
theorem sc_f_drives_of : FnScope N_f_drives_of [Str.ofString "street", Str.ofString "ends"] (defScope (top 36)) := ⟨rfl, rfl, rfl, by decide +kernel, rfl, by decide +kernel, by decide +kernel⟩
theorem ch_f_all_drives : chkB T_11 ⟨N_f_all_drives, defScope (top 37), fun _ => true⟩ c_f_all_drives.body (defBody (top 37)) = true := by decide +kernel
theorem ok_f_all_drives : CB.okG T_11 G_f_all_drives 0 c_f_all_drives.body = true := by decide +kernel
theorem sc_f_all_drives : FnScope N_f_all_drives [Str.ofString "streets"] (defScope (top 37)) := ⟨rfl, rfl, rfl, by decide +kernel, rfl, by decide +kernel, by decide +kernel⟩
theorem ch_f_is_ascending : chkB T_12 ⟨N_f_is_ascending, defScope (top 17), fun _ => true⟩ c_f_is_ascending.body (defBody (top 17)) = true := by decide +kernel
theorem ok_f_is_ascending : CB.okG T_12 G_f_is_ascending 0 c_f_is_ascending.body = true := by decide +kernel
theorem sc_f_is_ascending : FnScope N_f_is_ascending [Str.ofString "values"] (defScope (top 17)) := ⟨rfl, rfl, rfl, by decide +kernel, rfl, by decide +kernel, by decide +kernel⟩
theorem ch_f_has_name_signs : chkB T_13 ⟨N_f_has_name_signs, defScope (top 15), fun _ => true⟩ c_f_has_name_signs.body (defBody (top 15)) = true := by decide +kernel
theorem ok_f_has_name_signs : CB.okG T_13 G_f_has_name_signs 0 c_f_has_name_signs.body = true := by decide +kernel
theorem sc_f_has_name_signs : FnScope N_f_has_name_signs [Str.ofString "text"] (defScope (top 15)) := ⟨rfl, rfl, rfl, by decide +kernel, rfl, by decide +kernel, by decide +kernel⟩
theorem ch_f_is_name : chkB T_14 ⟨N_f_is_name, defScope (top 16), fun _ => true⟩ c_f_is_name.body (defBody (top 16)) = true := by decide +kernel
theorem ok_f_is_name : CB.okG T_14 G_f_is_name 0 c_f_is_name.body = true := by decide +kernel
theorem sc_f_is_name : FnScope N_f_is_name [Str.ofString "value"] (defScope (top 16)) := ⟨rfl, rfl, rfl, by decide +kernel, rfl, by decide +kernel, by decide +kernel⟩
theorem ch_f_are_names : chkB T_15 ⟨N_f_are_names, defScope (top 18), fun _ => true⟩ c_f_are_names.body (defBody (top 18)) = true := by decide +kernel
theorem ok_f_are_names : CB.okG T_15 G_f_are_names 0 c_f_are_names.body = true := by decide +kernel
theorem sc_f_are_names : FnScope N_f_are_names [Str.ofString "value"] (defScope (top 18)) := ⟨rfl, rfl, rfl, by decide +kernel, rfl, by decide +kernel, by decide +kernel⟩
theorem ch_f_are_places : chkB T_16 ⟨N_f_are_places, defScope (top 19), fun _ => true⟩ c_f_are_places.body (defBody (top 19)) = true := by decide +kernel
theorem ok_f_are_places : CB.okG T_16 G_f_are_places 0 c_f_are_places.body = true := by decide +kernel
theorem sc_f_are_places : FnScope N_f_are_places [Str.ofString "value"] (defScope (top 19)) := ⟨rfl, rfl, rfl, by decide +kernel, rfl, by decide +kernel, by decide +kernel⟩
theorem ch_f_is_end : chkB T_17 ⟨N_f_is_end, defScope (top 32), fun _ => true⟩ c_f_is_end.body (defBody (top 32)) = true := by decide +kernel
theorem ok_f_is_end : CB.okG T_17 G_f_is_end 0 c_f_is_end.body = true := by decide +kernel
theorem sc_f_is_end : FnScope N_f_is_end [Str.ofString "places", Str.ofString "value"] (defScope (top 32)) := ⟨rfl, rfl, rfl, by decide +kernel, rfl, by decide +kernel, by decide +kernel⟩
theorem ch_f_is_word : chkB T_18 ⟨N_f_is_word, defScope (top 33), fun _ => true⟩ c_f_is_word.body (defBody (top 33)) = true := by decide +kernel
theorem ok_f_is_word : CB.okG T_18 G_f_is_word 0 c_f_is_word.body = true := by decide +kernel
theorem sc_f_is_word : FnScope N_f_is_word [Str.ofString "value"] (defScope (top 33)) := ⟨rfl, rfl, rfl, by decide +kernel, rfl, by decide +kernel, by decide +kernel⟩
theorem ch_f_is_street_of : chkB T_19 ⟨N_f_is_street_of, defScope (top 34), fun _ => true⟩ c_f_is_street_of.body (defBody (top 34)) = true := by decide +kernel
theorem ok_f_is_street_of : CB.okG T_19 G_f_is_street_of 0 c_f_is_street_of.body = true := by decide +kernel
theorem sc_f_is_street_of : FnScope N_f_is_street_of [Str.ofString "places", Str.ofString "value"] (defScope (top 34)) := ⟨rfl, rfl, rfl, by decide +kernel, rfl, by decide +kernel, by decide +kernel⟩
theorem ch_f_first_wrong_street : chkB T_20 ⟨N_f_first_wrong_street, defScope (top 35), fun _ => true⟩ c_f_first_wrong_street.body (defBody (top 35)) = true := by decide +kernel
theorem ok_f_first_wrong_street : CB.okG T_20 G_f_first_wrong_street 0 c_f_first_wrong_street.body = true := by decide +kernel
theorem sc_f_first_wrong_street : FnScope N_f_first_wrong_street [Str.ofString "places", Str.ofString "streets"] (defScope (top 35)) := ⟨rfl, rfl, rfl, by decide +kernel, rfl, by decide +kernel, by decide +kernel⟩
theorem ch_f_check_town : chkB T_21 ⟨N_f_check_town, defScope (top 42), fun _ => true⟩ c_f_check_town.body (defBody (top 42)) = true := by decide +kernel
theorem ok_f_check_town : CB.okG T_21 G_f_check_town 0 c_f_check_town.body = true := by decide +kernel
theorem sc_f_check_town : FnScope N_f_check_town [Str.ofString "places", Str.ofString "streets"] (defScope (top 42)) := ⟨rfl, rfl, rfl, by decide +kernel, rfl, by decide +kernel, by decide +kernel⟩
theorem ch_f_by_place : chkB T_22 ⟨N_f_by_place, defScope (top 43), fun _ => true⟩ c_f_by_place.body (defBody (top 43)) = true := by decide +kernel
theorem ok_f_by_place : CB.okG T_22 G_f_by_place 0 c_f_by_place.body = true := by decide +kernel
theorem sc_f_by_place : FnScope N_f_by_place [Str.ofString "places", Str.ofString "drives", Str.ofString "part"] (defScope (top 43)) := ⟨rfl, rfl, rfl, by decide +kernel, rfl, by decide +kernel, by decide +kernel⟩
theorem ch_f_streets_at : chkB T_23 ⟨N_f_streets_at, defScope (top 44), fun _ => true⟩ c_f_streets_at.body (defBody (top 44)) = true := by decide +kernel
theorem ok_f_streets_at : CB.okG T_23 G_f_streets_at 0 c_f_streets_at.body = true := by decide +kernel
theorem sc_f_streets_at : FnScope N_f_streets_at [Str.ofString "places", Str.ofString "streets"] (defScope (top 44)) := ⟨rfl, rfl, rfl, by decide +kernel, rfl, by decide +kernel, by decide +kernel⟩
theorem ch_f_places_beside : chkB T_24 ⟨N_f_places_beside, defScope (top 45), fun _ => true⟩ c_f_places_beside.body (defBody (top 45)) = true := by decide +kernel
theorem ok_f_places_beside : CB.okG T_24 G_f_places_beside 0 c_f_places_beside.body = true := by decide +kernel
theorem sc_f_places_beside : FnScope N_f_places_beside [Str.ofString "places", Str.ofString "streets", Str.ofString "at"] (defScope (top 45)) := ⟨rfl, rfl, rfl, by decide +kernel, rfl, by decide +kernel, by decide +kernel⟩
theorem ch_m_town_init : chkB T_25 ⟨N_m_town_init, defScope (inClass (top 46) 0), fun _ => true⟩ c_m_town_init.body (defBody (inClass (top 46) 0)) = true := by decide +kernel
theorem ok_m_town_init : CB.okG T_25 G_m_town_init 0 c_m_town_init.body = true := by decide +kernel
theorem sc_m_town_init : FnScope N_m_town_init [Str.ofString "self", Str.ofString "places", Str.ofString "streets"] (defScope (inClass (top 46) 0)) := ⟨rfl, rfl, rfl, by decide +kernel, rfl, by decide +kernel, by decide +kernel⟩
theorem ch_m_town_places : chkB T_26 ⟨N_m_town_places, defScope (inClass (top 46) 1), fun _ => true⟩ c_m_town_places.body (defBody (inClass (top 46) 1)) = true := by decide +kernel
theorem ok_m_town_places : CB.okG T_26 G_m_town_places 0 c_m_town_places.body = true := by decide +kernel
theorem sc_m_town_places : FnScope N_m_town_places [Str.ofString "self"] (defScope (inClass (top 46) 1)) := ⟨rfl, rfl, rfl, by decide +kernel, rfl, by decide +kernel, by decide +kernel⟩
theorem ch_f_as_list : chkB T_27 ⟨N_f_as_list, defScope (top 3), fun _ => true⟩ c_f_as_list.body (defBody (top 3)) = true := by decide +kernel
theorem ok_f_as_list : CB.okG T_27 G_f_as_list 0 c_f_as_list.body = true := by decide +kernel
theorem sc_f_as_list : FnScope N_f_as_list [Str.ofString "town", Str.ofString "places"] (defScope (top 3)) := ⟨rfl, rfl, rfl, by decide +kernel, rfl, by decide +kernel, by decide +kernel⟩
theorem ch_f_halves_of : chkB T_28 ⟨N_f_halves_of, defScope (top 6), fun _ => true⟩ c_f_halves_of.body (defBody (top 6)) = true := by decide +kernel
theorem ok_f_halves_of : CB.okG T_28 G_f_halves_of 0 c_f_halves_of.body = true := by decide +kernel
theorem sc_f_halves_of : FnScope N_f_halves_of [Str.ofString "town", Str.ofString "street"] (defScope (top 6)) := ⟨rfl, rfl, rfl, by decide +kernel, rfl, by decide +kernel, by decide +kernel⟩
theorem ch_f_is_whole : chkB T_29 ⟨N_f_is_whole, defScope (top 13), fun _ => true⟩ c_f_is_whole.body (defBody (top 13)) = true := by decide +kernel
theorem ok_f_is_whole : CB.okG T_29 G_f_is_whole 0 c_f_is_whole.body = true := by decide +kernel
theorem sc_f_is_whole : FnScope N_f_is_whole [Str.ofString "value"] (defScope (top 13)) := ⟨rfl, rfl, rfl, by decide +kernel, rfl, by decide +kernel, by decide +kernel⟩
theorem ch_f_is_from_to : chkB T_30 ⟨N_f_is_from_to, defScope (top 14), fun _ => true⟩ c_f_is_from_to.body (defBody (top 14)) = true := by decide +kernel
theorem ok_f_is_from_to : CB.okG T_30 G_f_is_from_to 0 c_f_is_from_to.body = true := by decide +kernel
theorem sc_f_is_from_to : FnScope N_f_is_from_to [Str.ofString "value", Str.ofString "least", Str.ofString "greatest"] (defScope (top 14)) := ⟨rfl, rfl, rfl, by decide +kernel, rfl, by decide +kernel, by decide +kernel⟩
theorem ch_m_town_is_street : chkB T_31 ⟨N_m_town_is_street, defScope (inClass (top 46) 7), fun _ => true⟩ c_m_town_is_street.body (defBody (inClass (top 46) 7)) = true := by decide +kernel
theorem ok_m_town_is_street : CB.okG T_31 G_m_town_is_street 0 c_m_town_is_street.body = true := by decide +kernel
theorem sc_m_town_is_street : FnScope N_m_town_is_street [Str.ofString "self", Str.ofString "value"] (defScope (inClass (top 46) 7)) := ⟨rfl, rfl, rfl, by decide +kernel, rfl, by decide +kernel, by decide +kernel⟩
theorem ch_m_town_check_street : chkB T_32 ⟨N_m_town_check_street, defScope (inClass (top 46) 8), fun _ => true⟩ c_m_town_check_street.body (defBody (inClass (top 46) 8)) = true := by decide +kernel
theorem ok_m_town_check_street : CB.okG T_32 G_m_town_check_street 0 c_m_town_check_street.body = true := by decide +kernel
theorem sc_m_town_check_street : FnScope N_m_town_check_street [Str.ofString "self", Str.ofString "value"] (defScope (inClass (top 46) 8)) := ⟨rfl, rfl, rfl, by decide +kernel, rfl, by decide +kernel, by decide +kernel⟩
theorem ch_f_halves : chkB T_33 ⟨N_f_halves, defScope (top 22), fun _ => true⟩ c_f_halves.body (defBody (top 22)) = true := by decide +kernel
theorem ok_f_halves : CB.okG T_33 G_f_halves 0 c_f_halves.body = true := by decide +kernel
theorem sc_f_halves : FnScope N_f_halves [Str.ofString "town", Str.ofString "street"] (defScope (top 22)) := ⟨rfl, rfl, rfl, by decide +kernel, rfl, by decide +kernel, by decide +kernel⟩
theorem ch_m_town_drives_from : chkB T_34 ⟨N_m_town_drives_from, defScope (inClass (top 46) 15), fun _ => true⟩ c_m_town_drives_from.body (defBody (inClass (top 46) 15)) = true := by decide +kernel
theorem ok_m_town_drives_from : CB.okG T_34 G_m_town_drives_from 0 c_m_town_drives_from.body = true := by decide +kernel
theorem sc_m_town_drives_from : FnScope N_m_town_drives_from [Str.ofString "self", Str.ofString "place"] (defScope (inClass (top 46) 15)) := ⟨rfl, rfl, rfl, by decide +kernel, rfl, by decide +kernel, by decide +kernel⟩
theorem ch_f_numbers_from : chkB T_35 ⟨N_f_numbers_from, defScope (top 58), fun _ => true⟩ c_f_numbers_from.body (defBody (top 58)) = true := by decide +kernel
theorem ok_f_numbers_from : CB.okG T_35 G_f_numbers_from 0 c_f_numbers_from.body = true := by decide +kernel
theorem sc_f_numbers_from : FnScope N_f_numbers_from [Str.ofString "town", Str.ofString "start"] (defScope (top 58)) := ⟨rfl, rfl, rfl, by decide +kernel, rfl, by decide +kernel, by decide +kernel⟩
theorem ch_f_in_town_order : chkB T_36 ⟨N_f_in_town_order, defScope (top 60), fun _ => true⟩ c_f_in_town_order.body (defBody (top 60)) = true := by decide +kernel
theorem ok_f_in_town_order : CB.okG T_36 G_f_in_town_order 0 c_f_in_town_order.body = true := by decide +kernel
theorem sc_f_in_town_order : FnScope N_f_in_town_order [Str.ofString "town", Str.ofString "places"] (defScope (top 60)) := ⟨rfl, rfl, rfl, by decide +kernel, rfl, by decide +kernel, by decide +kernel⟩
theorem ch_f_gets_everywhere : chkB T_37 ⟨N_f_gets_everywhere, defScope (top 64), fun _ => true⟩ c_f_gets_everywhere.body (defBody (top 64)) = true := by decide +kernel
theorem ok_f_gets_everywhere : CB.okG T_37 G_f_gets_everywhere 0 c_f_gets_everywhere.body = true := by decide +kernel
theorem sc_f_gets_everywhere : FnScope N_f_gets_everywhere [Str.ofString "town", Str.ofString "place"] (defScope (top 64)) := ⟨rfl, rfl, rfl, by decide +kernel, rfl, by decide +kernel, by decide +kernel⟩
theorem ch_f_first_shut_in : chkB T_38 ⟨N_f_first_shut_in, defScope (top 65), fun _ => true⟩ c_f_first_shut_in.body (defBody (top 65)) = true := by decide +kernel
theorem ok_f_first_shut_in : CB.okG T_38 G_f_first_shut_in 0 c_f_first_shut_in.body = true := by decide +kernel
theorem sc_f_first_shut_in : FnScope N_f_first_shut_in [Str.ofString "town"] (defScope (top 65)) := ⟨rfl, rfl, rfl, by decide +kernel, rfl, by decide +kernel, by decide +kernel⟩
theorem ch_f_answer_ways : chkB T_39 ⟨N_f_answer_ways, defScope (top 66), fun _ => true⟩ c_f_answer_ways.body (defBody (top 66)) = true := by decide +kernel
theorem ok_f_answer_ways : CB.okG T_39 G_f_answer_ways 0 c_f_answer_ways.body = true := by decide +kernel
theorem sc_f_answer_ways : FnScope N_f_answer_ways [Str.ofString "town"] (defScope (top 66)) := ⟨rfl, rfl, rfl, by decide +kernel, rfl, by decide +kernel, by decide +kernel⟩
theorem ch_m_town_two_way : chkB T_40 ⟨N_m_town_two_way, defScope (inClass (top 46) 4), fun _ => true⟩ c_m_town_two_way.body (defBody (inClass (top 46) 4)) = true := by decide +kernel
theorem ok_m_town_two_way : CB.okG T_40 G_m_town_two_way 0 c_m_town_two_way.body = true := by decide +kernel
theorem sc_m_town_two_way : FnScope N_m_town_two_way [Str.ofString "self"] (defScope (inClass (top 46) 4)) := ⟨rfl, rfl, rfl, by decide +kernel, rfl, by decide +kernel, by decide +kernel⟩
theorem ch_f_two_way_links : chkB T_41 ⟨N_f_two_way_links, defScope (top 70), fun _ => true⟩ c_f_two_way_links.body (defBody (top 70)) = true := by decide +kernel
theorem ok_f_two_way_links : CB.okG T_41 G_f_two_way_links 0 c_f_two_way_links.body = true := by decide +kernel
theorem sc_f_two_way_links : FnScope N_f_two_way_links [Str.ofString "town"] (defScope (top 70)) := ⟨rfl, rfl, rfl, by decide +kernel, rfl, by decide +kernel, by decide +kernel⟩
theorem ch_f_first_signs : chkB T_42 ⟨N_f_first_signs, defScope (top 55), fun _ => true⟩ c_f_first_signs.body (defBody (top 55)) = true := by decide +kernel
theorem ok_f_first_signs : CB.okG T_42 G_f_first_signs 0 c_f_first_signs.body = true := by decide +kernel
theorem sc_f_first_signs : FnScope N_f_first_signs [Str.ofString "town"] (defScope (top 55)) := ⟨rfl, rfl, rfl, by decide +kernel, rfl, by decide +kernel, by decide +kernel⟩
theorem ch_f_street_by : chkB T_43 ⟨N_f_street_by, defScope (top 53), fun _ => true⟩ c_f_street_by.body (defBody (top 53)) = true := by decide +kernel
theorem ok_f_street_by : CB.okG T_43 G_f_street_by 0 c_f_street_by.body = true := by decide +kernel
theorem sc_f_street_by : FnScope N_f_street_by [Str.ofString "street", Str.ofString "sign"] (defScope (top 53)) := ⟨rfl, rfl, rfl, by decide +kernel, rfl, by decide +kernel, by decide +kernel⟩
theorem ch_f_town_by : chkB T_44 ⟨N_f_town_by, defScope (top 54), fun _ => true⟩ c_f_town_by.body (defBody (top 54)) = true := by decide +kernel
theorem ok_f_town_by : CB.okG T_44 G_f_town_by 0 c_f_town_by.body = true := by decide +kernel
theorem sc_f_town_by : FnScope N_f_town_by [Str.ofString "town", Str.ofString "signs"] (defScope (top 54)) := ⟨rfl, rfl, rfl, by decide +kernel, rfl, by decide +kernel, by decide +kernel⟩
theorem ch_f_with_sign : chkB T_45 ⟨N_f_with_sign, defScope (top 56), fun _ => true⟩ c_f_with_sign.body (defBody (top 56)) = true := by decide +kernel
theorem ok_f_with_sign : CB.okG T_45 G_f_with_sign 0 c_f_with_sign.body = true := by decide +kernel
theorem sc_f_with_sign : FnScope N_f_with_sign [Str.ofString "signs", Str.ofString "street", Str.ofString "sign"] (defScope (top 56)) := ⟨rfl, rfl, rfl, by decide +kernel, rfl, by decide +kernel, by decide +kernel⟩
theorem ch_m_town_drives_to : chkB T_46 ⟨N_m_town_drives_to, defScope (inClass (top 46) 16), fun _ => true⟩ c_m_town_drives_to.body (defBody (inClass (top 46) 16)) = true := by decide +kernel
theorem ok_m_town_drives_to : CB.okG T_46 G_m_town_drives_to 0 c_m_town_drives_to.body = true := by decide +kernel
theorem sc_m_town_drives_to : FnScope N_m_town_drives_to [Str.ofString "self", Str.ofString "place"] (defScope (inClass (top 46) 16)) := ⟨rfl, rfl, rfl, by decide +kernel, rfl, by decide +kernel, by decide +kernel⟩
theorem ch_f_numbers_to : chkB T_47 ⟨N_f_numbers_to, defScope (top 59), fun _ => true⟩ c_f_numbers_to.body (defBody (top 59)) = true := by decide +kernel
theorem ok_f_numbers_to : CB.okG T_47 G_f_numbers_to 0 c_f_numbers_to.body = true := by decide +kernel
theorem sc_f_numbers_to : FnScope N_f_numbers_to [Str.ofString "town", Str.ofString "goal"] (defScope (top 59)) := ⟨rfl, rfl, rfl, by decide +kernel, rfl, by decide +kernel, by decide +kernel⟩
theorem ch_f_all_get : chkB T_48 ⟨N_f_all_get, defScope (top 68), fun _ => true⟩ c_f_all_get.body (defBody (top 68)) = true := by decide +kernel
theorem ok_f_all_get : CB.okG T_48 G_f_all_get 0 c_f_all_get.body = true := by decide +kernel
theorem sc_f_all_get : FnScope N_f_all_get [Str.ofString "town"] (defScope (top 68)) := ⟨rfl, rfl, rfl, by decide +kernel, rfl, by decide +kernel, by decide +kernel⟩
theorem ch_f_directed : chkB T_49 ⟨N_f_directed, defScope (top 71), fun _ => true⟩ c_f_directed.body (defBody (top 71)) = true := by decide +kernel
theorem ok_f_directed : CB.okG T_49 G_f_directed 0 c_f_directed.body = true := by decide +kernel
theorem sc_f_directed : FnScope N_f_directed [Str.ofString "town", Str.ofString "signs", Str.ofString "streets"] (defScope (top 71)) := ⟨rfl, rfl, rfl, by decide +kernel, rfl, by decide +kernel, by decide +kernel⟩
theorem ch_f_house_plan : chkB T_50 ⟨N_f_house_plan, defScope (top 72), fun _ => true⟩ c_f_house_plan.body (defBody (top 72)) = true := by decide +kernel
theorem ok_f_house_plan : CB.okG T_50 G_f_house_plan 0 c_f_house_plan.body = true := by decide +kernel
theorem sc_f_house_plan : FnScope N_f_house_plan [Str.ofString "town"] (defScope (top 72)) := ⟨rfl, rfl, rfl, by decide +kernel, rfl, by decide +kernel, by decide +kernel⟩
theorem ch_f_answer_plans : chkB T_51 ⟨N_f_answer_plans, defScope (top 73), fun _ => true⟩ c_f_answer_plans.body (defBody (top 73)) = true := by decide +kernel
theorem ok_f_answer_plans : CB.okG T_51 G_f_answer_plans 0 c_f_answer_plans.body = true := by decide +kernel
theorem sc_f_answer_plans : FnScope N_f_answer_plans [Str.ofString "town"] (defScope (top 73)) := ⟨rfl, rfl, rfl, by decide +kernel, rfl, by decide +kernel, by decide +kernel⟩
theorem ch_f_must_stay : chkB T_52 ⟨N_f_must_stay, defScope (top 76), fun _ => true⟩ c_f_must_stay.body (defBody (top 76)) = true := by decide +kernel
theorem ok_f_must_stay : CB.okG T_52 G_f_must_stay 0 c_f_must_stay.body = true := by decide +kernel
theorem sc_f_must_stay : FnScope N_f_must_stay [Str.ofString "town"] (defScope (top 76)) := ⟨rfl, rfl, rfl, by decide +kernel, rfl, by decide +kernel, by decide +kernel⟩
theorem ch_f_lean_plan : chkB T_53 ⟨N_f_lean_plan, defScope (top 77), fun _ => true⟩ c_f_lean_plan.body (defBody (top 77)) = true := by decide +kernel
theorem ok_f_lean_plan : CB.okG T_53 G_f_lean_plan 0 c_f_lean_plan.body = true := by decide +kernel
theorem sc_f_lean_plan : FnScope N_f_lean_plan [Str.ofString "town"] (defScope (top 77)) := ⟨rfl, rfl, rfl, by decide +kernel, rfl, by decide +kernel, by decide +kernel⟩
theorem ch_f_answer_kept : chkB T_54 ⟨N_f_answer_kept, defScope (top 78), fun _ => true⟩ c_f_answer_kept.body (defBody (top 78)) = true := by decide +kernel
theorem ok_f_answer_kept : CB.okG T_54 G_f_answer_kept 0 c_f_answer_kept.body = true := by decide +kernel
theorem sc_f_answer_kept : FnScope N_f_answer_kept [Str.ofString "town"] (defScope (top 78)) := ⟨rfl, rfl, rfl, by decide +kernel, rfl, by decide +kernel, by decide +kernel⟩
theorem ch_f_law_numbers : chkB T_55 ⟨N_f_law_numbers, defScope (top 81), fun _ => true⟩ c_f_law_numbers.body (defBody (top 81)) = true := by decide +kernel
theorem ok_f_law_numbers : CB.okG T_55 G_f_law_numbers 0 c_f_law_numbers.body = true := by decide +kernel
theorem sc_f_law_numbers : FnScope N_f_law_numbers [Str.ofString "script", Str.ofString "at", Str.ofString "many"] (defScope (top 81)) := ⟨rfl, rfl, rfl, by decide +kernel, rfl, by decide +kernel, by decide +kernel⟩
theorem ch_f_law_drives : chkB T_56 ⟨N_f_law_drives, defScope (top 82), fun _ => true⟩ c_f_law_drives.body (defBody (top 82)) = true := by decide +kernel
theorem ok_f_law_drives : CB.okG T_56 G_f_law_drives 0 c_f_law_drives.body = true := by decide +kernel
theorem sc_f_law_drives : FnScope N_f_law_drives [Str.ofString "streets"] (defScope (top 82)) := ⟨rfl, rfl, rfl, by decide +kernel, rfl, by decide +kernel, by decide +kernel⟩
theorem ch_f_law_reached : chkB T_57 ⟨N_f_law_reached, defScope (top 83), fun _ => true⟩ c_f_law_reached.body (defBody (top 83)) = true := by decide +kernel
theorem ok_f_law_reached : CB.okG T_57 G_f_law_reached 0 c_f_law_reached.body = true := by decide +kernel
theorem sc_f_law_reached : FnScope N_f_law_reached [Str.ofString "drives", Str.ofString "place"] (defScope (top 83)) := ⟨rfl, rfl, rfl, by decide +kernel, rfl, by decide +kernel, by decide +kernel⟩
theorem ch_f_law_all_get : chkB T_58 ⟨N_f_law_all_get, defScope (top 84), fun _ => true⟩ c_f_law_all_get.body (defBody (top 84)) = true := by decide +kernel
theorem ok_f_law_all_get : CB.okG T_58 G_f_law_all_get 0 c_f_law_all_get.body = true := by decide +kernel
theorem sc_f_law_all_get : FnScope N_f_law_all_get [Str.ofString "places", Str.ofString "streets"] (defScope (top 84)) := ⟨rfl, rfl, rfl, by decide +kernel, rfl, by decide +kernel, by decide +kernel⟩
theorem ch_f_law_by : chkB T_59 ⟨N_f_law_by, defScope (top 85), fun _ => true⟩ c_f_law_by.body (defBody (top 85)) = true := by decide +kernel
theorem ok_f_law_by : CB.okG T_59 G_f_law_by 0 c_f_law_by.body = true := by decide +kernel
theorem sc_f_law_by : FnScope N_f_law_by [Str.ofString "streets", Str.ofString "plan"] (defScope (top 85)) := ⟨rfl, rfl, rfl, by decide +kernel, rfl, by decide +kernel, by decide +kernel⟩
theorem ch_f_law : chkB T_60 ⟨N_f_law, defScope (top 86), fun _ => true⟩ c_f_law.body (defBody (top 86)) = true := by decide +kernel
theorem ok_f_law : CB.okG T_60 G_f_law 0 c_f_law.body = true := by decide +kernel
theorem sc_f_law : FnScope N_f_law [Str.ofString "script"] (defScope (top 86)) := ⟨rfl, rfl, rfl, by decide +kernel, rfl, by decide +kernel, by decide +kernel⟩
end LawC

namespace LawA
open PySem L2 PV PyProof.Rows Hd LawC
def cl (K : PySem.W.Frag) (c : Nat) : Addr := He.ga K ((["Town"] : List Str).getD c "")
section
variable {P : Program} {w : World} {K : PySem.W.Frag} {h : Heap} {mg : Str → Option Value} {base : Heap}
abbrev Fx (K : PySem.W.Frag) (h : Heap) (mg : Str → Option Value) (w : World) : Prop := K.In h ∧ h.Ns mainGlobals mg ∧ He.SaysX fa fn [] [] ex w h K
theorem glo (X : Fx K h mg w) (i : Nat) {x : Str} (e : fa[i]? = some (.glo x)) : mg x = some (.ref (He.ga K x)) := He.glo_ok X.1 X.2.1 (X.2.2.t.d.fact i e)
theorem ex_WORDS (X : Fx K h mg w) : He.tupB K "WORDS" (List.map PV.D.dv [.str (Str.ofString "one"), .str (Str.ofString "two")]) = true := X.2.2.more
theorem bls (X : Fx K h mg w) : ∀ x ∈ blNames, mg x = none := by
  intro x hx
  have hx : x ∈ (["len", "list", "tuple", "sorted", "int", "str", "min", "max", "sum", "all", "any", "isinstance", "range", "enumerate", "zip", "bool"] : List Str) := hx
  simp only [List.mem_cons, List.not_mem_nil, or_false] at hx
  rcases hx with rfl | rfl | rfl | rfl | rfl | rfl | rfl | rfl | rfl | rfl | rfl | rfl | rfl | rfl | rfl | rfl
  · exact He.free_ok X.1 X.2.1 (X.2.2.t.d.fact 0 (f := .free "len") rfl)
  · exact He.free_ok X.1 X.2.1 (X.2.2.t.d.fact 1 (f := .free "list") rfl)
  · exact He.free_ok X.1 X.2.1 (X.2.2.t.d.fact 2 (f := .free "tuple") rfl)
  · exact He.free_ok X.1 X.2.1 (X.2.2.t.d.fact 3 (f := .free "sorted") rfl)
  · exact He.free_ok X.1 X.2.1 (X.2.2.t.d.fact 4 (f := .free "int") rfl)
  · exact He.free_ok X.1 X.2.1 (X.2.2.t.d.fact 5 (f := .free "str") rfl)
  · exact He.free_ok X.1 X.2.1 (X.2.2.t.d.fact 6 (f := .free "min") rfl)
  · exact He.free_ok X.1 X.2.1 (X.2.2.t.d.fact 7 (f := .free "max") rfl)
  · exact He.free_ok X.1 X.2.1 (X.2.2.t.d.fact 8 (f := .free "sum") rfl)
  · exact He.free_ok X.1 X.2.1 (X.2.2.t.d.fact 9 (f := .free "all") rfl)
  · exact He.free_ok X.1 X.2.1 (X.2.2.t.d.fact 10 (f := .free "any") rfl)
  · exact He.free_ok X.1 X.2.1 (X.2.2.t.d.fact 11 (f := .free "isinstance") rfl)
  · exact He.free_ok X.1 X.2.1 (X.2.2.t.d.fact 12 (f := .free "range") rfl)
  · exact He.free_ok X.1 X.2.1 (X.2.2.t.d.fact 13 (f := .free "enumerate") rfl)
  · exact He.free_ok X.1 X.2.1 (X.2.2.t.d.fact 14 (f := .free "zip") rfl)
  · exact He.free_ok X.1 X.2.1 (X.2.2.t.d.fact 15 (f := .free "bool") rfl)
theorem glsOk (X : Fx K h mg w) : ∀ p ∈ gls, Written K (cl K) mg p.1 p.2 := by
  intro p h
  have h : p ∈ (gls) := h
  rcases List.mem_cons.mp h with rfl | h
  · exact written_str (He.str_ok X.1 X.2.1 (X.2.2.t.d.fact 16 (f := .str "FIGURES" (Str.ofString "0123456789")) rfl))
  rcases List.mem_cons.mp h with rfl | h
  · exact written_str (He.str_ok X.1 X.2.1 (X.2.2.t.d.fact 17 (f := .str "LETTERS" (Str.ofString "abcdefghijklmnopqrstuvwxyz")) rfl))
  rcases List.mem_cons.mp h with rfl | h
  · exact written_int (He.int_ok X.1 X.2.1 (X.2.2.t.d.fact 18 (f := .int "LONGEST_NAME" (12)) rfl))
  rcases List.mem_cons.mp h with rfl | h
  · exact written_int (He.int_ok X.1 X.2.1 (X.2.2.t.d.fact 19 (f := .int "MOST_PLACES" (12)) rfl))
  rcases List.mem_cons.mp h with rfl | h
  · exact written_tup (glo X 20 rfl) (ex_WORDS X) rfl
  rcases List.mem_cons.mp h with rfl | h
  · exact written_str (He.str_ok X.1 X.2.1 (X.2.2.t.d.fact 21 (f := .str "TWO_WAY" (Str.ofString "two")) rfl))
  rcases List.mem_cons.mp h with rfl | h
  · exact written_int (He.int_ok X.1 X.2.1 (X.2.2.t.d.fact 22 (f := .int "MOST_STREETS" (24)) rfl))
  rcases List.mem_cons.mp h with rfl | h
  · exact written_str (He.str_ok X.1 X.2.1 (X.2.2.t.d.fact 23 (f := .str "THERE" (Str.ofString ">")) rfl))
  rcases List.mem_cons.mp h with rfl | h
  · exact written_str (He.str_ok X.1 X.2.1 (X.2.2.t.d.fact 24 (f := .str "ONE" (Str.ofString "one")) rfl))
  rcases List.mem_cons.mp h with rfl | h
  · exact written_str (He.str_ok X.1 X.2.1 (X.2.2.t.d.fact 25 (f := .str "BOTH" (Str.ofString "=")) rfl))
  rcases List.mem_cons.mp h with rfl | h
  · exact written_str (He.str_ok X.1 X.2.1 (X.2.2.t.d.fact 26 (f := .str "TWO" (Str.ofString "two")) rfl))
  rcases List.mem_cons.mp h with rfl | h
  · exact written_str (He.str_ok X.1 X.2.1 (X.2.2.t.d.fact 27 (f := .str "CLOSED" (Str.ofString "closed")) rfl))
  rcases List.mem_cons.mp h with rfl | h
  · exact written_str (He.str_ok X.1 X.2.1 (X.2.2.t.d.fact 28 (f := .str "ALL" (Str.ofString "all")) rfl))
  rcases List.mem_cons.mp h with rfl | h
  · exact written_str (He.str_ok X.1 X.2.1 (X.2.2.t.d.fact 29 (f := .str "BACK" (Str.ofString "<")) rfl))
  cases h
theorem fdsOk (X : Fx K h mg w) : ∀ p ∈ fds, Cls K (cl K p.1) ∧ NoAttr K (cl K p.1) p.2 := by
  intro p h
  have h : p ∈ (fds) := h
  rcases List.mem_cons.mp h with rfl | h
  · exact ⟨He.cls_ok (X.2.2.t.d.fact 81 (f := .cls "Town") rfl), He.noat_ok (X.2.2.t.d.fact 83 (f := .noat "Town" "_places") rfl)⟩
  rcases List.mem_cons.mp h with rfl | h
  · exact ⟨He.cls_ok (X.2.2.t.d.fact 81 (f := .cls "Town") rfl), He.noat_ok (X.2.2.t.d.fact 84 (f := .noat "Town" "_streets") rfl)⟩
  rcases List.mem_cons.mp h with rfl | h
  · exact ⟨He.cls_ok (X.2.2.t.d.fact 81 (f := .cls "Town") rfl), He.noat_ok (X.2.2.t.d.fact 85 (f := .noat "Town" "_drives") rfl)⟩
  rcases List.mem_cons.mp h with rfl | h
  · exact ⟨He.cls_ok (X.2.2.t.d.fact 81 (f := .cls "Town") rfl), He.noat_ok (X.2.2.t.d.fact 86 (f := .noat "Town" "_out") rfl)⟩
  rcases List.mem_cons.mp h with rfl | h
  · exact ⟨He.cls_ok (X.2.2.t.d.fact 81 (f := .cls "Town") rfl), He.noat_ok (X.2.2.t.d.fact 87 (f := .noat "Town" "_into") rfl)⟩
  rcases List.mem_cons.mp h with rfl | h
  · exact ⟨He.cls_ok (X.2.2.t.d.fact 81 (f := .cls "Town") rfl), He.noat_ok (X.2.2.t.d.fact 88 (f := .noat "Town" "_at") rfl)⟩
  rcases List.mem_cons.mp h with rfl | h
  · exact ⟨He.cls_ok (X.2.2.t.d.fact 81 (f := .cls "Town") rfl), He.noat_ok (X.2.2.t.d.fact 89 (f := .noat "Town" "_beside") rfl)⟩
  cases h
theorem tok_0 (X : Fx K h mg w) : TOk P w K mg base (cl K) T_0 0 := ⟨bls X, fun e h => (by cases h), glsOk X, fdsOk X⟩
theorem fne_m_town_streets_with (X : Fx K h mg w) (t : TOk P w K mg base (cl K) T_0 0) : FnEOk P w K mg base (cl K) 1 e_m_town_streets_with := by
  obtain ⟨fd, F⟩ := X.2.2.t.d.def_ 0 rfl
  exact fne_meth t F sc_m_town_streets_with (He.cls_ok (X.2.2.t.d.fact 81 (f := .cls "Town") rfl)) (He.meth_ok (X.2.2.t.d.fact 90 (f := .meth "Town" "streets_with") rfl)) (F.bindsN (ps := ["self", "place"]) fun _ _ _ _ _ _ us hl => match us, hl with | [_, _], _ => rfl) (by rfl) (by rfl) (by rfl) (by decide +kernel) ch_m_town_streets_with ok_m_town_streets_with (by decide +kernel) rfl
theorem tok_1 (X : Fx K h mg w) : TOk P w K mg base (cl K) T_1 1 := (tok_0 X).next (by decide) (fne_m_town_streets_with X (tok_0 X))
theorem fne_f_other_end (X : Fx K h mg w) (t : TOk P w K mg base (cl K) T_1 1) : FnEOk P w K mg base (cl K) 2 e_f_other_end := by
  obtain ⟨fd, F⟩ := X.2.2.t.d.def_ 1 rfl
  exact fne_fn t F sc_f_other_end (glo X 30 rfl) (F.bindsN (ps := ["ends", "place"]) fun _ _ _ _ _ _ us hl => match us, hl with | [_, _], _ => rfl) (by rfl) (by rfl) (by rfl) (by decide +kernel) ch_f_other_end ok_f_other_end (by decide +kernel) rfl
theorem tok_2 (X : Fx K h mg w) : TOk P w K mg base (cl K) T_2 2 := (tok_1 X).next (by decide) (fne_f_other_end X (tok_1 X))
theorem fne_m_town_across (X : Fx K h mg w) (t : TOk P w K mg base (cl K) T_2 2) : FnEOk P w K mg base (cl K) 3 e_m_town_across := by
  obtain ⟨fd, F⟩ := X.2.2.t.d.def_ 2 rfl
  exact fne_meth t F sc_m_town_across (He.cls_ok (X.2.2.t.d.fact 81 (f := .cls "Town") rfl)) (He.meth_ok (X.2.2.t.d.fact 91 (f := .meth "Town" "across") rfl)) (F.bindsN (ps := ["self", "street", "place"]) fun _ _ _ _ _ _ us hl => match us, hl with | [_, _, _], _ => rfl) (by rfl) (by rfl) (by rfl) (by decide +kernel) ch_m_town_across ok_m_town_across (by decide +kernel) rfl
theorem tok_3 (X : Fx K h mg w) : TOk P w K mg base (cl K) T_3 3 := (tok_2 X).next (by decide) (fne_m_town_across X (tok_2 X))
theorem fne_f_hanging_from (X : Fx K h mg w) (t : TOk P w K mg base (cl K) T_3 3) : FnEOk P w K mg base (cl K) 4 e_f_hanging_from := by
  obtain ⟨fd, F⟩ := X.2.2.t.d.def_ 3 rfl
  exact fne_fn t F sc_f_hanging_from (glo X 31 rfl) (F.bindsN (ps := ["town", "place", "barred"]) fun _ _ _ _ _ _ us hl => match us, hl with | [_, _, _], _ => rfl) (by rfl) (by rfl) (by rfl) (by decide +kernel) ch_f_hanging_from ok_f_hanging_from (by decide +kernel) rfl
theorem tok_4 (X : Fx K h mg w) : TOk P w K mg base (cl K) T_4 4 := (tok_3 X).next (by decide) (fne_f_hanging_from X (tok_3 X))
theorem fne_f_hang_together (X : Fx K h mg w) (t : TOk P w K mg base (cl K) T_4 4) : FnEOk P w K mg base (cl K) 5 e_f_hang_together := by
  obtain ⟨fd, F⟩ := X.2.2.t.d.def_ 4 rfl
  exact fne_fn t F sc_f_hang_together (glo X 32 rfl) (F.bindsN (ps := ["town", "first", "second", "barred"]) fun _ _ _ _ _ _ us hl => match us, hl with | [_, _, _, _], _ => rfl) (by rfl) (by rfl) (by rfl) (by decide +kernel) ch_f_hang_together ok_f_hang_together (by decide +kernel) rfl
theorem tok_5 (X : Fx K h mg w) : TOk P w K mg base (cl K) T_5 5 := (tok_4 X).next (by decide) (fne_f_hang_together X (tok_4 X))
theorem fne_m_town_ends (X : Fx K h mg w) (t : TOk P w K mg base (cl K) T_5 5) : FnEOk P w K mg base (cl K) 6 e_m_town_ends := by
  obtain ⟨fd, F⟩ := X.2.2.t.d.def_ 5 rfl
  exact fne_meth t F sc_m_town_ends (He.cls_ok (X.2.2.t.d.fact 81 (f := .cls "Town") rfl)) (He.meth_ok (X.2.2.t.d.fact 92 (f := .meth "Town" "ends") rfl)) (F.bindsN (ps := ["self", "street"]) fun _ _ _ _ _ _ us hl => match us, hl with | [_, _], _ => rfl) (by rfl) (by rfl) (by rfl) (by decide +kernel) ch_m_town_ends ok_m_town_ends (by decide +kernel) rfl
theorem tok_6 (X : Fx K h mg w) : TOk P w K mg base (cl K) T_6 6 := (tok_5 X).next (by decide) (fne_m_town_ends X (tok_5 X))
theorem fne_f_is_link (X : Fx K h mg w) (t : TOk P w K mg base (cl K) T_6 6) : FnEOk P w K mg base (cl K) 7 e_f_is_link := by
  obtain ⟨fd, F⟩ := X.2.2.t.d.def_ 6 rfl
  exact fne_fn t F sc_f_is_link (glo X 33 rfl) (F.bindsN (ps := ["town", "street"]) fun _ _ _ _ _ _ us hl => match us, hl with | [_, _], _ => rfl) (by rfl) (by rfl) (by rfl) (by decide +kernel) ch_f_is_link ok_f_is_link (by decide +kernel) rfl
theorem tok_7 (X : Fx K h mg w) : TOk P w K mg base (cl K) T_7 7 := (tok_6 X).next (by decide) (fne_f_is_link X (tok_6 X))
theorem fne_m_town_streets (X : Fx K h mg w) (t : TOk P w K mg base (cl K) T_7 7) : FnEOk P w K mg base (cl K) 8 e_m_town_streets := by
  obtain ⟨fd, F⟩ := X.2.2.t.d.def_ 7 rfl
  exact fne_meth t F sc_m_town_streets (He.cls_ok (X.2.2.t.d.fact 81 (f := .cls "Town") rfl)) (He.meth_ok (X.2.2.t.d.fact 93 (f := .meth "Town" "streets") rfl)) (F.bindsN (ps := ["self"]) fun _ _ _ _ _ _ us hl => match us, hl with | [_], _ => rfl) (by rfl) (by rfl) (by rfl) (by decide +kernel) ch_m_town_streets ok_m_town_streets (by decide +kernel) rfl
theorem tok_8 (X : Fx K h mg w) : TOk P w K mg base (cl K) T_8 8 := (tok_7 X).next (by decide) (fne_m_town_streets X (tok_7 X))
theorem fne_f_all_links (X : Fx K h mg w) (t : TOk P w K mg base (cl K) T_8 8) : FnEOk P w K mg base (cl K) 9 e_f_all_links := by
  obtain ⟨fd, F⟩ := X.2.2.t.d.def_ 8 rfl
  exact fne_fn t F sc_f_all_links (glo X 34 rfl) (F.bindsN (ps := ["town"]) fun _ _ _ _ _ _ us hl => match us, hl with | [_], _ => rfl) (by rfl) (by rfl) (by rfl) (by decide +kernel) ch_f_all_links ok_f_all_links (by decide +kernel) rfl
theorem tok_9 (X : Fx K h mg w) : TOk P w K mg base (cl K) T_9 9 := (tok_8 X).next (by decide) (fne_f_all_links X (tok_8 X))
theorem fne_f_links (X : Fx K h mg w) (t : TOk P w K mg base (cl K) T_9 9) : FnEOk P w K mg base (cl K) 10 e_f_links := by
  obtain ⟨fd, F⟩ := X.2.2.t.d.def_ 9 rfl
  exact fne_fn t F sc_f_links (glo X 35 rfl) (F.bindsN (ps := ["town"]) fun _ _ _ _ _ _ us hl => match us, hl with | [_], _ => rfl) (by rfl) (by rfl) (by rfl) (by decide +kernel) ch_f_links ok_f_links (by decide +kernel) rfl
theorem tok_10 (X : Fx K h mg w) : TOk P w K mg base (cl K) T_10 10 := (tok_9 X).next (by decide) (fne_f_links X (tok_9 X))
theorem fne_f_drives_of (X : Fx K h mg w) (t : TOk P w K mg base (cl K) T_10 10) : FnEOk P w K mg base (cl K) 11 e_f_drives_of := by
  obtain ⟨fd, F⟩ := X.2.2.t.d.def_ 10 rfl
  exact fne_fn t F sc_f_drives_of (glo X 36 rfl) (F.bindsN (ps := ["street", "ends"]) fun _ _ _ _ _ _ us hl => match us, hl with | [_, _], _ => rfl) (by rfl) (by rfl) (by rfl) (by decide +kernel) ch_f_drives_of ok_f_drives_of (by decide +kernel) rfl
theorem tok_11 (X : Fx K h mg w) : TOk P w K mg base (cl K) T_11 11 := (tok_10 X).next (by decide) (fne_f_drives_of X (tok_10 X))
theorem fne_f_all_drives (X : Fx K h mg w) (t : TOk P w K mg base (cl K) T_11 11) : FnEOk P w K mg base (cl K) 12 e_f_all_drives := by
  obtain ⟨fd, F⟩ := X.2.2.t.d.def_ 11 rfl
  exact fne_fn t F sc_f_all_drives (glo X 37 rfl) (F.bindsN (ps := ["streets"]) fun _ _ _ _ _ _ us hl => match us, hl with | [_], _ => rfl) (by rfl) (by rfl) (by rfl) (by decide +kernel) ch_f_all_drives ok_f_all_drives (by decide +kernel) rfl
theorem tok_12 (X : Fx K h mg w) : TOk P w K mg base (cl K) T_12 12 := (tok_11 X).next (by decide) (fne_f_all_drives X (tok_11 X))
theorem fne_f_is_ascending (X : Fx K h mg w) (t : TOk P w K mg base (cl K) T_12 12) : FnEOk P w K mg base (cl K) 13 e_f_is_ascending := by
  obtain ⟨fd, F⟩ := X.2.2.t.d.def_ 12 rfl
  exact fne_fn t F sc_f_is_ascending (glo X 38 rfl) (F.bindsN (ps := ["values"]) fun _ _ _ _ _ _ us hl => match us, hl with | [_], _ => rfl) (by rfl) (by rfl) (by rfl) (by decide +kernel) ch_f_is_ascending ok_f_is_ascending (by decide +kernel) rfl
theorem tok_13 (X : Fx K h mg w) : TOk P w K mg base (cl K) T_13 13 := (tok_12 X).next (by decide) (fne_f_is_ascending X (tok_12 X))
theorem fne_f_has_name_signs (X : Fx K h mg w) (t : TOk P w K mg base (cl K) T_13 13) : FnEOk P w K mg base (cl K) 14 e_f_has_name_signs := by
  obtain ⟨fd, F⟩ := X.2.2.t.d.def_ 13 rfl
  exact fne_fn t F sc_f_has_name_signs (glo X 39 rfl) (F.bindsN (ps := ["text"]) fun _ _ _ _ _ _ us hl => match us, hl with | [_], _ => rfl) (by rfl) (by rfl) (by rfl) (by decide +kernel) ch_f_has_name_signs ok_f_has_name_signs (by decide +kernel) rfl
theorem tok_14 (X : Fx K h mg w) : TOk P w K mg base (cl K) T_14 14 := (tok_13 X).next (by decide) (fne_f_has_name_signs X (tok_13 X))
theorem fne_f_is_name (X : Fx K h mg w) (t : TOk P w K mg base (cl K) T_14 14) : FnEOk P w K mg base (cl K) 15 e_f_is_name := by
  obtain ⟨fd, F⟩ := X.2.2.t.d.def_ 14 rfl
  exact fne_fn t F sc_f_is_name (glo X 40 rfl) (F.bindsN (ps := ["value"]) fun _ _ _ _ _ _ us hl => match us, hl with | [_], _ => rfl) (by rfl) (by rfl) (by rfl) (by decide +kernel) ch_f_is_name ok_f_is_name (by decide +kernel) rfl
theorem tok_15 (X : Fx K h mg w) : TOk P w K mg base (cl K) T_15 15 := (tok_14 X).next (by decide) (fne_f_is_name X (tok_14 X))
theorem fne_f_are_names (X : Fx K h mg w) (t : TOk P w K mg base (cl K) T_15 15) : FnEOk P w K mg base (cl K) 16 e_f_are_names := by
  obtain ⟨fd, F⟩ := X.2.2.t.d.def_ 15 rfl
  exact fne_fn t F sc_f_are_names (glo X 41 rfl) (F.bindsN (ps := ["value"]) fun _ _ _ _ _ _ us hl => match us, hl with | [_], _ => rfl) (by rfl) (by rfl) (by rfl) (by decide +kernel) ch_f_are_names ok_f_are_names (by decide +kernel) rfl
theorem tok_16 (X : Fx K h mg w) : TOk P w K mg base (cl K) T_16 16 := (tok_15 X).next (by decide) (fne_f_are_names X (tok_15 X))
theorem fne_f_are_places (X : Fx K h mg w) (t : TOk P w K mg base (cl K) T_16 16) : FnEOk P w K mg base (cl K) 17 e_f_are_places := by
  obtain ⟨fd, F⟩ := X.2.2.t.d.def_ 16 rfl
  exact fne_fn t F sc_f_are_places (glo X 42 rfl) (F.bindsN (ps := ["value"]) fun _ _ _ _ _ _ us hl => match us, hl with | [_], _ => rfl) (by rfl) (by rfl) (by rfl) (by decide +kernel) ch_f_are_places ok_f_are_places (by decide +kernel) rfl
theorem tok_17 (X : Fx K h mg w) : TOk P w K mg base (cl K) T_17 17 := (tok_16 X).next (by decide) (fne_f_are_places X (tok_16 X))
theorem fne_f_is_end (X : Fx K h mg w) (t : TOk P w K mg base (cl K) T_17 17) : FnEOk P w K mg base (cl K) 18 e_f_is_end := by
  obtain ⟨fd, F⟩ := X.2.2.t.d.def_ 17 rfl
  exact fne_fn t F sc_f_is_end (glo X 43 rfl) (F.bindsN (ps := ["places", "value"]) fun _ _ _ _ _ _ us hl => match us, hl with | [_, _], _ => rfl) (by rfl) (by rfl) (by rfl) (by decide +kernel) ch_f_is_end ok_f_is_end (by decide +kernel) rfl
theorem tok_18 (X : Fx K h mg w) : TOk P w K mg base (cl K) T_18 18 := (tok_17 X).next (by decide) (fne_f_is_end X (tok_17 X))
theorem fne_f_is_word (X : Fx K h mg w) (t : TOk P w K mg base (cl K) T_18 18) : FnEOk P w K mg base (cl K) 19 e_f_is_word := by
  obtain ⟨fd, F⟩ := X.2.2.t.d.def_ 18 rfl
  exact fne_fn t F sc_f_is_word (glo X 44 rfl) (F.bindsN (ps := ["value"]) fun _ _ _ _ _ _ us hl => match us, hl with | [_], _ => rfl) (by rfl) (by rfl) (by rfl) (by decide +kernel) ch_f_is_word ok_f_is_word (by decide +kernel) rfl
theorem tok_19 (X : Fx K h mg w) : TOk P w K mg base (cl K) T_19 19 := (tok_18 X).next (by decide) (fne_f_is_word X (tok_18 X))
theorem fne_f_is_street_of (X : Fx K h mg w) (t : TOk P w K mg base (cl K) T_19 19) : FnEOk P w K mg base (cl K) 20 e_f_is_street_of := by
  obtain ⟨fd, F⟩ := X.2.2.t.d.def_ 19 rfl
  exact fne_fn t F sc_f_is_street_of (glo X 45 rfl) (F.bindsN (ps := ["places", "value"]) fun _ _ _ _ _ _ us hl => match us, hl with | [_, _], _ => rfl) (by rfl) (by rfl) (by rfl) (by decide +kernel) ch_f_is_street_of ok_f_is_street_of (by decide +kernel) rfl
theorem tok_20 (X : Fx K h mg w) : TOk P w K mg base (cl K) T_20 20 := (tok_19 X).next (by decide) (fne_f_is_street_of X (tok_19 X))
theorem fne_f_first_wrong_street (X : Fx K h mg w) (t : TOk P w K mg base (cl K) T_20 20) : FnEOk P w K mg base (cl K) 21 e_f_first_wrong_street := by
  obtain ⟨fd, F⟩ := X.2.2.t.d.def_ 20 rfl
  exact fne_fn t F sc_f_first_wrong_street (glo X 46 rfl) (F.bindsN (ps := ["places", "streets"]) fun _ _ _ _ _ _ us hl => match us, hl with | [_, _], _ => rfl) (by rfl) (by rfl) (by rfl) (by decide +kernel) ch_f_first_wrong_street ok_f_first_wrong_street (by decide +kernel) rfl
theorem tok_21 (X : Fx K h mg w) : TOk P w K mg base (cl K) T_21 21 := (tok_20 X).next (by decide) (fne_f_first_wrong_street X (tok_20 X))
theorem fne_f_check_town (X : Fx K h mg w) (t : TOk P w K mg base (cl K) T_21 21) : FnEOk P w K mg base (cl K) 22 e_f_check_town := by
  obtain ⟨fd, F⟩ := X.2.2.t.d.def_ 21 rfl
  exact fne_fn t F sc_f_check_town (glo X 47 rfl) (F.bindsN (ps := ["places", "streets"]) fun _ _ _ _ _ _ us hl => match us, hl with | [_, _], _ => rfl) (by rfl) (by rfl) (by rfl) (by decide +kernel) ch_f_check_town ok_f_check_town (by decide +kernel) rfl
theorem tok_22 (X : Fx K h mg w) : TOk P w K mg base (cl K) T_22 22 := (tok_21 X).next (by decide) (fne_f_check_town X (tok_21 X))
theorem fne_f_by_place (X : Fx K h mg w) (t : TOk P w K mg base (cl K) T_22 22) : FnEOk P w K mg base (cl K) 23 e_f_by_place := by
  obtain ⟨fd, F⟩ := X.2.2.t.d.def_ 22 rfl
  exact fne_fn t F sc_f_by_place (glo X 48 rfl) (F.bindsN (ps := ["places", "drives", "part"]) fun _ _ _ _ _ _ us hl => match us, hl with | [_, _, _], _ => rfl) (by rfl) (by rfl) (by rfl) (by decide +kernel) ch_f_by_place ok_f_by_place (by decide +kernel) rfl
theorem tok_23 (X : Fx K h mg w) : TOk P w K mg base (cl K) T_23 23 := (tok_22 X).next (by decide) (fne_f_by_place X (tok_22 X))
theorem fne_f_streets_at (X : Fx K h mg w) (t : TOk P w K mg base (cl K) T_23 23) : FnEOk P w K mg base (cl K) 24 e_f_streets_at := by
  obtain ⟨fd, F⟩ := X.2.2.t.d.def_ 23 rfl
  exact fne_fn t F sc_f_streets_at (glo X 49 rfl) (F.bindsN (ps := ["places", "streets"]) fun _ _ _ _ _ _ us hl => match us, hl with | [_, _], _ => rfl) (by rfl) (by rfl) (by rfl) (by decide +kernel) ch_f_streets_at ok_f_streets_at (by decide +kernel) rfl
theorem tok_24 (X : Fx K h mg w) : TOk P w K mg base (cl K) T_24 24 := (tok_23 X).next (by decide) (fne_f_streets_at X (tok_23 X))
theorem fne_f_places_beside (X : Fx K h mg w) (t : TOk P w K mg base (cl K) T_24 24) : FnEOk P w K mg base (cl K) 25 e_f_places_beside := by
  obtain ⟨fd, F⟩ := X.2.2.t.d.def_ 24 rfl
  exact fne_fn t F sc_f_places_beside (glo X 50 rfl) (F.bindsN (ps := ["places", "streets", "at"]) fun _ _ _ _ _ _ us hl => match us, hl with | [_, _, _], _ => rfl) (by rfl) (by rfl) (by rfl) (by decide +kernel) ch_f_places_beside ok_f_places_beside (by decide +kernel) rfl
theorem tok_25 (X : Fx K h mg w) : TOk P w K mg base (cl K) T_25 25 := (tok_24 X).next (by decide) (fne_f_places_beside X (tok_24 X))
theorem fne_m_town_init (X : Fx K h mg w) (t : TOk P w K mg base (cl K) T_25 25) : FnEOk P w K mg base (cl K) 27 e_m_town_init := by
  obtain ⟨fd, F⟩ := X.2.2.t.d.def_ 25 rfl
  exact fne_mk t F sc_m_town_init (He.mkr_ok (X.2.2.t.d.fact 82 (f := .mkr "Town") rfl)) (glo X 80 rfl) (F.bindsN (ps := ["self", "places", "streets"]) fun _ _ _ _ _ _ us hl => match us, hl with | [_, _, _], _ => rfl) (by rfl) (by rfl) (by rfl) (by decide +kernel) ch_m_town_init ok_m_town_init (by decide +kernel) (by rfl) (by decide +kernel) rfl
theorem tok_26 (X : Fx K h mg w) : TOk P w K mg base (cl K) T_26 27 := (tok_25 X).next (by decide) (fne_m_town_init X (tok_25 X))
theorem fne_m_town_places (X : Fx K h mg w) (t : TOk P w K mg base (cl K) T_26 27) : FnEOk P w K mg base (cl K) 28 e_m_town_places := by
  obtain ⟨fd, F⟩ := X.2.2.t.d.def_ 26 rfl
  exact fne_meth t F sc_m_town_places (He.cls_ok (X.2.2.t.d.fact 81 (f := .cls "Town") rfl)) (He.meth_ok (X.2.2.t.d.fact 94 (f := .meth "Town" "places") rfl)) (F.bindsN (ps := ["self"]) fun _ _ _ _ _ _ us hl => match us, hl with | [_], _ => rfl) (by rfl) (by rfl) (by rfl) (by decide +kernel) ch_m_town_places ok_m_town_places (by decide +kernel) rfl
theorem tok_27 (X : Fx K h mg w) : TOk P w K mg base (cl K) T_27 28 := (tok_26 X).next (by decide) (fne_m_town_places X (tok_26 X))
theorem fne_f_as_list (X : Fx K h mg w) (t : TOk P w K mg base (cl K) T_27 28) : FnEOk P w K mg base (cl K) 29 e_f_as_list := by
  obtain ⟨fd, F⟩ := X.2.2.t.d.def_ 27 rfl
  exact fne_fn t F sc_f_as_list (glo X 51 rfl) (F.bindsN (ps := ["town", "places"]) fun _ _ _ _ _ _ us hl => match us, hl with | [_, _], _ => rfl) (by rfl) (by rfl) (by rfl) (by decide +kernel) ch_f_as_list ok_f_as_list (by decide +kernel) rfl
theorem tok_28 (X : Fx K h mg w) : TOk P w K mg base (cl K) T_28 29 := (tok_27 X).next (by decide) (fne_f_as_list X (tok_27 X))
theorem fne_f_halves_of (X : Fx K h mg w) (t : TOk P w K mg base (cl K) T_28 29) : FnEOk P w K mg base (cl K) 30 e_f_halves_of := by
  obtain ⟨fd, F⟩ := X.2.2.t.d.def_ 28 rfl
  exact fne_fn t F sc_f_halves_of (glo X 52 rfl) (F.bindsN (ps := ["town", "street"]) fun _ _ _ _ _ _ us hl => match us, hl with | [_, _], _ => rfl) (by rfl) (by rfl) (by rfl) (by decide +kernel) ch_f_halves_of ok_f_halves_of (by decide +kernel) rfl
theorem tok_29 (X : Fx K h mg w) : TOk P w K mg base (cl K) T_29 30 := (tok_28 X).next (by decide) (fne_f_halves_of X (tok_28 X))
theorem fne_f_is_whole (X : Fx K h mg w) (t : TOk P w K mg base (cl K) T_29 30) : FnEOk P w K mg base (cl K) 31 e_f_is_whole := by
  obtain ⟨fd, F⟩ := X.2.2.t.d.def_ 29 rfl
  exact fne_fn t F sc_f_is_whole (glo X 53 rfl) (F.bindsN (ps := ["value"]) fun _ _ _ _ _ _ us hl => match us, hl with | [_], _ => rfl) (by rfl) (by rfl) (by rfl) (by decide +kernel) ch_f_is_whole ok_f_is_whole (by decide +kernel) rfl
theorem tok_30 (X : Fx K h mg w) : TOk P w K mg base (cl K) T_30 31 := (tok_29 X).next (by decide) (fne_f_is_whole X (tok_29 X))
theorem fne_f_is_from_to (X : Fx K h mg w) (t : TOk P w K mg base (cl K) T_30 31) : FnEOk P w K mg base (cl K) 32 e_f_is_from_to := by
  obtain ⟨fd, F⟩ := X.2.2.t.d.def_ 30 rfl
  exact fne_fn t F sc_f_is_from_to (glo X 54 rfl) (F.bindsN (ps := ["value", "least", "greatest"]) fun _ _ _ _ _ _ us hl => match us, hl with | [_, _, _], _ => rfl) (by rfl) (by rfl) (by rfl) (by decide +kernel) ch_f_is_from_to ok_f_is_from_to (by decide +kernel) rfl
theorem tok_31 (X : Fx K h mg w) : TOk P w K mg base (cl K) T_31 32 := (tok_30 X).next (by decide) (fne_f_is_from_to X (tok_30 X))
theorem fne_m_town_is_street (X : Fx K h mg w) (t : TOk P w K mg base (cl K) T_31 32) : FnEOk P w K mg base (cl K) 33 e_m_town_is_street := by
  obtain ⟨fd, F⟩ := X.2.2.t.d.def_ 31 rfl
  exact fne_meth t F sc_m_town_is_street (He.cls_ok (X.2.2.t.d.fact 81 (f := .cls "Town") rfl)) (He.meth_ok (X.2.2.t.d.fact 95 (f := .meth "Town" "is_street") rfl)) (F.bindsN (ps := ["self", "value"]) fun _ _ _ _ _ _ us hl => match us, hl with | [_, _], _ => rfl) (by rfl) (by rfl) (by rfl) (by decide +kernel) ch_m_town_is_street ok_m_town_is_street (by decide +kernel) rfl
theorem tok_32 (X : Fx K h mg w) : TOk P w K mg base (cl K) T_32 33 := (tok_31 X).next (by decide) (fne_m_town_is_street X (tok_31 X))
theorem fne_m_town_check_street (X : Fx K h mg w) (t : TOk P w K mg base (cl K) T_32 33) : FnEOk P w K mg base (cl K) 34 e_m_town_check_street := by
  obtain ⟨fd, F⟩ := X.2.2.t.d.def_ 32 rfl
  exact fne_meth t F sc_m_town_check_street (He.cls_ok (X.2.2.t.d.fact 81 (f := .cls "Town") rfl)) (He.meth_ok (X.2.2.t.d.fact 96 (f := .meth "Town" "check_street") rfl)) (F.bindsN (ps := ["self", "value"]) fun _ _ _ _ _ _ us hl => match us, hl with | [_, _], _ => rfl) (by rfl) (by rfl) (by rfl) (by decide +kernel) ch_m_town_check_street ok_m_town_check_street (by decide +kernel) rfl
theorem tok_33 (X : Fx K h mg w) : TOk P w K mg base (cl K) T_33 34 := (tok_32 X).next (by decide) (fne_m_town_check_street X (tok_32 X))
theorem fne_f_halves (X : Fx K h mg w) (t : TOk P w K mg base (cl K) T_33 34) : FnEOk P w K mg base (cl K) 35 e_f_halves := by
  obtain ⟨fd, F⟩ := X.2.2.t.d.def_ 33 rfl
  exact fne_fn t F sc_f_halves (glo X 55 rfl) (F.bindsN (ps := ["town", "street"]) fun _ _ _ _ _ _ us hl => match us, hl with | [_, _], _ => rfl) (by rfl) (by rfl) (by rfl) (by decide +kernel) ch_f_halves ok_f_halves (by decide +kernel) rfl
theorem tok_34 (X : Fx K h mg w) : TOk P w K mg base (cl K) T_34 35 := (tok_33 X).next (by decide) (fne_f_halves X (tok_33 X))
theorem fne_m_town_drives_from (X : Fx K h mg w) (t : TOk P w K mg base (cl K) T_34 35) : FnEOk P w K mg base (cl K) 36 e_m_town_drives_from := by
  obtain ⟨fd, F⟩ := X.2.2.t.d.def_ 34 rfl
  exact fne_meth t F sc_m_town_drives_from (He.cls_ok (X.2.2.t.d.fact 81 (f := .cls "Town") rfl)) (He.meth_ok (X.2.2.t.d.fact 97 (f := .meth "Town" "drives_from") rfl)) (F.bindsN (ps := ["self", "place"]) fun _ _ _ _ _ _ us hl => match us, hl with | [_, _], _ => rfl) (by rfl) (by rfl) (by rfl) (by decide +kernel) ch_m_town_drives_from ok_m_town_drives_from (by decide +kernel) rfl
theorem tok_35 (X : Fx K h mg w) : TOk P w K mg base (cl K) T_35 36 := (tok_34 X).next (by decide) (fne_m_town_drives_from X (tok_34 X))
theorem fne_f_numbers_from (X : Fx K h mg w) (t : TOk P w K mg base (cl K) T_35 36) : FnEOk P w K mg base (cl K) 37 e_f_numbers_from := by
  obtain ⟨fd, F⟩ := X.2.2.t.d.def_ 35 rfl
  exact fne_fn t F sc_f_numbers_from (glo X 56 rfl) (F.bindsN (ps := ["town", "start"]) fun _ _ _ _ _ _ us hl => match us, hl with | [_, _], _ => rfl) (by rfl) (by rfl) (by rfl) (by decide +kernel) ch_f_numbers_from ok_f_numbers_from (by decide +kernel) rfl
theorem tok_36 (X : Fx K h mg w) : TOk P w K mg base (cl K) T_36 37 := (tok_35 X).next (by decide) (fne_f_numbers_from X (tok_35 X))
theorem fne_f_in_town_order (X : Fx K h mg w) (t : TOk P w K mg base (cl K) T_36 37) : FnEOk P w K mg base (cl K) 38 e_f_in_town_order := by
  obtain ⟨fd, F⟩ := X.2.2.t.d.def_ 36 rfl
  exact fne_fn t F sc_f_in_town_order (glo X 57 rfl) (F.bindsN (ps := ["town", "places"]) fun _ _ _ _ _ _ us hl => match us, hl with | [_, _], _ => rfl) (by rfl) (by rfl) (by rfl) (by decide +kernel) ch_f_in_town_order ok_f_in_town_order (by decide +kernel) rfl
theorem tok_37 (X : Fx K h mg w) : TOk P w K mg base (cl K) T_37 38 := (tok_36 X).next (by decide) (fne_f_in_town_order X (tok_36 X))
theorem fne_f_gets_everywhere (X : Fx K h mg w) (t : TOk P w K mg base (cl K) T_37 38) : FnEOk P w K mg base (cl K) 39 e_f_gets_everywhere := by
  obtain ⟨fd, F⟩ := X.2.2.t.d.def_ 37 rfl
  exact fne_fn t F sc_f_gets_everywhere (glo X 58 rfl) (F.bindsN (ps := ["town", "place"]) fun _ _ _ _ _ _ us hl => match us, hl with | [_, _], _ => rfl) (by rfl) (by rfl) (by rfl) (by decide +kernel) ch_f_gets_everywhere ok_f_gets_everywhere (by decide +kernel) rfl
theorem tok_38 (X : Fx K h mg w) : TOk P w K mg base (cl K) T_38 39 := (tok_37 X).next (by decide) (fne_f_gets_everywhere X (tok_37 X))
theorem fne_f_first_shut_in (X : Fx K h mg w) (t : TOk P w K mg base (cl K) T_38 39) : FnEOk P w K mg base (cl K) 40 e_f_first_shut_in := by
  obtain ⟨fd, F⟩ := X.2.2.t.d.def_ 38 rfl
  exact fne_fn t F sc_f_first_shut_in (glo X 59 rfl) (F.bindsN (ps := ["town"]) fun _ _ _ _ _ _ us hl => match us, hl with | [_], _ => rfl) (by rfl) (by rfl) (by rfl) (by decide +kernel) ch_f_first_shut_in ok_f_first_shut_in (by decide +kernel) rfl
theorem tok_39 (X : Fx K h mg w) : TOk P w K mg base (cl K) T_39 40 := (tok_38 X).next (by decide) (fne_f_first_shut_in X (tok_38 X))
theorem fne_f_answer_ways (X : Fx K h mg w) (t : TOk P w K mg base (cl K) T_39 40) : FnEOk P w K mg base (cl K) 41 e_f_answer_ways := by
  obtain ⟨fd, F⟩ := X.2.2.t.d.def_ 39 rfl
  exact fne_fn t F sc_f_answer_ways (glo X 60 rfl) (F.bindsN (ps := ["town"]) fun _ _ _ _ _ _ us hl => match us, hl with | [_], _ => rfl) (by rfl) (by rfl) (by rfl) (by decide +kernel) ch_f_answer_ways ok_f_answer_ways (by decide +kernel) rfl
theorem tok_40 (X : Fx K h mg w) : TOk P w K mg base (cl K) T_40 41 := (tok_39 X).next (by decide) (fne_f_answer_ways X (tok_39 X))
theorem fne_m_town_two_way (X : Fx K h mg w) (t : TOk P w K mg base (cl K) T_40 41) : FnEOk P w K mg base (cl K) 42 e_m_town_two_way := by
  obtain ⟨fd, F⟩ := X.2.2.t.d.def_ 40 rfl
  exact fne_meth t F sc_m_town_two_way (He.cls_ok (X.2.2.t.d.fact 81 (f := .cls "Town") rfl)) (He.meth_ok (X.2.2.t.d.fact 98 (f := .meth "Town" "two_way") rfl)) (F.bindsN (ps := ["self"]) fun _ _ _ _ _ _ us hl => match us, hl with | [_], _ => rfl) (by rfl) (by rfl) (by rfl) (by decide +kernel) ch_m_town_two_way ok_m_town_two_way (by decide +kernel) rfl
theorem tok_41 (X : Fx K h mg w) : TOk P w K mg base (cl K) T_41 42 := (tok_40 X).next (by decide) (fne_m_town_two_way X (tok_40 X))
theorem fne_f_two_way_links (X : Fx K h mg w) (t : TOk P w K mg base (cl K) T_41 42) : FnEOk P w K mg base (cl K) 43 e_f_two_way_links := by
  obtain ⟨fd, F⟩ := X.2.2.t.d.def_ 41 rfl
  exact fne_fn t F sc_f_two_way_links (glo X 61 rfl) (F.bindsN (ps := ["town"]) fun _ _ _ _ _ _ us hl => match us, hl with | [_], _ => rfl) (by rfl) (by rfl) (by rfl) (by decide +kernel) ch_f_two_way_links ok_f_two_way_links (by decide +kernel) rfl
theorem tok_42 (X : Fx K h mg w) : TOk P w K mg base (cl K) T_42 43 := (tok_41 X).next (by decide) (fne_f_two_way_links X (tok_41 X))
theorem fne_f_first_signs (X : Fx K h mg w) (t : TOk P w K mg base (cl K) T_42 43) : FnEOk P w K mg base (cl K) 44 e_f_first_signs := by
  obtain ⟨fd, F⟩ := X.2.2.t.d.def_ 42 rfl
  exact fne_fn t F sc_f_first_signs (glo X 62 rfl) (F.bindsN (ps := ["town"]) fun _ _ _ _ _ _ us hl => match us, hl with | [_], _ => rfl) (by rfl) (by rfl) (by rfl) (by decide +kernel) ch_f_first_signs ok_f_first_signs (by decide +kernel) rfl
theorem tok_43 (X : Fx K h mg w) : TOk P w K mg base (cl K) T_43 44 := (tok_42 X).next (by decide) (fne_f_first_signs X (tok_42 X))
theorem fne_f_street_by (X : Fx K h mg w) (t : TOk P w K mg base (cl K) T_43 44) : FnEOk P w K mg base (cl K) 45 e_f_street_by := by
  obtain ⟨fd, F⟩ := X.2.2.t.d.def_ 43 rfl
  exact fne_fn t F sc_f_street_by (glo X 63 rfl) (F.bindsN (ps := ["street", "sign"]) fun _ _ _ _ _ _ us hl => match us, hl with | [_, _], _ => rfl) (by rfl) (by rfl) (by rfl) (by decide +kernel) ch_f_street_by ok_f_street_by (by decide +kernel) rfl
theorem tok_44 (X : Fx K h mg w) : TOk P w K mg base (cl K) T_44 45 := (tok_43 X).next (by decide) (fne_f_street_by X (tok_43 X))
theorem fne_f_town_by (X : Fx K h mg w) (t : TOk P w K mg base (cl K) T_44 45) : FnEOk P w K mg base (cl K) 46 e_f_town_by := by
  obtain ⟨fd, F⟩ := X.2.2.t.d.def_ 44 rfl
  exact fne_fn t F sc_f_town_by (glo X 64 rfl) (F.bindsN (ps := ["town", "signs"]) fun _ _ _ _ _ _ us hl => match us, hl with | [_, _], _ => rfl) (by rfl) (by rfl) (by rfl) (by decide +kernel) ch_f_town_by ok_f_town_by (by decide +kernel) rfl
theorem tok_45 (X : Fx K h mg w) : TOk P w K mg base (cl K) T_45 46 := (tok_44 X).next (by decide) (fne_f_town_by X (tok_44 X))
theorem fne_f_with_sign (X : Fx K h mg w) (t : TOk P w K mg base (cl K) T_45 46) : FnEOk P w K mg base (cl K) 47 e_f_with_sign := by
  obtain ⟨fd, F⟩ := X.2.2.t.d.def_ 45 rfl
  exact fne_fn t F sc_f_with_sign (glo X 65 rfl) (F.bindsN (ps := ["signs", "street", "sign"]) fun _ _ _ _ _ _ us hl => match us, hl with | [_, _, _], _ => rfl) (by rfl) (by rfl) (by rfl) (by decide +kernel) ch_f_with_sign ok_f_with_sign (by decide +kernel) rfl
theorem tok_46 (X : Fx K h mg w) : TOk P w K mg base (cl K) T_46 47 := (tok_45 X).next (by decide) (fne_f_with_sign X (tok_45 X))
theorem fne_m_town_drives_to (X : Fx K h mg w) (t : TOk P w K mg base (cl K) T_46 47) : FnEOk P w K mg base (cl K) 48 e_m_town_drives_to := by
  obtain ⟨fd, F⟩ := X.2.2.t.d.def_ 46 rfl
  exact fne_meth t F sc_m_town_drives_to (He.cls_ok (X.2.2.t.d.fact 81 (f := .cls "Town") rfl)) (He.meth_ok (X.2.2.t.d.fact 99 (f := .meth "Town" "drives_to") rfl)) (F.bindsN (ps := ["self", "place"]) fun _ _ _ _ _ _ us hl => match us, hl with | [_, _], _ => rfl) (by rfl) (by rfl) (by rfl) (by decide +kernel) ch_m_town_drives_to ok_m_town_drives_to (by decide +kernel) rfl
theorem tok_47 (X : Fx K h mg w) : TOk P w K mg base (cl K) T_47 48 := (tok_46 X).next (by decide) (fne_m_town_drives_to X (tok_46 X))
theorem fne_f_numbers_to (X : Fx K h mg w) (t : TOk P w K mg base (cl K) T_47 48) : FnEOk P w K mg base (cl K) 49 e_f_numbers_to := by
  obtain ⟨fd, F⟩ := X.2.2.t.d.def_ 47 rfl
  exact fne_fn t F sc_f_numbers_to (glo X 66 rfl) (F.bindsN (ps := ["town", "goal"]) fun _ _ _ _ _ _ us hl => match us, hl with | [_, _], _ => rfl) (by rfl) (by rfl) (by rfl) (by decide +kernel) ch_f_numbers_to ok_f_numbers_to (by decide +kernel) rfl
theorem tok_48 (X : Fx K h mg w) : TOk P w K mg base (cl K) T_48 49 := (tok_47 X).next (by decide) (fne_f_numbers_to X (tok_47 X))
theorem fne_f_all_get (X : Fx K h mg w) (t : TOk P w K mg base (cl K) T_48 49) : FnEOk P w K mg base (cl K) 50 e_f_all_get := by
  obtain ⟨fd, F⟩ := X.2.2.t.d.def_ 48 rfl
  exact fne_fn t F sc_f_all_get (glo X 67 rfl) (F.bindsN (ps := ["town"]) fun _ _ _ _ _ _ us hl => match us, hl with | [_], _ => rfl) (by rfl) (by rfl) (by rfl) (by decide +kernel) ch_f_all_get ok_f_all_get (by decide +kernel) rfl
theorem tok_49 (X : Fx K h mg w) : TOk P w K mg base (cl K) T_49 50 := (tok_48 X).next (by decide) (fne_f_all_get X (tok_48 X))
theorem fne_f_directed (X : Fx K h mg w) (t : TOk P w K mg base (cl K) T_49 50) : FnEOk P w K mg base (cl K) 51 e_f_directed := by
  obtain ⟨fd, F⟩ := X.2.2.t.d.def_ 49 rfl
  exact fne_fn t F sc_f_directed (glo X 68 rfl) (F.bindsN (ps := ["town", "signs", "streets"]) fun _ _ _ _ _ _ us hl => match us, hl with | [_, _, _], _ => rfl) (by rfl) (by rfl) (by rfl) (by decide +kernel) ch_f_directed ok_f_directed (by decide +kernel) rfl
theorem tok_50 (X : Fx K h mg w) : TOk P w K mg base (cl K) T_50 51 := (tok_49 X).next (by decide) (fne_f_directed X (tok_49 X))
theorem fne_f_house_plan (X : Fx K h mg w) (t : TOk P w K mg base (cl K) T_50 51) : FnEOk P w K mg base (cl K) 52 e_f_house_plan := by
  obtain ⟨fd, F⟩ := X.2.2.t.d.def_ 50 rfl
  exact fne_fn t F sc_f_house_plan (glo X 69 rfl) (F.bindsN (ps := ["town"]) fun _ _ _ _ _ _ us hl => match us, hl with | [_], _ => rfl) (by rfl) (by rfl) (by rfl) (by decide +kernel) ch_f_house_plan ok_f_house_plan (by decide +kernel) rfl
theorem tok_51 (X : Fx K h mg w) : TOk P w K mg base (cl K) T_51 52 := (tok_50 X).next (by decide) (fne_f_house_plan X (tok_50 X))
theorem fne_f_answer_plans (X : Fx K h mg w) (t : TOk P w K mg base (cl K) T_51 52) : FnEOk P w K mg base (cl K) 53 e_f_answer_plans := by
  obtain ⟨fd, F⟩ := X.2.2.t.d.def_ 51 rfl
  exact fne_fn t F sc_f_answer_plans (glo X 70 rfl) (F.bindsN (ps := ["town"]) fun _ _ _ _ _ _ us hl => match us, hl with | [_], _ => rfl) (by rfl) (by rfl) (by rfl) (by decide +kernel) ch_f_answer_plans ok_f_answer_plans (by decide +kernel) rfl
theorem tok_52 (X : Fx K h mg w) : TOk P w K mg base (cl K) T_52 53 := (tok_51 X).next (by decide) (fne_f_answer_plans X (tok_51 X))
theorem fne_f_must_stay (X : Fx K h mg w) (t : TOk P w K mg base (cl K) T_52 53) : FnEOk P w K mg base (cl K) 54 e_f_must_stay := by
  obtain ⟨fd, F⟩ := X.2.2.t.d.def_ 52 rfl
  exact fne_fn t F sc_f_must_stay (glo X 71 rfl) (F.bindsN (ps := ["town"]) fun _ _ _ _ _ _ us hl => match us, hl with | [_], _ => rfl) (by rfl) (by rfl) (by rfl) (by decide +kernel) ch_f_must_stay ok_f_must_stay (by decide +kernel) rfl
theorem tok_53 (X : Fx K h mg w) : TOk P w K mg base (cl K) T_53 54 := (tok_52 X).next (by decide) (fne_f_must_stay X (tok_52 X))
theorem fne_f_lean_plan (X : Fx K h mg w) (t : TOk P w K mg base (cl K) T_53 54) : FnEOk P w K mg base (cl K) 55 e_f_lean_plan := by
  obtain ⟨fd, F⟩ := X.2.2.t.d.def_ 53 rfl
  exact fne_fn t F sc_f_lean_plan (glo X 72 rfl) (F.bindsN (ps := ["town"]) fun _ _ _ _ _ _ us hl => match us, hl with | [_], _ => rfl) (by rfl) (by rfl) (by rfl) (by decide +kernel) ch_f_lean_plan ok_f_lean_plan (by decide +kernel) rfl
theorem tok_54 (X : Fx K h mg w) : TOk P w K mg base (cl K) T_54 55 := (tok_53 X).next (by decide) (fne_f_lean_plan X (tok_53 X))
theorem fne_f_answer_kept (X : Fx K h mg w) (t : TOk P w K mg base (cl K) T_54 55) : FnEOk P w K mg base (cl K) 56 e_f_answer_kept := by
  obtain ⟨fd, F⟩ := X.2.2.t.d.def_ 54 rfl
  exact fne_fn t F sc_f_answer_kept (glo X 73 rfl) (F.bindsN (ps := ["town"]) fun _ _ _ _ _ _ us hl => match us, hl with | [_], _ => rfl) (by rfl) (by rfl) (by rfl) (by decide +kernel) ch_f_answer_kept ok_f_answer_kept (by decide +kernel) rfl
theorem tok_55 (X : Fx K h mg w) : TOk P w K mg base (cl K) T_55 56 := (tok_54 X).next (by decide) (fne_f_answer_kept X (tok_54 X))
theorem fne_f_law_numbers (X : Fx K h mg w) (t : TOk P w K mg base (cl K) T_55 56) : FnEOk P w K mg base (cl K) 57 e_f_law_numbers := by
  obtain ⟨fd, F⟩ := X.2.2.t.d.def_ 55 rfl
  exact fne_fn t F sc_f_law_numbers (glo X 74 rfl) (F.bindsN (ps := ["script", "at", "many"]) fun _ _ _ _ _ _ us hl => match us, hl with | [_, _, _], _ => rfl) (by rfl) (by rfl) (by rfl) (by decide +kernel) ch_f_law_numbers ok_f_law_numbers (by decide +kernel) rfl
theorem tok_56 (X : Fx K h mg w) : TOk P w K mg base (cl K) T_56 57 := (tok_55 X).next (by decide) (fne_f_law_numbers X (tok_55 X))
theorem fne_f_law_drives (X : Fx K h mg w) (t : TOk P w K mg base (cl K) T_56 57) : FnEOk P w K mg base (cl K) 58 e_f_law_drives := by
  obtain ⟨fd, F⟩ := X.2.2.t.d.def_ 56 rfl
  exact fne_fn t F sc_f_law_drives (glo X 75 rfl) (F.bindsN (ps := ["streets"]) fun _ _ _ _ _ _ us hl => match us, hl with | [_], _ => rfl) (by rfl) (by rfl) (by rfl) (by decide +kernel) ch_f_law_drives ok_f_law_drives (by decide +kernel) rfl
theorem tok_57 (X : Fx K h mg w) : TOk P w K mg base (cl K) T_57 58 := (tok_56 X).next (by decide) (fne_f_law_drives X (tok_56 X))
theorem fne_f_law_reached (X : Fx K h mg w) (t : TOk P w K mg base (cl K) T_57 58) : FnEOk P w K mg base (cl K) 59 e_f_law_reached := by
  obtain ⟨fd, F⟩ := X.2.2.t.d.def_ 57 rfl
  exact fne_fn t F sc_f_law_reached (glo X 76 rfl) (F.bindsN (ps := ["drives", "place"]) fun _ _ _ _ _ _ us hl => match us, hl with | [_, _], _ => rfl) (by rfl) (by rfl) (by rfl) (by decide +kernel) ch_f_law_reached ok_f_law_reached (by decide +kernel) rfl
theorem tok_58 (X : Fx K h mg w) : TOk P w K mg base (cl K) T_58 59 := (tok_57 X).next (by decide) (fne_f_law_reached X (tok_57 X))
theorem fne_f_law_all_get (X : Fx K h mg w) (t : TOk P w K mg base (cl K) T_58 59) : FnEOk P w K mg base (cl K) 60 e_f_law_all_get := by
  obtain ⟨fd, F⟩ := X.2.2.t.d.def_ 58 rfl
  exact fne_fn t F sc_f_law_all_get (glo X 77 rfl) (F.bindsN (ps := ["places", "streets"]) fun _ _ _ _ _ _ us hl => match us, hl with | [_, _], _ => rfl) (by rfl) (by rfl) (by rfl) (by decide +kernel) ch_f_law_all_get ok_f_law_all_get (by decide +kernel) rfl
theorem tok_59 (X : Fx K h mg w) : TOk P w K mg base (cl K) T_59 60 := (tok_58 X).next (by decide) (fne_f_law_all_get X (tok_58 X))
theorem fne_f_law_by (X : Fx K h mg w) (t : TOk P w K mg base (cl K) T_59 60) : FnEOk P w K mg base (cl K) 61 e_f_law_by := by
  obtain ⟨fd, F⟩ := X.2.2.t.d.def_ 59 rfl
  exact fne_fn t F sc_f_law_by (glo X 78 rfl) (F.bindsN (ps := ["streets", "plan"]) fun _ _ _ _ _ _ us hl => match us, hl with | [_, _], _ => rfl) (by rfl) (by rfl) (by rfl) (by decide +kernel) ch_f_law_by ok_f_law_by (by decide +kernel) rfl
theorem tok_60 (X : Fx K h mg w) : TOk P w K mg base (cl K) T_60 61 := (tok_59 X).next (by decide) (fne_f_law_by X (tok_59 X))
theorem fne_f_law (X : Fx K h mg w) (t : TOk P w K mg base (cl K) T_60 61) : FnEOk P w K mg base (cl K) 62 e_f_law := by
  obtain ⟨fd, F⟩ := X.2.2.t.d.def_ 60 rfl
  exact fne_fn t F sc_f_law (glo X 79 rfl) (F.bindsN (ps := ["script"]) fun _ _ _ _ _ _ us hl => match us, hl with | [_], _ => rfl) (by rfl) (by rfl) (by rfl) (by decide +kernel) ch_f_law ok_f_law (by decide +kernel) rfl
theorem tok_61 (X : Fx K h mg w) : TOk P w K mg base (cl K) T_61 62 := (tok_60 X).next (by decide) (fne_f_law X (tok_60 X))
theorem law_fn (X : Fx K h mg w) {fL : Addr} (hL : mg "law" = some (.ref fL)) : ∃ fd : FuncData, (∀ (s : Shared) (v : Value), BindsTo s fd ⟨[v], []⟩ [("script", v)]) ∧ ∀ base : Heap, FnOk P w K mg base CX0 62 fL fd ["script"] (spF K (cl K) 1 s_f_law 0) := by
  obtain ⟨fd, F⟩ := X.2.2.t.d.def_ 60 rfl
  have e := hL.symm.trans (glo X 79 rfl)
  cases e
  have b := FunD.bindsA (ps := ["script"]) F fun _ _ _ _ _ _ us hl => match us, hl with | [_], _ => rfl
  exact ⟨fd, fun s v => b s [v] rfl, fun base => fn_ok F sc_f_law (tok_60 X) (by rfl) (by rfl) (by decide +kernel) ch_f_law ok_f_law (by decide +kernel)⟩
end
end LawA

set_option Elab.async false
set_option linter.all false
set_option maxRecDepth 100000
set_option maxHeartbeats 0

open PySem PySem.W PySem.Calls PyProof.Rows in
theorem PySem.Challenge.cw_turnedbysteps_k27_whole_links_must_stay_holds : PySem.Challenge.rw_turnedbysteps_k27_whole_links_must_stay.Holds := by
  w_on; o_law
  refine HandSHeadRun.head_any (r := OpenLaw.row PySem.Challenge.rw_turnedbysteps_k27_whole_links_must_stay) (q := view (OpenLaw.row PySem.Challenge.rw_turnedbysteps_k27_whole_links_must_stay).prog [86]) (H := Hd.hk) (ob := Hd.ob) (M := 20000) (loose := Hd.ns) (d := HandSHeadRun.topDef (OpenLaw.row PySem.Challenge.rw_turnedbysteps_k27_whole_links_must_stay).prog 86) (kwd := []) Hd.ob_eq
    (by kernel_rfl) (fun s => by kernel_rfl) Hd.run (by kernel_rfl) (by kernel_rfl) (by kernel_rfl) (by rfl) (by first | assumption | decide +kernel) (by decide +kernel) ⟨rfl, rfl, rfl, rfl, rfl, by decide +kernel⟩ ?hw ?hc
  case hw => w_witness2
  case hc =>
    refine L2.walk_ofE (l := PySem.Challenge.rw_turnedbysteps_k27_whole_links_must_stay) (n := 63) (k := 62) (x := "script") (CX := L2.CX0) rfl (by decide) (by kernel_rfl) ⟨rfl, by decide, by decide⟩ ?F (fun _ _ _ _ z => z)
    intro w mg fa h Y G hmg0
    obtain ⟨K, KX, c⟩ := Y
    have hmg : mg ("law" : PySem.Str) = some (.ref fa) := by
      have e : (HandSHeadRun.topDef (OpenLaw.row PySem.Challenge.rw_turnedbysteps_k27_whole_links_must_stay).prog 86).name = ("law" : PySem.Str) := by kernel_rfl
      rw [← e]
      exact hmg0
    obtain ⟨fd, hb, hF⟩ := LawA.law_fn (P := (PySem.Challenge.rw_turnedbysteps_k27_whole_links_must_stay).prog) (w := w) ⟨KX, G, c⟩ hmg
    exact ⟨K, fd, PV.spF K (LawA.cl K) 1 LawC.s_f_law 0, KX, hb, fun H a ns hl _ hS => PV.law_reads LawM.law_true H a ns hl hS, fun base _ _ => hF base⟩
