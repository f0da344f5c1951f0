import PyProof.Rows.All
import Wide.All
import OpenK.AllK
import Wide.FinOn
import HandS.ForMost
import KE.OsMirror
import HandS.Text
import HandS.Exc
import HandS.CallSlots
import HandS.Style
import HandS.IsInst
import HandS.Dict
import HandS.RaiseMore
import HandS.Star
import HandS.Flow
import HandS.ExcOwn
import HandS.Iter
import HandS.Comp
import HandS.ExcInit
import HandS.ExcField
import HandS.TryOnly
import HandS.ClsMeth
import HandS.Defaults
import HandS.HeadHook1
import HandS.HeadHook2
import HandS.HeadHook4
import HandS.Head0
import HandS.Head1
import HandS.Head2
import HandS.HeadEnd
import HandS.HeadWalk
import PySem.Challenge.RW_looseties_k79_whole_terms_as_texts
set_option Elab.async false
set_option linter.all false
set_option maxRecDepth 100000
set_option maxHeartbeats 4000000
/-! Mi: data, core syntax, the evaluator. -/
namespace Mi
open PySem

/-- data: what a value is, whatever its address; ref: an object of the store -/
inductive D where
  | non | bl (b : Bool) | int (i : Int) | str (x : Str)
  | tup (l : List D) | lst (l : List D) | dct (l : List (Str × D)) | ins (c : Nat) (l : List (Nat × D)) | ref (n : Nat)
  /-- the script -/
  | scr (l : List Int)

/-- an object of the store -/
inductive Cell where
  | lst (l : List D) | dct (l : List (Str × D)) | ins (c : Nat) (l : List (Nat × D)) | dead

/-- the store: the objects, the newest first; the floor: below it no object of the region at hand may be named -/
structure Sto where
  c : List Cell
  fl : Nat

def getc : List Cell → Nat → Option Cell
  | [], _ => none
  | x :: C, l => if l = C.length then some x else getc C l
def setc : List Cell → Nat → Cell → List Cell
  | [], _, _ => []
  | x :: C, l, y => if l = C.length then y :: C else x :: setc C l y

/-- what comes of an expression -/
inductive R (α : Type) where
  | ok (a : α) (S : Sto) | ex (c : Nat) (v : List (Nat × D)) (S : Sto) | bad
def R.bind {α β : Type} (r : R α) (f : α → Sto → R β) : R β := match r with
  | .ok a S => f a S
  | .ex c v S => .ex c v S
  | .bad => .bad

abbrev Env := List (Option D)
/-- what comes of a statement -/
inductive RS where
  | nx (e : Env) (S : Sto) | rt (d : D) (S : Sto) | bk (e : Env) (S : Sto) | ct (e : Env) (S : Sto) | ex (c : Nat) (v : List (Nat × D)) (e : Env) (S : Sto) | bad
/-- an expression's end, then a statement's; e: the names as they are -/
def R.then {α : Type} (r : R α) (e : Env) (f : α → Sto → RS) : RS := match r with
  | .ok a S => f a S
  | .ex c v S => .ex c v e S
  | .bad => .bad
def RS.seq (r : RS) (f : Env → Sto → RS) : RS := match r with
  | .nx e S => f e S
  | r => r

/-! ### sizes -/
def LL : Nat := 1000000
mutual
def D.dep : D → Nat
  | .tup l => D.depL l + 1
  | .lst l => D.depL l + 1
  | _ => 0
def D.depL : List D → Nat
  | [] => 0
  | x :: r => max (D.dep x) (D.depL r)
end
mutual
def D.lt (n : Nat) : D → Bool
  | .tup l => D.ltL n l
  | .lst l => D.ltL n l
  | .dct l => D.ltK n l
  | .ins _ l => D.ltF n l
  | .ref k => decide (k < n)
  | _ => true
def D.ltL (n : Nat) : List D → Bool
  | [] => true
  | x :: r => D.lt n x && D.ltL n r
def D.ltK (n : Nat) : List (Str × D) → Bool
  | [] => true
  | (_, x) :: r => D.lt n x && D.ltK n r
def D.ltF (n : Nat) : List (Nat × D) → Bool
  | [] => true
  | (_, x) :: r => D.lt n x && D.ltF n r
end

/-! ### the syntax -/
inductive BOp where | add | sub | mul | fdiv | mod | pow
inductive COp where | eq | ne | lt | le | gt | ge | isin | notin | is | isnot
inductive Ty where | int | bool | str | list | tuple | dict | cls (c : Nat)
/-- built-in functions by name -/
inductive Bf where | len | list | tuple | dict | int | str | abs | sum | all | any | min | max | repr | sorted
/-- methods of built-in types -/
inductive Bm where | join | split | append | pop | extend | index | clear | get | update
/-- targets -/
inductive Tg where | one (i : Nat) | many (is : List Nat)

mutual
inductive CE where
  | var (i : Nat)
  | cst (d : D)
  | glb (x : Str) (d : D)
  | tup (es : CEs)
  | lst (mu : Bool) (es : CEs)
  | dic (mu : Bool) (ks : List Str) (es : CEs)
  | bin (op : BOp) (a b : CE)
  | neg (a : CE)
  | nott (a : CE)
  | and (a b : CE)
  | or (a b : CE)
  | ife (t a b : CE)
  | cmp (op : COp) (a b : CE)
  | chn (o1 o2 : COp) (a b c : CE)
  | att (o : CE) (f : Nat)
  | idx (o i : CE)
  | slc (o : CE) (lo hi : CO)
  | rev (o : CE)
  | isi (a : CE) (ts : List Ty)
  | bf (b : Bf) (mu : Bool) (es : CEs)
  | bm (m : Bm) (o : CE) (es : CEs)
  | call (f : Nat) (es : CEs)
  | mk (c : Nat) (es : CEs)
  | mth (o : CE) (m : Nat) (es : CEs)
  | lc (mu : Bool) (e : CE) (tg : Tg) (it : CI) (cond : CO)
  | lc2 (mu : Bool) (e : CE) (tg : Tg) (it : CI) (cond : CO) (tg2 : Tg) (it2 : CI) (cond2 : CO)
  | frz (a : CE)
inductive CEs where
  | nil
  | cons (e : CE) (r : CEs)
  | star (e : CE) (r : CEs)
inductive CO where
  | no
  | yes (e : CE)
inductive CI where
  | of (e : CE)
  | range1 (a : CE)
  | range2 (a b : CE)
  | enum (e : CE)
end
mutual
inductive CS where
  | set (i : Nat) (e : CE)
  | par (i j : Nat) (a b : CE)
  | unp (tg : Tg) (e : CE)
  | attS (o : CE) (f : Nat) (e : CE)
  | idxS (o i e : CE)
  | aug (i : Nat) (op : BOp) (e : CE)
  | exp (e : CE)
  | ret (e : CE)
  | retN
  | iff (t : CE) (a b : CSs)
  | forr (tg : Tg) (it : CI) (b : CSs)
  | whil (t : CE) (b : CSs)
  | brk | cnt | pass
  | rais (c : Nat) (es : CEs)
  | tryy (b : CSs) (h : CHs)
inductive CSs where
  | nil
  | cons (s : CS) (r : CSs)
/-- except clauses: the class, the name's slot, the suite: return of e or name = e, .. -/
inductive CHs where
  | nil
  | cons (c : Nat) (i : Option Nat) (b : HS) (r : CHs)
/-- an except suite -/
inductive HS where
  | ret (e : HE)
  | set (i : Nat) (e : HE)
/-- an expression of an except suite -/
inductive HE where
  | cst (d : D)
  | att (i : Nat) (f : Nat)
  | repr (e : HE)
  | tup (es : HEs)
  | lst (es : HEs)
inductive HEs where
  | nil
  | cons (e : HE) (r : HEs)
end

structure FnD where
  np : Nat
  nv : Nat
  reg : Bool
  body : CSs
structure ClsD where
  base : Option Nat
  frozen : Bool
  init : Option Nat
  exc : Option Nat
  meths : List (Nat × Nat)
structure Tab where
  fns : List FnD
  cls : List ClsD

/-- the method m of a class, found on the way up -/
def findM (T : Tab) : Nat → Nat → Nat → Option Nat
  | 0, _, _ => none
  | n + 1, c, m => match T.cls[c]? with
    | none => none
    | some d => match d.meths.lookup m with
      | some f => some f
      | none => match d.base with
        | some b => findM T n b m
        | none => none
/-- whether a class is another one, or below it -/
def isSub (T : Tab) : Nat → Nat → Nat → Bool
  | 0, _, _ => false
  | n + 1, c, b => if c = b then true else match T.cls[c]? with
    | some d => match d.base with
      | some p => isSub T n p b
      | none => false
    | none => false
def DEEP : Nat := 6

/-! ### operations -/
/-- what stands at a reference, as data -/
def derefC : Cell → Option D
  | .lst l => some (.lst l)
  | .dct l => some (.dct l)
  | .ins c l => some (.ins c l)
  | .dead => none
def deref (S : Sto) : D → Option D
  | .ref n => match getc S.c n with
    | some c => derefC c
    | none => none
  | .scr l => some (.lst (l.map .int))
  | d => some d
def R.of {α : Type} (S : Sto) : Option α → R α
  | some a => .ok a S
  | none => .bad
def tru (S : Sto) (d : D) : Option Bool := match d with
  | .non => some false
  | .bl b => some b
  | .int i => some (i != 0)
  | _ => none
mutual
/-- == of data without instances, dicts, references -/
def D.eqv : D → D → Bool
  | .non, .non => true
  | .bl a, .bl b => a == b
  | .bl a, .int j => (if a then 1 else 0) == j
  | .int i, .bl b => i == (if b then 1 else 0)
  | .int i, .int j => i == j
  | .str x, .str y => x == y
  | .lst a, .lst b => D.eqvL a b
  | .tup a, .tup b => D.eqvL a b
  | _, _ => false
def D.eqvL : List D → List D → Bool
  | [], [] => true
  | x :: a, y :: b => D.eqv x y && D.eqvL a b
  | _, _ => false
end
mutual
def D.plain : D → Bool
  | .tup l => D.plainL l
  | .lst l => D.plainL l
  | .dct _ => false
  | .ins _ _ => false
  | .ref _ => false
  | .scr _ => false
  | _ => true
def D.plainL : List D → Bool
  | [] => true
  | x :: r => D.plain x && D.plainL r
end
def eqO (S : Sto) (a b : D) : Option Bool := match deref S a, deref S b with
  | some (.lst (x :: r)), some (.lst []) => some false
  | some x, some y => if x.plain && y.plain && (decide (x.dep ≤ 60) && decide (y.dep ≤ 60)) then some (x.eqv y) else none
  | _, _ => none
def D.isNon : D → Bool
  | .non => true
  | _ => false
def D.flat : D → Bool
  | .non => true
  | .bl _ => true
  | .int _ => true
  | .str _ => true
  | _ => false
def getK (k : Str) (l : List (Str × D)) : Option D := (l.find? fun p => decide (p.1 = k)).map (·.2)
def isinO (S : Sto) (a b : D) : Option Bool := match a, deref S b with
  | .str x, some (.str y) => if x.cps.size = 1 then some (decide (x.cps[0]! ∈ y.cps.toList)) else none
  | x, some (.lst l) => if x.flat && l.all D.flat then some (l.any fun y => y.eqv x) else none
  | x, some (.tup l) => if x.flat && l.all D.flat then some (l.any fun y => y.eqv x) else none
  | .str x, some (.dct l) => some (getK x l).isSome
  | _, _ => none
def cmpO (op : COp) (S : Sto) (a b : D) : Option Bool := match op with
  | .eq => eqO S a b
  | .ne => (eqO S a b).map (!·)
  | .lt => match a, b with | .int i, .int j => some (decide (i < j)) | _, _ => none
  | .le => match a, b with | .int i, .int j => some (decide (i ≤ j)) | _, _ => none
  | .gt => match a, b with | .int i, .int j => some (decide (j < i)) | _, _ => none
  | .ge => match a, b with | .int i, .int j => some (decide (j ≤ i)) | _, _ => none
  | .isin => isinO S a b
  | .notin => (isinO S a b).map (!·)
  | .is => match b with | .non => some a.isNon | _ => none
  | .isnot => match b with | .non => some (!a.isNon) | _ => none
def small (i : Int) : Bool := decide (-(2 ^ 64) < i) && decide (i < 2 ^ 64)
def binO (op : BOp) (a b : D) : Option D := match op with
  | .add => match a, b with
    | .int i, .int j => some (.int (i + j))
    | .str x, .str y => if x.cps.size + y.cps.size ≤ LL then some (.str (x ++ y)) else none
    | .lst x, .lst y => if x.length + y.length ≤ LL then some (.lst (x ++ y)) else none
    | .tup (x :: r), .tup y => if (x :: r).length + y.length ≤ LL then some (.tup (x :: r ++ y)) else none
    | _, _ => none
  | .sub => match a, b with | .int i, .int j => some (.int (i - j)) | _, _ => none
  | .mul => match a, b with
    | .int i, .int j => if small i || small j then some (.int (i * j)) else none
    | _, _ => none
  | .fdiv => match a, b with | .int i, .int j => if 0 < j ∧ j < 1073741824 then some (.int (i / j)) else none | _, _ => none
  | .mod => match a, b with | .int i, .int j => if 0 < j then some (.int (i % j)) else none | _, _ => none
  | .pow => match a, b with | .int i, .int j => if 0 ≤ j ∧ j ≤ 1000000 ∧ i.natAbs < 2 ^ 64 then some (.int (i ^ j.toNat)) else none | _, _ => none
def idxC (o : Option D) (i : D) : Option D := match o, i with
  | some (.lst l), .int i => (L2.ixN l.length i).bind fun j => l[j]?
  | some (.tup l), .int i => (L2.ixN l.length i).bind fun j => l[j]?
  | some (.str x), .int i => (L2.ixN x.cps.size i).bind fun j => x.cps.toList[j]?.map fun c => .str ⟨#[c]⟩
  | some (.dct l), .str k => getK k l
  | _, _ => none
def idxO (S : Sto) (o i : D) : Option D := idxC (deref S o) i
def cut {α : Type} (l : List α) (lo hi : Option Int) : List α := (l.drop (HT.sIx l.length 0 lo)).take (HT.sIx l.length l.length hi - HT.sIx l.length 0 lo)
def slcC (o : Option D) (lo hi : Option Int) : Option D := match o with
  | some (.lst l) => some (.lst (cut l lo hi))
  | some (.tup l) => if HT.sIx l.length 0 lo = 0 ∧ HT.sIx l.length l.length hi = l.length then none else some (.tup (cut l lo hi))
  | _ => none
def slcO (S : Sto) (o : D) (lo hi : Option Int) : Option D := slcC (deref S o) lo hi
def revC (o : Option D) : Option D := match o with
  | some (.lst l) => some (.lst l.reverse)
  | _ => none
def revO (S : Sto) (o : D) : Option D := revC (deref S o)
def attC (o : Option D) (f : Nat) : Option D := match o with
  | some (.ins _ l) => l.lookup f
  | _ => none
def attO (S : Sto) (o : D) (f : Nat) : Option D := attC (deref S o) f
/-- a class with instances -/
def nrm (T : Tab) (c : Nat) : Bool := match T.cls[c]? with
  | some d => d.init.isSome
  | none => false
def tyB : Ty → D → Bool
  | .int, .int _ => true
  | .int, .bl _ => true
  | .bool, .bl _ => true
  | .str, .str _ => true
  | .list, .lst _ => true
  | .tuple, .tup _ => true
  | .dict, .dct _ => true
  | _, _ => false
def isTC (T : Tab) (t : Ty) : Option D → Option Bool
  | some (.ins c _) => if nrm T c then some (match t with
    | .cls b => isSub T DEEP c b
    | _ => false) else none
  | some x => some (tyB t x)
  | none => none
def isT (T : Tab) (S : Sto) (d : D) (t : Ty) : Option Bool := isTC T t (deref S d)
def isTs (T : Tab) (S : Sto) (d : D) : List Ty → Option Bool
  | [] => some false
  | t :: r => match isT T S d t with
    | some true => some true
    | some false => isTs T S d r
    | none => none
def strsO : List D → Option (List Str)
  | [] => some []
  | .str x :: r => (strsO r).map (x :: ·)
  | _ :: _ => none
def blsO : List D → Option (List Bool)
  | [] => some []
  | .bl b :: r => (blsO r).map (b :: ·)
  | _ :: _ => none
def intsO : List D → Option (List Int)
  | [] => some []
  | .int b :: r => (intsO r).map (b :: ·)
  | _ :: _ => none
/-- a list or a tuple -/
def seqC (o : Option D) : Option (List D) := match o with
  | some (.lst l) => some l
  | some (.tup l) => some l
  | _ => none
def seqO (S : Sto) (d : D) : Option (List D) := seqC (deref S d)
def lstC (o : Option D) : Option (List D) := match o with
  | some (.lst l) => some l
  | _ => none
def lenC (o : Option D) : Option D := match o with
  | some (.lst l) => some (.int l.length)
  | some (.tup l) => some (.int l.length)
  | some (.str x) => some (.int x.cps.size)
  | some (.dct l) => some (.int l.length)
  | _ => none
def strOf (i : Int) : Str := Str.ofString (toString i)
def bfO (b : Bf) (S : Sto) (ds : List D) : Option D := match b, ds with
  | .len, [d] => lenC (deref S d)
  | .list, [d] => (seqO S d).map .lst
  | .tuple, [d] => (seqO S d).map .tup
  | .int, [.int i] => some (.int i)
  | .int, [.bl b] => some (.int (if b then 1 else 0))
  | .int, [.str x] => if x.cps.size ≤ 600 then (intText? x).map .int else none
  | .str, [.int i] => if 0 ≤ i ∧ i < 999999 then some (.str (strOf i)) else none
  | .str, [.str x] => some (.str x)
  | .abs, [.int i] => some (.int (if i < 0 then -i else i))
  | .sum, [d] => (lstC (deref S d)).bind fun l => (intsO l).map fun ns => .int ns.sum
  | .all, [d] => (lstC (deref S d)).bind fun l => (blsO l).map fun bs => .bl (bs.all id)
  | .any, [d] => (lstC (deref S d)).bind fun l => (blsO l).map fun bs => .bl (bs.any id)
  | .min, [.int i, .int j] => some (.int (if j < i then j else i))
  | .max, [.int i, .int j] => some (.int (if j > i then j else i))
  | _, _ => none
/-- methods that change nothing -/
def bmO (m : Bm) (S : Sto) (o : D) (ds : List D) : Option D := match m, o, ds with
  | .join, .str x, [d] => (seqO S d).bind fun l => (strsO l).bind fun ys => if (ys.map (·.length)).sum + ys.length * x.length ≤ LL then some (.str (Txt.join x ys)) else none
  | .split, .str x, [.str y] => if y.length = 1 ∧ y.cps.all (· < 256) = true ∧ x.length + 2 ≤ LL then some (.lst ((Txt.split x y).map .str)) else none
  | _, _, _ => none
/-- a store at an object below the floor names older objects alone -/
def wOk (S : Sto) (l : Nat) (d : D) : Bool := decide (S.fl ≤ l) || d.lt (l + 1)
def wOkL (S : Sto) (l : Nat) (ds : List D) : Bool := decide (S.fl ≤ l) || D.ltL (l + 1) ds
def alloc (S : Sto) (c : Cell) : R D := .ok (.ref S.c.length) ⟨c :: S.c, S.fl⟩
/-- the new object as data, or as an object of the store -/
def fresh (mu : Bool) (S : Sto) (d : D) : R D := if mu then match d with
    | .lst l => alloc S (.lst l)
    | .dct l => alloc S (.dct l)
    | _ => .bad
  else .ok d S
def putS (S : Sto) (l : Nat) (c : Cell) : Sto := ⟨setc S.c l c, S.fl⟩
def noScr : D → Bool
  | .scr _ => false
  | _ => true
def extC (S : Sto) (d : D) : Option (List D) := if noScr d then lstC (deref S d) else none
/-- methods that change their list -/
def bmW (m : Bm) (S : Sto) (o : D) (ds : List D) : R D := match o with
  | .ref n => match getc S.c n with
    | some (.lst l) => match m, ds with
      | .append, [d] => if wOk S n d && decide (l.length < LL) then .ok .non (putS S n (.lst (l ++ [d]))) else .bad
      | .pop, [] => match l.getLast? with
        | some d => .ok d (putS S n (.lst l.dropLast))
        | none => .bad
      | .extend, [d] => match extC S d with
        | some r => if wOkL S n r && decide (l.length + r.length ≤ LL) then .ok .non (putS S n (.lst (l ++ r))) else .bad
        | _ => .bad
      | .clear, [] => .ok .non (putS S n (.lst []))
      | _, _ => .bad
    | _ => .bad
  | _ => .bad
def isW : Bm → Bool
  | .append => true
  | .pop => true
  | .extend => true
  | .clear => true
  | _ => false
def putK (k : Str) (d : D) (l : List (Str × D)) : List (Str × D) := if (l.any fun p => decide (p.1 = k)) = true then l.map fun p => if p.1 = k then (p.1, d) else p else l ++ [(k, d)]
def bmA (m : Bm) (S : Sto) (o : D) (ds : List D) : R D := if isW m then bmW m S o ds else R.of S (bmO m S o ds)
/-- the kind of thing that has the method -/
def hasM (m : Bm) (S : Sto) (o : D) : Bool := match m, deref S o with
  | .join, some (.str _) => true
  | .split, some (.str _) => true
  | .append, some (.lst _) => true
  | .pop, some (.lst _) => true
  | .extend, some (.lst _) => true
  | .clear, some (.lst _) => true
  | .index, some (.lst _) => true
  | .get, some (.dct _) => true
  | .update, some (.dct _) => true
  | _, _ => false
def putA (k : Nat) (d : D) : List (Nat × D) → List (Nat × D)
  | [] => [(k, d)]
  | (a, x) :: r => if a = k then (k, d) :: r else (a, x) :: putA k d r
def idxSC (S : Sto) (n : Nat) (i d : D) : Option Cell → Option Sto
  | some (.lst l) => match i with
    | .int i => if wOk S n d then (L2.ixN l.length i).map fun j => putS S n (.lst (l.set j d)) else none
    | _ => none
  | some (.dct l) => match i with
    | .str k => if wOk S n d && decide (l.length < LL) then some (putS S n (.dct (putK k d l))) else none
    | _ => none
  | _ => none
def idxS (S : Sto) (o i d : D) : Option Sto := match o with
  | .ref n => idxSC S n i d (getc S.c n)
  | _ => none
def attS (S : Sto) (o : D) (f : Nat) (d : D) : Option Sto := match o with
  | .ref n => match getc S.c n with
    | some (.ins c l) => if wOk S n d && decide (l.length < 100) then some (putS S n (.ins c (putA f d l))) else none
    | _ => none
  | _ => none
/-- what a for walks: a list that stays, or a list of the store as it stands at each turn -/
inductive Itd where
  | fix (l : List D) | live (n : Nat)
def itC (d : D) : Option D → Option Itd
  | some (.lst l) => some (match d with
    | .ref n => .live n
    | _ => .fix l)
  | some (.tup l) => some (.fix l)
  | some (.str x) => some (.fix (x.cps.toList.map fun c => .str ⟨#[c]⟩))
  | _ => none
def iterO (S : Sto) (d : D) : Option Itd := itC d (deref S d)
/-- the item at a turn; none behind the last -/
def itAt (it : Itd) (S : Sto) (i : Nat) : Option (Option D) := match it with
  | .fix l => some l[i]?
  | .live n => match getc S.c n with
    | some (.lst l) => some l[i]?
    | _ => none
def rangeL (lo : Int) (n : Nat) : List D := (List.range n).map fun (k : Nat) => .int (lo + (k : Int))
def enumL (l : List D) : List D := (List.range l.length).zip l |>.map fun p => .tup [.int p.1, p.2]
def rOk (i : Int) : Bool := decide (-(2 ^ 62) ≤ i) && decide (i < 2 ^ 62)
def setN (e : Env) : List Nat → List D → Env
  | i :: is, d :: ds => setN (e.set i (some d)) is ds
  | _, _ => e
def bindT (tg : Tg) (e : Env) (d : D) : Option Env := match tg with
  | .one i => some (e.set i (some d))
  | .many is => match d with
    | .tup l => if l.length = is.length then some (setN e is l) else none
    | _ => none
def Tg.slots : Tg → List Nat
  | .one i => [i]
  | .many is => is
def wipeL (e : Env) : List Nat → Env
  | [] => e
  | v :: vs => (wipeL e vs).set v none
/-- walking a list -/
def lcI (f : D → Sto → R (Option D)) (it : Itd) : Nat → Nat → List D → Sto → R (List D)
  | 0, _, _, _ => .bad
  | n + 1, i, acc, S => match itAt it S i with
    | none => .bad
    | some none => .ok acc S
    | some (some x) => (f x S).bind fun o S => match o with
      | none => lcI f it n (i + 1) acc S
      | some d => if acc.length < LL then lcI f it n (i + 1) (acc ++ [d]) S else .bad
def lcJ (f : D → List D → Sto → R (List D)) (it : Itd) : Nat → Nat → List D → Sto → R (List D)
  | 0, _, _, _ => .bad
  | n + 1, i, acc, S => match itAt it S i with
    | none => .bad
    | some none => .ok acc S
    | some (some x) => (f x acc S).bind fun acc S => lcJ f it n (i + 1) acc S
def noEx {α : Type} (r : R α) : R α := match r with
  | .ex _ _ _ => .bad
  | r => r
def forI (f : D → Env → Sto → RS) (it : Itd) : Nat → Nat → Env → Sto → RS
  | 0, _, _, _ => .bad
  | n + 1, i, e, S => match itAt it S i with
    | none => .bad
    | some none => .nx e S
    | some (some x) => match f x e S with
      | .nx e S => forI f it n (i + 1) e S
      | .ct e S => forI f it n (i + 1) e S
      | .bk e S => .nx e S
      | z => z
/-- more turns than a list may have -/
@[irreducible] def FL : Nat := 1000001
def whileL (t : Env → Sto → R Bool) (b : Env → Sto → RS) : Nat → Env → Sto → RS
  | 0, _, _ => .bad
  | n + 1, e, S => (t e S).then e fun c S => if c then (match b e S with
    | .nx e S => whileL t b n e S
    | .ct e S => whileL t b n e S
    | .bk e S => .nx e S
    | z => z) else .nx e S
@[irreducible] def FUEL : Nat := 1000
/-- leaving a region that was entered with n objects -/
def leave (n fl : Nat) (d : D) (S : Sto) : R D := if d.lt n then .ok d ⟨S.c.drop (S.c.length - n), fl⟩ else .bad
def leaveX (n fl : Nat) (c : Nat) (v : List (Nat × D)) (S : Sto) : R D := if D.ltF n v then .ex c v ⟨S.c.drop (S.c.length - n), fl⟩ else .bad
def leaveR (n fl : Nat) : R D → R D
  | .ok d S => leave n fl d S
  | .ex c v S => leaveX n fl c v S
  | .bad => .bad
/-- the end of an __init__ of an instance that does not change from then on -/
def mkC (n fl : Nat) (S : Sto) : Option Cell → R D
  | some (.ins c l) => leave n fl (.ins c l) S
  | _ => .bad
def mkF (n fl : Nat) : R D → R D
  | .ok d S => if d.isNon then mkC n fl S (getc S.c n) else .bad
  | .ex c v S => leaveX n fl c v S
  | .bad => .bad
def freeze (S : Sto) : D → R D
  | .ref n => match getc S.c n with
    | some (.lst l) => .ok (.lst l) (putS S n .dead)
    | some (.dct l) => .ok (.dct l) (putS S n .dead)
    | _ => .bad
  | _ => .bad
def clsC (m : Nat) : Option D → Option Nat
  | some (.ins c l) => if (l.lookup m).isNone then some c else none
  | _ => none
/-- the class of an instance that has no m of its own -/
def clsOf (S : Sto) (o : D) (m : Nat) : Option Nat := clsC m (deref S o)

/-! ### the evaluator -/
section
variable (T : Tab) (cl : Nat → List D → Sto → R D)
/-- C(..): a new instance, its __init__ -/
def make (c : Nat) (ds : List D) (S : Sto) : R D := match T.cls[c]? with
  | some d => match d.init with
    | some f => if d.frozen
      then mkF S.c.length S.fl (cl f (.ref S.c.length :: ds) ⟨.ins c [] :: S.c, S.c.length⟩)
      else (cl f (.ref S.c.length :: ds) ⟨.ins c [] :: S.c, S.fl⟩).bind fun r S' => if r.isNon then .ok (.ref S.c.length) S' else .bad
    | none => .bad
  | none => .bad
/-- an expression as a value, as a test -/
abbrev Ev := (Env → Sto → R D) × (Env → Sto → R Bool)
def val (v : Env → Sto → R D) : Ev := (v, fun e S => (v e S).bind fun x S => R.of S (tru S x))
mutual
def ev : CE → Ev
  | .var i => val fun e S => match e[i]? with
    | some (some d) => .ok d S
    | _ => .bad
  | .cst d => val fun _ S => .ok d S
  | .glb _ d => val fun _ S => .ok d S
  | .tup es => val fun e S => (evEs es e S).bind fun ds S => if ds.length ≤ LL then .ok (.tup ds) S else .bad
  | .lst mu es => val fun e S => (evEs es e S).bind fun ds S => if ds.length ≤ LL then fresh mu S (.lst ds) else .bad
  | .dic mu ks es => val fun e S => (evEs es e S).bind fun ds S => if ds.length = ks.length then fresh mu S (.dct (ks.zip ds)) else .bad
  | .bin op a b => val fun e S => ((ev a).1 e S).bind fun x S => ((ev b).1 e S).bind fun y S => R.of S (binO op x y)
  | .neg a => val fun e S => ((ev a).1 e S).bind fun x S => match x with
    | .int i => .ok (.int (-i)) S
    | _ => .bad
  | .nott a => (fun e S => ((ev a).1 e S).bind fun x S => match x with
      | .bl b => .ok (.bl (!b)) S
      | _ => .bad, fun e S => ((ev a).2 e S).bind fun c S => .ok (!c) S)
  | .and a b => (fun e S => ((ev a).1 e S).bind fun x S => match x with
      | .bl true => (ev b).1 e S
      | .bl false => .ok (.bl false) S
      | _ => .bad, fun e S => ((ev a).2 e S).bind fun c S => if c then (ev b).2 e S else .ok false S)
  | .or a b => (fun e S => ((ev a).1 e S).bind fun x S => match x with
      | .bl false => (ev b).1 e S
      | .bl true => .ok (.bl true) S
      | _ => .bad, fun e S => ((ev a).2 e S).bind fun c S => if c then .ok true S else (ev b).2 e S)
  | .ife t a b => (fun e S => ((ev t).2 e S).bind fun c S => if c then (ev a).1 e S else (ev b).1 e S,
      fun e S => ((ev t).2 e S).bind fun c S => if c then (ev a).2 e S else (ev b).2 e S)
  | .cmp op a b => val fun e S => ((ev a).1 e S).bind fun x S => ((ev b).1 e S).bind fun y S => R.of S ((cmpO op S x y).map .bl)
  | .chn o1 o2 a b c => val fun e S => ((ev a).1 e S).bind fun x S => ((ev b).1 e S).bind fun y S => (R.of S (cmpO o1 S x y)).bind fun k S =>
      if k then ((ev c).1 e S).bind fun z S => R.of S ((cmpO o2 S y z).map .bl) else .ok (.bl false) S
  | .att o f => val fun e S => ((ev o).1 e S).bind fun x S => R.of S (attO S x f)
  | .idx o i => val fun e S => ((ev o).1 e S).bind fun x S => ((ev i).1 e S).bind fun y S => R.of S (idxO S x y)
  | .slc o lo hi => val fun e S => ((ev o).1 e S).bind fun x S => (evO lo e S).bind fun l S => (evO hi e S).bind fun h S => R.of S (slcO S x l h)
  | .rev o => val fun e S => ((ev o).1 e S).bind fun x S => R.of S (revO S x)
  | .isi a ts => val fun e S => ((ev a).1 e S).bind fun x S => R.of S ((isTs T S x ts).map .bl)
  | .bf b mu es => val fun e S => (evEs es e S).bind fun ds S => (R.of S (bfO b S ds)).bind fun d S => fresh mu S d
  | .bm m o es => val fun e S => ((ev o).1 e S).bind fun x S => if hasM m S x then (evEs es e S).bind fun ds S => bmA m S x ds else .bad
  | .call f es => val fun e S => (evEs es e S).bind fun ds S => cl f ds S
  | .mk c es => val fun e S => (evEs es e S).bind fun ds S => make T cl c ds S
  | .mth o m es => val fun e S => ((ev o).1 e S).bind fun x S => (R.of S ((clsOf S x m).bind fun c => findM T DEEP c m)).bind fun f S => (evEs es e S).bind fun ds S => cl f (x :: ds) S
  | .lc mu el tg it co => val fun e S => (evI it e S).bind fun xs S => (noEx (lcI (fun x S => match bindT tg (wipeL e tg.slots) x with
      | some e' => (evC co e' S).bind fun c S => if c then ((ev el).1 e' S).bind fun d S => .ok (some d) S else .ok none S
      | none => .bad) xs FL 0 [] S)).bind fun ds S => fresh mu S (.lst ds)
  | .lc2 mu el tg it co tg2 it2 co2 => val fun e S => (evI it e S).bind fun xs S => (noEx (lcJ (fun x acc S => match bindT tg (wipeL e (tg.slots ++ tg2.slots)) x with
      | some e' => (evC co e' S).bind fun c S => if c then (evI it2 e' S).bind fun ys S => lcI (fun y S => match bindT tg2 (wipeL e' tg2.slots) y with
          | some e'' => (evC co2 e'' S).bind fun c S => if c then ((ev el).1 e'' S).bind fun d S => .ok (some d) S else .ok none S
          | none => .bad) ys FL 0 acc S else .ok acc S
      | none => .bad) xs FL 0 [] S)).bind fun ds S => fresh mu S (.lst ds)
  | .frz a => val fun e S => ((ev a).1 e S).bind fun x S => freeze S x
def evEs : CEs → Env → Sto → R (List D)
  | .nil => fun _ S => .ok [] S
  | .cons a r => fun e S => ((ev a).1 e S).bind fun x S => (evEs r e S).bind fun xs S => .ok (x :: xs) S
  | .star a r => fun e S => ((ev a).1 e S).bind fun x S => match x with
    | .lst l => (evEs r e S).bind fun xs S => .ok (l ++ xs) S
    | .tup l => (evEs r e S).bind fun xs S => .ok (l ++ xs) S
    | _ => .bad
/-- a part of a slice -/
def evO : CO → Env → Sto → R (Option Int)
  | .no => fun _ S => .ok none S
  | .yes a => fun e S => ((ev a).1 e S).bind fun x S => match x with
    | .int i => .ok (some i) S
    | _ => .bad
/-- the test of a comprehension -/
def evC : CO → Env → Sto → R Bool
  | .no => fun _ S => .ok true S
  | .yes a => (ev a).2
def evI : CI → Env → Sto → R Itd
  | .of a => fun e S => ((ev a).1 e S).bind fun x S => R.of S (iterO S x)
  | .range1 a => fun e S => ((ev a).1 e S).bind fun x S => match x with
    | .int i => if rOk i then .ok (.fix (rangeL 0 i.toNat)) S else .bad
    | _ => .bad
  | .range2 a b => fun e S => ((ev a).1 e S).bind fun x S => ((ev b).1 e S).bind fun y S => match x, y with
    | .int i, .int j => if rOk i && rOk j then .ok (.fix (rangeL i (j - i).toNat)) S else .bad
    | _, _ => .bad
  | .enum a => fun e S => ((ev a).1 e S).bind fun x S => match x with
    | .lst l => .ok (.fix (enumL l)) S
    | .scr l => .ok (.fix (enumL (l.map .int))) S
    | _ => .bad
end
/-! an expression of an except suite; x: the slot of the exception, v: its fields -/
mutual
def evH (x : Option Nat) (v : List (Nat × D)) : HE → Env → Sto → R D
  | .cst d => fun _ S => .ok d S
  | .att i f => fun _ S => if x = some i then R.of S (v.lookup f) else .bad
  | .repr _ => fun _ _ => .bad
  | .tup es => fun e S => (evHs x v es e S).bind fun ds S => if ds.length ≤ LL then .ok (.tup ds) S else .bad
  | .lst es => fun e S => (evHs x v es e S).bind fun ds S => if ds.length ≤ LL then .ok (.lst ds) S else .bad
def evHs (x : Option Nat) (v : List (Nat × D)) : HEs → Env → Sto → R (List D)
  | .nil => fun _ S => .ok [] S
  | .cons a r => fun e S => (evH x v a e S).bind fun d S => (evHs x v r e S).bind fun ds S => .ok (d :: ds) S
end
def evHS (x : Option Nat) (v : List (Nat × D)) : HS → Env → Sto → RS
  | .ret h => fun e S => (noEx (evH x v h e S)).then e fun d S => .rt d S
  | .set i h => fun e S => (noEx (evH x v h e S)).then e fun d S => .nx (e.set i (some d)) S
def wipe (e : Env) : Option Nat → Env
  | some i => e.set i none
  | none => e
def RS.wipe (i : Option Nat) : RS → RS
  | .nx e S => .nx (Mi.wipe e i) S
  | .bk e S => .bk (Mi.wipe e i) S
  | .ct e S => .ct (Mi.wipe e i) S
  | r => r
def slotOk (e : Env) : Option Nat → Bool
  | some i => decide (i < e.length)
  | none => true
/-- a class of exceptions that are raised -/
def excT (T : Tab) (c : Nat) : Bool := match T.cls[c]? with
  | some d => d.exc.isSome
  | none => false
/-- the first clause that takes the exception -/
def handle (c : Nat) (v : List (Nat × D)) : CHs → Env → Sto → RS
  | .nil, e, S => .ex c v e S
  | .cons b i h r, e, S => if isSub T DEEP c b then (if slotOk e i then (evHS i v h (Mi.wipe e i) S).wipe i else .bad) else handle c v r e S
/-- raise C(..) -/
def excOf (c : Nat) (ds : List D) : Option (List (Nat × D)) := match T.cls[c]? with
  | some d => match d.exc, ds with
    | some a, [x] => some [(a, x)]
    | _, _ => none
  | none => none
mutual
def evS : CS → Env → Sto → RS
  | .set i a => fun e S => ((ev T cl a).1 e S).then e fun d S => .nx (e.set i (some d)) S
  | .par i j a b => fun e S => ((ev T cl a).1 e S).then e fun x S => ((ev T cl b).1 e S).then e fun y S => .nx ((e.set i (some x)).set j (some y)) S
  | .unp tg a => fun e S => ((ev T cl a).1 e S).then e fun x S => match bindT tg e x with
    | some e => .nx e S
    | none => .bad
  | .attS o f a => fun e S => ((ev T cl a).1 e S).then e fun d S => ((ev T cl o).1 e S).then e fun x S => match attS S x f d with
    | some S => .nx e S
    | none => .bad
  | .idxS o i a => fun e S => ((ev T cl a).1 e S).then e fun d S => ((ev T cl o).1 e S).then e fun x S => ((ev T cl i).1 e S).then e fun y S => match idxS S x y d with
    | some S => .nx e S
    | none => .bad
  | .aug i op a => fun e S => match e[i]? with
    | some (some x) => ((ev T cl a).1 e S).then e fun y S => match x, y with
      | .int _, .int _ => match binO op x y with
        | some z => .nx (e.set i (some z)) S
        | none => .bad
      | _, _ => .bad
    | _ => .bad
  | .exp a => fun e S => ((ev T cl a).1 e S).then e fun _ S => .nx e S
  | .ret a => fun e S => ((ev T cl a).1 e S).then e fun d S => .rt d S
  | .retN => fun _ S => .rt .non S
  | .iff t a b => fun e S => ((ev T cl t).2 e S).then e fun c S => if c then evSs a e S else evSs b e S
  | .forr tg it b => fun e S => (evI T cl it e S).then e fun xs S => forI (fun x e S => match bindT tg e x with
    | some e => evSs b e S
    | none => .bad) xs FL 0 e S
  | .whil t b => fun e S => whileL (ev T cl t).2 (evSs b) FUEL e S
  | .brk => fun e S => .bk e S
  | .cnt => fun e S => .ct e S
  | .pass => fun e S => .nx e S
  | .rais c es => fun e S => (evEs T cl es e S).then e fun ds S => match excOf T c ds with
    | some v => .ex c v e S
    | none => .bad
  | .tryy b h => fun e S => match evSs b e S with
    | .ex c v e S => if excT T c then handle T c v h e S else .bad
    | r => r
def evSs : CSs → Env → Sto → RS
  | .nil => fun e S => .nx e S
  | .cons s r => fun e S => (evS s e S).seq (evSs r)
end
end
/-- a def's call: k further calls one within the other -/
def endF : RS → R D
  | .rt r S => .ok r S
  | .nx _ S => .ok .non S
  | .ex c v _ S => .ex c v S
  | _ => .bad
def callF (T : Tab) : Nat → Nat → List D → Sto → R D
  | 0, _, _, _ => .bad
  | k + 1, f, ds, S => match T.fns[f]? with
    | none => .bad
    | some d => if ds.length = d.np then
        if d.reg then leaveR S.c.length S.fl (endF (evSs T (callF T k) d.body (ds.map some ++ List.replicate (d.nv - d.np) none) ⟨S.c, S.c.length⟩))
        else endF (evSs T (callF T k) d.body (ds.map some ++ List.replicate (d.nv - d.np) none) S)
      else .bad
end Mi
/-! Ev: what the evaluator gives, by small equations. -/
namespace Mi.Q
open PySem
theorem nrf {α : Type} {a b : α} (h : a = b) : a = b := h
/-! ### names -/
section
variable {α : Type} (a0 a1 a2 a3 a4 a5 a6 a7 a8 a9 a10 a11 a12 a13 a14 a15 a16 a17 a18 a19 x : α) (l : List α)
theorem g0 : (a0 :: l)[0]? = some a0 := nrf rfl
theorem g1 : (a0 :: a1 :: l)[1]? = some a1 := nrf rfl
theorem g2 : (a0 :: a1 :: a2 :: l)[2]? = some a2 := nrf rfl
theorem g3 : (a0 :: a1 :: a2 :: a3 :: l)[3]? = some a3 := nrf rfl
theorem g4 : (a0 :: a1 :: a2 :: a3 :: a4 :: l)[4]? = some a4 := nrf rfl
theorem g5 : (a0 :: a1 :: a2 :: a3 :: a4 :: a5 :: l)[5]? = some a5 := nrf rfl
theorem g6 : (a0 :: a1 :: a2 :: a3 :: a4 :: a5 :: a6 :: l)[6]? = some a6 := nrf rfl
theorem g7 : (a0 :: a1 :: a2 :: a3 :: a4 :: a5 :: a6 :: a7 :: l)[7]? = some a7 := nrf rfl
theorem g8 : (a0 :: a1 :: a2 :: a3 :: a4 :: a5 :: a6 :: a7 :: a8 :: l)[8]? = some a8 := nrf rfl
theorem g9 : (a0 :: a1 :: a2 :: a3 :: a4 :: a5 :: a6 :: a7 :: a8 :: a9 :: l)[9]? = some a9 := nrf rfl
theorem g10 : (a0 :: a1 :: a2 :: a3 :: a4 :: a5 :: a6 :: a7 :: a8 :: a9 :: a10 :: l)[10]? = some a10 := nrf rfl
theorem g11 : (a0 :: a1 :: a2 :: a3 :: a4 :: a5 :: a6 :: a7 :: a8 :: a9 :: a10 :: a11 :: l)[11]? = some a11 := nrf rfl
theorem g12 : (a0 :: a1 :: a2 :: a3 :: a4 :: a5 :: a6 :: a7 :: a8 :: a9 :: a10 :: a11 :: a12 :: l)[12]? = some a12 := nrf rfl
theorem g13 : (a0 :: a1 :: a2 :: a3 :: a4 :: a5 :: a6 :: a7 :: a8 :: a9 :: a10 :: a11 :: a12 :: a13 :: l)[13]? = some a13 := nrf rfl
theorem g14 : (a0 :: a1 :: a2 :: a3 :: a4 :: a5 :: a6 :: a7 :: a8 :: a9 :: a10 :: a11 :: a12 :: a13 :: a14 :: l)[14]? = some a14 := nrf rfl
theorem g15 : (a0 :: a1 :: a2 :: a3 :: a4 :: a5 :: a6 :: a7 :: a8 :: a9 :: a10 :: a11 :: a12 :: a13 :: a14 :: a15 :: l)[15]? = some a15 := nrf rfl
theorem s0 : (a0 :: l).set 0 x = x :: l := nrf rfl
theorem s1 : (a0 :: a1 :: l).set 1 x = a0 :: x :: l := nrf rfl
theorem s2 : (a0 :: a1 :: a2 :: l).set 2 x = a0 :: a1 :: x :: l := nrf rfl
theorem s3 : (a0 :: a1 :: a2 :: a3 :: l).set 3 x = a0 :: a1 :: a2 :: x :: l := nrf rfl
theorem s4 : (a0 :: a1 :: a2 :: a3 :: a4 :: l).set 4 x = a0 :: a1 :: a2 :: a3 :: x :: l := nrf rfl
theorem s5 : (a0 :: a1 :: a2 :: a3 :: a4 :: a5 :: l).set 5 x = a0 :: a1 :: a2 :: a3 :: a4 :: x :: l := nrf rfl
theorem s6 : (a0 :: a1 :: a2 :: a3 :: a4 :: a5 :: a6 :: l).set 6 x = a0 :: a1 :: a2 :: a3 :: a4 :: a5 :: x :: l := nrf rfl
theorem s7 : (a0 :: a1 :: a2 :: a3 :: a4 :: a5 :: a6 :: a7 :: l).set 7 x = a0 :: a1 :: a2 :: a3 :: a4 :: a5 :: a6 :: x :: l := nrf rfl
theorem s8 : (a0 :: a1 :: a2 :: a3 :: a4 :: a5 :: a6 :: a7 :: a8 :: l).set 8 x = a0 :: a1 :: a2 :: a3 :: a4 :: a5 :: a6 :: a7 :: x :: l := nrf rfl
theorem s9 : (a0 :: a1 :: a2 :: a3 :: a4 :: a5 :: a6 :: a7 :: a8 :: a9 :: l).set 9 x = a0 :: a1 :: a2 :: a3 :: a4 :: a5 :: a6 :: a7 :: a8 :: x :: l := nrf rfl
theorem s10 : (a0 :: a1 :: a2 :: a3 :: a4 :: a5 :: a6 :: a7 :: a8 :: a9 :: a10 :: l).set 10 x = a0 :: a1 :: a2 :: a3 :: a4 :: a5 :: a6 :: a7 :: a8 :: a9 :: x :: l := nrf rfl
theorem s11 : (a0 :: a1 :: a2 :: a3 :: a4 :: a5 :: a6 :: a7 :: a8 :: a9 :: a10 :: a11 :: l).set 11 x = a0 :: a1 :: a2 :: a3 :: a4 :: a5 :: a6 :: a7 :: a8 :: a9 :: a10 :: x :: l := nrf rfl
theorem s12 : (a0 :: a1 :: a2 :: a3 :: a4 :: a5 :: a6 :: a7 :: a8 :: a9 :: a10 :: a11 :: a12 :: l).set 12 x = a0 :: a1 :: a2 :: a3 :: a4 :: a5 :: a6 :: a7 :: a8 :: a9 :: a10 :: a11 :: x :: l := nrf rfl
theorem s13 : (a0 :: a1 :: a2 :: a3 :: a4 :: a5 :: a6 :: a7 :: a8 :: a9 :: a10 :: a11 :: a12 :: a13 :: l).set 13 x = a0 :: a1 :: a2 :: a3 :: a4 :: a5 :: a6 :: a7 :: a8 :: a9 :: a10 :: a11 :: a12 :: x :: l := nrf rfl
theorem s14 : (a0 :: a1 :: a2 :: a3 :: a4 :: a5 :: a6 :: a7 :: a8 :: a9 :: a10 :: a11 :: a12 :: a13 :: a14 :: l).set 14 x = a0 :: a1 :: a2 :: a3 :: a4 :: a5 :: a6 :: a7 :: a8 :: a9 :: a10 :: a11 :: a12 :: a13 :: x :: l := nrf rfl
theorem s15 : (a0 :: a1 :: a2 :: a3 :: a4 :: a5 :: a6 :: a7 :: a8 :: a9 :: a10 :: a11 :: a12 :: a13 :: a14 :: a15 :: l).set 15 x = a0 :: a1 :: a2 :: a3 :: a4 :: a5 :: a6 :: a7 :: a8 :: a9 :: a10 :: a11 :: a12 :: a13 :: a14 :: x :: l := nrf rfl
end
/-! ### ends -/
section
variable {α β : Type}
theorem bind_ok (a : α) (S : Sto) (f : α → Sto → R β) : (R.ok a S).bind f = f a S := nrf rfl
theorem bind_ex (c : Nat) (v : List (Nat × D)) (S : Sto) (f : α → Sto → R β) : (R.ex c v S : R α).bind f = .ex c v S := nrf rfl
theorem then_ok (a : α) (S : Sto) (e : Env) (f : α → Sto → RS) : (R.ok a S).then e f = f a S := nrf rfl
theorem then_ex (c : Nat) (v : List (Nat × D)) (S : Sto) (e : Env) (f : α → Sto → RS) : (R.ex c v S : R α).then e f = .ex c v e S := nrf rfl
theorem seq_nx (e : Env) (S : Sto) (f : Env → Sto → RS) : (RS.nx e S).seq f = f e S := nrf rfl
theorem seq_rt (d : D) (S : Sto) (f : Env → Sto → RS) : (RS.rt d S).seq f = .rt d S := nrf rfl
theorem seq_bk (e : Env) (S : Sto) (f : Env → Sto → RS) : (RS.bk e S).seq f = .bk e S := nrf rfl
theorem seq_ct (e : Env) (S : Sto) (f : Env → Sto → RS) : (RS.ct e S).seq f = .ct e S := nrf rfl
theorem seq_ex (c : Nat) (v : List (Nat × D)) (e : Env) (S : Sto) (f : Env → Sto → RS) : (RS.ex c v e S).seq f = .ex c v e S := nrf rfl
theorem of_some (S : Sto) (a : α) : R.of S (some a) = .ok a S := nrf rfl
theorem endF_rt (d : D) (S : Sto) : endF (.rt d S) = .ok d S := nrf rfl
theorem endF_nx (e : Env) (S : Sto) : endF (.nx e S) = .ok .non S := nrf rfl
theorem endF_ex (c : Nat) (v : List (Nat × D)) (e : Env) (S : Sto) : endF (.ex c v e S) = .ex c v S := nrf rfl
theorem leaveR_ok (n fl : Nat) (d : D) (S : Sto) : leaveR n fl (.ok d S) = leave n fl d S := nrf rfl
theorem leaveR_ex (n fl : Nat) (c : Nat) (v : List (Nat × D)) (S : Sto) : leaveR n fl (.ex c v S) = leaveX n fl c v S := nrf rfl
theorem noEx_ok (a : α) (S : Sto) : noEx (R.ok a S) = .ok a S := nrf rfl
/-- a choice within -/
theorem bind_ite (p : Prop) [Decidable p] (x y : R α) (f : α → Sto → R β) : (if p then x else y).bind f = if p then x.bind f else y.bind f := by split <;> rfl
theorem then_ite (p : Prop) [Decidable p] (x y : R α) (e : Env) (f : α → Sto → RS) : (if p then x else y).then e f = if p then x.then e f else y.then e f := by split <;> rfl
theorem seq_ite (p : Prop) [Decidable p] (x y : RS) (f : Env → Sto → RS) : (if p then x else y).seq f = if p then x.seq f else y.seq f := by split <;> rfl
end
/-! ### the store -/
theorem getc_top (x : Cell) (C : List Cell) : getc (x :: C) C.length = some x := if_pos rfl
theorem getc_lt {C : List Cell} {l : Nat} {x : Cell} (h : getc C l = some x) : l < C.length := by
  induction C with
  | nil => cases h
  | cons y C ih =>
    unfold getc at h
    split at h
    · rename_i e; rw [e]; exact Nat.lt_succ_self _
    · exact Nat.lt_succ_of_lt (ih h)
theorem getc_up {C : List Cell} {l : Nat} {x y : Cell} (h : getc C l = some x) : getc (y :: C) l = some x := by
  have := getc_lt h
  unfold getc
  rw [if_neg (by omega)]
  exact h
theorem setc_len (C : List Cell) (l : Nat) (y : Cell) : (setc C l y).length = C.length := by
  induction C with
  | nil => rfl
  | cons x C ih =>
    unfold setc
    split
    · rfl
    · rw [List.length_cons, ih] <;> rfl
theorem getc_same {C : List Cell} {l : Nat} {x y : Cell} (h : getc C l = some x) : getc (setc C l y) l = some y := by
  induction C with
  | nil => cases h
  | cons z C ih =>
    unfold getc at h
    unfold setc
    split at h
    · rename_i e; rw [if_pos e]; unfold getc; rw [if_pos e]
    · rename_i e; rw [if_neg e]; unfold getc; rw [setc_len, if_neg e]; exact ih h
theorem getc_ne {C : List Cell} {l k : Nat} {y : Cell} (h : l ≠ k) : getc (setc C l y) k = getc C k := by
  induction C with
  | nil => rfl
  | cons z C ih =>
    unfold setc
    split
    · rename_i e
      unfold getc
      rw [if_neg (by omega), if_neg (by omega)]
    · unfold getc
      rw [setc_len, ih]
theorem setc_setc (C : List Cell) (l : Nat) (x y : Cell) : setc (setc C l x) l y = setc C l y := by
  induction C with
  | nil => rfl
  | cons z C ih =>
    by_cases e : l = C.length
    · simp [setc, e]
    · simp [setc, e, setc_len, ih]
theorem setc_self {C : List Cell} {l : Nat} {x : Cell} (h : getc C l = some x) : setc C l x = C := by
  induction C with
  | nil => rfl
  | cons z C ih =>
    unfold getc at h
    unfold setc
    split at h
    · rename_i e; rw [if_pos e]; cases h; rfl
    · rename_i e; rw [if_neg e, ih h]
theorem setc_top (x y : Cell) (C : List Cell) : setc (x :: C) C.length y = y :: C := if_pos rfl
theorem setc_up {C : List Cell} {l : Nat} {x y : Cell} (h : l < C.length) : setc (x :: C) l y = x :: setc C l y := if_neg (by omega)
/-! ### loops over a list that stays -/
def forL (f : D → Env → Sto → RS) : List D → Env → Sto → RS
  | [], e, S => .nx e S
  | x :: r, e, S => match f x e S with
    | .nx e S => forL f r e S
    | .ct e S => forL f r e S
    | .bk e S => .nx e S
    | z => z
theorem FL_eq : FL = 1000001 := by unfold FL; rfl
theorem forI_go (f : D → Env → Sto → RS) (l : List D) : ∀ (n i : Nat) (e : Env) (S : Sto), i ≤ l.length → l.length < n + i → forI f (.fix l) n i e S = forL f (l.drop i) e S
  | 0, i, e, S, h, h2 => by omega
  | n + 1, i, e, S, h, h2 => by
    unfold forI
    simp only [itAt]
    by_cases q : i < l.length
    · rw [List.drop_eq_getElem_cons q, List.getElem?_eq_getElem q]
      unfold forL
      simp only
      cases f l[i] e S with
      | nx e S => exact forI_go f l n (i + 1) e S (by omega) (by omega)
      | ct e S => exact forI_go f l n (i + 1) e S (by omega) (by omega)
      | _ => rfl
    · rw [List.getElem?_eq_none (by omega), List.drop_eq_nil_of_le (by omega)]
      rfl
theorem forI_fix (f : D → Env → Sto → RS) {l : List D} (e : Env) (S : Sto) (h : l.length ≤ LL) : forI f (.fix l) FL 0 e S = forL f l e S := by
  have := forI_go f l FL 0 e S (Nat.zero_le _) (by rw [FL_eq]; unfold LL at h; omega)
  rw [List.drop_zero] at this
  exact this
def lcL (f : D → Sto → R (Option D)) : List D → List D → Sto → R (List D)
  | [], acc, S => .ok acc S
  | x :: r, acc, S => (f x S).bind fun o S => match o with
    | none => lcL f r acc S
    | some d => if acc.length < LL then lcL f r (acc ++ [d]) S else .bad
theorem lcI_go (f : D → Sto → R (Option D)) (l : List D) : ∀ (n i : Nat) (acc : List D) (S : Sto), i ≤ l.length → l.length < n + i → lcI f (.fix l) n i acc S = lcL f (l.drop i) acc S
  | 0, i, acc, S, h, h2 => by omega
  | n + 1, i, acc, S, h, h2 => by
    unfold lcI
    simp only [itAt]
    by_cases q : i < l.length
    · rw [List.drop_eq_getElem_cons q, List.getElem?_eq_getElem q]
      unfold lcL
      simp only
      cases f l[i] S with
      | ok o S =>
        cases o with
        | none => exact lcI_go f l n (i + 1) acc S (by omega) (by omega)
        | some d =>
          simp only [bind_ok]
          split
          · exact lcI_go f l n (i + 1) (acc ++ [d]) S (by omega) (by omega)
          · rfl
      | _ => rfl
    · rw [List.getElem?_eq_none (by omega), List.drop_eq_nil_of_le (by omega)]
      rfl
theorem lcI_fix (f : D → Sto → R (Option D)) {l : List D} (acc : List D) (S : Sto) (h : l.length ≤ LL) : lcI f (.fix l) FL 0 acc S = lcL f l acc S := by
  have := lcI_go f l FL 0 acc S (Nat.zero_le _) (by rw [FL_eq]; unfold LL at h; omega)
  rw [List.drop_zero] at this
  exact this
def lcK (f : D → List D → Sto → R (List D)) : List D → List D → Sto → R (List D)
  | [], acc, S => .ok acc S
  | x :: r, acc, S => (f x acc S).bind fun acc S => lcK f r acc S
theorem lcJ_go (f : D → List D → Sto → R (List D)) (l : List D) : ∀ (n i : Nat) (acc : List D) (S : Sto), i ≤ l.length → l.length < n + i → lcJ f (.fix l) n i acc S = lcK f (l.drop i) acc S
  | 0, i, acc, S, h, h2 => by omega
  | n + 1, i, acc, S, h, h2 => by
    unfold lcJ
    simp only [itAt]
    by_cases q : i < l.length
    · rw [List.drop_eq_getElem_cons q, List.getElem?_eq_getElem q]
      unfold lcK
      simp only
      cases f l[i] acc S with
      | ok a S => exact lcJ_go f l n (i + 1) a S (by omega) (by omega)
      | _ => rfl
    · rw [List.getElem?_eq_none (by omega), List.drop_eq_nil_of_le (by omega)]
      rfl
theorem lcJ_fix (f : D → List D → Sto → R (List D)) {l : List D} (acc : List D) (S : Sto) (h : l.length ≤ LL) : lcJ f (.fix l) FL 0 acc S = lcK f l acc S := by
  have := lcJ_go f l FL 0 acc S (Nat.zero_le _) (by rw [FL_eq]; unfold LL at h; omega)
  rw [List.drop_zero] at this
  exact this
/-- a comprehension whose parts leave the store as it is -/
theorem lcL_pure {f : D → Sto → R (Option D)} {S : Sto} (g : D → Option D) : ∀ (l acc : List D), (∀ x ∈ l, f x S = .ok (g x) S) → acc.length + l.length ≤ LL → lcL f l acc S = .ok (acc ++ l.filterMap g) S
  | [], acc, h, hl => by simp [lcL]
  | x :: r, acc, h, hl => by
    unfold lcL
    rw [h x List.mem_cons_self]
    simp only [bind_ok]
    rw [List.length_cons] at hl
    cases q : g x with
    | none =>
      simp only
      rw [lcL_pure g r acc (fun y hy => h y (List.mem_cons_of_mem _ hy)) (by omega), List.filterMap_cons_none q]
    | some d =>
      simp only
      rw [if_pos (by omega), lcL_pure g r (acc ++ [d]) (fun y hy => h y (List.mem_cons_of_mem _ hy)) (by simp; omega), List.filterMap_cons_some q, List.append_assoc]
      rfl
theorem lcL_map {α : Type} {f : D → Sto → R (Option D)} {S : Sto} (en : α → D) (g : α → D) (l : List α) (h : ∀ x ∈ l, f (en x) S = .ok (some (g x)) S) (hl : l.length ≤ LL) : lcL f (l.map en) [] S = .ok (l.map g) S := by
  have : ∀ (l : List α) (acc : List D), (∀ x ∈ l, f (en x) S = .ok (some (g x)) S) → acc.length + l.length ≤ LL → lcL f (l.map en) acc S = .ok (acc ++ l.map g) S := by
    intro l
    induction l with
    | nil => intro acc _ _; simp [lcL]
    | cons x r ih =>
      intro acc h hl
      rw [List.length_cons] at hl
      show (f (en x) S).bind _ = _
      rw [h x List.mem_cons_self]
      simp only [bind_ok]
      rw [if_pos (by omega), ih (acc ++ [g x]) (fun y hy => h y (List.mem_cons_of_mem _ hy)) (by simp; omega), List.append_assoc]
      rfl
  exact this l [] h (by simpa using hl)
theorem lcL_filter {α : Type} {f : D → Sto → R (Option D)} {S : Sto} (en : α → D) (p : α → Bool) (g : α → D) (l : List α) (h : ∀ x ∈ l, f (en x) S = .ok (if p x then some (g x) else none) S) (hl : l.length ≤ LL) : lcL f (l.map en) [] S = .ok ((l.filter p).map g) S := by
  have : ∀ (l : List α) (acc : List D), (∀ x ∈ l, f (en x) S = .ok (if p x then some (g x) else none) S) → acc.length + l.length ≤ LL → lcL f (l.map en) acc S = .ok (acc ++ (l.filter p).map g) S := by
    intro l
    induction l with
    | nil => intro acc _ _; simp [lcL]
    | cons x r ih =>
      intro acc h hl
      rw [List.length_cons] at hl
      show (f (en x) S).bind _ = _
      rw [h x List.mem_cons_self]
      simp only [bind_ok]
      cases q : p x with
      | true =>
        simp only [if_true]
        rw [if_pos (by omega), ih (acc ++ [g x]) (fun y hy => h y (List.mem_cons_of_mem _ hy)) (by simp; omega), List.append_assoc, List.filter_cons_of_pos q]
        rfl
      | false =>
        simp only [Bool.false_eq_true, if_false]
        rw [ih acc (fun y hy => h y (List.mem_cons_of_mem _ hy)) (by omega), List.filter_cons_of_neg (by simp [q])]
  exact this l [] h (by simpa using hl)
/-! ### calls -/
theorem call_succ {T : Tab} {k f : Nat} {d : FnD} {ds : List D} {S : Sto} (h : T.fns[f]? = some d) (hl : ds.length = d.np) (hr : d.reg = false) : callF T (k + 1) f ds S = endF (evSs T (callF T k) d.body (ds.map some ++ List.replicate (d.nv - d.np) none) S) := by
  conv => lhs; unfold callF
  simp only [h]
  rw [if_pos hl, hr]
  rfl
theorem call_reg {T : Tab} {k f : Nat} {d : FnD} {ds : List D} {S : Sto} (h : T.fns[f]? = some d) (hl : ds.length = d.np) (hr : d.reg = true) : callF T (k + 1) f ds S = leaveR S.c.length S.fl (endF (evSs T (callF T k) d.body (ds.map some ++ List.replicate (d.nv - d.np) none) ⟨S.c, S.c.length⟩)) := by
  conv => lhs; unfold callF
  simp only [h]
  rw [if_pos hl, if_pos hr]
theorem blsO_map {α : Type} (p : α → Bool) (l : List α) : blsO (l.map fun x => .bl (p x)) = some (l.map p) := by
  induction l with
  | nil => rfl
  | cons x l ih => simp only [List.map_cons, blsO, ih]; rfl
theorem strsO_map {α : Type} (p : α → Str) (l : List α) : strsO (l.map fun x => .str (p x)) = some (l.map p) := by
  induction l with
  | nil => rfl
  | cons x l ih => simp only [List.map_cons, strsO, ih]; rfl
theorem strsO_strs (l : List Str) : strsO (l.map .str) = some l := by
  have := strsO_map (fun x : Str => x) l
  rwa [List.map_id'] at this
end Mi.Q
/-! Ev2: equations of the evaluator. -/
namespace Mi.Q
open PySem
def lk (o : Option (Option D)) (S : Sto) : R D := match o with
  | some (some d) => .ok d S
  | _ => .bad
theorem lk_some (d : D) (S : Sto) : lk (some (some d)) S = .ok d S := nrf rfl
def mkT (ds : List D) (S : Sto) : R D := if ds.length ≤ LL then .ok (.tup ds) S else .bad
def mkL (ds : List D) (S : Sto) : R D := if ds.length ≤ LL then .ok (.lst ds) S else .bad
theorem mkT_ok {ds : List D} {S : Sto} (h : ds.length ≤ LL) : mkT ds S = .ok (.tup ds) S := if_pos h
theorem mkL_ok {ds : List D} {S : Sto} (h : ds.length ≤ LL) : mkL ds S = .ok (.lst ds) S := if_pos h
section
variable (a b c d e f g h i j k l m n o : D) (S : Sto)
theorem mkT0 : mkT [] S = .ok (.tup []) S := if_pos (by decide)
theorem mkT1 : mkT [a] S = .ok (.tup [a]) S := if_pos (show 1 ≤ LL by decide)
theorem mkT2 : mkT [a, b] S = .ok (.tup [a, b]) S := if_pos (show 2 ≤ LL by decide)
theorem mkT3 : mkT [a, b, c] S = .ok (.tup [a, b, c]) S := if_pos (show 3 ≤ LL by decide)
theorem mkT4 : mkT [a, b, c, d] S = .ok (.tup [a, b, c, d]) S := if_pos (show 4 ≤ LL by decide)
theorem mkT5 : mkT [a, b, c, d, e] S = .ok (.tup [a, b, c, d, e]) S := if_pos (show 5 ≤ LL by decide)
theorem mkT6 : mkT [a, b, c, d, e, f] S = .ok (.tup [a, b, c, d, e, f]) S := if_pos (show 6 ≤ LL by decide)
theorem mkL0 : mkL [] S = .ok (.lst []) S := if_pos (by decide)
theorem mkL1 : mkL [a] S = .ok (.lst [a]) S := if_pos (show 1 ≤ LL by decide)
theorem mkL2 : mkL [a, b] S = .ok (.lst [a, b]) S := if_pos (show 2 ≤ LL by decide)
theorem mkL3 : mkL [a, b, c] S = .ok (.lst [a, b, c]) S := if_pos (show 3 ≤ LL by decide)
theorem mkL4 : mkL [a, b, c, d] S = .ok (.lst [a, b, c, d]) S := if_pos (show 4 ≤ LL by decide)
theorem mkL5 : mkL [a, b, c, d, e] S = .ok (.lst [a, b, c, d, e]) S := if_pos (show 5 ≤ LL by decide)
theorem mkL6 : mkL [a, b, c, d, e, f] S = .ok (.lst [a, b, c, d, e, f]) S := if_pos (show 6 ≤ LL by decide)
theorem mkL7 : mkL [a, b, c, d, e, f, g] S = .ok (.lst [a, b, c, d, e, f, g]) S := if_pos (show 7 ≤ LL by decide)
theorem mkL8 : mkL [a, b, c, d, e, f, g, h] S = .ok (.lst [a, b, c, d, e, f, g, h]) S := if_pos (show 8 ≤ LL by decide)
theorem mkL10 : mkL [a, b, c, d, e, f, g, h, i, j] S = .ok (.lst [a, b, c, d, e, f, g, h, i, j]) S := if_pos (show 10 ≤ LL by decide)
theorem mkL14 : mkL [a, b, c, d, e, f, g, h, i, j, k, l, m, n] S = .ok (.lst [a, b, c, d, e, f, g, h, i, j, k, l, m, n]) S := if_pos (show 14 ≤ LL by decide)
end
def negK (x : D) (S : Sto) : R D := match x with
    | .int i => .ok (.int (-i)) S
    | _ => .bad
theorem negK_int (i : Int) (S : Sto) : negK (.int i) S = .ok (.int (-i)) S := nrf rfl
def notK (x : D) (S : Sto) : R D := match x with
      | .bl b => .ok (.bl (!b)) S
      | _ => .bad
theorem notK_bl (b : Bool) (S : Sto) : notK (.bl b) S = .ok (.bl (!b)) S := nrf rfl
def andK (x : D) (r : R D) (S : Sto) : R D := match x with
      | .bl true => r
      | .bl false => .ok (.bl false) S
      | _ => .bad
def orK (x : D) (r : R D) (S : Sto) : R D := match x with
      | .bl false => r
      | .bl true => .ok (.bl true) S
      | _ => .bad
theorem andK_bl (b : Bool) (r : R D) (S : Sto) : andK (.bl b) r S = if b = true then r else .ok (.bl false) S := by cases b <;> rfl
theorem orK_bl (b : Bool) (r : R D) (S : Sto) : orK (.bl b) r S = if b = true then .ok (.bl true) S else r := by cases b <;> rfl
def frs (mu : Bool) (S : Sto) (ds : List D) : R D := if ds.length ≤ LL then fresh mu S (.lst ds) else .bad
theorem frs_false (S : Sto) (ds : List D) : frs false S ds = mkL ds S := nrf rfl
section
variable (T : Tab) (cl : Nat → List D → Sto → R D) (e : Env) (S : Sto)
theorem e_var (i : Nat) : (ev T cl (.var i)).1 e S = lk e[i]? S := nrf rfl
theorem e_cst (d : D) : (ev T cl (.cst d)).1 e S = .ok d S := nrf rfl
theorem e_glb (x : Str) (d : D) : (ev T cl (.glb x d)).1 e S = .ok d S := nrf rfl
theorem e_tup (es : CEs) : (ev T cl (.tup es)).1 e S = (evEs T cl es e S).bind fun ds S => mkT ds S := nrf rfl
theorem e_lst (mu : Bool) (es : CEs) : (ev T cl (.lst mu es)).1 e S = (evEs T cl es e S).bind fun ds S => frs mu S ds := nrf rfl
theorem e_dic (mu : Bool) (ks : List Str) (es : CEs) : (ev T cl (.dic mu ks es)).1 e S = (evEs T cl es e S).bind fun ds S => if ds.length = ks.length then fresh mu S (.dct (ks.zip ds)) else .bad := nrf rfl
theorem e_bin (op : BOp) (a b : CE) : (ev T cl (.bin op a b)).1 e S = ((ev T cl a).1 e S).bind fun x S => ((ev T cl b).1 e S).bind fun y S => R.of S (binO op x y) := nrf rfl
theorem e_neg (a : CE) : (ev T cl (.neg a)).1 e S = ((ev T cl a).1 e S).bind fun x S => negK x S := nrf rfl
theorem e_nott (a : CE) : (ev T cl (.nott a)).1 e S = ((ev T cl a).1 e S).bind fun x S => notK x S := nrf rfl
theorem e_and (a b : CE) : (ev T cl (.and a b)).1 e S = ((ev T cl a).1 e S).bind fun x S => andK x ((ev T cl b).1 e S) S := nrf rfl
theorem e_or (a b : CE) : (ev T cl (.or a b)).1 e S = ((ev T cl a).1 e S).bind fun x S => orK x ((ev T cl b).1 e S) S := by
  show R.bind _ _ = R.bind _ _
  refine congrArg _ (funext fun x => funext fun S => ?_)
  unfold orK
  cases x with
  | bl b => cases b <;> rfl
  | _ => rfl
theorem e_ife (t a b : CE) : (ev T cl (.ife t a b)).1 e S = ((ev T cl t).2 e S).bind fun c S => if c = true then (ev T cl a).1 e S else (ev T cl b).1 e S := nrf rfl
theorem e_cmp (op : COp) (a b : CE) : (ev T cl (.cmp op a b)).1 e S = ((ev T cl a).1 e S).bind fun x S => ((ev T cl b).1 e S).bind fun y S => R.of S ((cmpO op S x y).map .bl) := nrf rfl
theorem e_chn (o1 o2 : COp) (a b c : CE) : (ev T cl (.chn o1 o2 a b c)).1 e S = ((ev T cl a).1 e S).bind fun x S => ((ev T cl b).1 e S).bind fun y S => (R.of S (cmpO o1 S x y)).bind fun k S =>
      if k = true then ((ev T cl c).1 e S).bind fun z S => R.of S ((cmpO o2 S y z).map .bl) else .ok (.bl false) S := nrf rfl
theorem e_att (o : CE) (f : Nat) : (ev T cl (.att o f)).1 e S = ((ev T cl o).1 e S).bind fun x S => R.of S (attO S x f) := nrf rfl
theorem e_idx (o i : CE) : (ev T cl (.idx o i)).1 e S = ((ev T cl o).1 e S).bind fun x S => ((ev T cl i).1 e S).bind fun y S => R.of S (idxO S x y) := nrf rfl
theorem e_slc (o : CE) (lo hi : CO) : (ev T cl (.slc o lo hi)).1 e S = ((ev T cl o).1 e S).bind fun x S => (evO T cl lo e S).bind fun l S => (evO T cl hi e S).bind fun h S => R.of S (slcO S x l h) := nrf rfl
theorem e_rev (o : CE) : (ev T cl (.rev o)).1 e S = ((ev T cl o).1 e S).bind fun x S => R.of S (revO S x) := nrf rfl
theorem e_isi (a : CE) (ts : List Ty) : (ev T cl (.isi a ts)).1 e S = ((ev T cl a).1 e S).bind fun x S => R.of S ((isTs T S x ts).map .bl) := nrf rfl
theorem e_bf (b : Bf) (mu : Bool) (es : CEs) : (ev T cl (.bf b mu es)).1 e S = (evEs T cl es e S).bind fun ds S => (R.of S (bfO b S ds)).bind fun d S => fresh mu S d := nrf rfl
theorem e_bm (m : Bm) (o : CE) (es : CEs) : (ev T cl (.bm m o es)).1 e S = ((ev T cl o).1 e S).bind fun x S => if hasM m S x = true then (evEs T cl es e S).bind fun ds S => bmA m S x ds else .bad := nrf rfl
theorem e_call (f : Nat) (es : CEs) : (ev T cl (.call f es)).1 e S = (evEs T cl es e S).bind fun ds S => cl f ds S := nrf rfl
theorem e_mk (c : Nat) (es : CEs) : (ev T cl (.mk c es)).1 e S = (evEs T cl es e S).bind fun ds S => make T cl c ds S := nrf rfl
theorem e_mth (o : CE) (m : Nat) (es : CEs) : (ev T cl (.mth o m es)).1 e S = ((ev T cl o).1 e S).bind fun x S => (R.of S ((clsOf S x m).bind fun c => findM T DEEP c m)).bind fun f S => (evEs T cl es e S).bind fun ds S => cl f (x :: ds) S := nrf rfl
/-- one turn of a comprehension -/
def lcT (el : CE) (tg : Tg) (co : CO) (x : D) (S : Sto) : R (Option D) := match bindT tg (wipeL e tg.slots) x with
      | some e' => (evC T cl co e' S).bind fun c S => if c = true then ((ev T cl el).1 e' S).bind fun d S => .ok (some d) S else .ok none S
      | none => .bad
theorem e_lc (mu : Bool) (el : CE) (tg : Tg) (it : CI) (co : CO) : (ev T cl (.lc mu el tg it co)).1 e S = (evI T cl it e S).bind fun xs S => (noEx (lcI (lcT T cl e el tg co) xs FL 0 [] S)).bind fun ds S => fresh mu S (.lst ds) := nrf rfl
def lcT2 (e' : Env) (el : CE) (tg2 : Tg) (co2 : CO) (y : D) (S : Sto) : R (Option D) := match bindT tg2 (wipeL e' tg2.slots) y with
          | some e'' => (evC T cl co2 e'' S).bind fun c S => if c = true then ((ev T cl el).1 e'' S).bind fun d S => .ok (some d) S else .ok none S
          | none => .bad
def lcU (el : CE) (tg : Tg) (co : CO) (tg2 : Tg) (it2 : CI) (co2 : CO) (x : D) (acc : List D) (S : Sto) : R (List D) := match bindT tg (wipeL e (tg.slots ++ tg2.slots)) x with
      | some e' => (evC T cl co e' S).bind fun c S => if c = true then (evI T cl it2 e' S).bind fun ys S => lcI (lcT2 T cl e' el tg2 co2) ys FL 0 acc S else .ok acc S
      | none => .bad
theorem e_lc2 (mu : Bool) (el : CE) (tg : Tg) (it : CI) (co : CO) (tg2 : Tg) (it2 : CI) (co2 : CO) : (ev T cl (.lc2 mu el tg it co tg2 it2 co2)).1 e S = (evI T cl it e S).bind fun xs S => (noEx (lcJ (lcU T cl e el tg co tg2 it2 co2) xs FL 0 [] S)).bind fun ds S => fresh mu S (.lst ds) := nrf rfl
theorem e_frz (a : CE) : (ev T cl (.frz a)).1 e S = ((ev T cl a).1 e S).bind fun x S => freeze S x := nrf rfl
/-! tests -/
theorem t_nott (a : CE) : (ev T cl (.nott a)).2 e S = ((ev T cl a).2 e S).bind fun c S => .ok (!c) S := nrf rfl
theorem t_and (a b : CE) : (ev T cl (.and a b)).2 e S = ((ev T cl a).2 e S).bind fun c S => if c = true then (ev T cl b).2 e S else .ok false S := nrf rfl
theorem t_or (a b : CE) : (ev T cl (.or a b)).2 e S = ((ev T cl a).2 e S).bind fun c S => if c = true then .ok true S else (ev T cl b).2 e S := nrf rfl
theorem t_ife (t a b : CE) : (ev T cl (.ife t a b)).2 e S = ((ev T cl t).2 e S).bind fun c S => if c = true then (ev T cl a).2 e S else (ev T cl b).2 e S := nrf rfl
theorem t_var (i : Nat) : (ev T cl (.var i)).2 e S = ((ev T cl (.var i)).1 e S).bind fun x S => R.of S (tru S x) := nrf rfl
theorem t_cst (d : D) : (ev T cl (.cst d)).2 e S = ((ev T cl (.cst d)).1 e S).bind fun x S => R.of S (tru S x) := nrf rfl
theorem t_glb (x : Str) (d : D) : (ev T cl (.glb x d)).2 e S = ((ev T cl (.glb x d)).1 e S).bind fun x S => R.of S (tru S x) := nrf rfl
theorem t_bin (op : BOp) (a b : CE) : (ev T cl (.bin op a b)).2 e S = ((ev T cl (.bin op a b)).1 e S).bind fun x S => R.of S (tru S x) := nrf rfl
theorem t_cmp (op : COp) (a b : CE) : (ev T cl (.cmp op a b)).2 e S = ((ev T cl (.cmp op a b)).1 e S).bind fun x S => R.of S (tru S x) := nrf rfl
theorem t_chn (o1 o2 : COp) (a b c : CE) : (ev T cl (.chn o1 o2 a b c)).2 e S = ((ev T cl (.chn o1 o2 a b c)).1 e S).bind fun x S => R.of S (tru S x) := nrf rfl
theorem t_att (o : CE) (f : Nat) : (ev T cl (.att o f)).2 e S = ((ev T cl (.att o f)).1 e S).bind fun x S => R.of S (tru S x) := nrf rfl
theorem t_idx (o i : CE) : (ev T cl (.idx o i)).2 e S = ((ev T cl (.idx o i)).1 e S).bind fun x S => R.of S (tru S x) := nrf rfl
theorem t_isi (a : CE) (ts : List Ty) : (ev T cl (.isi a ts)).2 e S = ((ev T cl (.isi a ts)).1 e S).bind fun x S => R.of S (tru S x) := nrf rfl
theorem t_bf (b : Bf) (mu : Bool) (es : CEs) : (ev T cl (.bf b mu es)).2 e S = ((ev T cl (.bf b mu es)).1 e S).bind fun x S => R.of S (tru S x) := nrf rfl
theorem t_bm (m : Bm) (o : CE) (es : CEs) : (ev T cl (.bm m o es)).2 e S = ((ev T cl (.bm m o es)).1 e S).bind fun x S => R.of S (tru S x) := nrf rfl
theorem t_call (f : Nat) (es : CEs) : (ev T cl (.call f es)).2 e S = ((ev T cl (.call f es)).1 e S).bind fun x S => R.of S (tru S x) := nrf rfl
theorem t_mth (o : CE) (m : Nat) (es : CEs) : (ev T cl (.mth o m es)).2 e S = ((ev T cl (.mth o m es)).1 e S).bind fun x S => R.of S (tru S x) := nrf rfl
theorem tru_bl (b : Bool) : tru S (.bl b) = some b := nrf rfl
theorem tru_int (i : Int) : tru S (.int i) = some (i != 0) := nrf rfl
/-! lists of expressions -/
theorem e_nil : evEs T cl .nil e S = .ok [] S := nrf rfl
theorem e_cons (a : CE) (r : CEs) : evEs T cl (.cons a r) e S = ((ev T cl a).1 e S).bind fun x S => (evEs T cl r e S).bind fun xs S => .ok (x :: xs) S := nrf rfl
def starK (x : D) (r : R (List D)) : R (List D) := match x with
    | .lst l => r.bind fun xs S => .ok (l ++ xs) S
    | .tup l => r.bind fun xs S => .ok (l ++ xs) S
    | _ => .bad
theorem e_star (a : CE) (r : CEs) : evEs T cl (.star a r) e S = ((ev T cl a).1 e S).bind fun x S => starK x (evEs T cl r e S) := nrf rfl
theorem starK_lst (l : List D) (r : R (List D)) : starK (.lst l) r = r.bind fun xs S => .ok (l ++ xs) S := nrf rfl
theorem starK_tup (l : List D) (r : R (List D)) : starK (.tup l) r = r.bind fun xs S => .ok (l ++ xs) S := nrf rfl
def evOK (x : D) (S : Sto) : R (Option Int) := match x with
    | .int i => .ok (some i) S
    | _ => .bad
theorem e_no : evO T cl .no e S = .ok none S := nrf rfl
theorem e_yes (a : CE) : evO T cl (.yes a) e S = ((ev T cl a).1 e S).bind fun x S => evOK x S := nrf rfl
theorem evOK_int (i : Int) : evOK (.int i) S = .ok (some i) S := nrf rfl
theorem c_no : evC T cl .no e S = .ok true S := nrf rfl
theorem c_yes (a : CE) : evC T cl (.yes a) e S = (ev T cl a).2 e S := nrf rfl
theorem i_of (a : CE) : evI T cl (.of a) e S = ((ev T cl a).1 e S).bind fun x S => R.of S (iterO S x) := nrf rfl
def rg1 (x : D) (S : Sto) : R Itd := match x with
    | .int i => if rOk i then .ok (.fix (rangeL 0 i.toNat)) S else .bad
    | _ => .bad
theorem i_range1 (a : CE) : evI T cl (.range1 a) e S = ((ev T cl a).1 e S).bind fun x S => rg1 x S := nrf rfl
theorem rg1_int {i : Int} (h0 : 0 ≤ i) (h : i ≤ 1000000) : rg1 (.int i) S = .ok (.fix (rangeL 0 i.toNat)) S := by
  have : rOk i = true := by
    unfold rOk
    simp only [Bool.and_eq_true, decide_eq_true_eq]
    omega
  exact if_pos this
def rg2 (x y : D) (S : Sto) : R Itd := match x, y with
    | .int i, .int j => if rOk i && rOk j then .ok (.fix (rangeL i (j - i).toNat)) S else .bad
    | _, _ => .bad
theorem i_range2 (a b : CE) : evI T cl (.range2 a b) e S = ((ev T cl a).1 e S).bind fun x S => ((ev T cl b).1 e S).bind fun y S => rg2 x y S := nrf rfl
def enK (x : D) (S : Sto) : R Itd := match x with
    | .lst l => .ok (.fix (enumL l)) S
    | .scr l => .ok (.fix (enumL (l.map .int))) S
    | _ => .bad
theorem i_enum (a : CE) : evI T cl (.enum a) e S = ((ev T cl a).1 e S).bind fun x S => enK x S := nrf rfl
theorem enK_lst (l : List D) : enK (.lst l) S = .ok (.fix (enumL l)) S := nrf rfl
/-! statements -/
theorem s_nil : evSs T cl .nil e S = .nx e S := nrf rfl
theorem s_cons (s : CS) (r : CSs) : evSs T cl (.cons s r) e S = (evS T cl s e S).seq (evSs T cl r) := nrf rfl
theorem s_set (i : Nat) (a : CE) : evS T cl (.set i a) e S = ((ev T cl a).1 e S).then e fun d S => .nx (e.set i (some d)) S := nrf rfl
theorem s_par (i j : Nat) (a b : CE) : evS T cl (.par i j a b) e S = ((ev T cl a).1 e S).then e fun x S => ((ev T cl b).1 e S).then e fun y S => .nx ((e.set i (some x)).set j (some y)) S := nrf rfl
def unpK (o : Option Env) (S : Sto) : RS := match o with
    | some e => .nx e S
    | none => .bad
theorem unpK_some (e : Env) (S : Sto) : unpK (some e) S = .nx e S := nrf rfl
theorem s_unp (tg : Tg) (a : CE) : evS T cl (.unp tg a) e S = ((ev T cl a).1 e S).then e fun x S => unpK (bindT tg e x) S := nrf rfl
def stoK (e : Env) (o : Option Sto) : RS := match o with
    | some S => .nx e S
    | none => .bad
theorem stoK_some (e : Env) (S : Sto) : stoK e (some S) = .nx e S := nrf rfl
theorem s_attS (o : CE) (f : Nat) (a : CE) : evS T cl (.attS o f a) e S = ((ev T cl a).1 e S).then e fun d S => ((ev T cl o).1 e S).then e fun x S => stoK e (attS S x f d) := nrf rfl
theorem s_idxS (o i a : CE) : evS T cl (.idxS o i a) e S = ((ev T cl a).1 e S).then e fun d S => ((ev T cl o).1 e S).then e fun x S => ((ev T cl i).1 e S).then e fun y S => stoK e (idxS S x y d) := nrf rfl
def augV (op : BOp) (x y : D) : Option D := match x, y with
  | .int _, .int _ => binO op x y
  | _, _ => none
def augE (e : Env) (S : Sto) (i : Nat) : Option D → RS
  | some z => .nx (e.set i (some z)) S
  | none => .bad
def augK (e : Env) (i : Nat) (op : BOp) (a : Env → Sto → R D) (o : Option (Option D)) (S : Sto) : RS := match o with
    | some (some x) => (a e S).then e fun y S => augE e S i (augV op x y)
    | _ => .bad
theorem s_aug (i : Nat) (op : BOp) (a : CE) : evS T cl (.aug i op a) e S = augK e i op (ev T cl a).1 e[i]? S := by
  show (match e[i]? with | some (some x) => _ | _ => _) = _
  unfold augK
  split
  · rename_i x _
    refine congrArg _ (funext fun y => funext fun S => ?_)
    cases x <;> cases y <;> try rfl
  · rfl
theorem augK_some (i : Nat) (op : BOp) (a : Env → Sto → R D) (x : D) : augK e i op a (some (some x)) S = (a e S).then e fun y S => augE e S i (augV op x y) := nrf rfl
theorem augV_int (op : BOp) (i j : Int) : augV op (.int i) (.int j) = binO op (.int i) (.int j) := nrf rfl
theorem augE_some (i : Nat) (z : D) : augE e S i (some z) = .nx (e.set i (some z)) S := nrf rfl
theorem s_exp (a : CE) : evS T cl (.exp a) e S = ((ev T cl a).1 e S).then e fun _ S => .nx e S := nrf rfl
theorem s_ret (a : CE) : evS T cl (.ret a) e S = ((ev T cl a).1 e S).then e fun d S => .rt d S := nrf rfl
theorem s_retN : evS T cl .retN e S = .rt .non S := nrf rfl
theorem s_iff (t : CE) (a b : CSs) : evS T cl (.iff t a b) e S = ((ev T cl t).2 e S).then e fun c S => if c = true then evSs T cl a e S else evSs T cl b e S := nrf rfl
/-- one turn of a for -/
def forT (tg : Tg) (b : CSs) (x : D) (e : Env) (S : Sto) : RS := match bindT tg e x with
    | some e => evSs T cl b e S
    | none => .bad
theorem s_forr (tg : Tg) (it : CI) (b : CSs) : evS T cl (.forr tg it b) e S = (evI T cl it e S).then e fun xs S => forI (forT T cl tg b) xs FL 0 e S := nrf rfl
theorem s_whil (t : CE) (b : CSs) : evS T cl (.whil t b) e S = whileL (ev T cl t).2 (evSs T cl b) FUEL e S := nrf rfl
theorem s_brk : evS T cl .brk e S = .bk e S := nrf rfl
theorem s_cnt : evS T cl .cnt e S = .ct e S := nrf rfl
theorem s_pass : evS T cl .pass e S = .nx e S := nrf rfl
def raisK (c : Nat) (e : Env) (S : Sto) (o : Option (List (Nat × D))) : RS := match o with
    | some v => .ex c v e S
    | none => .bad
theorem raisK_some (c : Nat) (v : List (Nat × D)) : raisK c e S (some v) = .ex c v e S := nrf rfl
theorem s_rais (c : Nat) (es : CEs) : evS T cl (.rais c es) e S = (evEs T cl es e S).then e fun ds S => raisK c e S (excOf T c ds) := nrf rfl
def tryK (h : CHs) (r : RS) : RS := match r with
    | .ex c v e S => if excT T c = true then handle T c v h e S else .bad
    | r => r
theorem s_tryy (b : CSs) (h : CHs) : evS T cl (.tryy b h) e S = tryK T h (evSs T cl b e S) := nrf rfl
theorem tryK_rt (h : CHs) (d : D) : tryK T h (.rt d S) = .rt d S := nrf rfl
theorem tryK_nx (h : CHs) : tryK T h (.nx e S) = .nx e S := nrf rfl
theorem tryK_ex (h : CHs) (c : Nat) (v : List (Nat × D)) : tryK T h (.ex c v e S) = if excT T c = true then handle T c v h e S else .bad := nrf rfl
end
/-! ### choices -/
section
variable {S : Sto}
theorem and_ok (c x : Bool) : (if c = true then R.ok (D.bl x) S else R.ok (D.bl false) S) = R.ok (D.bl (c && x)) S := by cases c <;> rfl
theorem or_ok (c x : Bool) : (if c = true then R.ok (D.bl true) S else R.ok (D.bl x) S) = R.ok (D.bl (c || x)) S := by cases c <;> rfl
theorem and_okB (c x : Bool) : (if c = true then R.ok x S else R.ok false S) = R.ok (c && x) S := by cases c <;> rfl
theorem or_okB (c x : Bool) : (if c = true then R.ok true S else R.ok x S) = R.ok (c || x) S := by cases c <;> rfl
theorem ite_ok {α : Type} (p : Prop) [Decidable p] (x y : α) : (if p then R.ok x S else R.ok y S) = R.ok (if p then x else y) S := by split <;> rfl
end
/-! ### equal data -/
section
variable (S : Sto)
theorem eq_ints (i j : Int) : eqO S (.int i) (.int j) = some (i == j) := nrf rfl
theorem eq_strs (x y : Str) : eqO S (.str x) (.str y) = some (x == y) := nrf rfl
theorem eq_bls (x y : Bool) : eqO S (.bl x) (.bl y) = some (x == y) := nrf rfl
theorem eq_cn (x : D) (l : List D) : eqO S (.lst (x :: l)) (.lst []) = some false := nrf rfl
theorem eq_nn : eqO S (.lst []) (.lst []) = some true := nrf rfl
theorem eq_tups {a b : List D} (ha : D.plainL a = true) (hb : D.plainL b = true) (da : D.depL a < 60) (db : D.depL b < 60) : eqO S (.tup a) (.tup b) = some (D.eqvL a b) := by
  show (if (D.plainL a && D.plainL b && (decide (D.depL a + 1 ≤ 60) && decide (D.depL b + 1 ≤ 60))) = true then some (D.eqvL a b) else none) = _
  rw [if_pos (by rw [ha, hb]; simp only [Bool.and_eq_true, decide_eq_true_eq, Bool.true_and]; omega)]
end
mutual
theorem eqv_refl : ∀ (a : D), a.plain = true → a.eqv a = true
  | .non, _ => rfl
  | .bl b, _ => by simp [D.eqv]
  | .int b, _ => by simp [D.eqv]
  | .str b, _ => by simp [D.eqv]
  | .tup l, h => by
    show D.eqvL l l = true
    exact eqvL_refl l h
  | .lst l, h => by
    show D.eqvL l l = true
    exact eqvL_refl l h
theorem eqvL_refl : ∀ (a : List D), D.plainL a = true → D.eqvL a a = true
  | [], _ => rfl
  | x :: r, h => by
    have h' : x.plain = true ∧ D.plainL r = true := by
      simpa [D.plainL] using h
    simp only [D.eqvL, eqv_refl x h'.1, eqvL_refl r h'.2, Bool.and_self]
end
end Mi.Q
/-! Ta: terms, their words, reading them; plain. -/
namespace Ta
open PySem Mi

inductive Op where | plus | less | same
  deriving DecidableEq
def Op.s : Op → Str
  | .plus => "plus"
  | .less => "less"
  | .same => "same"
inductive Tm where
  | val (n : Int) | arg (i : Int) | cell (x : Str) | tick
  | call0 (f : Str) | call1 (f : Str) (a : Tm) | call2 (f : Str) (a b : Tm)
  | op (o : Op) (a b : Tm) | ife (a b c : Tm)
def Tm.d : Tm → D
  | .val n => .int n
  | .arg i => .tup [.str "arg", .int i]
  | .cell x => .tup [.str "cell", .str x]
  | .tick => .tup [.str "tick"]
  | .call0 f => .tup [.str "call", .str f, .tup []]
  | .call1 f a => .tup [.str "call", .str f, .tup [a.d]]
  | .call2 f a b => .tup [.str "call", .str f, .tup [a.d, b.d]]
  | .op o a b => .tup [.str o.s, a.d, b.d]
  | .ife a b c => .tup [.str "if", a.d, b.d, c.d]
def Tm.words : Tm → List Str
  | .val n => [strOf n]
  | .arg i => ["arg", strOf i]
  | .cell x => ["cell", x]
  | .tick => ["tick"]
  | .call0 f => ["call", f, "0"]
  | .call1 f a => "call" :: f :: "1" :: a.words
  | .call2 f a b => "call" :: f :: "2" :: (a.words ++ b.words)
  | .op o a b => o.s :: (a.words ++ b.words)
  | .ife a b c => "if" :: (a.words ++ (b.words ++ c.words))
def Tm.text (t : Tm) : Str := Str.join " " t.words
def isName (x : Str) : Bool := decide (1 ≤ x.cps.size) && decide (x.cps.size ≤ 8) && x.cps.toList.all fun c => decide (97 ≤ c) && decide (c ≤ 122)
/-- what holds of a term that is read without a fault -/
def Tm.good : Tm → Bool
  | .val n => decide (0 ≤ n) && decide (n ≤ 2)
  | .arg i => decide (0 ≤ i) && decide (i ≤ 1)
  | .cell x => isName x
  | .tick => true
  | .call0 f => isName f
  | .call1 f a => isName f && a.good
  | .call2 f a b => isName f && (a.good && b.good)
  | .op _ a b => a.good && b.good
  | .ife a b c => a.good && (b.good && c.good)
/-- what holds of all that is read -/
def Tm.wt : Tm → Bool
  | .val n => decide (0 ≤ n) && decide (n ≤ 2)
  | .arg i => decide (0 ≤ i) && decide (i ≤ 1)
  | .cell x => true
  | .tick => true
  | .call0 f => true
  | .call1 f a => a.wt
  | .call2 f a b => a.wt && b.wt
  | .op _ a b => a.wt && b.wt
  | .ife a b c => a.wt && (b.wt && c.wt)
theorem good_wt : ∀ {t : Tm}, t.good = true → t.wt = true := by
  intro t
  induction t with
  | call1 f a ih => simp only [Tm.good, Tm.wt, Bool.and_eq_true]; exact fun h => ih h.2
  | call2 f a b i1 i2 => simp only [Tm.good, Tm.wt, Bool.and_eq_true]; exact fun h => ⟨i1 h.2.1, i2 h.2.2⟩
  | op o a b i1 i2 => simp only [Tm.good, Tm.wt, Bool.and_eq_true]; exact fun h => ⟨i1 h.1, i2 h.2⟩
  | ife a b c i1 i2 i3 => simp only [Tm.good, Tm.wt, Bool.and_eq_true]; exact fun h => ⟨i1 h.1, i2 h.2.1, i3 h.2.2⟩
  | val n => exact id
  | arg i => exact id
  | _ => intro _; rfl
def Tm.depth : Tm → Nat
  | .call1 _ a => a.depth + 1
  | .call2 _ a b => max a.depth b.depth + 1
  | .op _ a b => max a.depth b.depth + 1
  | .ife a b c => max a.depth (max b.depth c.depth) + 1
  | _ => 1
def Tm.size : Tm → Nat
  | .call1 _ a => a.size + 1
  | .call2 _ a b => a.size + b.size + 1
  | .op _ a b => a.size + b.size + 1
  | .ife a b c => a.size + (b.size + c.size) + 1
  | _ => 1
theorem depth_pos (t : Tm) : 1 ≤ t.depth := by cases t <;> simp [Tm.depth]
theorem size_pos (t : Tm) : 1 ≤ t.size := by cases t <;> simp [Tm.size]
theorem words_pos (t : Tm) : 1 ≤ t.words.length := by cases t <;> simp [Tm.words]
theorem words_ne (t : Tm) : t.words ≠ [] := fun h => by have := words_pos t; rw [h] at this; cases this
theorem size_le (t : Tm) : t.size ≤ t.words.length := by
  induction t with
  | call1 f a ih => simp only [Tm.size, Tm.words, List.length_cons]; omega
  | call2 f a b i1 i2 => simp only [Tm.size, Tm.words, List.length_cons, List.length_append]; omega
  | op o a b i1 i2 => simp only [Tm.size, Tm.words, List.length_cons, List.length_append]; omega
  | ife a b c i1 i2 i3 => simp only [Tm.size, Tm.words, List.length_cons, List.length_append]; omega
  | _ => simp [Tm.size, Tm.words]

/-! ### reading -/
def figV (w : Str) : Option Int :=
  if w = "0" then some 0 else if w = "1" then some 1 else if w = "2" then some 2 else if w = "3" then some 3 else if w = "4" then some 4 else
  if w = "5" then some 5 else if w = "6" then some 6 else if w = "7" then some 7 else if w = "8" then some 8 else if w = "9" then some 9 else none
def opOf (w : Str) : Option Op := if w = "plus" then some .plus else if w = "less" then some .less else if w = "same" then some .same else none
def pull : List Str → Bool → Str × List Str × Bool
  | [], _ => ("", [], true)
  | w :: ws, b => (w, ws, b)
def pName (ws : List Str) (b : Bool) : Str × List Str × Bool := ((pull ws b).1, (pull ws b).2.1, if isName (pull ws b).1 then (pull ws b).2.2 else true)
def figB (lo hi : Int) (w : Str) : Option Int := match figV w with
  | some i => if lo ≤ i ∧ i ≤ hi then some i else none
  | none => none
def pFig (lo hi : Int) (ws : List Str) (b : Bool) : Int × List Str × Bool := match figB lo hi (pull ws b).1 with
  | some i => (i, (pull ws b).2.1, (pull ws b).2.2)
  | none => (lo, (pull ws b).2.1, true)
def parse : Nat → List Str → Bool → Tm × List Str × Bool
  | 0, ws, b => (.val 0, (pull ws b).2.1, true)
  | n + 1, ws, b => if (pull ws b).2.2 = true then (.val 0, (pull ws b).2.1, true) else
    match opOf (pull ws b).1 with
    | some o => let x := parse n (pull ws b).2.1 false; let y := parse n x.2.1 x.2.2; (.op o x.1 y.1, y.2.1, y.2.2)
    | none =>
      if (pull ws b).1 = "if" then let x := parse n (pull ws b).2.1 false; let y := parse n x.2.1 x.2.2; let z := parse n y.2.1 y.2.2; (.ife x.1 y.1 z.1, z.2.1, z.2.2)
      else if (pull ws b).1 = "call" then let f := pName (pull ws b).2.1 false; let m := pFig 0 2 f.2.1 f.2.2
        if m.1 = 0 then (.call0 f.1, m.2.1, m.2.2)
        else if m.1 = 1 then let x := parse n m.2.1 m.2.2; (.call1 f.1 x.1, x.2.1, x.2.2)
        else let x := parse n m.2.1 m.2.2; let y := parse n x.2.1 x.2.2; (.call2 f.1 x.1 y.1, y.2.1, y.2.2)
      else if (pull ws b).1 = "arg" then let m := pFig 0 1 (pull ws b).2.1 false; (.arg m.1, m.2.1, m.2.2)
      else if (pull ws b).1 = "cell" then let f := pName (pull ws b).2.1 false; (.cell f.1, f.2.1, f.2.2)
      else if (pull ws b).1 = "tick" then (.tick, (pull ws b).2.1, false)
      else match figB 0 2 (pull ws b).1 with
        | some i => (.val i, (pull ws b).2.1, false)
        | none => (.val 0, (pull ws b).2.1, true)
theorem figB_range {lo hi i : Int} {w : Str} (h : figB lo hi w = some i) : lo ≤ i ∧ i ≤ hi := by
  unfold figB at h
  split at h
  · split at h
    · cases h; assumption
    · cases h
  · cases h
theorem figV_some {w : Str} {i : Int} (h : figV w = some i) : w = strOf i ∧ 0 ≤ i ∧ i ≤ 9 := by
  unfold figV at h
  repeat' (split at h; · (cases h; subst_vars; exact ⟨by decide +kernel, by decide, by decide⟩))
  cases h
theorem figB_some {lo hi i : Int} {w : Str} (h : figB lo hi w = some i) : w = strOf i := by
  unfold figB at h
  split at h
  · rename_i j e
    split at h
    · cases h; exact (figV_some e).1
    · cases h
  · cases h
theorem figB_ok {lo hi i : Int} (h0 : 0 ≤ i) (h9 : i ≤ 9) (h1 : lo ≤ i) (h2 : i ≤ hi) : figB lo hi (strOf i) = some i := by
  have e : figV (strOf i) = some i := by
    have : i = 0 ∨ i = 1 ∨ i = 2 ∨ i = 3 ∨ i = 4 ∨ i = 5 ∨ i = 6 ∨ i = 7 ∨ i = 8 ∨ i = 9 := by omega
    rcases this with rfl | rfl | rfl | rfl | rfl | rfl | rfl | rfl | rfl | rfl <;> decide +kernel
  unfold figB
  rw [e]
  simp only
  rw [if_pos ⟨h1, h2⟩]
theorem opOf_s (o : Op) : opOf o.s = some o := by cases o <;> decide +kernel
theorem opOf_some {w : Str} {o : Op} (h : opOf w = some o) : w = o.s := by
  unfold opOf at h
  repeat' (split at h; · (cases h; assumption))
  cases h
theorem pull_false {ws : List Str} {b : Bool} (h : (pull ws b).2.2 = false) : b = false ∧ ws = (pull ws b).1 :: (pull ws b).2.1 := by
  cases ws with
  | nil => cases h
  | cons w ws => exact ⟨h, rfl⟩
theorem pName_false {ws : List Str} {b : Bool} (h : (pName ws b).2.2 = false) : b = false ∧ ws = (pName ws b).1 :: (pName ws b).2.1 ∧ isName (pName ws b).1 = true := by
  unfold pName at h ⊢
  simp only at h ⊢
  split at h
  · exact ⟨(pull_false h).1, (pull_false h).2, by assumption⟩
  · cases h
theorem pFig_false {lo hi : Int} {ws : List Str} {b : Bool} (h : (pFig lo hi ws b).2.2 = false) : b = false ∧ ws = strOf (pFig lo hi ws b).1 :: (pFig lo hi ws b).2.1 := by
  unfold pFig at h ⊢
  split at h
  · rename_i i e
    have := pull_false h
    refine ⟨this.1, ?_⟩
    simp only [e]
    rw [← figB_some e]
    exact this.2
  · cases h
theorem pFig_range {lo hi : Int} (hl : lo ≤ hi) {ws : List Str} {b : Bool} : lo ≤ (pFig lo hi ws b).1 ∧ (pFig lo hi ws b).1 ≤ hi := by
  unfold pFig
  split
  · rename_i i e
    exact figB_range e
  · exact ⟨Int.le_refl _, hl⟩
theorem parse_wt : ∀ (n : Nat) (ws : List Str) (b : Bool), (parse n ws b).1.wt = true
  | 0, _, _ => rfl
  | n + 1, ws, b => by
    unfold parse
    have ih := parse_wt n
    split
    · rfl
    · split
      · simp only [Tm.wt, ih, Bool.and_self]
      · split
        · simp only [Tm.wt, ih, Bool.and_self]
        · split
          · simp only
            split
            · rfl
            · split
              · simp only [Tm.wt, ih]
              · simp only [Tm.wt, ih, Bool.and_self]
          · split
            · simp only [Tm.wt, Bool.and_eq_true, decide_eq_true_eq]
              exact pFig_range (by decide)
            · split
              · rfl
              · split
                · rfl
                · split
                  · rename_i i e
                    simp only [Tm.wt, Bool.and_eq_true, decide_eq_true_eq]
                    exact figB_range e
                  · rfl
/-- what is read without a fault is what is written -/
theorem parse_sound : ∀ (n : Nat) (ws : List Str) (b : Bool), (parse n ws b).2.2 = false → b = false ∧ ws = (parse n ws b).1.words ++ (parse n ws b).2.1 ∧ (parse n ws b).1.good = true
  | 0, _, _, h => by cases h
  | n + 1, ws, b, h => by
    have ih := parse_sound n
    have e := (rfl : parse (n + 1) ws b = parse (n + 1) ws b)
    conv at e => rhs; unfold parse
    rw [e] at h ⊢
    clear e
    by_cases hb : (pull ws b).2.2 = true
    · rw [if_pos hb] at h; cases h
    · rw [if_neg hb] at h ⊢
      obtain ⟨b0, ew⟩ := pull_false (Bool.not_eq_true _ ▸ hb)
      refine ⟨b0, ?_⟩
      generalize hq : pull ws b = q at h ew ⊢
      obtain ⟨w, ws1, b1⟩ := q
      simp only at h ew ⊢
      subst ew
      clear hq hb
      cases ho : opOf w with
      | some o =>
        simp only [ho] at h ⊢
        have e0 := opOf_some ho
        obtain ⟨h1, h2, h3⟩ := ih _ _ h
        obtain ⟨h4, h5, h6⟩ := ih _ _ h1
        refine ⟨?_, by simp only [Tm.good, h3, h6, Bool.and_self]⟩
        simp only [Tm.words, List.cons_append, List.append_assoc]
        rw [← h2, ← h5, e0]
      | none =>
        simp only [ho] at h ⊢
        by_cases c1 : w = "if"
        · rw [if_pos c1] at h ⊢
          simp only at h ⊢
          obtain ⟨h1, h2, h3⟩ := ih _ _ h
          obtain ⟨h4, h5, h6⟩ := ih _ _ h1
          obtain ⟨h7, h8, h9⟩ := ih _ _ h4
          refine ⟨?_, by simp only [Tm.good, h3, h6, h9, Bool.and_self]⟩
          simp only [Tm.words, List.cons_append, List.append_assoc]
          rw [← h2, ← h5, ← h8, c1]
        · rw [if_neg c1] at h ⊢
          by_cases c2 : w = "call"
          · rw [if_pos c2] at h ⊢
            by_cases m0 : (pFig 0 2 (pName ws1 false).2.1 (pName ws1 false).2.2).1 = 0
            · rw [if_pos m0] at h ⊢
              obtain ⟨h1, h2⟩ := pFig_false h
              obtain ⟨h3, h4, h5⟩ := pName_false h1
              refine ⟨?_, h5⟩
              simp only [Tm.words, List.cons_append, List.nil_append]
              rw [m0] at h2
              have : (strOf 0 : Str) = "0" := by decide +kernel
              rw [this] at h2
              rw [← h2, ← h4, c2]
            · rw [if_neg m0] at h ⊢
              by_cases m1 : (pFig 0 2 (pName ws1 false).2.1 (pName ws1 false).2.2).1 = 1
              · rw [if_pos m1] at h ⊢
                simp only at h ⊢
                obtain ⟨h6, h7, h8⟩ := ih _ _ h
                obtain ⟨h1, h2⟩ := pFig_false h6
                obtain ⟨h3, h4, h5⟩ := pName_false h1
                refine ⟨?_, by simp only [Tm.good, h5, h8, Bool.and_self]⟩
                simp only [Tm.words, List.cons_append, List.nil_append]
                rw [m1] at h2
                have : (strOf 1 : Str) = "1" := by decide +kernel
                rw [this] at h2
                rw [← h7, ← h2, ← h4, c2]
              · rw [if_neg m1] at h ⊢
                simp only at h ⊢
                obtain ⟨h9, h10, h11⟩ := ih _ _ h
                obtain ⟨h6, h7, h8⟩ := ih _ _ h9
                obtain ⟨h1, h2⟩ := pFig_false h6
                obtain ⟨h3, h4, h5⟩ := pName_false h1
                refine ⟨?_, by simp only [Tm.good, h5, h8, h11, Bool.and_self]⟩
                simp only [Tm.words, List.cons_append, List.append_assoc]
                have r := pFig_range (lo := 0) (hi := 2) (by decide) (ws := (pName ws1 false).2.1) (b := (pName ws1 false).2.2)
                have m2 : (pFig 0 2 (pName ws1 false).2.1 (pName ws1 false).2.2).1 = 2 := by omega
                rw [m2] at h2
                have : (strOf 2 : Str) = "2" := by decide +kernel
                rw [this] at h2
                rw [← h10, ← h7, ← h2, ← h4, c2]
          · rw [if_neg c2] at h ⊢
            by_cases c3 : w = "arg"
            · rw [if_pos c3] at h ⊢
              obtain ⟨h1, h2⟩ := pFig_false h
              refine ⟨?_, ?_⟩
              · simp only [Tm.words, List.cons_append, List.nil_append]
                rw [← h2, c3]
              · simp only [Tm.good, Bool.and_eq_true, decide_eq_true_eq]
                exact pFig_range (by decide)
            · rw [if_neg c3] at h ⊢
              by_cases c4 : w = "cell"
              · rw [if_pos c4] at h ⊢
                simp only at h ⊢
                obtain ⟨h3, h4, h5⟩ := pName_false h
                refine ⟨?_, h5⟩
                simp only [Tm.words, List.cons_append, List.nil_append]
                rw [← h4, c4]
              · rw [if_neg c4] at h ⊢
                by_cases c5 : w = "tick"
                · rw [if_pos c5] at h ⊢
                  refine ⟨?_, rfl⟩
                  simp only [Tm.words, List.cons_append, List.nil_append]
                  rw [c5]
                · rw [if_neg c5] at h ⊢
                  cases hf : figB 0 2 w with
                  | none => simp only [hf] at h; cases h
                  | some i =>
                    simp only [hf] at h ⊢
                    refine ⟨?_, ?_⟩
                    · simp only [Tm.words, List.cons_append, List.nil_append]
                      rw [← figB_some hf]
                    · simp only [Tm.good, Bool.and_eq_true, decide_eq_true_eq]
                      exact figB_range hf
/-- what is written is read -/
theorem parse_back : ∀ (t : Tm) (n : Nat) (r : List Str), t.good = true → t.depth ≤ n → parse n (t.words ++ r) false = (t, r, false)
  | t, 0, r, _, h => by have := depth_pos t; omega
  | .val i, n + 1, r, g, h => by
    simp only [Tm.good, Bool.and_eq_true, decide_eq_true_eq] at g
    have : i = 0 ∨ i = 1 ∨ i = 2 := by omega
    rcases this with rfl | rfl | rfl <;> rfl
  | .arg i, n + 1, r, g, h => by
    simp only [Tm.good, Bool.and_eq_true, decide_eq_true_eq] at g
    have : i = 0 ∨ i = 1 := by omega
    rcases this with rfl | rfl <;> rfl
  | .cell x, n + 1, r, g, h => by
    show (Tm.cell x, r, if isName x then false else true) = _
    rw [show isName x = true from g]
    rfl
  | .tick, n + 1, r, g, h => rfl
  | .call0 f, n + 1, r, g, h => by
    show (Tm.call0 f, r, if isName f then false else true) = _
    rw [show isName f = true from g]
    rfl
  | .call1 f a, n + 1, r, g, h => by
    simp only [Tm.good, Bool.and_eq_true] at g
    have ih := parse_back a n r g.2 (by simp only [Tm.depth] at h; omega)
    show (Tm.call1 f (parse n (a.words ++ r) (if isName f then false else true)).1, (parse n (a.words ++ r) (if isName f then false else true)).2.1, (parse n (a.words ++ r) (if isName f then false else true)).2.2) = _
    rw [g.1, if_pos rfl, ih]
  | .call2 f a b, n + 1, r, g, h => by
    simp only [Tm.good, Bool.and_eq_true] at g
    simp only [Tm.depth] at h
    have i1 := parse_back a n (b.words ++ r) g.2.1 (by omega)
    have i2 := parse_back b n r g.2.2 (by omega)
    have e : (Tm.call2 f a b).words ++ r = ("call" : Str) :: f :: ("2" : Str) :: (a.words ++ (b.words ++ r)) := by simp only [Tm.words, List.cons_append, List.append_assoc]
    rw [e]
    have o : opOf "call" = none := by decide +kernel
    have c1 : ¬ ("call" : Str) = "if" := by decide +kernel
    have pn : ∀ l : List Str, pName (f :: l) false = (f, l, false) := fun l => by
      unfold pName
      simp only [pull, g.1, if_true]
    have pf : ∀ l : List Str, pFig 0 2 ("2" :: l) false = (2, l, false) := fun l => rfl
    have z0 : ¬ (2 : Int) = 0 := by decide
    have z1 : ¬ (2 : Int) = 1 := by decide
    unfold parse
    simp only [pull, o, pn, pf, i1, i2, c1, z0, z1, Bool.false_eq_true, if_false, if_true]
  | .op o a b, n + 1, r, g, h => by
    simp only [Tm.good, Bool.and_eq_true] at g
    simp only [Tm.depth] at h
    have i1 := parse_back a n (b.words ++ r) g.1 (by omega)
    have i2 := parse_back b n r g.2 (by omega)
    have e : (Tm.op o a b).words ++ r = o.s :: (a.words ++ (b.words ++ r)) := by simp only [Tm.words, List.cons_append, List.append_assoc]
    rw [e]
    unfold parse
    simp only [pull, opOf_s, i1, i2, Bool.false_eq_true, if_false]
  | .ife a b c, n + 1, r, g, h => by
    simp only [Tm.good, Bool.and_eq_true] at g
    simp only [Tm.depth] at h
    have i1 := parse_back a n (b.words ++ (c.words ++ r)) g.1 (by omega)
    have i2 := parse_back b n (c.words ++ r) g.2.1 (by omega)
    have i3 := parse_back c n r g.2.2 (by omega)
    have e : (Tm.ife a b c).words ++ r = ("if" : Str) :: (a.words ++ (b.words ++ (c.words ++ r))) := by simp only [Tm.words, List.cons_append, List.append_assoc]
    rw [e]
    have o : opOf "if" = none := by decide +kernel
    unfold parse
    simp only [pull, o, i1, i2, i3, Bool.false_eq_true, if_false, if_true]
/-! ### is_term -/
def Tm.form (n : Int) : Tm → Bool
  | .val i => decide (0 ≤ i) && decide (i ≤ 2)
  | .arg i => decide (0 ≤ i) && decide (i ≤ n - 1)
  | .cell x => isName x
  | .tick => true
  | .call0 f => isName f
  | .call1 f _ => isName f
  | .call2 f _ _ => isName f
  | .op _ _ _ => true
  | .ife _ _ _ => true
def Tm.kids : Tm → List Tm
  | .call1 _ a => [a]
  | .call2 _ a b => [a, b]
  | .op _ a b => [a, b]
  | .ife a b c => [a, b, c]
  | _ => []
def isTermL (n : Int) : Nat → List Tm → Nat → Bool
  | 0, _, _ => false
  | k + 1, l, p => if 30 < p + l.length then false else if l.all (Tm.form n) = false then false else if l.flatMap Tm.kids = [] then true else isTermL n k (l.flatMap Tm.kids) (p + l.length)
def isTermB (n : Int) (t : Tm) : Bool := isTermL n 8 [t] 0
/-- a term with so many arguments -/
def Tm.ok (n : Int) : Tm → Bool
  | .val i => decide (0 ≤ i) && decide (i ≤ 2)
  | .arg i => decide (0 ≤ i) && decide (i ≤ n - 1)
  | .cell x => isName x
  | .tick => true
  | .call0 f => isName f
  | .call1 f a => isName f && a.ok n
  | .call2 f a b => isName f && (a.ok n && b.ok n)
  | .op _ a b => a.ok n && b.ok n
  | .ife a b c => a.ok n && (b.ok n && c.ok n)
theorem ok_good {n : Int} (hn : n ≤ 2) : ∀ {t : Tm}, t.ok n = true → t.good = true := by
  intro t
  induction t with
  | call1 f a ih => simp only [Tm.good, Tm.ok, Bool.and_eq_true]; exact fun h => ⟨h.1, ih h.2⟩
  | call2 f a b i1 i2 => simp only [Tm.good, Tm.ok, Bool.and_eq_true]; exact fun h => ⟨h.1, i1 h.2.1, i2 h.2.2⟩
  | op o a b i1 i2 => simp only [Tm.good, Tm.ok, Bool.and_eq_true]; exact fun h => ⟨i1 h.1, i2 h.2⟩
  | ife a b c i1 i2 i3 => simp only [Tm.good, Tm.ok, Bool.and_eq_true]; exact fun h => ⟨i1 h.1, i2 h.2.1, i3 h.2.2⟩
  | arg i => simp only [Tm.good, Tm.ok, Bool.and_eq_true, decide_eq_true_eq]; intro h; omega
  | _ => exact id
theorem ok_form {n : Int} {t : Tm} (h : t.ok n = true) : t.form n = true ∧ ∀ x ∈ t.kids, x.ok n = true := by
  cases t <;> simp only [Tm.ok, Tm.form, Tm.kids, Bool.and_eq_true, List.mem_cons, List.not_mem_nil, or_false, false_implies, implies_true, and_true, true_and] at h ⊢
  all_goals (try exact h)
  all_goals (try exact ⟨h.1, fun x e => e ▸ h.2⟩)
  · exact ⟨h.1, fun x e => by rcases e with rfl | rfl; exact h.2.1; exact h.2.2⟩
  · exact fun x e => by rcases e with rfl | rfl; exact h.1; exact h.2
  · exact fun x e => by rcases e with rfl | rfl | rfl; exact h.1; exact h.2.1; exact h.2.2
def sizes (l : List Tm) : Nat := (l.map Tm.size).sum
theorem kids_size (t : Tm) : sizes t.kids + 1 = t.size := by
  cases t <;> simp [sizes, Tm.kids, Tm.size]
theorem kids_depth {t x : Tm} (h : x ∈ t.kids) : x.depth + 1 ≤ t.depth := by
  cases t <;> simp only [Tm.kids, List.mem_cons, List.not_mem_nil, or_false] at h <;> simp only [Tm.depth]
  · subst h; omega
  · rcases h with rfl | rfl <;> omega
  · rcases h with rfl | rfl <;> omega
  · rcases h with rfl | rfl | rfl <;> omega
theorem sizes_flat (l : List Tm) : sizes (l.flatMap Tm.kids) + l.length = sizes l := by
  induction l with
  | nil => rfl
  | cons x l ih =>
    have := kids_size x
    unfold sizes at *
    simp only [List.flatMap_cons, List.map_append, List.sum_append, List.map_cons, List.sum_cons, List.length_cons]
    omega
theorem isTermL_ok {n : Int} : ∀ (k : Nat) (l : List Tm) (p : Nat), l ≠ [] → p + sizes l ≤ 30 → (∀ x ∈ l, x.ok n = true ∧ x.depth ≤ k) → isTermL n k l p = true
  | 0, l, p, hne, hs, h => by
    cases l with
    | nil => exact absurd rfl hne
    | cons x l => have := (h x List.mem_cons_self).2; have := depth_pos x; omega
  | k + 1, l, p, hne, hs, h => by
    unfold isTermL
    have hsz := sizes_flat l
    rw [if_neg (by omega), if_neg (by
      have : l.all (Tm.form n) = true := List.all_eq_true.mpr fun x hx => (ok_form (h x hx).1).1
      rw [this]; simp)]
    split
    · rfl
    · rename_i hk
      refine isTermL_ok k _ _ hk (by omega) fun x hx => ?_
      obtain ⟨t, ht, hx⟩ := List.mem_flatMap.mp hx
      have := kids_depth hx
      have := (h t ht).2
      exact ⟨(ok_form (h t ht).1).2 x hx, by omega⟩
theorem isTermB_ok {n : Int} {t : Tm} (h : t.ok n = true) (hd : t.depth ≤ 8) (hs : t.size ≤ 30) : isTermB n t = true :=
  isTermL_ok 8 [t] 0 (by simp) (by simp [sizes]; exact hs) fun x hx => by
    rw [List.mem_singleton] at hx
    subst hx
    exact ⟨h, hd⟩
end Ta
/-! Ev3: equations of the operations. -/
namespace Mi.Q
open PySem
section
variable (S : Sto) (T : Tab)
theorem fresh_false (d : D) : Mi.fresh false S d = .ok d S := nrf rfl
theorem fresh_lst (l : List D) : Mi.fresh true S (.lst l) = alloc S (.lst l) := nrf rfl
theorem fresh_dct (l : List (Str × D)) : Mi.fresh true S (.dct l) = alloc S (.dct l) := nrf rfl
theorem frs_true (ds : List D) : frs true S ds = if ds.length ≤ LL then alloc S (.lst ds) else .bad := nrf rfl
theorem alloc_eq (c : Cell) : alloc S c = .ok (.ref S.c.length) ⟨c :: S.c, S.fl⟩ := nrf rfl
/-! kinds -/
def orT (a b : Option Bool) : Option Bool := match a with
    | some true => some true
    | some false => b
    | none => none
theorem isTs_nil (d : D) : isTs T S d [] = some false := nrf rfl
theorem isTs_cons (d : D) (t : Ty) (r : List Ty) : isTs T S d (t :: r) = orT (isT T S d t) (isTs T S d r) := by
  show (match isT T S d t with | some true => _ | some false => _ | none => _) = _
  unfold orT
  split <;> simp_all
theorem orT_true (b : Option Bool) : orT (some true) b = some true := nrf rfl
theorem orT_false (b : Option Bool) : orT (some false) b = b := nrf rfl
theorem isT_int (i : Int) (t : Ty) : isT T S (.int i) t = some (tyB t (.int i)) := nrf rfl
theorem isT_bl (i : Bool) (t : Ty) : isT T S (.bl i) t = some (tyB t (.bl i)) := nrf rfl
theorem isT_str (i : Str) (t : Ty) : isT T S (.str i) t = some (tyB t (.str i)) := nrf rfl
theorem isT_non (t : Ty) : isT T S .non t = some (tyB t .non) := nrf rfl
theorem isT_tup (l : List D) (t : Ty) : isT T S (.tup l) t = some (tyB t (.tup l)) := nrf rfl
theorem isT_lst (l : List D) (t : Ty) : isT T S (.lst l) t = some (tyB t (.lst l)) := nrf rfl
theorem isT_dct (l : List (Str × D)) (t : Ty) : isT T S (.dct l) t = some (tyB t (.dct l)) := nrf rfl
theorem isT_ins (c : Nat) (l : List (Nat × D)) (t : Ty) : isT T S (.ins c l) t = if nrm T c then some (match t with
    | .cls b => isSub T DEEP c b
    | _ => false) else none := nrf rfl
/-! comparisons -/
theorem cmp_eq (a b : D) : cmpO .eq S a b = eqO S a b := nrf rfl
theorem cmp_ne (a b : D) : cmpO .ne S a b = (eqO S a b).map (!·) := nrf rfl
theorem cmp_lt (i j : Int) : cmpO .lt S (.int i) (.int j) = some (decide (i < j)) := nrf rfl
theorem cmp_le (i j : Int) : cmpO .le S (.int i) (.int j) = some (decide (i ≤ j)) := nrf rfl
theorem cmp_gt (i j : Int) : cmpO .gt S (.int i) (.int j) = some (decide (j < i)) := nrf rfl
theorem cmp_ge (i j : Int) : cmpO .ge S (.int i) (.int j) = some (decide (j ≤ i)) := nrf rfl
theorem cmp_in (a b : D) : cmpO .isin S a b = isinO S a b := nrf rfl
theorem cmp_notin (a b : D) : cmpO .notin S a b = (isinO S a b).map (!·) := nrf rfl
theorem cmp_is (a : D) : cmpO .is S a .non = some a.isNon := nrf rfl
theorem cmp_isnot (a : D) : cmpO .isnot S a .non = some (!a.isNon) := nrf rfl
/-! built-ins -/
theorem len_lst (l : List D) : bfO .len S [.lst l] = some (.int l.length) := nrf rfl
theorem len_tup (l : List D) : bfO .len S [.tup l] = some (.int l.length) := nrf rfl
theorem len_str (x : Str) : bfO .len S [.str x] = some (.int x.cps.size) := nrf rfl
theorem len_dct (l : List (Str × D)) : bfO .len S [.dct l] = some (.int l.length) := nrf rfl
theorem len_scr (l : List Int) : bfO .len S [.scr l] = some (.int l.length) := by
  show some (D.int (l.map D.int).length) = _
  rw [List.length_map]
theorem list_lst (l : List D) : bfO .list S [.lst l] = some (.lst l) := nrf rfl
theorem list_tup (l : List D) : bfO .list S [.tup l] = some (.lst l) := nrf rfl
theorem tuple_lst (l : List D) : bfO .tuple S [.lst l] = some (.tup l) := nrf rfl
theorem tuple_tup (l : List D) : bfO .tuple S [.tup l] = some (.tup l) := nrf rfl
theorem int_int (i : Int) : bfO .int S [.int i] = some (.int i) := nrf rfl
theorem int_bl (b : Bool) : bfO .int S [.bl b] = some (.int (if b then 1 else 0)) := nrf rfl
theorem str_int {i : Int} (h0 : 0 ≤ i) (h : i < 999999) : bfO .str S [.int i] = some (.str (strOf i)) := if_pos ⟨h0, h⟩
theorem str_str (x : Str) : bfO .str S [.str x] = some (.str x) := nrf rfl
theorem abs_int (i : Int) : bfO .abs S [.int i] = some (.int (if i < 0 then -i else i)) := nrf rfl
theorem all_lst (l : List D) : bfO .all S [.lst l] = (blsO l).map fun bs => .bl (bs.all id) := nrf rfl
theorem any_lst (l : List D) : bfO .any S [.lst l] = (blsO l).map fun bs => .bl (bs.any id) := nrf rfl
theorem min_ints (i j : Int) : bfO .min S [.int i, .int j] = some (.int (if j < i then j else i)) := nrf rfl
theorem max_ints (i j : Int) : bfO .max S [.int i, .int j] = some (.int (if j > i then j else i)) := nrf rfl
theorem iter_lst (l : List D) : iterO S (.lst l) = some (.fix l) := nrf rfl
theorem iter_tup (l : List D) : iterO S (.tup l) = some (.fix l) := nrf rfl
theorem iter_str (x : Str) : iterO S (.str x) = some (.fix (x.cps.toList.map fun c => .str ⟨#[c]⟩)) := nrf rfl
/-! items -/
section
variable (a b c d e : D) (l : List D)
theorem ix_t0 : idxO S (.tup (a :: l)) (.int 0) = some a := by
  show (L2.ixN (l.length + 1) 0).bind _ = _
  simp [L2.ixN]
theorem ix_t1 : idxO S (.tup (a :: b :: l)) (.int 1) = some b := by
  show (L2.ixN (l.length + 1 + 1) 1).bind _ = _
  rw [show L2.ixN (l.length + 1 + 1) 1 = some 1 by unfold L2.ixN; rw [if_pos (by decide), if_pos (by omega)]; rfl]
  rfl
theorem ix_t2 : idxO S (.tup (a :: b :: c :: l)) (.int 2) = some c := by
  show (L2.ixN (l.length + 1 + 1 + 1) 2).bind _ = _
  rw [show L2.ixN (l.length + 1 + 1 + 1) 2 = some 2 by unfold L2.ixN; rw [if_pos (by decide), if_pos (by omega)]; rfl]
  rfl
theorem ix_t3 : idxO S (.tup (a :: b :: c :: d :: l)) (.int 3) = some d := by
  show (L2.ixN (l.length + 1 + 1 + 1 + 1) 3).bind _ = _
  rw [show L2.ixN (l.length + 1 + 1 + 1 + 1) 3 = some 3 by unfold L2.ixN; rw [if_pos (by decide), if_pos (by omega)]; rfl]
  rfl
theorem ix_l0 : idxO S (.lst (a :: l)) (.int 0) = some a := by
  show (L2.ixN (l.length + 1) 0).bind _ = _
  simp [L2.ixN]
theorem ix_l1 : idxO S (.lst (a :: b :: l)) (.int 1) = some b := by
  show (L2.ixN (l.length + 1 + 1) 1).bind _ = _
  rw [show L2.ixN (l.length + 1 + 1) 1 = some 1 by unfold L2.ixN; rw [if_pos (by decide), if_pos (by omega)]; rfl]
  rfl
theorem ix_l2 : idxO S (.lst (a :: b :: c :: l)) (.int 2) = some c := by
  show (L2.ixN (l.length + 1 + 1 + 1) 2).bind _ = _
  rw [show L2.ixN (l.length + 1 + 1 + 1) 2 = some 2 by unfold L2.ixN; rw [if_pos (by decide), if_pos (by omega)]; rfl]
  rfl
theorem ix_l3 : idxO S (.lst (a :: b :: c :: d :: l)) (.int 3) = some d := by
  show (L2.ixN (l.length + 1 + 1 + 1 + 1) 3).bind _ = _
  rw [show L2.ixN (l.length + 1 + 1 + 1 + 1) 3 = some 3 by unfold L2.ixN; rw [if_pos (by decide), if_pos (by omega)]; rfl]
  rfl
theorem sl_t1 : slcO S (.tup (a :: l)) (some 1) none = some (.tup l) := by
  show (if HT.sIx (l.length + 1) 0 (some 1) = 0 ∧ HT.sIx (l.length + 1) (l.length + 1) none = l.length + 1 then none else some (D.tup (((a :: l).drop (HT.sIx (l.length + 1) 0 (some 1))).take (HT.sIx (l.length + 1) (l.length + 1) none - HT.sIx (l.length + 1) 0 (some 1))))) = _
  have e : HT.sIx (l.length + 1) 0 (some 1) = 1 := by
    have := HT.sIx_nat (l.length + 1) 0 1
    rw [show ((1 : Nat) : Int) = 1 from rfl] at this
    rw [this]
    omega
  rw [e, HT.sIx_none, if_neg (by simp)]
  simp
end
/-- an item of a list by a number -/
theorem ix_l {l : List D} {i : Int} {j : Nat} {x : D} (hi : i = (j : Int)) (hx : l[j]? = some x) : idxO S (.lst l) (.int i) = some x := by
  show (L2.ixN l.length i).bind _ = _
  have hj := (List.getElem?_eq_some_iff.mp hx).1
  subst hi
  rw [show L2.ixN l.length (j : Int) = some j by unfold L2.ixN; rw [if_pos (by omega), if_pos (by omega)]; simp]
  exact hx
theorem ix_s {x : Str} {i : Int} {j : Nat} {c : Nat} (hi : i = (j : Int)) (hx : x.cps.toList[j]? = some c) : idxO S (.str x) (.int i) = some (.str ⟨#[c]⟩) := by
  show (L2.ixN x.cps.size i).bind _ = _
  have hj := (List.getElem?_eq_some_iff.mp hx).1
  subst hi
  rw [Array.length_toList] at hj
  rw [show L2.ixN x.cps.size (j : Int) = some j by unfold L2.ixN; rw [if_pos (by omega), if_pos (by omega)]; simp]
  show (x.cps.toList[j]?).map _ = _
  rw [hx] <;> rfl
theorem ix_d {l : List (Str × D)} {k : Str} : idxO S (.dct l) (.str k) = getK k l := nrf rfl
/-! sums -/
theorem add_ints (i j : Int) : binO .add (.int i) (.int j) = some (.int (i + j)) := nrf rfl
theorem sub_ints (i j : Int) : binO .sub (.int i) (.int j) = some (.int (i - j)) := nrf rfl
theorem mul_l {i : Int} (j : Int) (h : small i = true) : binO .mul (.int i) (.int j) = some (.int (i * j)) := if_pos (by rw [h]; rfl)
theorem mul_r (i : Int) {j : Int} (h : small j = true) : binO .mul (.int i) (.int j) = some (.int (i * j)) := if_pos (by rw [h, Bool.or_true])
theorem mod_ints (i : Int) {j : Int} (h : 0 < j) : binO .mod (.int i) (.int j) = some (.int (i % j)) := if_pos h
theorem div_ints (i : Int) {j : Int} (h : 0 < j) (h2 : j < 1073741824) : binO .fdiv (.int i) (.int j) = some (.int (i / j)) := if_pos ⟨h, h2⟩
theorem add_lsts {a b : List D} (h : a.length + b.length ≤ LL) : binO .add (.lst a) (.lst b) = some (.lst (a ++ b)) := if_pos h
theorem add_strs {a b : Str} (h : a.cps.size + b.cps.size ≤ LL) : binO .add (.str a) (.str b) = some (.str (a ++ b)) := if_pos h
theorem add_tups {x : D} {a b : List D} (h : (x :: a).length + b.length ≤ LL) : binO .add (.tup (x :: a)) (.tup b) = some (.tup (x :: a ++ b)) := if_pos h
theorem lcK_nil (f : D → List D → Sto → R (List D)) (acc : List D) : lcK f [] acc S = .ok acc S := nrf rfl
theorem lcK_cons (f : D → List D → Sto → R (List D)) (x : D) (r acc : List D) : lcK f (x :: r) acc S = (f x acc S).bind fun acc S => lcK f r acc S := nrf rfl
theorem lcL_nil (f : D → Sto → R (Option D)) (acc : List D) : lcL f [] acc S = .ok acc S := nrf rfl
def accK (f : D → Sto → R (Option D)) (r acc : List D) (o : Option D) (S : Sto) : R (List D) := match o with
    | none => lcL f r acc S
    | some d => if acc.length < LL then lcL f r (acc ++ [d]) S else .bad
theorem lcL_cons (f : D → Sto → R (Option D)) (x : D) (r acc : List D) : lcL f (x :: r) acc S = (f x S).bind fun o S => accK f r acc o S := nrf rfl
theorem accK_none (f : D → Sto → R (Option D)) (r acc : List D) : accK f r acc none S = lcL f r acc S := nrf rfl
theorem accK_some (f : D → Sto → R (Option D)) (r acc : List D) (d : D) (h : acc.length < LL) : accK f r acc (some d) S = lcL f r (acc ++ [d]) S := if_pos h
theorem forL_nil (f : D → Env → Sto → RS) (e : Env) : forL f [] e S = .nx e S := nrf rfl
def goK (f : D → Env → Sto → RS) (r : List D) (z : RS) : RS := match z with
    | .nx e S => forL f r e S
    | .ct e S => forL f r e S
    | .bk e S => .nx e S
    | z => z
theorem forL_cons (f : D → Env → Sto → RS) (x : D) (r : List D) (e : Env) : forL f (x :: r) e S = goK f r (f x e S) := by
  show (match f x e S with | .nx e S => _ | .ct e S => _ | .bk e S => _ | z => z) = _
  unfold goK
  split <;> rfl
theorem goK_nx (f : D → Env → Sto → RS) (r : List D) (e : Env) : goK f r (.nx e S) = forL f r e S := nrf rfl
theorem goK_ct (f : D → Env → Sto → RS) (r : List D) (e : Env) : goK f r (.ct e S) = forL f r e S := nrf rfl
theorem goK_bk (f : D → Env → Sto → RS) (r : List D) (e : Env) : goK f r (.bk e S) = .nx e S := nrf rfl
theorem goK_rt (f : D → Env → Sto → RS) (r : List D) (d : D) : goK f r (.rt d S) = .rt d S := nrf rfl
theorem goK_ex (f : D → Env → Sto → RS) (r : List D) (c : Nat) (v : List (Nat × D)) (e : Env) : goK f r (.ex c v e S) = .ex c v e S := nrf rfl
end
/-! ### a comprehension over data -/
theorem lc_map {α : Type} {f : D → Sto → R (Option D)} {S : Sto} (en g : α → D) (l : List α) (h : ∀ x ∈ l, f (en x) S = .ok (some (g x)) S) (hl : l.length ≤ LL) : lcI f (.fix (l.map en)) FL 0 [] S = .ok (l.map g) S := by
  rw [lcI_fix _ _ _ (by rwa [List.length_map])]
  exact lcL_map en g l h hl
theorem lcL_map_acc {α : Type} {f : D → Sto → R (Option D)} {S : Sto} (en g : α → D) : ∀ (l : List α) (acc : List D), (∀ x ∈ l, f (en x) S = .ok (some (g x)) S) → acc.length + l.length ≤ LL → lcL f (l.map en) acc S = .ok (acc ++ l.map g) S := by
  intro l
  induction l with
  | nil => intro acc _ _; simp [lcL]
  | cons x r ih =>
    intro acc h hl
    rw [List.length_cons] at hl
    rw [List.map_cons, lcL_cons, h x List.mem_cons_self, bind_ok, accK_some _ _ _ _ _ (by omega), ih (acc ++ [g x]) (fun y hy => h y (List.mem_cons_of_mem _ hy)) (by simp; omega), List.append_assoc]
    rfl
theorem lc_app {α : Type} {f : D → Sto → R (Option D)} {S : Sto} (en g : α → D) (l : List α) (acc : List D) (h : ∀ x ∈ l, f (en x) S = .ok (some (g x)) S) (hl : acc.length + l.length ≤ LL) : lcI f (.fix (l.map en)) FL 0 acc S = .ok (acc ++ l.map g) S := by
  rw [lcI_fix _ _ _ (by rw [List.length_map]; omega)]
  exact lcL_map_acc en g l acc h hl
theorem lc_flat {α : Type} {f : D → List D → Sto → R (List D)} {S : Sto} (en : α → D) (g : α → List D) (l : List α) (h : ∀ x ∈ l, ∀ acc : List D, acc.length + (g x).length ≤ LL → f (en x) acc S = .ok (acc ++ g x) S) (h1 : l.length ≤ LL) (h2 : (l.flatMap g).length ≤ LL) : lcJ f (.fix (l.map en)) FL 0 [] S = .ok (l.flatMap g) S := by
  rw [lcJ_fix _ _ _ (by rwa [List.length_map])]
  have : ∀ (l : List α), (∀ x ∈ l, ∀ acc : List D, acc.length + (g x).length ≤ LL → f (en x) acc S = .ok (acc ++ g x) S) → ∀ acc : List D, acc.length + (l.flatMap g).length ≤ LL → lcK f (l.map en) acc S = .ok (acc ++ l.flatMap g) S := by
    intro l
    induction l with
    | nil => intro _ acc _; simp [lcK]
    | cons x r ih =>
      intro h acc hl
      rw [List.flatMap_cons, List.length_append] at hl
      rw [List.map_cons, lcK_cons, h x List.mem_cons_self acc (by omega), bind_ok, ih (fun y hy => h y (List.mem_cons_of_mem _ hy)) (acc ++ g x) (by rw [List.length_append]; omega), List.flatMap_cons, List.append_assoc]
  have := this l h [] (by simpa using h2)
  rwa [List.nil_append] at this
theorem forT1 (T : Tab) (cl : Nat → List D → Sto → R D) (i : Nat) (b : CSs) (x : D) (e : Env) (S : Sto) : forT T cl (.one i) b x e S = evSs T cl b (e.set i (some x)) S := nrf rfl
theorem forTm (T : Tab) (cl : Nat → List D → Sto → R D) (is : List Nat) (b : CSs) (l : List D) (e : Env) (S : Sto) (h : l.length = is.length) : forT T cl (.many is) b (.tup l) e S = evSs T cl b (setN e is l) S := by
  unfold forT bindT
  simp only [h, if_true]
theorem lc_filter {α : Type} {f : D → Sto → R (Option D)} {S : Sto} (en : α → D) (p : α → Bool) (g : α → D) (l : List α) (h : ∀ x ∈ l, f (en x) S = .ok (if p x then some (g x) else none) S) (hl : l.length ≤ LL) : lcI f (.fix (l.map en)) FL 0 [] S = .ok ((l.filter p).map g) S := by
  rw [lcI_fix _ _ _ (by rwa [List.length_map])]
  exact lcL_filter en p g l h hl
theorem all_map {α : Type} (p : α → Bool) (l : List α) (S : Sto) : bfO .all S [.lst (l.map fun x => .bl (p x))] = some (.bl (l.all p)) := by
  rw [all_lst, blsO_map]
  simp
theorem any_map {α : Type} (p : α → Bool) (l : List α) (S : Sto) : bfO .any S [.lst (l.map fun x => .bl (p x))] = some (.bl (l.any p)) := by
  rw [any_lst, blsO_map]
  simp
/-! ### texts -/
section
variable (S : Sto)
theorem hasM_join (x : Str) : hasM .join S (.str x) = true := nrf rfl
theorem hasM_split (x : Str) : hasM .split S (.str x) = true := nrf rfl
theorem bmA_join (o : D) (ds : List D) : bmA .join S o ds = R.of S (bmO .join S o ds) := nrf rfl
theorem bmA_split (o : D) (ds : List D) : bmA .split S o ds = R.of S (bmO .split S o ds) := nrf rfl
theorem bm_join (x : Str) (ys : List Str) (h : (ys.map Str.length).sum + ys.length * x.length ≤ LL) : bmO .join S (.str x) [.lst (ys.map .str)] = some (.str (Str.join x ys)) := by
  show (strsO (ys.map D.str)).bind _ = _
  rw [strsO_strs]
  show (if _ then some (D.str (Txt.join x ys)) else none) = _
  rw [if_pos h]
  exact congrArg (fun z => some (D.str z)) (StrLaws.glued_eq_join x ys)
end
theorem join_two (y a b : Str) : Str.join y [a, b] = a ++ y ++ b := nrf rfl
theorem join_cons {y a : Str} {l : List Str} (h : l ≠ []) : Str.join y (a :: l) = a ++ y ++ Str.join y l := by
  cases l with
  | nil => exact absurd rfl h
  | cons b l => rfl
theorem str_assoc (a b c : Str) : a ++ b ++ c = a ++ (b ++ c) := by
  show (⟨a.cps ++ b.cps ++ c.cps⟩ : Str) = ⟨a.cps ++ (b.cps ++ c.cps)⟩
  rw [Array.append_assoc]
theorem join_app {y : Str} : ∀ {l r : List Str}, l ≠ [] → r ≠ [] → Str.join y (l ++ r) = Str.join y l ++ y ++ Str.join y r
  | [], _, h, _ => absurd rfl h
  | [a], r, _, h => by
    rw [List.singleton_append, join_cons h]
    rfl
  | a :: b :: l, r, _, h => by
    rw [List.cons_append, join_cons (by simp), join_app (List.cons_ne_nil b l) h, join_cons (List.cons_ne_nil b l)]
    simp only [str_assoc]
theorem len_app (a b : Str) : (a ++ b).length = a.length + b.length := Str.length_append a b
theorem join_len (y : Str) : ∀ l : List Str, (Str.join y l).length ≤ (l.map Str.length).sum + l.length * y.length
  | [] => Nat.zero_le _
  | [x] => by
    show x.length ≤ _
    simp only [List.map_cons, List.map_nil, List.sum_cons, List.sum_nil]
    omega
  | x :: z :: r => by
    have h := join_len y (z :: r)
    rw [join_cons (List.cons_ne_nil z r), len_app, len_app]
    simp only [List.map_cons, List.sum_cons, List.length_cons, Nat.succ_mul] at h ⊢
    omega
theorem nn_non : D.non.isNon = true := nrf rfl
theorem nn_int (i : Int) : (D.int i).isNon = false := nrf rfl
theorem nn_str (i : Str) : (D.str i).isNon = false := nrf rfl
theorem nn_tup (i : List D) : (D.tup i).isNon = false := nrf rfl
theorem nn_lst (i : List D) : (D.lst i).isNon = false := nrf rfl
theorem nn_bl (i : Bool) : (D.bl i).isNon = false := nrf rfl
theorem nn_dct (i : List (Str × D)) : (D.dct i).isNon = false := nrf rfl
theorem nn_ins (c : Nat) (l : List (Nat × D)) : (D.ins c l).isNon = false := nrf rfl
theorem nn_ref (n : Nat) : (D.ref n).isNon = false := nrf rfl
theorem lt_non (n : Nat) : D.lt n .non = true := nrf rfl
theorem lt_int (n : Nat) (i : Int) : D.lt n (.int i) = true := nrf rfl
theorem lt_str (n : Nat) (i : Str) : D.lt n (.str i) = true := nrf rfl
theorem lt_bl (n : Nat) (i : Bool) : D.lt n (.bl i) = true := nrf rfl
end Mi.Q
namespace Mi.Q
open PySem
theorem lci0 (S : Sto) (f : D → Sto → R (Option D)) : lcI f (.fix []) FL 0 [] S = lcL f [] [] S := lcI_fix f [] S (show 0 ≤ LL by decide)
theorem lcj0 (S : Sto) (f : D → List D → Sto → R (List D)) : lcJ f (.fix []) FL 0 [] S = lcK f [] [] S := lcJ_fix f [] S (show 0 ≤ LL by decide)
theorem fri0 (S : Sto) (f : D → Env → Sto → RS) (v : Env) : forI f (.fix []) FL 0 v S = forL f [] v S := forI_fix f v S (show 0 ≤ LL by decide)
theorem acc0 (S : Sto) (f : D → Sto → R (Option D)) (r : List D) (y : D) : accK f r [] (some y) S = lcL f r [y] S := accK_some S f r _ y (show 0 < LL by decide)
theorem any0 (S : Sto) : bfO .any S [.lst []] = some (.bl false) := nrf rfl
theorem all0 (S : Sto) : bfO .all S [.lst []] = some (.bl true) := nrf rfl
theorem lci1 (S : Sto) (f : D → Sto → R (Option D)) (a : D) : lcI f (.fix [a]) FL 0 [] S = lcL f [a] [] S := lcI_fix f [] S (show 1 ≤ LL by decide)
theorem lcj1 (S : Sto) (f : D → List D → Sto → R (List D)) (a : D) : lcJ f (.fix [a]) FL 0 [] S = lcK f [a] [] S := lcJ_fix f [] S (show 1 ≤ LL by decide)
theorem fri1 (S : Sto) (f : D → Env → Sto → RS) (v : Env) (a : D) : forI f (.fix [a]) FL 0 v S = forL f [a] v S := forI_fix f v S (show 1 ≤ LL by decide)
theorem acc1 (S : Sto) (f : D → Sto → R (Option D)) (r : List D) (a : D) (y : D) : accK f r [a] (some y) S = lcL f r [a, y] S := accK_some S f r _ y (show 1 < LL by decide)
theorem any1 (S : Sto) (a : Bool) : bfO .any S [.lst [.bl a]] = some (.bl (a)) := by
  show some (D.bl ([a].any id)) = _
  simp
theorem all1 (S : Sto) (a : Bool) : bfO .all S [.lst [.bl a]] = some (.bl (a)) := by
  show some (D.bl ([a].all id)) = _
  simp
theorem lci2 (S : Sto) (f : D → Sto → R (Option D)) (a b : D) : lcI f (.fix [a, b]) FL 0 [] S = lcL f [a, b] [] S := lcI_fix f [] S (show 2 ≤ LL by decide)
theorem lcj2 (S : Sto) (f : D → List D → Sto → R (List D)) (a b : D) : lcJ f (.fix [a, b]) FL 0 [] S = lcK f [a, b] [] S := lcJ_fix f [] S (show 2 ≤ LL by decide)
theorem fri2 (S : Sto) (f : D → Env → Sto → RS) (v : Env) (a b : D) : forI f (.fix [a, b]) FL 0 v S = forL f [a, b] v S := forI_fix f v S (show 2 ≤ LL by decide)
theorem acc2 (S : Sto) (f : D → Sto → R (Option D)) (r : List D) (a b : D) (y : D) : accK f r [a, b] (some y) S = lcL f r [a, b, y] S := accK_some S f r _ y (show 2 < LL by decide)
theorem any2 (S : Sto) (a b : Bool) : bfO .any S [.lst [.bl a, .bl b]] = some (.bl (a || (b))) := by
  show some (D.bl ([a, b].any id)) = _
  simp
theorem all2 (S : Sto) (a b : Bool) : bfO .all S [.lst [.bl a, .bl b]] = some (.bl (a && (b))) := by
  show some (D.bl ([a, b].all id)) = _
  simp
theorem lci3 (S : Sto) (f : D → Sto → R (Option D)) (a b c : D) : lcI f (.fix [a, b, c]) FL 0 [] S = lcL f [a, b, c] [] S := lcI_fix f [] S (show 3 ≤ LL by decide)
theorem lcj3 (S : Sto) (f : D → List D → Sto → R (List D)) (a b c : D) : lcJ f (.fix [a, b, c]) FL 0 [] S = lcK f [a, b, c] [] S := lcJ_fix f [] S (show 3 ≤ LL by decide)
theorem fri3 (S : Sto) (f : D → Env → Sto → RS) (v : Env) (a b c : D) : forI f (.fix [a, b, c]) FL 0 v S = forL f [a, b, c] v S := forI_fix f v S (show 3 ≤ LL by decide)
theorem acc3 (S : Sto) (f : D → Sto → R (Option D)) (r : List D) (a b c : D) (y : D) : accK f r [a, b, c] (some y) S = lcL f r [a, b, c, y] S := accK_some S f r _ y (show 3 < LL by decide)
theorem any3 (S : Sto) (a b c : Bool) : bfO .any S [.lst [.bl a, .bl b, .bl c]] = some (.bl (a || (b || (c)))) := by
  show some (D.bl ([a, b, c].any id)) = _
  simp
theorem all3 (S : Sto) (a b c : Bool) : bfO .all S [.lst [.bl a, .bl b, .bl c]] = some (.bl (a && (b && (c)))) := by
  show some (D.bl ([a, b, c].all id)) = _
  simp
theorem lci4 (S : Sto) (f : D → Sto → R (Option D)) (a b c d : D) : lcI f (.fix [a, b, c, d]) FL 0 [] S = lcL f [a, b, c, d] [] S := lcI_fix f [] S (show 4 ≤ LL by decide)
theorem lcj4 (S : Sto) (f : D → List D → Sto → R (List D)) (a b c d : D) : lcJ f (.fix [a, b, c, d]) FL 0 [] S = lcK f [a, b, c, d] [] S := lcJ_fix f [] S (show 4 ≤ LL by decide)
theorem fri4 (S : Sto) (f : D → Env → Sto → RS) (v : Env) (a b c d : D) : forI f (.fix [a, b, c, d]) FL 0 v S = forL f [a, b, c, d] v S := forI_fix f v S (show 4 ≤ LL by decide)
theorem acc4 (S : Sto) (f : D → Sto → R (Option D)) (r : List D) (a b c d : D) (y : D) : accK f r [a, b, c, d] (some y) S = lcL f r [a, b, c, d, y] S := accK_some S f r _ y (show 4 < LL by decide)
theorem any4 (S : Sto) (a b c d : Bool) : bfO .any S [.lst [.bl a, .bl b, .bl c, .bl d]] = some (.bl (a || (b || (c || (d))))) := by
  show some (D.bl ([a, b, c, d].any id)) = _
  simp
theorem all4 (S : Sto) (a b c d : Bool) : bfO .all S [.lst [.bl a, .bl b, .bl c, .bl d]] = some (.bl (a && (b && (c && (d))))) := by
  show some (D.bl ([a, b, c, d].all id)) = _
  simp
theorem lci5 (S : Sto) (f : D → Sto → R (Option D)) (a b c d e : D) : lcI f (.fix [a, b, c, d, e]) FL 0 [] S = lcL f [a, b, c, d, e] [] S := lcI_fix f [] S (show 5 ≤ LL by decide)
theorem lcj5 (S : Sto) (f : D → List D → Sto → R (List D)) (a b c d e : D) : lcJ f (.fix [a, b, c, d, e]) FL 0 [] S = lcK f [a, b, c, d, e] [] S := lcJ_fix f [] S (show 5 ≤ LL by decide)
theorem fri5 (S : Sto) (f : D → Env → Sto → RS) (v : Env) (a b c d e : D) : forI f (.fix [a, b, c, d, e]) FL 0 v S = forL f [a, b, c, d, e] v S := forI_fix f v S (show 5 ≤ LL by decide)
theorem acc5 (S : Sto) (f : D → Sto → R (Option D)) (r : List D) (a b c d e : D) (y : D) : accK f r [a, b, c, d, e] (some y) S = lcL f r [a, b, c, d, e, y] S := accK_some S f r _ y (show 5 < LL by decide)
theorem any5 (S : Sto) (a b c d e : Bool) : bfO .any S [.lst [.bl a, .bl b, .bl c, .bl d, .bl e]] = some (.bl (a || (b || (c || (d || (e)))))) := by
  show some (D.bl ([a, b, c, d, e].any id)) = _
  simp
theorem all5 (S : Sto) (a b c d e : Bool) : bfO .all S [.lst [.bl a, .bl b, .bl c, .bl d, .bl e]] = some (.bl (a && (b && (c && (d && (e)))))) := by
  show some (D.bl ([a, b, c, d, e].all id)) = _
  simp
theorem endF_ite (p : Prop) [Decidable p] (x y : RS) : endF (if p then x else y) = if p then endF x else endF y := by split <;> rfl
theorem ofs_ite {α : Type} (S : Sto) (p : Prop) [Decidable p] (x y : Option α) : R.of S (if p then x else y) = if p then R.of S x else R.of S y := by split <;> rfl
theorem in_sign (S : Sto) (c : Nat) (y : Str) : isinO S (.str ⟨#[c]⟩) (.str y) = some (decide (c ∈ y.cps.toList)) := nrf rfl
theorem nc0 : ((0 : Nat) : Int) = 0 := nrf rfl
theorem nc1 : ((1 : Nat) : Int) = 1 := nrf rfl
theorem nc2 : ((2 : Nat) : Int) = 2 := nrf rfl
theorem nc3 : ((3 : Nat) : Int) = 3 := nrf rfl
theorem nc4 : ((4 : Nat) : Int) = 4 := nrf rfl
theorem nc5 : ((5 : Nat) : Int) = 5 := nrf rfl
theorem nc6 : ((6 : Nat) : Int) = 6 := nrf rfl
theorem nc7 : ((7 : Nat) : Int) = 7 := nrf rfl
theorem nc8 : ((8 : Nat) : Int) = 8 := nrf rfl
theorem nc9 : ((9 : Nat) : Int) = 9 := nrf rfl
theorem nc10 : ((10 : Nat) : Int) = 10 := nrf rfl
theorem nc11 : ((11 : Nat) : Int) = 11 := nrf rfl
theorem nc12 : ((12 : Nat) : Int) = 12 := nrf rfl
theorem nc13 : ((13 : Nat) : Int) = 13 := nrf rfl
theorem nc14 : ((14 : Nat) : Int) = 14 := nrf rfl
theorem nc15 : ((15 : Nat) : Int) = 15 := nrf rfl
theorem nc16 : ((16 : Nat) : Int) = 16 := nrf rfl
theorem nc17 : ((17 : Nat) : Int) = 17 := nrf rfl
theorem nc18 : ((18 : Nat) : Int) = 18 := nrf rfl
theorem nc19 : ((19 : Nat) : Int) = 19 := nrf rfl
theorem nc20 : ((20 : Nat) : Int) = 20 := nrf rfl
theorem nc21 : ((21 : Nat) : Int) = 21 := nrf rfl
theorem nc22 : ((22 : Nat) : Int) = 22 := nrf rfl
theorem nc23 : ((23 : Nat) : Int) = 23 := nrf rfl
theorem nc24 : ((24 : Nat) : Int) = 24 := nrf rfl
theorem nc25 : ((25 : Nat) : Int) = 25 := nrf rfl
theorem nc26 : ((26 : Nat) : Int) = 26 := nrf rfl
theorem nc27 : ((27 : Nat) : Int) = 27 := nrf rfl
theorem nc28 : ((28 : Nat) : Int) = 28 := nrf rfl
theorem nc29 : ((29 : Nat) : Int) = 29 := nrf rfl
theorem nc30 : ((30 : Nat) : Int) = 30 := nrf rfl
theorem in_ts1 (S : Sto) (x a : Str) : isinO S (.str x) (.tup [.str a]) = some (a == x) := by
  show some ((D.str a).eqv (.str x) || false) = _
  simp only [D.eqv, Bool.or_false]
theorem in_ts2 (S : Sto) (x a b : Str) : isinO S (.str x) (.tup [.str a, .str b]) = some (a == x || (b == x)) := by
  show some ((D.str a).eqv (.str x) || ((D.str b).eqv (.str x) || false)) = _
  simp only [D.eqv, Bool.or_false]
theorem in_ts3 (S : Sto) (x a b c : Str) : isinO S (.str x) (.tup [.str a, .str b, .str c]) = some (a == x || (b == x || (c == x))) := by
  show some ((D.str a).eqv (.str x) || ((D.str b).eqv (.str x) || ((D.str c).eqv (.str x) || false))) = _
  simp only [D.eqv, Bool.or_false]
theorem in_ts4 (S : Sto) (x a b c d : Str) : isinO S (.str x) (.tup [.str a, .str b, .str c, .str d]) = some (a == x || (b == x || (c == x || (d == x)))) := by
  show some ((D.str a).eqv (.str x) || ((D.str b).eqv (.str x) || ((D.str c).eqv (.str x) || ((D.str d).eqv (.str x) || false)))) = _
  simp only [D.eqv, Bool.or_false]
theorem in_ti1 (S : Sto) (x a : Int) : isinO S (.int x) (.tup [.int a]) = some (a == x) := by
  show some ((D.int a).eqv (.int x) || false) = _
  simp only [D.eqv, Bool.or_false]
theorem in_ti2 (S : Sto) (x a b : Int) : isinO S (.int x) (.tup [.int a, .int b]) = some (a == x || (b == x)) := by
  show some ((D.int a).eqv (.int x) || ((D.int b).eqv (.int x) || false)) = _
  simp only [D.eqv, Bool.or_false]
theorem in_ti3 (S : Sto) (x a b c : Int) : isinO S (.int x) (.tup [.int a, .int b, .int c]) = some (a == x || (b == x || (c == x))) := by
  show some ((D.int a).eqv (.int x) || ((D.int b).eqv (.int x) || ((D.int c).eqv (.int x) || false))) = _
  simp only [D.eqv, Bool.or_false]
theorem in_ti4 (S : Sto) (x a b c d : Int) : isinO S (.int x) (.tup [.int a, .int b, .int c, .int d]) = some (a == x || (b == x || (c == x || (d == x)))) := by
  show some ((D.int a).eqv (.int x) || ((D.int b).eqv (.int x) || ((D.int c).eqv (.int x) || ((D.int d).eqv (.int x) || false)))) = _
  simp only [D.eqv, Bool.or_false]
theorem in_ls1 (S : Sto) (x a : Str) : isinO S (.str x) (.lst [.str a]) = some (a == x) := by
  show some ((D.str a).eqv (.str x) || false) = _
  simp only [D.eqv, Bool.or_false]
theorem in_ls2 (S : Sto) (x a b : Str) : isinO S (.str x) (.lst [.str a, .str b]) = some (a == x || (b == x)) := by
  show some ((D.str a).eqv (.str x) || ((D.str b).eqv (.str x) || false)) = _
  simp only [D.eqv, Bool.or_false]
theorem in_ls3 (S : Sto) (x a b c : Str) : isinO S (.str x) (.lst [.str a, .str b, .str c]) = some (a == x || (b == x || (c == x))) := by
  show some ((D.str a).eqv (.str x) || ((D.str b).eqv (.str x) || ((D.str c).eqv (.str x) || false))) = _
  simp only [D.eqv, Bool.or_false]
theorem in_ls4 (S : Sto) (x a b c d : Str) : isinO S (.str x) (.lst [.str a, .str b, .str c, .str d]) = some (a == x || (b == x || (c == x || (d == x)))) := by
  show some ((D.str a).eqv (.str x) || ((D.str b).eqv (.str x) || ((D.str c).eqv (.str x) || ((D.str d).eqv (.str x) || false)))) = _
  simp only [D.eqv, Bool.or_false]
theorem in_li1 (S : Sto) (x a : Int) : isinO S (.int x) (.lst [.int a]) = some (a == x) := by
  show some ((D.int a).eqv (.int x) || false) = _
  simp only [D.eqv, Bool.or_false]
theorem in_li2 (S : Sto) (x a b : Int) : isinO S (.int x) (.lst [.int a, .int b]) = some (a == x || (b == x)) := by
  show some ((D.int a).eqv (.int x) || ((D.int b).eqv (.int x) || false)) = _
  simp only [D.eqv, Bool.or_false]
theorem in_li3 (S : Sto) (x a b c : Int) : isinO S (.int x) (.lst [.int a, .int b, .int c]) = some (a == x || (b == x || (c == x))) := by
  show some ((D.int a).eqv (.int x) || ((D.int b).eqv (.int x) || ((D.int c).eqv (.int x) || false))) = _
  simp only [D.eqv, Bool.or_false]
theorem in_li4 (S : Sto) (x a b c d : Int) : isinO S (.int x) (.lst [.int a, .int b, .int c, .int d]) = some (a == x || (b == x || (c == x || (d == x)))) := by
  show some ((D.int a).eqv (.int x) || ((D.int b).eqv (.int x) || ((D.int c).eqv (.int x) || ((D.int d).eqv (.int x) || false)))) = _
  simp only [D.eqv, Bool.or_false]
theorem q_tick_arg : ((Str.ofString "tick" : Str) == Str.ofString "arg") = false := by decide +kernel
theorem p_tick_arg : ¬ ((Str.ofString "tick" : Str) = Str.ofString "arg") := by decide +kernel
theorem q_tick_cell : ((Str.ofString "tick" : Str) == Str.ofString "cell") = false := by decide +kernel
theorem p_tick_cell : ¬ ((Str.ofString "tick" : Str) = Str.ofString "cell") := by decide +kernel
theorem q_tick_call : ((Str.ofString "tick" : Str) == Str.ofString "call") = false := by decide +kernel
theorem p_tick_call : ¬ ((Str.ofString "tick" : Str) = Str.ofString "call") := by decide +kernel
theorem q_tick_plus : ((Str.ofString "tick" : Str) == Str.ofString "plus") = false := by decide +kernel
theorem p_tick_plus : ¬ ((Str.ofString "tick" : Str) = Str.ofString "plus") := by decide +kernel
theorem q_tick_less : ((Str.ofString "tick" : Str) == Str.ofString "less") = false := by decide +kernel
theorem p_tick_less : ¬ ((Str.ofString "tick" : Str) = Str.ofString "less") := by decide +kernel
theorem q_tick_same : ((Str.ofString "tick" : Str) == Str.ofString "same") = false := by decide +kernel
theorem p_tick_same : ¬ ((Str.ofString "tick" : Str) = Str.ofString "same") := by decide +kernel
theorem q_tick_if : ((Str.ofString "tick" : Str) == Str.ofString "if") = false := by decide +kernel
theorem p_tick_if : ¬ ((Str.ofString "tick" : Str) = Str.ofString "if") := by decide +kernel
theorem q_arg_tick : ((Str.ofString "arg" : Str) == Str.ofString "tick") = false := by decide +kernel
theorem p_arg_tick : ¬ ((Str.ofString "arg" : Str) = Str.ofString "tick") := by decide +kernel
theorem q_arg_cell : ((Str.ofString "arg" : Str) == Str.ofString "cell") = false := by decide +kernel
theorem p_arg_cell : ¬ ((Str.ofString "arg" : Str) = Str.ofString "cell") := by decide +kernel
theorem q_arg_call : ((Str.ofString "arg" : Str) == Str.ofString "call") = false := by decide +kernel
theorem p_arg_call : ¬ ((Str.ofString "arg" : Str) = Str.ofString "call") := by decide +kernel
theorem q_arg_plus : ((Str.ofString "arg" : Str) == Str.ofString "plus") = false := by decide +kernel
theorem p_arg_plus : ¬ ((Str.ofString "arg" : Str) = Str.ofString "plus") := by decide +kernel
theorem q_arg_less : ((Str.ofString "arg" : Str) == Str.ofString "less") = false := by decide +kernel
theorem p_arg_less : ¬ ((Str.ofString "arg" : Str) = Str.ofString "less") := by decide +kernel
theorem q_arg_same : ((Str.ofString "arg" : Str) == Str.ofString "same") = false := by decide +kernel
theorem p_arg_same : ¬ ((Str.ofString "arg" : Str) = Str.ofString "same") := by decide +kernel
theorem q_arg_if : ((Str.ofString "arg" : Str) == Str.ofString "if") = false := by decide +kernel
theorem p_arg_if : ¬ ((Str.ofString "arg" : Str) = Str.ofString "if") := by decide +kernel
theorem q_cell_tick : ((Str.ofString "cell" : Str) == Str.ofString "tick") = false := by decide +kernel
theorem p_cell_tick : ¬ ((Str.ofString "cell" : Str) = Str.ofString "tick") := by decide +kernel
theorem q_cell_arg : ((Str.ofString "cell" : Str) == Str.ofString "arg") = false := by decide +kernel
theorem p_cell_arg : ¬ ((Str.ofString "cell" : Str) = Str.ofString "arg") := by decide +kernel
theorem q_cell_call : ((Str.ofString "cell" : Str) == Str.ofString "call") = false := by decide +kernel
theorem p_cell_call : ¬ ((Str.ofString "cell" : Str) = Str.ofString "call") := by decide +kernel
theorem q_cell_plus : ((Str.ofString "cell" : Str) == Str.ofString "plus") = false := by decide +kernel
theorem p_cell_plus : ¬ ((Str.ofString "cell" : Str) = Str.ofString "plus") := by decide +kernel
theorem q_cell_less : ((Str.ofString "cell" : Str) == Str.ofString "less") = false := by decide +kernel
theorem p_cell_less : ¬ ((Str.ofString "cell" : Str) = Str.ofString "less") := by decide +kernel
theorem q_cell_same : ((Str.ofString "cell" : Str) == Str.ofString "same") = false := by decide +kernel
theorem p_cell_same : ¬ ((Str.ofString "cell" : Str) = Str.ofString "same") := by decide +kernel
theorem q_cell_if : ((Str.ofString "cell" : Str) == Str.ofString "if") = false := by decide +kernel
theorem p_cell_if : ¬ ((Str.ofString "cell" : Str) = Str.ofString "if") := by decide +kernel
theorem q_call_tick : ((Str.ofString "call" : Str) == Str.ofString "tick") = false := by decide +kernel
theorem p_call_tick : ¬ ((Str.ofString "call" : Str) = Str.ofString "tick") := by decide +kernel
theorem q_call_arg : ((Str.ofString "call" : Str) == Str.ofString "arg") = false := by decide +kernel
theorem p_call_arg : ¬ ((Str.ofString "call" : Str) = Str.ofString "arg") := by decide +kernel
theorem q_call_cell : ((Str.ofString "call" : Str) == Str.ofString "cell") = false := by decide +kernel
theorem p_call_cell : ¬ ((Str.ofString "call" : Str) = Str.ofString "cell") := by decide +kernel
theorem q_call_plus : ((Str.ofString "call" : Str) == Str.ofString "plus") = false := by decide +kernel
theorem p_call_plus : ¬ ((Str.ofString "call" : Str) = Str.ofString "plus") := by decide +kernel
theorem q_call_less : ((Str.ofString "call" : Str) == Str.ofString "less") = false := by decide +kernel
theorem p_call_less : ¬ ((Str.ofString "call" : Str) = Str.ofString "less") := by decide +kernel
theorem q_call_same : ((Str.ofString "call" : Str) == Str.ofString "same") = false := by decide +kernel
theorem p_call_same : ¬ ((Str.ofString "call" : Str) = Str.ofString "same") := by decide +kernel
theorem q_call_if : ((Str.ofString "call" : Str) == Str.ofString "if") = false := by decide +kernel
theorem p_call_if : ¬ ((Str.ofString "call" : Str) = Str.ofString "if") := by decide +kernel
theorem q_plus_tick : ((Str.ofString "plus" : Str) == Str.ofString "tick") = false := by decide +kernel
theorem p_plus_tick : ¬ ((Str.ofString "plus" : Str) = Str.ofString "tick") := by decide +kernel
theorem q_plus_arg : ((Str.ofString "plus" : Str) == Str.ofString "arg") = false := by decide +kernel
theorem p_plus_arg : ¬ ((Str.ofString "plus" : Str) = Str.ofString "arg") := by decide +kernel
theorem q_plus_cell : ((Str.ofString "plus" : Str) == Str.ofString "cell") = false := by decide +kernel
theorem p_plus_cell : ¬ ((Str.ofString "plus" : Str) = Str.ofString "cell") := by decide +kernel
theorem q_plus_call : ((Str.ofString "plus" : Str) == Str.ofString "call") = false := by decide +kernel
theorem p_plus_call : ¬ ((Str.ofString "plus" : Str) = Str.ofString "call") := by decide +kernel
theorem q_plus_less : ((Str.ofString "plus" : Str) == Str.ofString "less") = false := by decide +kernel
theorem p_plus_less : ¬ ((Str.ofString "plus" : Str) = Str.ofString "less") := by decide +kernel
theorem q_plus_same : ((Str.ofString "plus" : Str) == Str.ofString "same") = false := by decide +kernel
theorem p_plus_same : ¬ ((Str.ofString "plus" : Str) = Str.ofString "same") := by decide +kernel
theorem q_plus_if : ((Str.ofString "plus" : Str) == Str.ofString "if") = false := by decide +kernel
theorem p_plus_if : ¬ ((Str.ofString "plus" : Str) = Str.ofString "if") := by decide +kernel
theorem q_less_tick : ((Str.ofString "less" : Str) == Str.ofString "tick") = false := by decide +kernel
theorem p_less_tick : ¬ ((Str.ofString "less" : Str) = Str.ofString "tick") := by decide +kernel
theorem q_less_arg : ((Str.ofString "less" : Str) == Str.ofString "arg") = false := by decide +kernel
theorem p_less_arg : ¬ ((Str.ofString "less" : Str) = Str.ofString "arg") := by decide +kernel
theorem q_less_cell : ((Str.ofString "less" : Str) == Str.ofString "cell") = false := by decide +kernel
theorem p_less_cell : ¬ ((Str.ofString "less" : Str) = Str.ofString "cell") := by decide +kernel
theorem q_less_call : ((Str.ofString "less" : Str) == Str.ofString "call") = false := by decide +kernel
theorem p_less_call : ¬ ((Str.ofString "less" : Str) = Str.ofString "call") := by decide +kernel
theorem q_less_plus : ((Str.ofString "less" : Str) == Str.ofString "plus") = false := by decide +kernel
theorem p_less_plus : ¬ ((Str.ofString "less" : Str) = Str.ofString "plus") := by decide +kernel
theorem q_less_same : ((Str.ofString "less" : Str) == Str.ofString "same") = false := by decide +kernel
theorem p_less_same : ¬ ((Str.ofString "less" : Str) = Str.ofString "same") := by decide +kernel
theorem q_less_if : ((Str.ofString "less" : Str) == Str.ofString "if") = false := by decide +kernel
theorem p_less_if : ¬ ((Str.ofString "less" : Str) = Str.ofString "if") := by decide +kernel
theorem q_same_tick : ((Str.ofString "same" : Str) == Str.ofString "tick") = false := by decide +kernel
theorem p_same_tick : ¬ ((Str.ofString "same" : Str) = Str.ofString "tick") := by decide +kernel
theorem q_same_arg : ((Str.ofString "same" : Str) == Str.ofString "arg") = false := by decide +kernel
theorem p_same_arg : ¬ ((Str.ofString "same" : Str) = Str.ofString "arg") := by decide +kernel
theorem q_same_cell : ((Str.ofString "same" : Str) == Str.ofString "cell") = false := by decide +kernel
theorem p_same_cell : ¬ ((Str.ofString "same" : Str) = Str.ofString "cell") := by decide +kernel
theorem q_same_call : ((Str.ofString "same" : Str) == Str.ofString "call") = false := by decide +kernel
theorem p_same_call : ¬ ((Str.ofString "same" : Str) = Str.ofString "call") := by decide +kernel
theorem q_same_plus : ((Str.ofString "same" : Str) == Str.ofString "plus") = false := by decide +kernel
theorem p_same_plus : ¬ ((Str.ofString "same" : Str) = Str.ofString "plus") := by decide +kernel
theorem q_same_less : ((Str.ofString "same" : Str) == Str.ofString "less") = false := by decide +kernel
theorem p_same_less : ¬ ((Str.ofString "same" : Str) = Str.ofString "less") := by decide +kernel
theorem q_same_if : ((Str.ofString "same" : Str) == Str.ofString "if") = false := by decide +kernel
theorem p_same_if : ¬ ((Str.ofString "same" : Str) = Str.ofString "if") := by decide +kernel
theorem q_if_tick : ((Str.ofString "if" : Str) == Str.ofString "tick") = false := by decide +kernel
theorem p_if_tick : ¬ ((Str.ofString "if" : Str) = Str.ofString "tick") := by decide +kernel
theorem q_if_arg : ((Str.ofString "if" : Str) == Str.ofString "arg") = false := by decide +kernel
theorem p_if_arg : ¬ ((Str.ofString "if" : Str) = Str.ofString "arg") := by decide +kernel
theorem q_if_cell : ((Str.ofString "if" : Str) == Str.ofString "cell") = false := by decide +kernel
theorem p_if_cell : ¬ ((Str.ofString "if" : Str) = Str.ofString "cell") := by decide +kernel
theorem q_if_call : ((Str.ofString "if" : Str) == Str.ofString "call") = false := by decide +kernel
theorem p_if_call : ¬ ((Str.ofString "if" : Str) = Str.ofString "call") := by decide +kernel
theorem q_if_plus : ((Str.ofString "if" : Str) == Str.ofString "plus") = false := by decide +kernel
theorem p_if_plus : ¬ ((Str.ofString "if" : Str) = Str.ofString "plus") := by decide +kernel
theorem q_if_less : ((Str.ofString "if" : Str) == Str.ofString "less") = false := by decide +kernel
theorem p_if_less : ¬ ((Str.ofString "if" : Str) = Str.ofString "less") := by decide +kernel
theorem q_if_same : ((Str.ofString "if" : Str) == Str.ofString "same") = false := by decide +kernel
theorem p_if_same : ¬ ((Str.ofString "if" : Str) = Str.ofString "same") := by decide +kernel
end Mi.Q
namespace K79
open PySem Mi Mi.Q
def F_wall : Nat := 0
def F_BadText___init__ : Nat := 1
def F_is_integer : Nat := 2
def F_is_between : Nat := 3
def F_is_value : Nat := 4
def F_is_name : Nat := 5
def F_has_kind : Nat := 6
def F_inner_terms : Nat := 7
def F_has_form : Nat := 8
def F_is_term : Nat := 9
def F_write_term : Nat := 10
def F_Words___init__ : Nat := 11
def F_Words_pull : Nat := 12
def F_Words_pull_one : Nat := 13
def F_Words_pull_figure : Nat := 14
def F_Words_pull_name : Nat := 15
def F_Words_is_done : Nat := 16
def F_pulled_term : Nat := 17
def F_term_in : Nat := 18
def F_read_term : Nat := 19
def F_law_pool : Nat := 20
def F_law_draw : Nat := 21
def F_law_pick : Nat := 22
def F_law_names : Nat := 23
def F_law_term : Nat := 24
def F_law_term_text : Nat := 25
def F_law_read : Nat := 26
def F_law : Nat := 27
def C_StoreError : Nat := 0
def C_BadText : Nat := 1
def C_Words : Nat := 2
def A_index : Nat := 0
def A_is_bad : Nat := 1
def A_left : Nat := 2
def A_pull : Nat := 3
def A_pull_name : Nat := 4
def A_pull_figure : Nat := 5
def A_is_done : Nat := 6
def A_pull_one : Nat := 7
def L_wall_1 : CSs := (.cons .pass
  .nil)
def B_wall : CSs := (.cons (.whil (.cst (.bl true)) L_wall_1)
  .nil)
def D_wall : FnD := ⟨1, 1, false, B_wall⟩
def B_BadText___init__ : CSs := (.cons (.rais 1000000 .nil) .nil)
def D_BadText___init__ : FnD := ⟨2, 2, false, B_BadText___init__⟩
def B_is_integer : CSs := (.cons (.ret (.and (.isi (.var 0) [.int]) (.nott (.isi (.var 0) [.bool]))))
  .nil)
def D_is_integer : FnD := ⟨1, 1, false, B_is_integer⟩
def B_is_between : CSs := (.cons (.ret (.and (.call F_is_integer (.cons (.var 0) .nil)) (.chn .le .le (.var 1) (.var 0) (.var 2))))
  .nil)
def D_is_between : FnD := ⟨3, 3, false, B_is_between⟩
def B_is_value : CSs := (.cons (.ret (.call F_is_between (.cons (.var 0) (.cons (.cst (.int 0)) (.cons (.glb "MOST_VALUE" (.int 2)) .nil)))))
  .nil)
def D_is_value : FnD := ⟨1, 1, false, B_is_value⟩
def B_is_name : CSs := (.cons (.ret (.and (.isi (.var 0) [.str]) (.and (.chn .le .le (.cst (.int 1)) (.bf .len false (.cons (.var 0) .nil)) (.glb "MOST_LETTERS" (.int 8))) (.bf .all false (.cons (.lc false (.cmp .isin (.var 1) (.glb "LETTERS" (.str "abcdefghijklmnopqrstuvwxyz"))) (.one 1) (.of (.var 0)) .no) .nil)))))
  .nil)
def D_is_name : FnD := ⟨1, 2, false, B_is_name⟩
def B_has_kind : CSs := (.cons (.ret (.and (.isi (.var 0) [.tuple]) (.and (.cmp .eq (.bf .len false (.cons (.var 0) .nil)) (.var 2)) (.and (.isi (.idx (.var 0) (.cst (.int 0))) [.str]) (.cmp .eq (.idx (.var 0) (.cst (.int 0))) (.var 1))))))
  .nil)
def D_has_kind : FnD := ⟨3, 3, false, B_has_kind⟩
def B_inner_terms : CSs := (.cons (.iff (.nott (.isi (.var 0) [.tuple])) (.cons (.ret (.tup .nil))
  .nil) .nil)
  (.cons (.iff (.cmp .eq (.idx (.var 0) (.cst (.int 0))) (.cst (.str "call"))) (.cons (.ret (.idx (.var 0) (.cst (.int 2))))
  .nil) .nil)
  (.cons (.ret (.ife (.or (.cmp .isin (.idx (.var 0) (.cst (.int 0))) (.glb "PAIRS" (.tup [(.str "plus"), (.str "less"), (.str "same")]))) (.cmp .eq (.idx (.var 0) (.cst (.int 0))) (.cst (.str "if")))) (.slc (.var 0) (.yes (.cst (.int 1))) .no) (.tup .nil)))
  .nil)))
def D_inner_terms : FnD := ⟨1, 1, false, B_inner_terms⟩
def B_has_form : CSs := (.cons (.iff (.or (.call F_is_value (.cons (.var 0) .nil)) (.call F_has_kind (.cons (.var 0) (.cons (.cst (.str "tick")) (.cons (.cst (.int 1)) .nil))))) (.cons (.ret (.cst (.bl true)))
  .nil) .nil)
  (.cons (.iff (.call F_has_kind (.cons (.var 0) (.cons (.cst (.str "arg")) (.cons (.cst (.int 2)) .nil)))) (.cons (.ret (.call F_is_between (.cons (.idx (.var 0) (.cst (.int 1))) (.cons (.cst (.int 0)) (.cons (.bin .sub (.var 1) (.cst (.int 1))) .nil)))))
  .nil) .nil)
  (.cons (.iff (.call F_has_kind (.cons (.var 0) (.cons (.cst (.str "cell")) (.cons (.cst (.int 2)) .nil)))) (.cons (.ret (.call F_is_name (.cons (.idx (.var 0) (.cst (.int 1))) .nil)))
  .nil) .nil)
  (.cons (.iff (.call F_has_kind (.cons (.var 0) (.cons (.cst (.str "call")) (.cons (.cst (.int 3)) .nil)))) (.cons (.ret (.and (.call F_is_name (.cons (.idx (.var 0) (.cst (.int 1))) .nil)) (.and (.isi (.idx (.var 0) (.cst (.int 2))) [.tuple]) (.cmp .le (.bf .len false (.cons (.idx (.var 0) (.cst (.int 2))) .nil)) (.glb "MOST_ARGUMENTS" (.int 2))))))
  .nil) .nil)
  (.cons (.ret (.or (.bf .any false (.cons (.lc false (.call F_has_kind (.cons (.var 0) (.cons (.var 2) (.cons (.cst (.int 3)) .nil)))) (.one 2) (.of (.glb "PAIRS" (.tup [(.str "plus"), (.str "less"), (.str "same")]))) .no) .nil)) (.call F_has_kind (.cons (.var 0) (.cons (.cst (.str "if")) (.cons (.cst (.int 4)) .nil))))))
  .nil)))))
def D_has_form : FnD := ⟨2, 3, false, B_has_form⟩
def L_is_term_1 : CSs := (.cons (.aug 4 .add (.bf .len false (.cons (.var 3) .nil)))
  (.cons (.iff (.or (.cmp .gt (.var 4) (.glb "MOST_PARTS" (.int 30))) (.nott (.bf .all false (.cons (.lc false (.call F_has_form (.cons (.var 6) (.cons (.var 1) .nil))) (.one 6) (.of (.var 3)) .no) .nil)))) (.cons (.ret (.cst (.bl false)))
  .nil) .nil)
  (.cons (.set 3 (.lc2 false (.var 6) (.one 5) (.of (.var 3)) .no (.one 6) (.of (.call F_inner_terms (.cons (.var 5) .nil))) .no))
  (.cons (.iff (.cmp .eq (.var 3) (.lst false .nil)) (.cons (.ret (.cst (.bl true)))
  .nil) .nil)
  .nil))))
def B_is_term : CSs := (.cons (.par 3 4 (.lst false (.cons (.var 0) .nil)) (.cst (.int 0)))
  (.cons (.forr (.one 2) (.range1 (.glb "MOST_DEPTH" (.int 8))) L_is_term_1)
  (.cons (.ret (.cst (.bl false)))
  .nil)))
def D_is_term : FnD := ⟨2, 7, false, B_is_term⟩
def B_write_term : CSs := (.cons (.iff (.nott (.isi (.var 0) [.tuple])) (.cons (.ret (.bf .str false (.cons (.var 0) .nil)))
  .nil) .nil)
  (.cons (.iff (.cmp .eq (.idx (.var 0) (.cst (.int 0))) (.cst (.str "call"))) (.cons (.ret (.bm .join (.cst (.str " ")) (.cons (.lst false (.cons (.cst (.str "call")) (.cons (.idx (.var 0) (.cst (.int 1))) (.cons (.bf .str false (.cons (.bf .len false (.cons (.idx (.var 0) (.cst (.int 2))) .nil)) .nil)) (.star (.lc false (.call F_write_term (.cons (.var 1) .nil)) (.one 1) (.of (.idx (.var 0) (.cst (.int 2)))) .no) .nil))))) .nil)))
  .nil) .nil)
  (.cons (.iff (.or (.cmp .isin (.idx (.var 0) (.cst (.int 0))) (.glb "PAIRS" (.tup [(.str "plus"), (.str "less"), (.str "same")]))) (.cmp .eq (.idx (.var 0) (.cst (.int 0))) (.cst (.str "if")))) (.cons (.ret (.bm .join (.cst (.str " ")) (.cons (.lst false (.cons (.idx (.var 0) (.cst (.int 0))) (.star (.lc false (.call F_write_term (.cons (.var 1) .nil)) (.one 1) (.of (.slc (.var 0) (.yes (.cst (.int 1))) .no)) .no) .nil))) .nil)))
  .nil) .nil)
  (.cons (.ret (.bm .join (.cst (.str " ")) (.cons (.lc false (.bf .str false (.cons (.var 1) .nil)) (.one 1) (.of (.var 0)) .no) .nil)))
  .nil))))
def D_write_term : FnD := ⟨1, 2, false, B_write_term⟩
def B_Words___init__ : CSs := (.cons (.attS (.var 0) A_left (.bf .list true (.cons (.rev (.var 1)) .nil)))
  (.cons (.attS (.var 0) A_is_bad (.cst (.bl false)))
  .nil))
def D_Words___init__ : FnD := ⟨2, 2, false, B_Words___init__⟩
def B_Words_pull : CSs := (.cons (.iff (.cmp .eq (.att (.var 0) A_left) (.lst false .nil)) (.cons (.attS (.var 0) A_is_bad (.cst (.bl true)))
  (.cons (.ret (.cst (.str "")))
  .nil)) .nil)
  (.cons (.ret (.bm .pop (.att (.var 0) A_left) .nil))
  .nil))
def D_Words_pull : FnD := ⟨1, 1, false, B_Words_pull⟩
def B_Words_pull_one : CSs := (.cons (.exp (.call F_wall (.cons (.cst (.int 0)) .nil)))
  .nil)
def D_Words_pull_one : FnD := ⟨2, 2, false, B_Words_pull_one⟩
def B_Words_pull_figure : CSs := (.cons (.set 3 (.mth (.var 0) A_pull .nil))
  (.cons (.iff (.or (.cmp .ne (.bf .len false (.cons (.var 3) .nil)) (.cst (.int 1))) (.or (.cmp .notin (.var 3) (.glb "FIGURES" (.str "0123456789"))) (.nott (.chn .le .le (.var 1) (.bf .int false (.cons (.var 3) .nil)) (.var 2))))) (.cons (.attS (.var 0) A_is_bad (.cst (.bl true)))
  (.cons (.ret (.var 1))
  .nil)) .nil)
  (.cons (.ret (.bf .int false (.cons (.var 3) .nil)))
  .nil)))
def D_Words_pull_figure : FnD := ⟨3, 4, false, B_Words_pull_figure⟩
def B_Words_pull_name : CSs := (.cons (.set 1 (.mth (.var 0) A_pull .nil))
  (.cons (.iff (.nott (.call F_is_name (.cons (.var 1) .nil))) (.cons (.attS (.var 0) A_is_bad (.cst (.bl true)))
  .nil) .nil)
  (.cons (.ret (.var 1))
  .nil)))
def D_Words_pull_name : FnD := ⟨1, 2, false, B_Words_pull_name⟩
def B_Words_is_done : CSs := (.cons (.ret (.and (.nott (.att (.var 0) A_is_bad)) (.cmp .eq (.att (.var 0) A_left) (.lst false .nil))))
  .nil)
def D_Words_is_done : FnD := ⟨1, 1, false, B_Words_is_done⟩
def B_pulled_term : CSs := (.cons (.set 2 (.mth (.var 0) A_pull .nil))
  (.cons (.iff (.or (.cmp .eq (.var 1) (.cst (.int 0))) (.att (.var 0) A_is_bad)) (.cons (.attS (.var 0) A_is_bad (.cst (.bl true)))
  (.cons (.ret (.cst (.int 0)))
  .nil)) .nil)
  (.cons (.iff (.or (.cmp .isin (.var 2) (.glb "PAIRS" (.tup [(.str "plus"), (.str "less"), (.str "same")]))) (.cmp .eq (.var 2) (.cst (.str "if")))) (.cons (.ret (.tup (.cons (.var 2) (.star (.lc false (.call F_pulled_term (.cons (.var 0) (.cons (.bin .sub (.var 1) (.cst (.int 1))) .nil))) (.one 5) (.range1 (.ife (.cmp .eq (.var 2) (.cst (.str "if"))) (.cst (.int 3)) (.cst (.int 2)))) .no) .nil))))
  .nil) .nil)
  (.cons (.iff (.cmp .eq (.var 2) (.cst (.str "call"))) (.cons (.par 3 4 (.mth (.var 0) A_pull_name .nil) (.mth (.var 0) A_pull_figure (.cons (.cst (.int 0)) (.cons (.cst (.int 2)) .nil))))
  (.cons (.ret (.tup (.cons (.cst (.str "call")) (.cons (.var 3) (.cons (.bf .tuple false (.cons (.lc false (.call F_pulled_term (.cons (.var 0) (.cons (.bin .sub (.var 1) (.cst (.int 1))) .nil))) (.one 5) (.range1 (.var 4)) .no) .nil)) .nil)))))
  .nil)) .nil)
  (.cons (.iff (.cmp .eq (.var 2) (.cst (.str "arg"))) (.cons (.ret (.tup (.cons (.cst (.str "arg")) (.cons (.mth (.var 0) A_pull_figure (.cons (.cst (.int 0)) (.cons (.cst (.int 1)) .nil))) .nil))))
  .nil) .nil)
  (.cons (.iff (.cmp .eq (.var 2) (.cst (.str "cell"))) (.cons (.ret (.tup (.cons (.cst (.str "cell")) (.cons (.mth (.var 0) A_pull_name .nil) .nil))))
  .nil) .nil)
  (.cons (.iff (.cmp .eq (.var 2) (.cst (.str "tick"))) (.cons (.ret (.tup (.cons (.cst (.str "tick")) .nil)))
  .nil) .nil)
  (.cons (.iff (.or (.cmp .ne (.bf .len false (.cons (.var 2) .nil)) (.cst (.int 1))) (.cmp .notin (.var 2) (.glb "VALUES" (.str "012")))) (.cons (.attS (.var 0) A_is_bad (.cst (.bl true)))
  (.cons (.ret (.cst (.int 0)))
  .nil)) .nil)
  (.cons (.ret (.bf .int false (.cons (.var 2) .nil)))
  .nil)))))))))
def D_pulled_term : FnD := ⟨2, 6, false, B_pulled_term⟩
def B_term_in : CSs := (.cons (.set 2 (.mk C_Words (.cons (.var 0) .nil)))
  (.cons (.set 3 (.call F_pulled_term (.cons (.var 2) (.cons (.glb "MOST_DEPTH" (.int 8)) .nil))))
  (.cons (.ret (.ife (.and (.mth (.var 2) A_is_done .nil) (.call F_is_term (.cons (.var 3) (.cons (.var 1) .nil)))) (.var 3) (.cst .non)))
  .nil)))
def D_term_in : FnD := ⟨2, 4, true, B_term_in⟩
def B_read_term : CSs := (.cons (.set 2 (.ife (.isi (.var 0) [.str]) (.call F_term_in (.cons (.bm .split (.var 0) (.cons (.cst (.str " ")) .nil)) (.cons (.var 1) .nil))) (.cst .non)))
  (.cons (.iff (.cmp .is (.var 2) (.cst .non)) (.cons (.rais C_BadText (.cons (.cst (.int 0)) .nil))
  .nil) .nil)
  (.cons (.ret (.var 2))
  .nil)))
def D_read_term : FnD := ⟨2, 3, false, B_read_term⟩
def B_law_pool : CSs := (.cons (.set 2 (.ife (.cmp .lt (.var 1) (.bf .len false (.cons (.var 0) .nil))) (.idx (.var 0) (.var 1)) (.bin .add (.bin .mul (.cst (.int 7)) (.bf .sum false (.cons (.slc (.var 0) .no (.yes (.cst (.int 63)))) .nil))) (.var 1))))
  (.cons (.set 3 (.bf .abs false (.cons (.var 2) .nil)))
  (.cons (.set 4 (.bin .add (.bin .add (.bin .add (.bin .mod (.bf .int false (.cons (.var 3) .nil)) (.cst (.int 2147483629))) (.bin .mul (.bin .mul (.cst (.int 7919)) (.var 1)) (.var 1))) (.bin .mul (.cst (.int 31)) (.var 1))) (.cst (.int 17))))
  (.cons (.set 4 (.bin .mod (.bf .int false (.cons (.bin .mul (.var 4) (.cst (.int 48271))) .nil)) (.cst (.int 2147483647))))
  (.cons (.ret (.lst true (.cons (.bin .mul (.var 3) (.bf .int false (.cons (.cmp .ge (.var 3) (.bin .pow (.cst (.int 10)) (.cst (.int 18)))) .nil))) (.cons (.bin .mod (.bf .int false (.cons (.bin .mul (.var 4) (.var 4)) .nil)) (.cst (.int 2147483629))) .nil))))
  .nil)))))
def D_law_pool : FnD := ⟨2, 5, false, B_law_pool⟩
def B_law_draw : CSs := (.cons (.iff (.cmp .gt (.idx (.var 0) (.cst (.int 0))) (.cst (.int 0))) (.cons (.set 2 (.bin .mod (.bf .int false (.cons (.idx (.var 0) (.cst (.int 0))) .nil)) (.var 1)))
  (.cons (.idxS (.var 0) (.cst (.int 0)) (.bin .fdiv (.idx (.var 0) (.cst (.int 0))) (.var 1)))
  (.cons (.ret (.var 2))
  .nil))) .nil)
  (.cons (.idxS (.var 0) (.cst (.int 1)) (.bin .mod (.bf .int false (.cons (.bin .add (.bin .mul (.idx (.var 0) (.cst (.int 1))) (.cst (.int 48271))) (.cst (.int 11))) .nil)) (.cst (.int 2147483647))))
  (.cons (.ret (.bin .mod (.bf .int false (.cons (.bin .fdiv (.bin .mod (.bf .int false (.cons (.bin .mul (.idx (.var 0) (.cst (.int 1))) (.idx (.var 0) (.cst (.int 1)))) .nil)) (.cst (.int 2147483629))) (.cst (.int 16))) .nil)) (.var 1)))
  .nil)))
def D_law_draw : FnD := ⟨2, 3, false, B_law_draw⟩
def B_law_pick : CSs := (.cons (.ret (.idx (.var 1) (.call F_law_draw (.cons (.var 0) (.cons (.bf .len false (.cons (.var 1) .nil)) .nil)))))
  .nil)
def D_law_pick : FnD := ⟨2, 2, false, B_law_pick⟩
def B_law_names : CSs := (.cons (.set 2 (.cst (.str "abcdefghijklmnopqrstuvwxyz")))
  (.cons (.unp (.many [4, 5]) (.tup (.cons (.call F_law_draw (.cons (.var 0) (.cons (.cst (.int 26)) .nil))) (.cons (.bin .add (.cst (.int 1)) (.bin .mul (.cst (.int 2)) (.call F_law_draw (.cons (.var 0) (.cons (.cst (.int 6)) .nil))))) .nil))))
  (.cons (.set 3 (.lst false (.cons (.tup (.cons (.cst (.str "")) (.cons (.cst (.str "")) .nil))) (.cons (.tup (.cons (.cst (.str "")) (.cons (.cst (.str "q")) .nil))) (.cons (.tup (.cons (.cst (.str "ab")) (.cons (.cst (.str "")) .nil))) (.cons (.tup (.cons (.cst (.str "abcdefg")) (.cons (.cst (.str "")) .nil))) (.cons (.tup (.cons (.cst (.str "")) (.cons (.cst (.str "abcdefg")) .nil))) .nil)))))))
  (.cons (.unp (.many [6, 7]) (.call F_law_pick (.cons (.var 0) (.cons (.var 3) .nil))))
  (.cons (.ret (.lc false (.bin .add (.bin .add (.var 6) (.idx (.var 2) (.bin .mod (.bf .int false (.cons (.bin .add (.var 4) (.bin .mul (.var 5) (.var 8))) .nil)) (.cst (.int 26))))) (.var 7)) (.one 8) (.range1 (.var 1)) .no))
  .nil)))))
def D_law_names : FnD := ⟨2, 9, false, B_law_names⟩
def B_law_term : CSs := (.cons (.set 4 (.call F_law_draw (.cons (.var 0) (.cons (.ife (.cmp .gt (.var 3) (.cst (.int 0))) (.cst (.int 9)) (.cst (.int 4))) .nil))))
  (.cons (.iff (.or (.cmp .eq (.var 4) (.cst (.int 0))) (.or (.and (.cmp .eq (.var 4) (.cst (.int 1))) (.cmp .eq (.var 2) (.cst (.int 0)))) (.and (.cmp .isin (.var 4) (.lst false (.cons (.cst (.int 2)) (.cons (.cst (.int 8)) .nil)))) (.cmp .eq (.idx (.var 1) (.cst (.str "cells"))) (.lst false .nil))))) (.cons (.ret (.call F_law_draw (.cons (.var 0) (.cons (.cst (.int 3)) .nil))))
  .nil) .nil)
  (.cons (.iff (.cmp .eq (.var 4) (.cst (.int 1))) (.cons (.ret (.tup (.cons (.cst (.str "arg")) (.cons (.call F_law_draw (.cons (.var 0) (.cons (.var 2) .nil))) .nil))))
  .nil) .nil)
  (.cons (.iff (.or (.cmp .eq (.var 4) (.cst (.int 2))) (.cmp .eq (.var 4) (.cst (.int 8)))) (.cons (.ret (.tup (.cons (.cst (.str "cell")) (.cons (.idx (.call F_law_pick (.cons (.var 0) (.cons (.idx (.var 1) (.cst (.str "cells"))) .nil))) (.cst (.int 0))) .nil))))
  .nil) .nil)
  (.cons (.iff (.cmp .eq (.var 4) (.cst (.int 3))) (.cons (.ret (.ife (.cmp .eq (.call F_law_draw (.cons (.var 0) (.cons (.cst (.int 3)) .nil))) (.cst (.int 0))) (.tup (.cons (.cst (.str "tick")) .nil)) (.call F_law_draw (.cons (.var 0) (.cons (.cst (.int 3)) .nil)))))
  .nil) .nil)
  (.cons (.iff (.and (.cmp .eq (.var 4) (.cst (.int 4))) (.cmp .ne (.idx (.var 1) (.cst (.str "functions"))) (.lst false .nil))) (.cons (.set 6 (.call F_law_pick (.cons (.var 0) (.cons (.idx (.var 1) (.cst (.str "functions"))) .nil))))
  (.cons (.ret (.tup (.cons (.cst (.str "call")) (.cons (.idx (.var 6) (.cst (.str "name"))) (.cons (.bf .tuple false (.cons (.lc false (.call F_law_term (.cons (.var 0) (.cons (.var 1) (.cons (.var 2) (.cons (.cst (.int 0)) .nil))))) (.one 7) (.range1 (.idx (.var 6) (.cst (.str "many")))) .no) .nil)) .nil)))))
  .nil)) .nil)
  (.cons (.iff (.cmp .eq (.var 4) (.cst (.int 7))) (.cons (.ret (.bin .add (.tup (.cons (.cst (.str "if")) .nil)) (.bf .tuple false (.cons (.lc false (.call F_law_term (.cons (.var 0) (.cons (.var 1) (.cons (.var 2) (.cons (.bin .sub (.var 3) (.cst (.int 1))) .nil))))) (.one 7) (.range1 (.cst (.int 3))) .no) .nil))))
  .nil) .nil)
  (.cons (.set 5 (.call F_law_pick (.cons (.var 0) (.cons (.lst false (.cons (.cst (.str "plus")) (.cons (.cst (.str "less")) (.cons (.cst (.str "same")) .nil)))) .nil))))
  (.cons (.ret (.tup (.cons (.var 5) (.cons (.call F_law_term (.cons (.var 0) (.cons (.var 1) (.cons (.var 2) (.cons (.bin .sub (.var 3) (.cst (.int 1))) .nil))))) (.cons (.call F_law_term (.cons (.var 0) (.cons (.var 1) (.cons (.var 2) (.cons (.bin .sub (.var 3) (.cst (.int 1))) .nil))))) .nil)))))
  .nil)))))))))
def D_law_term : FnD := ⟨4, 8, false, B_law_term⟩
def B_law_term_text : CSs := (.cons (.iff (.nott (.isi (.var 0) [.tuple])) (.cons (.ret (.bf .str false (.cons (.var 0) .nil)))
  .nil) .nil)
  (.cons (.iff (.cmp .isin (.idx (.var 0) (.cst (.int 0))) (.lst false (.cons (.cst (.str "arg")) (.cons (.cst (.str "cell")) .nil)))) (.cons (.ret (.bin .add (.bin .add (.idx (.var 0) (.cst (.int 0))) (.cst (.str " "))) (.bf .str false (.cons (.idx (.var 0) (.cst (.int 1))) .nil))))
  .nil) .nil)
  (.cons (.iff (.cmp .eq (.idx (.var 0) (.cst (.int 0))) (.cst (.str "call"))) (.cons (.ret (.bm .join (.cst (.str " ")) (.cons (.bin .add (.lst false (.cons (.cst (.str "call")) (.cons (.idx (.var 0) (.cst (.int 1))) (.cons (.bf .str false (.cons (.bf .len false (.cons (.idx (.var 0) (.cst (.int 2))) .nil)) .nil)) .nil)))) (.lc false (.call F_law_term_text (.cons (.var 1) .nil)) (.one 1) (.of (.idx (.var 0) (.cst (.int 2)))) .no)) .nil)))
  .nil) .nil)
  (.cons (.ret (.bm .join (.cst (.str " ")) (.cons (.bin .add (.lst false (.cons (.idx (.var 0) (.cst (.int 0))) .nil)) (.lc false (.call F_law_term_text (.cons (.var 1) .nil)) (.one 1) (.of (.slc (.var 0) (.yes (.cst (.int 1))) .no)) .no)) .nil)))
  .nil))))
def D_law_term_text : FnD := ⟨1, 2, false, B_law_term_text⟩
def B_law_read : CSs := (.cons (.tryy (.cons (.ret (.call F_read_term (.cons (.var 0) (.cons (.var 1) .nil))))
  .nil) (.cons C_BadText (some 2) (.ret (.lst (.cons (.cst (.str "bad")) (.cons (.att 2 A_index) .nil)))) .nil))
  .nil)
def D_law_read : FnD := ⟨2, 3, false, B_law_read⟩
def L_law_1 : CSs := (.cons (.set 14 (.call F_law_read (.cons (.bm .join (.cst (.str " ")) (.cons (.var 13) .nil)) (.cons (.var 7) .nil))))
  (.cons (.iff (.and (.cmp .ne (.var 14) (.lst false (.cons (.cst (.str "bad")) (.cons (.cst (.int 0)) .nil)))) (.or (.isi (.var 14) [.list]) (.cmp .ne (.call F_law_term_text (.cons (.var 14) .nil)) (.bm .join (.cst (.str " ")) (.cons (.var 13) .nil))))) (.cons (.ret (.cst (.bl false)))
  .nil) .nil)
  .nil))
def L_law_2 : CSs := (.cons (.set 8 (.call F_law_term (.cons (.var 2) (.cons (.var 3) (.cons (.var 7) (.cons (.call F_law_draw (.cons (.var 2) (.cons (.cst (.int 4)) .nil))) .nil))))))
  (.cons (.set 9 (.call F_law_term_text (.cons (.var 8) .nil)))
  (.cons (.iff (.cmp .le (.bf .len false (.cons (.bm .split (.var 9) (.cons (.cst (.str " ")) .nil)) .nil)) (.cst (.int 30))) (.cons (.iff (.or (.cmp .ne (.call F_write_term (.cons (.var 8) .nil)) (.var 9)) (.cmp .ne (.call F_law_read (.cons (.var 9) (.cons (.var 7) .nil))) (.var 8))) (.cons (.ret (.cst (.bl false)))
  .nil) .nil)
  (.cons (.set 10 (.bm .split (.var 9) (.cons (.cst (.str " ")) .nil)))
  (.cons (.set 11 (.call F_law_draw (.cons (.var 2) (.cons (.bf .len false (.cons (.var 10) .nil)) .nil))))
  (.cons (.set 12 (.lst false (.cons (.bin .add (.var 10) (.lst false (.cons (.cst (.str "0")) .nil))) (.cons (.bin .add (.var 10) (.lst false (.cons (.cst (.str "arg")) .nil))) (.cons (.bin .add (.bin .add (.slc (.var 10) .no (.yes (.var 11))) (.lst false (.cons (.cst (.str "")) .nil))) (.slc (.var 10) (.yes (.var 11)) .no)) (.cons (.slc (.var 10) .no (.yes (.neg (.cst (.int 1))))) (.cons (.bin .add (.var 10) (.lst false (.cons (.cst (.str "")) .nil))) (.cons (.bin .add (.lst false (.cons (.cst (.str "")) .nil)) (.var 10)) .nil))))))))
  (.cons (.forr (.one 13) (.of (.bin .add (.var 12) (.lst false (.cons (.bin .add (.bin .add (.slc (.var 10) .no (.yes (.var 11))) (.lst false (.cons (.cst (.str "Plus")) .nil))) (.slc (.var 10) (.yes (.bin .add (.var 11) (.cst (.int 1)))) .no)) (.cons (.bin .add (.bin .add (.slc (.var 10) .no (.yes (.var 11))) (.lst false (.cons (.cst (.str "01")) .nil))) (.slc (.var 10) (.yes (.bin .add (.var 11) (.cst (.int 1)))) .no)) (.cons (.bin .add (.bin .add (.slc (.var 10) .no (.yes (.var 11))) (.lst false (.cons (.cst (.str "-1")) .nil))) (.slc (.var 10) (.yes (.bin .add (.var 11) (.cst (.int 1)))) .no)) .nil)))))) L_law_1)
  (.cons (.iff (.or (.cmp .ne (.call F_law_read (.cons (.bm .join (.cst (.str " ")) (.cons (.bin .add (.var 10) (.lst false (.cons (.cst (.str "0")) .nil))) .nil)) (.cons (.var 7) .nil))) (.lst false (.cons (.cst (.str "bad")) (.cons (.cst (.int 0)) .nil)))) (.cmp .ne (.call F_law_read (.cons (.bin .add (.var 9) (.cst (.str " "))) (.cons (.var 7) .nil))) (.lst false (.cons (.cst (.str "bad")) (.cons (.cst (.int 0)) .nil))))) (.cons (.ret (.cst (.bl false)))
  .nil) .nil)
  .nil)))))) .nil)
  .nil)))
def L_law_3 : CSs := (.cons (.set 2 (.call F_law_pool (.cons (.var 0) (.cons (.var 1) .nil))))
  (.cons (.unp (.many [6, 7]) (.tup (.cons (.call F_law_names (.cons (.var 2) (.cons (.cst (.int 4)) .nil))) (.cons (.call F_law_draw (.cons (.var 2) (.cons (.cst (.int 3)) .nil))) .nil))))
  (.cons (.set 3 (.dic false ["cells", "functions"] (.cons (.lst false (.cons (.tup (.cons (.idx (.var 6) (.cst (.int 0))) (.cons (.cst (.str "table")) .nil))) (.cons (.tup (.cons (.idx (.var 6) (.cst (.int 1))) (.cons (.cst (.str "frozen")) .nil))) .nil))) (.cons (.lst false (.cons (.dic false ["name", "many"] (.cons (.idx (.var 6) (.cst (.int 2))) (.cons (.cst (.int 2)) .nil))) (.cons (.dic false ["name", "many"] (.cons (.idx (.var 6) (.cst (.int 3))) (.cons (.cst (.int 0)) .nil))) .nil))) .nil))))
  (.cons (.forr (.one 4) (.range1 (.cst (.int 12))) L_law_2)
  (.cons (.set 5 (.lst false (.cons (.cst .non) (.cons (.cst (.int 5)) (.cons (.cst (.str "")) (.cons (.cst (.str " ")) (.cons (.cst (.str "3")) (.cons (.cst (.str "arg")) (.cons (.bin .add (.cst (.str "arg ")) (.bf .str false (.cons (.var 7) .nil))) (.cons (.cst (.str "arg x")) (.cons (.cst (.str "cell")) (.cons (.cst (.str "cell A")) (.cons (.cst (.str "plus 1")) (.cons (.cst (.str "less 1 2 3")) (.cons (.cst (.str "if 1 2")) (.cons (.cst (.str "call f")) .nil))))))))))))))))
  (.cons (.set 5 (.bin .add (.var 5) (.lst false (.cons (.cst (.str "call f 3 1 1 1")) (.cons (.cst (.str "call f 1")) (.cons (.cst (.str "call f 01 1")) (.cons (.cst (.str "call F 0")) (.cons (.cst (.str "Tick")) (.cons (.cst (.str "tick 1")) (.cons (.cst (.str "same 1  2")) (.cons (.lst false (.cons (.cst (.str "tick")) .nil)) (.cons (.cst (.str "arg -1")) (.cons (.cst (.str "arg 00")) .nil)))))))))))))
  (.cons (.iff (.cmp .ne (.lc false (.var 15) (.one 15) (.of (.var 5)) (.yes (.cmp .ne (.call F_law_read (.cons (.var 15) (.cons (.var 7) .nil))) (.lst false (.cons (.cst (.str "bad")) (.cons (.cst (.int 0)) .nil)))))) (.lst false .nil)) (.cons (.ret (.cst (.bl false)))
  .nil) .nil)
  .nil)))))))
def B_law : CSs := (.cons (.forr (.one 1) (.range1 (.bf .max false (.cons (.cst (.int 1)) (.cons (.bf .min false (.cons (.bf .len false (.cons (.var 0) .nil)) (.cons (.cst (.int 2)) .nil))) .nil)))) L_law_3)
  (.cons (.ret (.cst (.bl true)))
  .nil))
def D_law : FnD := ⟨1, 16, true, B_law⟩
def tab : Tab := ⟨[D_wall, D_BadText___init__, D_is_integer, D_is_between, D_is_value, D_is_name, D_has_kind, D_inner_terms, D_has_form, D_is_term, D_write_term, D_Words___init__, D_Words_pull, D_Words_pull_one, D_Words_pull_figure, D_Words_pull_name, D_Words_is_done, D_pulled_term, D_term_in, D_read_term, D_law_pool, D_law_draw, D_law_pick, D_law_names, D_law_term, D_law_term_text, D_law_read, D_law], [⟨none, false, none, none, []⟩,
  ⟨(some C_StoreError), false, none, (some A_index), []⟩,
  ⟨none, false, (some F_Words___init__), none, [(A_pull, F_Words_pull), (A_pull_one, F_Words_pull_one), (A_pull_figure, F_Words_pull_figure), (A_pull_name, F_Words_pull_name), (A_is_done, F_Words_is_done)]⟩]⟩
theorem U_wall (k : Nat) (x0 : D) (S : Sto) : callF tab (k + 1) F_wall [x0] S = endF (evSs tab (callF tab k) B_wall [some x0] S) := call_succ (d := D_wall) rfl rfl rfl
theorem U_BadText___init__ (k : Nat) (x0 x1 : D) (S : Sto) : callF tab (k + 1) F_BadText___init__ [x0, x1] S = endF (evSs tab (callF tab k) B_BadText___init__ [some x0, some x1] S) := call_succ (d := D_BadText___init__) rfl rfl rfl
theorem U_is_integer (k : Nat) (x0 : D) (S : Sto) : callF tab (k + 1) F_is_integer [x0] S = endF (evSs tab (callF tab k) B_is_integer [some x0] S) := call_succ (d := D_is_integer) rfl rfl rfl
theorem U_is_between (k : Nat) (x0 x1 x2 : D) (S : Sto) : callF tab (k + 1) F_is_between [x0, x1, x2] S = endF (evSs tab (callF tab k) B_is_between [some x0, some x1, some x2] S) := call_succ (d := D_is_between) rfl rfl rfl
theorem U_is_value (k : Nat) (x0 : D) (S : Sto) : callF tab (k + 1) F_is_value [x0] S = endF (evSs tab (callF tab k) B_is_value [some x0] S) := call_succ (d := D_is_value) rfl rfl rfl
theorem U_is_name (k : Nat) (x0 : D) (S : Sto) : callF tab (k + 1) F_is_name [x0] S = endF (evSs tab (callF tab k) B_is_name [some x0, none] S) := call_succ (d := D_is_name) rfl rfl rfl
theorem U_has_kind (k : Nat) (x0 x1 x2 : D) (S : Sto) : callF tab (k + 1) F_has_kind [x0, x1, x2] S = endF (evSs tab (callF tab k) B_has_kind [some x0, some x1, some x2] S) := call_succ (d := D_has_kind) rfl rfl rfl
theorem U_inner_terms (k : Nat) (x0 : D) (S : Sto) : callF tab (k + 1) F_inner_terms [x0] S = endF (evSs tab (callF tab k) B_inner_terms [some x0] S) := call_succ (d := D_inner_terms) rfl rfl rfl
theorem U_has_form (k : Nat) (x0 x1 : D) (S : Sto) : callF tab (k + 1) F_has_form [x0, x1] S = endF (evSs tab (callF tab k) B_has_form [some x0, some x1, none] S) := call_succ (d := D_has_form) rfl rfl rfl
theorem U_is_term (k : Nat) (x0 x1 : D) (S : Sto) : callF tab (k + 1) F_is_term [x0, x1] S = endF (evSs tab (callF tab k) B_is_term [some x0, some x1, none, none, none, none, none] S) := call_succ (d := D_is_term) rfl rfl rfl
theorem U_write_term (k : Nat) (x0 : D) (S : Sto) : callF tab (k + 1) F_write_term [x0] S = endF (evSs tab (callF tab k) B_write_term [some x0, none] S) := call_succ (d := D_write_term) rfl rfl rfl
theorem U_Words___init__ (k : Nat) (x0 x1 : D) (S : Sto) : callF tab (k + 1) F_Words___init__ [x0, x1] S = endF (evSs tab (callF tab k) B_Words___init__ [some x0, some x1] S) := call_succ (d := D_Words___init__) rfl rfl rfl
theorem U_Words_pull (k : Nat) (x0 : D) (S : Sto) : callF tab (k + 1) F_Words_pull [x0] S = endF (evSs tab (callF tab k) B_Words_pull [some x0] S) := call_succ (d := D_Words_pull) rfl rfl rfl
theorem M_Words_pull : findM tab DEEP C_Words A_pull = some F_Words_pull := by decide +kernel
theorem U_Words_pull_one (k : Nat) (x0 x1 : D) (S : Sto) : callF tab (k + 1) F_Words_pull_one [x0, x1] S = endF (evSs tab (callF tab k) B_Words_pull_one [some x0, some x1] S) := call_succ (d := D_Words_pull_one) rfl rfl rfl
theorem M_Words_pull_one : findM tab DEEP C_Words A_pull_one = some F_Words_pull_one := by decide +kernel
theorem U_Words_pull_figure (k : Nat) (x0 x1 x2 : D) (S : Sto) : callF tab (k + 1) F_Words_pull_figure [x0, x1, x2] S = endF (evSs tab (callF tab k) B_Words_pull_figure [some x0, some x1, some x2, none] S) := call_succ (d := D_Words_pull_figure) rfl rfl rfl
theorem M_Words_pull_figure : findM tab DEEP C_Words A_pull_figure = some F_Words_pull_figure := by decide +kernel
theorem U_Words_pull_name (k : Nat) (x0 : D) (S : Sto) : callF tab (k + 1) F_Words_pull_name [x0] S = endF (evSs tab (callF tab k) B_Words_pull_name [some x0, none] S) := call_succ (d := D_Words_pull_name) rfl rfl rfl
theorem M_Words_pull_name : findM tab DEEP C_Words A_pull_name = some F_Words_pull_name := by decide +kernel
theorem U_Words_is_done (k : Nat) (x0 : D) (S : Sto) : callF tab (k + 1) F_Words_is_done [x0] S = endF (evSs tab (callF tab k) B_Words_is_done [some x0] S) := call_succ (d := D_Words_is_done) rfl rfl rfl
theorem M_Words_is_done : findM tab DEEP C_Words A_is_done = some F_Words_is_done := by decide +kernel
theorem U_pulled_term (k : Nat) (x0 x1 : D) (S : Sto) : callF tab (k + 1) F_pulled_term [x0, x1] S = endF (evSs tab (callF tab k) B_pulled_term [some x0, some x1, none, none, none, none] S) := call_succ (d := D_pulled_term) rfl rfl rfl
theorem U_term_in (k : Nat) (x0 x1 : D) (S : Sto) : callF tab (k + 1) F_term_in [x0, x1] S = leaveR S.c.length S.fl (endF (evSs tab (callF tab k) B_term_in [some x0, some x1, none, none] ⟨S.c, S.c.length⟩)) := call_reg (d := D_term_in) rfl rfl rfl
theorem U_read_term (k : Nat) (x0 x1 : D) (S : Sto) : callF tab (k + 1) F_read_term [x0, x1] S = endF (evSs tab (callF tab k) B_read_term [some x0, some x1, none] S) := call_succ (d := D_read_term) rfl rfl rfl
theorem U_law_pool (k : Nat) (x0 x1 : D) (S : Sto) : callF tab (k + 1) F_law_pool [x0, x1] S = endF (evSs tab (callF tab k) B_law_pool [some x0, some x1, none, none, none] S) := call_succ (d := D_law_pool) rfl rfl rfl
theorem U_law_draw (k : Nat) (x0 x1 : D) (S : Sto) : callF tab (k + 1) F_law_draw [x0, x1] S = endF (evSs tab (callF tab k) B_law_draw [some x0, some x1, none] S) := call_succ (d := D_law_draw) rfl rfl rfl
theorem U_law_pick (k : Nat) (x0 x1 : D) (S : Sto) : callF tab (k + 1) F_law_pick [x0, x1] S = endF (evSs tab (callF tab k) B_law_pick [some x0, some x1] S) := call_succ (d := D_law_pick) rfl rfl rfl
theorem U_law_names (k : Nat) (x0 x1 : D) (S : Sto) : callF tab (k + 1) F_law_names [x0, x1] S = endF (evSs tab (callF tab k) B_law_names [some x0, some x1, none, none, none, none, none, none, none] S) := call_succ (d := D_law_names) rfl rfl rfl
theorem U_law_term (k : Nat) (x0 x1 x2 x3 : D) (S : Sto) : callF tab (k + 1) F_law_term [x0, x1, x2, x3] S = endF (evSs tab (callF tab k) B_law_term [some x0, some x1, some x2, some x3, none, none, none, none] S) := call_succ (d := D_law_term) rfl rfl rfl
theorem U_law_term_text (k : Nat) (x0 : D) (S : Sto) : callF tab (k + 1) F_law_term_text [x0] S = endF (evSs tab (callF tab k) B_law_term_text [some x0, none] S) := call_succ (d := D_law_term_text) rfl rfl rfl
theorem U_law_read (k : Nat) (x0 x1 : D) (S : Sto) : callF tab (k + 1) F_law_read [x0, x1] S = endF (evSs tab (callF tab k) B_law_read [some x0, some x1, none] S) := call_succ (d := D_law_read) rfl rfl rfl
theorem U_law (k : Nat) (x0 : D) (S : Sto) : callF tab (k + 1) F_law [x0] S = leaveR S.c.length S.fl (endF (evSs tab (callF tab k) B_law [some x0, none, none, none, none, none, none, none, none, none, none, none, none, none, none, none] ⟨S.c, S.c.length⟩)) := call_reg (d := D_law) rfl rfl rfl
end K79
namespace K79
open PySem Mi Mi.Q Ta
local macro_rules | `(tactic| os_names $xs:ident*) => `(tactic| simp only [e_var, e_cst, e_glb, e_tup, e_lst, e_dic, e_bin, e_neg, e_nott, e_and, e_or, e_ife, e_cmp, e_chn, e_att, e_idx, e_slc, e_rev, e_isi, e_bf, e_bm, e_call, e_mk, e_mth, e_lc, e_lc2, e_frz,
  t_nott, t_and, t_or, t_ife, t_var, t_cst, t_glb, t_bin, t_cmp, t_chn, t_att, t_idx, t_isi, t_bf, t_bm, t_call, t_mth, tru_bl, tru_int, e_nil, e_cons, e_star, starK_lst, starK_tup, e_no, e_yes, evOK_int, c_no, c_yes, i_of, i_range1, i_range2, i_enum, enK_lst,
  s_nil, s_cons, s_set, s_par, s_unp, unpK_some, s_attS, s_idxS, stoK_some, s_aug, augK_some, augV_int, augE_some, s_exp, s_ret, s_retN, s_iff, s_forr, s_whil, s_brk, s_cnt, s_pass, s_rais, raisK_some, s_tryy, tryK_rt, tryK_nx, tryK_ex,
  bind_ok, bind_ex, then_ok, then_ex, seq_nx, seq_rt, seq_bk, seq_ct, seq_ex, of_some, endF_rt, endF_nx, endF_ex, leaveR_ok, leaveR_ex, noEx_ok,
  lk_some, mkT0, mkT1, mkT2, mkT3, mkT4, mkT5, mkT6, frs_false, mkL0, mkL1, mkL2, mkL3, mkL4, mkL5, mkL6, mkL7, mkL8, mkL10, mkL14, negK_int, notK_bl, andK_bl, orK_bl, and_ok, or_ok, and_okB, or_okB,
  g0, g1, g2, g3, g4, g5, g6, g7, g8, g9, g10, g11, g12, g13, g14, g15, s0, s1, s2, s3, s4, s5, s6, s7, s8, s9, s10, s11, s12, s13, s14, s15,
  eq_ints, eq_strs, eq_bls, eq_cn, eq_nn, isTs_nil, isTs_cons, orT_true, orT_false, isT_int, isT_bl, isT_str, isT_non, isT_tup, isT_lst, isT_dct, tyB, cmp_eq, cmp_ne, cmp_lt, cmp_le, cmp_gt, cmp_ge, cmp_in, cmp_notin, cmp_is, cmp_isnot, nn_non, nn_int, nn_str, nn_tup, nn_lst, nn_bl, nn_dct, nn_ins, nn_ref,
  len_lst, len_tup, len_str, len_dct, len_scr, list_lst, list_tup, tuple_lst, tuple_tup, int_int, int_bl, str_str, abs_int, min_ints, max_ints, iter_lst, iter_tup, iter_str, fresh_false, add_ints, sub_ints, ix_t0, ix_t1, ix_t2, ix_t3, ix_l0, ix_l1, ix_l2, ix_l3, ix_d, sl_t1,
  q_tick_arg, q_tick_cell, q_tick_call, q_tick_plus, q_tick_less, q_tick_same, q_tick_if, q_arg_tick, q_arg_cell, q_arg_call, q_arg_plus, q_arg_less, q_arg_same, q_arg_if, q_cell_tick, q_cell_arg, q_cell_call, q_cell_plus, q_cell_less, q_cell_same, q_cell_if, q_call_tick, q_call_arg, q_call_cell, q_call_plus, q_call_less, q_call_same, q_call_if, q_plus_tick, q_plus_arg, q_plus_cell, q_plus_call, q_plus_less, q_plus_same, q_plus_if, q_less_tick, q_less_arg, q_less_cell, q_less_call, q_less_plus, q_less_same, q_less_if, q_same_tick, q_same_arg, q_same_cell, q_same_call, q_same_plus, q_same_less, q_same_if, q_if_tick, q_if_arg, q_if_cell, q_if_call, q_if_plus, q_if_less, q_if_same, beq_self_eq_true, Bool.and_true, Bool.true_and, Bool.and_false, Bool.false_and, Bool.or_true, Bool.true_or, Bool.or_false, Bool.false_or, List.length_cons, List.length_nil, Nat.zero_add, Nat.reduceAdd, lci0, lcj0, fri0, acc0, any0, all0, lci1, lcj1, fri1, acc1, any1, all1, lci2, lcj2, fri2, acc2, any2, all2, lci3, lcj3, fri3, acc3, any3, all3, lci4, lcj4, fri4, acc4, any4, all4, lci5, lcj5, fri5, acc5, any5, all5, lcT, lcT2, lcU, forT1, List.length_map, seq_ite, then_ite, bind_ite, endF_ite, nc0, nc1, nc2, nc3, nc4, nc5, nc6, nc7, nc8, nc9, nc10, nc11, nc12, nc13, nc14, nc15, nc16, nc17, nc18, nc19, nc20, nc21, nc22, nc23, nc24, nc25, nc26, nc27, nc28, nc29, nc30, in_ts1, in_ts2, in_ts3, in_ts4, in_ti1, in_ti2, in_ti3, in_ti4, in_ls1, in_ls2, in_ls3, in_ls4, in_li1, in_li2, in_li3, in_li4, in_sign, bindT, wipeL, Tg.slots, List.cons_append, List.append_nil, List.nil_append, setN, Int.reduceBEq, Int.reduceLE, Int.reduceLT, decide_true, decide_false, Int.reduceSub, Int.reduceAdd, Int.reduceEq, Int.reduceBNe, bne_self_eq_false,
  lcK_nil, lcK_cons, lcL_nil, lcL_cons, accK_none, forL_nil, forL_cons, goK_nx, goK_ct, goK_bk, goK_rt, goK_ex, Option.map_some, Option.map_none, Option.bind_some, Option.bind_none, if_true, if_false, Bool.false_eq_true, Bool.true_eq_false, reduceCtorEq, Bool.not_false, Bool.not_true, $[$xs:ident],*])
theorem c_is_integer (k : Nat) (i : Int) (S : Sto) : callF tab (k + 1) F_is_integer [.int i] S = .ok (.bl true) S := by
  rw [U_is_integer]
  os_names B_is_integer
theorem c_is_between (k : Nat) (i a b : Int) (S : Sto) : callF tab (k + 2) F_is_between [.int i, .int a, .int b] S = .ok (.bl (decide (a ≤ i) && decide (i ≤ b))) S := by
  rw [U_is_between]
  os_names B_is_between c_is_integer
theorem c_is_value (k : Nat) (i : Int) (S : Sto) : callF tab (k + 3) F_is_value [.int i] S = .ok (.bl (decide (0 ≤ i) && decide (i ≤ 2))) S := by
  rw [U_is_value]
  os_names B_is_value c_is_between
theorem c_is_integer_t (k : Nat) (l : List D) (S : Sto) : callF tab (k + 1) F_is_integer [.tup l] S = .ok (.bl false) S := by
  rw [U_is_integer]
  os_names B_is_integer
theorem c_is_between_t (k : Nat) (l : List D) (a b : D) (S : Sto) : callF tab (k + 2) F_is_between [.tup l, a, b] S = .ok (.bl false) S := by
  rw [U_is_between]
  os_names B_is_between c_is_integer_t
theorem c_is_value_t (k : Nat) (l : List D) (S : Sto) : callF tab (k + 3) F_is_value [.tup l] S = .ok (.bl false) S := by
  rw [U_is_value]
  os_names B_is_value c_is_between_t
theorem c_has_kind_i (k : Nat) (i : Int) (x y : D) (S : Sto) : callF tab (k + 1) F_has_kind [.int i, x, y] S = .ok (.bl false) S := by
  rw [U_has_kind]
  os_names B_has_kind
theorem c_has_kind_t (k : Nat) (x : Str) (l : List D) (y : Str) (n : Int) (S : Sto) : callF tab (k + 1) F_has_kind [.tup (.str x :: l), .str y, .int n] S = .ok (.bl ((((l.length + 1 : Nat) : Int) == n) && (x == y))) S := by
  rw [U_has_kind]
  os_names B_has_kind List.length_cons
theorem letter (c : Nat) : decide (c ∈ ("abcdefghijklmnopqrstuvwxyz" : Str).cps.toList) = (decide (97 ≤ c) && decide (c ≤ 122)) := by
  have e : ("abcdefghijklmnopqrstuvwxyz" : Str).cps.toList = [97,98,99,100,101,102,103,104,105,106,107,108,109,110,111,112,113,114,115,116,117,118,119,120,121,122] := by decide +kernel
  rw [e, ← Bool.decide_and]
  refine decide_eq_decide.mpr ?_
  simp only [List.mem_cons, List.not_mem_nil, or_false]
  omega
theorem c_is_name (k : Nat) (x : Str) (S : Sto) : callF tab (k + 1) F_is_name [.str x] S = .ok (.bl (isName x)) S := by
  rw [U_is_name]
  os_names B_is_name
  unfold isName
  by_cases h1 : 1 ≤ x.cps.size
  · have e1 : decide ((1 : Int) ≤ (x.cps.size : Int)) = true := decide_eq_true (by omega)
    by_cases h2 : x.cps.size ≤ 8
    · have e2 : decide ((x.cps.size : Int) ≤ 8) = true := decide_eq_true (by omega)
      rw [lc_map (fun c => D.str ⟨#[c]⟩) (fun c => .bl (decide (97 ≤ c) && decide (c ≤ 122))) x.cps.toList ?_ (by rw [Array.length_toList]; unfold LL; omega)]
      · os_names all_map e1 e2 h1 h2
      · intro c hc
        unfold lcT
        os_names bindT wipeL Tg.slots in_sign letter
    · have e2 : decide ((x.cps.size : Int) ≤ 8) = false := decide_eq_false (by omega)
      os_names e1 e2 h1 h2
  · have e1 : decide ((1 : Int) ≤ (x.cps.size : Int)) = false := decide_eq_false (by omega)
    os_names e1 h1
theorem c_inner_terms (k : Nat) (t : Tm) (S : Sto) : callF tab (k + 1) F_inner_terms [t.d] S = .ok (.tup (t.kids.map Tm.d)) S := by
  rw [U_inner_terms]
  cases t with
  | op o a b => cases o <;> os_names B_inner_terms Tm.d Tm.kids List.map_cons List.map_nil Op.s
  | _ => os_names B_inner_terms Tm.d Tm.kids List.map_cons List.map_nil
theorem c_has_form (k : Nat) (t : Tm) (n : Int) (S : Sto) : callF tab (k + 4) F_has_form [t.d, .int n] S = .ok (.bl (t.form n)) S := by
  rw [U_has_form]
  cases t with
  | op o a b => cases o <;> os_names B_has_form Tm.d Tm.form Op.s c_is_value c_is_between c_has_kind_i c_has_kind_t c_is_value_t c_is_between_t c_is_name
  | _ => os_names B_has_form Tm.d Tm.form c_is_value c_is_between c_has_kind_i c_has_kind_t c_is_value_t c_is_between_t c_is_name
end K79
namespace K79
open PySem Mi Mi.Q Ta
local macro_rules | `(tactic| os_names $xs:ident*) => `(tactic| simp only [e_var, e_cst, e_glb, e_tup, e_lst, e_dic, e_bin, e_neg, e_nott, e_and, e_or, e_ife, e_cmp, e_chn, e_att, e_idx, e_slc, e_rev, e_isi, e_bf, e_bm, e_call, e_mk, e_mth, e_lc, e_lc2, e_frz,
  t_nott, t_and, t_or, t_ife, t_var, t_cst, t_glb, t_bin, t_cmp, t_chn, t_att, t_idx, t_isi, t_bf, t_bm, t_call, t_mth, tru_bl, tru_int, e_nil, e_cons, e_star, starK_lst, starK_tup, e_no, e_yes, evOK_int, c_no, c_yes, i_of, i_range1, i_range2, i_enum, enK_lst,
  s_nil, s_cons, s_set, s_par, s_unp, unpK_some, s_attS, s_idxS, stoK_some, s_aug, augK_some, augV_int, augE_some, s_exp, s_ret, s_retN, s_iff, s_forr, s_whil, s_brk, s_cnt, s_pass, s_rais, raisK_some, s_tryy, tryK_rt, tryK_nx, tryK_ex,
  bind_ok, bind_ex, then_ok, then_ex, seq_nx, seq_rt, seq_bk, seq_ct, seq_ex, of_some, endF_rt, endF_nx, endF_ex, leaveR_ok, leaveR_ex, noEx_ok,
  lk_some, mkT0, mkT1, mkT2, mkT3, mkT4, mkT5, mkT6, frs_false, mkL0, mkL1, mkL2, mkL3, mkL4, mkL5, mkL6, mkL7, mkL8, mkL10, mkL14, negK_int, notK_bl, andK_bl, orK_bl, and_ok, or_ok, and_okB, or_okB,
  g0, g1, g2, g3, g4, g5, g6, g7, g8, g9, g10, g11, g12, g13, g14, g15, s0, s1, s2, s3, s4, s5, s6, s7, s8, s9, s10, s11, s12, s13, s14, s15,
  eq_ints, eq_strs, eq_bls, eq_cn, eq_nn, isTs_nil, isTs_cons, orT_true, orT_false, isT_int, isT_bl, isT_str, isT_non, isT_tup, isT_lst, isT_dct, tyB, cmp_eq, cmp_ne, cmp_lt, cmp_le, cmp_gt, cmp_ge, cmp_in, cmp_notin, cmp_is, cmp_isnot, nn_non, nn_int, nn_str, nn_tup, nn_lst, nn_bl, nn_dct, nn_ins, nn_ref,
  len_lst, len_tup, len_str, len_dct, len_scr, list_lst, list_tup, tuple_lst, tuple_tup, int_int, int_bl, str_str, abs_int, min_ints, max_ints, iter_lst, iter_tup, iter_str, fresh_false, add_ints, sub_ints, ix_t0, ix_t1, ix_t2, ix_t3, ix_l0, ix_l1, ix_l2, ix_l3, ix_d, sl_t1,
  q_tick_arg, q_tick_cell, q_tick_call, q_tick_plus, q_tick_less, q_tick_same, q_tick_if, q_arg_tick, q_arg_cell, q_arg_call, q_arg_plus, q_arg_less, q_arg_same, q_arg_if, q_cell_tick, q_cell_arg, q_cell_call, q_cell_plus, q_cell_less, q_cell_same, q_cell_if, q_call_tick, q_call_arg, q_call_cell, q_call_plus, q_call_less, q_call_same, q_call_if, q_plus_tick, q_plus_arg, q_plus_cell, q_plus_call, q_plus_less, q_plus_same, q_plus_if, q_less_tick, q_less_arg, q_less_cell, q_less_call, q_less_plus, q_less_same, q_less_if, q_same_tick, q_same_arg, q_same_cell, q_same_call, q_same_plus, q_same_less, q_same_if, q_if_tick, q_if_arg, q_if_cell, q_if_call, q_if_plus, q_if_less, q_if_same, beq_self_eq_true, Bool.and_true, Bool.true_and, Bool.and_false, Bool.false_and, Bool.or_true, Bool.true_or, Bool.or_false, Bool.false_or, List.length_cons, List.length_nil, Nat.zero_add, Nat.reduceAdd, lci0, lcj0, fri0, acc0, any0, all0, lci1, lcj1, fri1, acc1, any1, all1, lci2, lcj2, fri2, acc2, any2, all2, lci3, lcj3, fri3, acc3, any3, all3, lci4, lcj4, fri4, acc4, any4, all4, lci5, lcj5, fri5, acc5, any5, all5, lcT, lcT2, lcU, forT1, List.length_map, seq_ite, then_ite, bind_ite, endF_ite, nc0, nc1, nc2, nc3, nc4, nc5, nc6, nc7, nc8, nc9, nc10, nc11, nc12, nc13, nc14, nc15, nc16, nc17, nc18, nc19, nc20, nc21, nc22, nc23, nc24, nc25, nc26, nc27, nc28, nc29, nc30, in_ts1, in_ts2, in_ts3, in_ts4, in_ti1, in_ti2, in_ti3, in_ti4, in_ls1, in_ls2, in_ls3, in_ls4, in_li1, in_li2, in_li3, in_li4, in_sign, bindT, wipeL, Tg.slots, List.cons_append, List.append_nil, List.nil_append, setN, Int.reduceBEq, Int.reduceLE, Int.reduceLT, decide_true, decide_false, Int.reduceSub, Int.reduceAdd, Int.reduceEq, Int.reduceBNe, bne_self_eq_false,
  lcK_nil, lcK_cons, lcL_nil, lcL_cons, accK_none, forL_nil, forL_cons, goK_nx, goK_ct, goK_bk, goK_rt, goK_ex, Option.map_some, Option.map_none, Option.bind_some, Option.bind_none, if_true, if_false, Bool.false_eq_true, Bool.true_eq_false, reduceCtorEq, Bool.not_false, Bool.not_true, $[$xs:ident],*])
theorem flat_len {α β : Type} (f : α → List β) (n : Nat) (l : List α) (h : ∀ x ∈ l, (f x).length ≤ n) : (l.flatMap f).length ≤ l.length * n := by
  induction l with
  | nil => simp
  | cons x l ih =>
    have h1 := h x List.mem_cons_self
    have h2 := ih fun y hy => h y (List.mem_cons_of_mem _ hy)
    rw [List.flatMap_cons, List.length_append, List.length_cons, Nat.succ_mul]
    omega
theorem kids_le (t : Tm) : t.kids.length ≤ 3 := by cases t <;> simp [Tm.kids]
theorem map_flat (l : List Tm) : (l.flatMap fun t => t.kids.map Tm.d) = (l.flatMap Tm.kids).map Tm.d := by
  rw [List.map_flatMap]
theorem tt_is_term (k : Nat) (v : D) (n : Int) (S : Sto) (l : List Tm) (p : Nat) (t : D) (x2 : Option D) (o5 o6 : Option D) (r : List D) :
    forL (forT tab (callF tab (k + 4)) (.one 2) L_is_term_1) (t :: r) [some v, some (.int n), x2, some (.lst (l.map Tm.d)), some (.int p), o5, o6] S =
      if 30 < p + l.length then .rt (.bl false) S else if l.all (Tm.form n) = false then .rt (.bl false) S else if l.flatMap Tm.kids = [] then .rt (.bl true) S else
        forL (forT tab (callF tab (k + 4)) (.one 2) L_is_term_1) r [some v, some (.int n), some t, some (.lst ((l.flatMap Tm.kids).map Tm.d)), some (.int (p + l.length : Nat)), o5, o6] S := by
  os_names L_is_term_1
  by_cases h1 : 30 < p + l.length
  · have e1 : decide ((30 : Int) < (p : Int) + (l.length : Int)) = true := decide_eq_true (by omega)
    os_names e1 h1
  · have e1 : decide ((30 : Int) < (p : Int) + (l.length : Int)) = false := decide_eq_false (by omega)
    have hl : l.length ≤ 30 := by omega
    rw [lc_map Tm.d (fun t => .bl (t.form n)) l ?_ (by unfold LL; omega)]
    · os_names e1 h1 all_map
      cases ha : l.all (Tm.form n) with
      | false => os_names if_true 
      | true =>
        os_names if_true 
        rw [lc_flat Tm.d (fun t => t.kids.map Tm.d) l ?_ (by unfold LL; omega) ?_]
        · rw [map_flat]
          os_names if_true 
          cases hk : l.flatMap Tm.kids with
          | nil => os_names List.map_nil
          | cons y z =>
            have : ¬ (y :: z = []) := List.cons_ne_nil y z
            os_names List.map_cons this
            rfl
        · intro x hx acc ha
          os_names c_inner_terms
          rw [lc_app Tm.d Tm.d x.kids acc ?_ (by rwa [List.length_map] at ha)]
          intro z hz
          os_names if_true 
        · have := flat_len (fun t : Tm => t.kids.map Tm.d) 3 l fun x _ => by rw [List.length_map]; exact kids_le x
          unfold LL; omega
    · intro x hx
      os_names c_has_form
theorem lt_is_term (k : Nat) (v : D) (n : Int) (S : Sto) (e6 o5 : Option D) : ∀ (r : List D) (l : List Tm) (p : Nat) (x2 : Option D),
    endF ((forL (forT tab (callF tab (k + 4)) (.one 2) L_is_term_1) r [some v, some (.int n), x2, some (.lst (l.map Tm.d)), some (.int p), o5, e6] S).seq fun e S => .rt (.bl false) S) = .ok (.bl (isTermL n r.length l p)) S
  | [], l, p, x2 => rfl
  | t :: r, l, p, x2 => by
    rw [tt_is_term]
    rw [List.length_cons]
    unfold isTermL
    by_cases h1 : 30 < p + l.length
    · os_names h1
    · by_cases h2 : l.all (Tm.form n) = false
      · os_names h1 h2
      · by_cases h3 : l.flatMap Tm.kids = []
        · os_names h1 h2 h3
        · simp only [h1, h2, h3, if_false]
          exact lt_is_term k v n S e6 o5 r _ _ _
theorem c_is_term (k : Nat) (t : Tm) (n : Int) (S : Sto) : callF tab (k + 5) F_is_term [t.d, .int n] S = .ok (.bl (isTermB n t)) S := by
  rw [U_is_term]
  os_names B_is_term
  rw [rg1_int _ (by decide) (by decide)]
  os_names if_true 
  rw [forI_fix _ _ _ (by decide)]
  have := lt_is_term k t.d n S none none (rangeL 0 (Int.toNat 8)) [t] 0 none
  exact this
end K79
namespace K79
open PySem Mi Mi.Q Ta
local macro_rules | `(tactic| os_names $xs:ident*) => `(tactic| simp only [e_var, e_cst, e_glb, e_tup, e_lst, e_dic, e_bin, e_neg, e_nott, e_and, e_or, e_ife, e_cmp, e_chn, e_att, e_idx, e_slc, e_rev, e_isi, e_bf, e_bm, e_call, e_mk, e_mth, e_lc, e_lc2, e_frz,
  t_nott, t_and, t_or, t_ife, t_var, t_cst, t_glb, t_bin, t_cmp, t_chn, t_att, t_idx, t_isi, t_bf, t_bm, t_call, t_mth, tru_bl, tru_int, e_nil, e_cons, e_star, starK_lst, starK_tup, e_no, e_yes, evOK_int, c_no, c_yes, i_of, i_range1, i_range2, i_enum, enK_lst,
  s_nil, s_cons, s_set, s_par, s_unp, unpK_some, s_attS, s_idxS, stoK_some, s_aug, augK_some, augV_int, augE_some, s_exp, s_ret, s_retN, s_iff, s_forr, s_whil, s_brk, s_cnt, s_pass, s_rais, raisK_some, s_tryy, tryK_rt, tryK_nx, tryK_ex,
  bind_ok, bind_ex, then_ok, then_ex, seq_nx, seq_rt, seq_bk, seq_ct, seq_ex, of_some, endF_rt, endF_nx, endF_ex, leaveR_ok, leaveR_ex, noEx_ok,
  lk_some, mkT0, mkT1, mkT2, mkT3, mkT4, mkT5, mkT6, frs_false, mkL0, mkL1, mkL2, mkL3, mkL4, mkL5, mkL6, mkL7, mkL8, mkL10, mkL14, negK_int, notK_bl, andK_bl, orK_bl, and_ok, or_ok, and_okB, or_okB,
  g0, g1, g2, g3, g4, g5, g6, g7, g8, g9, g10, g11, g12, g13, g14, g15, s0, s1, s2, s3, s4, s5, s6, s7, s8, s9, s10, s11, s12, s13, s14, s15,
  eq_ints, eq_strs, eq_bls, eq_cn, eq_nn, isTs_nil, isTs_cons, orT_true, orT_false, isT_int, isT_bl, isT_str, isT_non, isT_tup, isT_lst, isT_dct, tyB, cmp_eq, cmp_ne, cmp_lt, cmp_le, cmp_gt, cmp_ge, cmp_in, cmp_notin, cmp_is, cmp_isnot, nn_non, nn_int, nn_str, nn_tup, nn_lst, nn_bl, nn_dct, nn_ins, nn_ref,
  len_lst, len_tup, len_str, len_dct, len_scr, list_lst, list_tup, tuple_lst, tuple_tup, int_int, int_bl, str_str, abs_int, min_ints, max_ints, iter_lst, iter_tup, iter_str, fresh_false, add_ints, sub_ints, ix_t0, ix_t1, ix_t2, ix_t3, ix_l0, ix_l1, ix_l2, ix_l3, ix_d, sl_t1,
  q_tick_arg, q_tick_cell, q_tick_call, q_tick_plus, q_tick_less, q_tick_same, q_tick_if, q_arg_tick, q_arg_cell, q_arg_call, q_arg_plus, q_arg_less, q_arg_same, q_arg_if, q_cell_tick, q_cell_arg, q_cell_call, q_cell_plus, q_cell_less, q_cell_same, q_cell_if, q_call_tick, q_call_arg, q_call_cell, q_call_plus, q_call_less, q_call_same, q_call_if, q_plus_tick, q_plus_arg, q_plus_cell, q_plus_call, q_plus_less, q_plus_same, q_plus_if, q_less_tick, q_less_arg, q_less_cell, q_less_call, q_less_plus, q_less_same, q_less_if, q_same_tick, q_same_arg, q_same_cell, q_same_call, q_same_plus, q_same_less, q_same_if, q_if_tick, q_if_arg, q_if_cell, q_if_call, q_if_plus, q_if_less, q_if_same, beq_self_eq_true, Bool.and_true, Bool.true_and, Bool.and_false, Bool.false_and, Bool.or_true, Bool.true_or, Bool.or_false, Bool.false_or, List.length_cons, List.length_nil, Nat.zero_add, Nat.reduceAdd, lci0, lcj0, fri0, acc0, any0, all0, lci1, lcj1, fri1, acc1, any1, all1, lci2, lcj2, fri2, acc2, any2, all2, lci3, lcj3, fri3, acc3, any3, all3, lci4, lcj4, fri4, acc4, any4, all4, lci5, lcj5, fri5, acc5, any5, all5, lcT, lcT2, lcU, forT1, List.length_map, seq_ite, then_ite, bind_ite, endF_ite, nc0, nc1, nc2, nc3, nc4, nc5, nc6, nc7, nc8, nc9, nc10, nc11, nc12, nc13, nc14, nc15, nc16, nc17, nc18, nc19, nc20, nc21, nc22, nc23, nc24, nc25, nc26, nc27, nc28, nc29, nc30, in_ts1, in_ts2, in_ts3, in_ts4, in_ti1, in_ti2, in_ti3, in_ti4, in_ls1, in_ls2, in_ls3, in_ls4, in_li1, in_li2, in_li3, in_li4, in_sign, bindT, wipeL, Tg.slots, List.cons_append, List.append_nil, List.nil_append, setN, Int.reduceBEq, Int.reduceLE, Int.reduceLT, decide_true, decide_false, Int.reduceSub, Int.reduceAdd, Int.reduceEq, Int.reduceBNe, bne_self_eq_false,
  lcK_nil, lcK_cons, lcL_nil, lcL_cons, accK_none, forL_nil, forL_cons, goK_nx, goK_ct, goK_bk, goK_rt, goK_ex, Option.map_some, Option.map_none, Option.bind_some, Option.bind_none, if_true, if_false, Bool.false_eq_true, Bool.true_eq_false, reduceCtorEq, Bool.not_false, Bool.not_true, $[$xs:ident],*])
def tlen (t : Tm) : Nat := (t.words.map Str.length).sum + t.words.length
theorem join_len1 (y : Str) : ∀ l : List Str, l ≠ [] → (Str.join y l).length + y.length ≤ (l.map Str.length).sum + l.length * y.length
  | [], h => absurd rfl h
  | [x], _ => by
    show x.length + _ ≤ _
    simp only [List.map_cons, List.map_nil, List.sum_cons, List.sum_nil, List.length_cons, List.length_nil]
    omega
  | x :: z :: r, _ => by
    have h := join_len1 y (z :: r) (List.cons_ne_nil z r)
    rw [join_cons (List.cons_ne_nil z r), len_app, len_app]
    simp only [List.map_cons, List.sum_cons, List.length_cons, Nat.succ_mul] at h ⊢
    omega
theorem text_len (t : Tm) : t.text.length + 1 ≤ tlen t := by
  have := join_len1 " " t.words (words_ne t)
  have e : (" " : Str).length = 1 := by decide +kernel
  rw [e] at this
  unfold tlen Tm.text
  omega
theorem text1 (h : Str) (a : Tm) : Str.join " " [h, a.text] = Str.join " " (h :: a.words) := by
  rw [join_two, join_cons (words_ne a)]
  rfl
theorem text2 (h : Str) (a b : Tm) : Str.join " " [h, a.text, b.text] = Str.join " " (h :: (a.words ++ b.words)) := by
  rw [join_cons (by simp), join_two, join_cons (by simp [words_ne]), join_app (words_ne a) (words_ne b)]
  rfl
theorem text3 (h : Str) (a b c : Tm) : Str.join " " [h, a.text, b.text, c.text] = Str.join " " (h :: (a.words ++ (b.words ++ c.words))) := by
  rw [join_cons (by simp), join_cons (by simp), join_two, join_cons (by simp [words_ne]), join_app (words_ne a) (by simp [words_ne]), join_app (words_ne b) (words_ne c)]
  rfl
theorem text1c (h f n : Str) (a : Tm) : Str.join " " [h, f, n, a.text] = Str.join " " (h :: f :: n :: a.words) := by
  rw [join_cons (by simp), join_cons (by simp), text1, ← join_cons (by simp), ← join_cons (by simp)]
theorem text2c (h f n : Str) (a b : Tm) : Str.join " " [h, f, n, a.text, b.text] = Str.join " " (h :: f :: n :: (a.words ++ b.words)) := by
  rw [join_cons (by simp), join_cons (by simp), text2, ← join_cons (by simp), ← join_cons (by simp)]
theorem sp_len : (" " : Str).length = 1 := by decide +kernel
theorem tl_val (n : Int) : tlen (.val n) = (strOf n).length + 1 := rfl
theorem tl_arg (n : Int) : tlen (.arg n) = 3 + (strOf n).length + 2 := by
  have : (Str.ofString "arg").length = 3 := by decide +kernel
  simp only [tlen, Tm.words, List.map_cons, List.map_nil, List.sum_cons, List.sum_nil, List.length_cons, List.length_nil, this]
  omega
theorem tl_cell (x : Str) : tlen (.cell x) = 4 + x.length + 2 := by
  have : (Str.ofString "cell").length = 4 := by decide +kernel
  simp only [tlen, Tm.words, List.map_cons, List.map_nil, List.sum_cons, List.sum_nil, List.length_cons, List.length_nil, this]
  omega
theorem tl_call1 (f : Str) (a : Tm) : tlen (.call1 f a) = 4 + f.length + 4 + tlen a := by
  have e1 : (Str.ofString "call").length = 4 := by decide +kernel
  have e2 : (Str.ofString "1").length = 1 := by decide +kernel
  simp only [tlen, Tm.words, List.map_cons, List.sum_cons, List.length_cons, e1, e2]
  omega
theorem tl_call0 (f : Str) : tlen (.call0 f) = 4 + f.length + 4 := by
  have e1 : (Str.ofString "call").length = 4 := by decide +kernel
  have e2 : (Str.ofString "0").length = 1 := by decide +kernel
  simp only [tlen, Tm.words, List.map_cons, List.map_nil, List.sum_nil, List.length_nil, List.sum_cons, List.length_cons, e1, e2]
  omega
theorem tl_call2 (f : Str) (a b : Tm) : tlen (.call2 f a b) = 4 + f.length + 4 + tlen a + tlen b := by
  have e1 : (Str.ofString "call").length = 4 := by decide +kernel
  have e2 : (Str.ofString "2").length = 1 := by decide +kernel
  simp only [tlen, Tm.words, List.map_cons, List.sum_cons, List.length_cons, List.map_append, List.sum_append, List.length_append, e1, e2]
  omega
theorem tl_op (o : Op) (a b : Tm) : tlen (.op o a b) = 5 + tlen a + tlen b := by
  have e1 : o.s.length = 4 := by cases o <;> decide +kernel
  simp only [tlen, Tm.words, List.map_cons, List.sum_cons, List.length_cons, List.map_append, List.sum_append, List.length_append, e1]
  omega
theorem tl_ife (a b c : Tm) : tlen (.ife a b c) = 3 + tlen a + tlen b + tlen c := by
  have e1 : (Str.ofString "if").length = 2 := by decide +kernel
  simp only [tlen, Tm.words, List.map_cons, List.sum_cons, List.length_cons, List.map_append, List.sum_append, List.length_append, e1]
  omega
theorem lw_call : (Str.ofString "call").length = 4 := by decide +kernel
theorem lw_if : (Str.ofString "if").length = 2 := by decide +kernel
theorem lw_0 : (strOf 0).length = 1 := by decide +kernel
theorem lw_1 : (strOf 1).length = 1 := by decide +kernel
theorem lw_2 : (strOf 2).length = 1 := by decide +kernel
theorem lw_op (o : Op) : o.s.length = 4 := by cases o <;> decide +kernel
theorem z0 : Tm.text (.call0 f) = Str.join " " [Str.ofString "call", f, strOf 0] := by
  have : strOf 0 = Str.ofString "0" := by decide +kernel
  rw [this]
  rfl
theorem z1 : strOf 1 = Str.ofString "1" := by decide +kernel
theorem z2 : strOf 2 = Str.ofString "2" := by decide +kernel
/-- a text of numbers and names -/
theorem jo (S : Sto) (ys : List Str) (l : List D) (hl : l = ys.map .str) (h : (ys.map Str.length).sum + ys.length ≤ LL) : bmO .join S (.str " ") [.lst l] = some (.str (Str.join " " ys)) := by
  rw [hl]
  exact bm_join S " " ys (by rw [sp_len]; omega)
theorem c_law_term_text : ∀ (t : Tm) (k : Nat) (S : Sto), t.wt = true → tlen t ≤ LL → callF tab (k + t.depth) F_law_term_text [t.d] S = .ok (.str t.text) S
  | .val n, k, S, w, h => by
    simp only [Tm.wt, Bool.and_eq_true, decide_eq_true_eq] at w
    have e := str_int S (i := n) (by omega) (by omega)
    simp only [Tm.depth]
    rw [U_law_term_text]
    os_names B_law_term_text Tm.d e
    rfl
  | .arg n, k, S, w, h => by
    simp only [Tm.wt, Bool.and_eq_true, decide_eq_true_eq] at w
    have e := str_int S (i := n) (by omega) (by omega)
    simp only [Tm.depth]
    rw [U_law_term_text]
    have e1 : Str.length (Str.ofString "arg") = 3 := by decide +kernel
    have e2 := add_strs (a := Str.ofString "arg") (b := Str.ofString " ") (by decide +kernel)
    rw [tl_arg] at h
    have e3 := add_strs (a := Str.ofString "arg" ++ Str.ofString " ") (b := strOf n) (by
      show (Str.ofString "arg" ++ Str.ofString " ").length + (strOf n).length ≤ LL
      rw [len_app, e1, sp_len]; omega)
    os_names B_law_term_text Tm.d e e2 e3
    rfl
  | .cell n, k, S, w, h => by
    simp only [Tm.depth]
    rw [U_law_term_text]
    have e1 : Str.length (Str.ofString "cell") = 4 := by decide +kernel
    have e2 := add_strs (a := Str.ofString "cell") (b := Str.ofString " ") (by decide +kernel)
    rw [tl_cell] at h
    have e3 := add_strs (a := Str.ofString "cell" ++ Str.ofString " ") (b := n) (by
      show (Str.ofString "cell" ++ Str.ofString " ").length + n.length ≤ LL
      rw [len_app, e1, sp_len]; omega)
    os_names B_law_term_text Tm.d e2 e3
    rfl
  | .tick, k, S, w, h => by
    simp only [Tm.depth]
    rw [U_law_term_text]
    have e3 := add_lsts (a := [.str (Str.ofString "tick")]) (b := []) (by decide)
    have ej := jo S [Str.ofString "tick"] [.str (Str.ofString "tick")] rfl (by decide +kernel)
    os_names B_law_term_text Tm.d sl_t1 e3 hasM_join bmA_join ej
    rfl
  | .call0 f, k, S, w, h => by
    simp only [Tm.depth]
    rw [U_law_term_text, z0]
    have e := str_int S (i := 0) (by omega) (by omega)
    have e3 := add_lsts (a := [.str (Str.ofString "call"), .str f, .str (strOf 0)]) (b := []) (show 3 + 0 ≤ LL by decide)
    have ej := jo S [Str.ofString "call", f, strOf 0] [.str (Str.ofString "call"), .str f, .str (strOf 0)] rfl (by
      rw [tl_call0] at h
      simp only [List.map_cons, List.map_nil, List.sum_nil, List.length_nil, List.sum_cons, List.length_cons, lw_call, lw_0]
      omega)
    os_names B_law_term_text Tm.d e e3 hasM_join bmA_join ej
  | .call1 f a, k, S, w, h => by
    simp only [Tm.depth]
    rw [tl_call1] at h
    have ih := c_law_term_text a k S w (by omega)
    have la := text_len a
    rw [← Nat.add_assoc, U_law_term_text]
    have e := str_int S (i := 1) (by omega) (by omega)
    have e3 := add_lsts (a := [.str (Str.ofString "call"), .str f, .str (strOf 1)]) (b := [.str a.text]) (show 3 + 1 ≤ LL by decide)
    have ej := jo S [Str.ofString "call", f, strOf 1, a.text] [.str (Str.ofString "call"), .str f, .str (strOf 1), .str a.text] rfl (by
      simp only [List.map_cons, List.map_nil, List.sum_nil, List.length_nil, List.sum_cons, List.length_cons, lw_call, lw_1]
      omega)
    os_names B_law_term_text Tm.d e e3 hasM_join bmA_join ej ih
    rw [text1c, z1]
    rfl
  | .call2 f a b, k, S, w, h => by
    simp only [Tm.depth]
    rw [tl_call2] at h
    simp only [Tm.wt, Bool.and_eq_true] at w
    have i1 := c_law_term_text a (k + (max a.depth b.depth - a.depth)) S w.1 (by omega)
    have i2 := c_law_term_text b (k + (max a.depth b.depth - b.depth)) S w.2 (by omega)
    rw [show k + (max a.depth b.depth - a.depth) + a.depth = k + max a.depth b.depth by omega] at i1
    rw [show k + (max a.depth b.depth - b.depth) + b.depth = k + max a.depth b.depth by omega] at i2
    have la := text_len a
    have lb := text_len b
    rw [← Nat.add_assoc, U_law_term_text]
    have e := str_int S (i := 2) (by omega) (by omega)
    have e3 := add_lsts (a := [.str (Str.ofString "call"), .str f, .str (strOf 2)]) (b := [.str a.text, .str b.text]) (show 3 + 2 ≤ LL by decide)
    have ej := jo S [Str.ofString "call", f, strOf 2, a.text, b.text] [.str (Str.ofString "call"), .str f, .str (strOf 2), .str a.text, .str b.text] rfl (by
      simp only [List.map_cons, List.map_nil, List.sum_nil, List.length_nil, List.sum_cons, List.length_cons, lw_call, lw_2]
      omega)
    os_names B_law_term_text Tm.d e e3 hasM_join bmA_join ej i1 i2
    rw [text2c, z2]
    rfl
  | .op o a b, k, S, w, h => by
    simp only [Tm.depth]
    rw [tl_op] at h
    simp only [Tm.wt, Bool.and_eq_true] at w
    have i1 := c_law_term_text a (k + (max a.depth b.depth - a.depth)) S w.1 (by omega)
    have i2 := c_law_term_text b (k + (max a.depth b.depth - b.depth)) S w.2 (by omega)
    rw [show k + (max a.depth b.depth - a.depth) + a.depth = k + max a.depth b.depth by omega] at i1
    rw [show k + (max a.depth b.depth - b.depth) + b.depth = k + max a.depth b.depth by omega] at i2
    have la := text_len a
    have lb := text_len b
    rw [← Nat.add_assoc, U_law_term_text]
    have e3 := add_lsts (a := [.str o.s]) (b := [.str a.text, .str b.text]) (show 1 + 2 ≤ LL by decide)
    have ej := jo S [o.s, a.text, b.text] [.str o.s, .str a.text, .str b.text] rfl (by
      simp only [List.map_cons, List.map_nil, List.sum_nil, List.length_nil, List.sum_cons, List.length_cons, lw_op]
      omega)
    have q1 : (Str.ofString "arg" == o.s) = false := by cases o <;> decide +kernel
    have q2 : (Str.ofString "cell" == o.s) = false := by cases o <;> decide +kernel
    have q3 : (o.s == Str.ofString "call") = false := by cases o <;> decide +kernel
    os_names B_law_term_text Tm.d q1 q2 q3 e3 hasM_join bmA_join ej i1 i2
    rw [text2]
    rfl
  | .ife a b c, k, S, w, h => by
    simp only [Tm.depth]
    rw [tl_ife] at h
    simp only [Tm.wt, Bool.and_eq_true] at w
    generalize hm : max a.depth (max b.depth c.depth) = m
    have i1 := c_law_term_text a (k + (m - a.depth)) S w.1 (by omega)
    have i2 := c_law_term_text b (k + (m - b.depth)) S w.2.1 (by omega)
    have i3 := c_law_term_text c (k + (m - c.depth)) S w.2.2 (by omega)
    rw [show k + (m - a.depth) + a.depth = k + m by omega] at i1
    rw [show k + (m - b.depth) + b.depth = k + m by omega] at i2
    rw [show k + (m - c.depth) + c.depth = k + m by omega] at i3
    have la := text_len a
    have lb := text_len b
    have lc := text_len c
    rw [← Nat.add_assoc, U_law_term_text]
    have e3 := add_lsts (a := [.str (Str.ofString "if")]) (b := [.str a.text, .str b.text, .str c.text]) (show 1 + 3 ≤ LL by decide)
    have ej := jo S [Str.ofString "if", a.text, b.text, c.text] [.str (Str.ofString "if"), .str a.text, .str b.text, .str c.text] rfl (by
      simp only [List.map_cons, List.map_nil, List.sum_nil, List.length_nil, List.sum_cons, List.length_cons, lw_if]
      omega)
    os_names B_law_term_text Tm.d e3 hasM_join bmA_join ej i1 i2 i3
    rw [text3]
    rfl
end K79
namespace K79
open PySem Mi Mi.Q Ta
local macro_rules | `(tactic| os_names $xs:ident*) => `(tactic| simp only [e_var, e_cst, e_glb, e_tup, e_lst, e_dic, e_bin, e_neg, e_nott, e_and, e_or, e_ife, e_cmp, e_chn, e_att, e_idx, e_slc, e_rev, e_isi, e_bf, e_bm, e_call, e_mk, e_mth, e_lc, e_lc2, e_frz,
  t_nott, t_and, t_or, t_ife, t_var, t_cst, t_glb, t_bin, t_cmp, t_chn, t_att, t_idx, t_isi, t_bf, t_bm, t_call, t_mth, tru_bl, tru_int, e_nil, e_cons, e_star, starK_lst, starK_tup, e_no, e_yes, evOK_int, c_no, c_yes, i_of, i_range1, i_range2, i_enum, enK_lst,
  s_nil, s_cons, s_set, s_par, s_unp, unpK_some, s_attS, s_idxS, stoK_some, s_aug, augK_some, augV_int, augE_some, s_exp, s_ret, s_retN, s_iff, s_forr, s_whil, s_brk, s_cnt, s_pass, s_rais, raisK_some, s_tryy, tryK_rt, tryK_nx, tryK_ex,
  bind_ok, bind_ex, then_ok, then_ex, seq_nx, seq_rt, seq_bk, seq_ct, seq_ex, of_some, endF_rt, endF_nx, endF_ex, leaveR_ok, leaveR_ex, noEx_ok,
  lk_some, mkT0, mkT1, mkT2, mkT3, mkT4, mkT5, mkT6, frs_false, mkL0, mkL1, mkL2, mkL3, mkL4, mkL5, mkL6, mkL7, mkL8, mkL10, mkL14, negK_int, notK_bl, andK_bl, orK_bl, and_ok, or_ok, and_okB, or_okB,
  g0, g1, g2, g3, g4, g5, g6, g7, g8, g9, g10, g11, g12, g13, g14, g15, s0, s1, s2, s3, s4, s5, s6, s7, s8, s9, s10, s11, s12, s13, s14, s15,
  eq_ints, eq_strs, eq_bls, eq_cn, eq_nn, isTs_nil, isTs_cons, orT_true, orT_false, isT_int, isT_bl, isT_str, isT_non, isT_tup, isT_lst, isT_dct, tyB, cmp_eq, cmp_ne, cmp_lt, cmp_le, cmp_gt, cmp_ge, cmp_in, cmp_notin, cmp_is, cmp_isnot, nn_non, nn_int, nn_str, nn_tup, nn_lst, nn_bl, nn_dct, nn_ins, nn_ref,
  len_lst, len_tup, len_str, len_dct, len_scr, list_lst, list_tup, tuple_lst, tuple_tup, int_int, int_bl, str_str, abs_int, min_ints, max_ints, iter_lst, iter_tup, iter_str, fresh_false, add_ints, sub_ints, ix_t0, ix_t1, ix_t2, ix_t3, ix_l0, ix_l1, ix_l2, ix_l3, ix_d, sl_t1,
  q_tick_arg, q_tick_cell, q_tick_call, q_tick_plus, q_tick_less, q_tick_same, q_tick_if, q_arg_tick, q_arg_cell, q_arg_call, q_arg_plus, q_arg_less, q_arg_same, q_arg_if, q_cell_tick, q_cell_arg, q_cell_call, q_cell_plus, q_cell_less, q_cell_same, q_cell_if, q_call_tick, q_call_arg, q_call_cell, q_call_plus, q_call_less, q_call_same, q_call_if, q_plus_tick, q_plus_arg, q_plus_cell, q_plus_call, q_plus_less, q_plus_same, q_plus_if, q_less_tick, q_less_arg, q_less_cell, q_less_call, q_less_plus, q_less_same, q_less_if, q_same_tick, q_same_arg, q_same_cell, q_same_call, q_same_plus, q_same_less, q_same_if, q_if_tick, q_if_arg, q_if_cell, q_if_call, q_if_plus, q_if_less, q_if_same, beq_self_eq_true, Bool.and_true, Bool.true_and, Bool.and_false, Bool.false_and, Bool.or_true, Bool.true_or, Bool.or_false, Bool.false_or, List.length_cons, List.length_nil, Nat.zero_add, Nat.reduceAdd, lci0, lcj0, fri0, acc0, any0, all0, lci1, lcj1, fri1, acc1, any1, all1, lci2, lcj2, fri2, acc2, any2, all2, lci3, lcj3, fri3, acc3, any3, all3, lci4, lcj4, fri4, acc4, any4, all4, lci5, lcj5, fri5, acc5, any5, all5, lcT, lcT2, lcU, forT1, List.length_map, seq_ite, then_ite, bind_ite, endF_ite, nc0, nc1, nc2, nc3, nc4, nc5, nc6, nc7, nc8, nc9, nc10, nc11, nc12, nc13, nc14, nc15, nc16, nc17, nc18, nc19, nc20, nc21, nc22, nc23, nc24, nc25, nc26, nc27, nc28, nc29, nc30, in_ts1, in_ts2, in_ts3, in_ts4, in_ti1, in_ti2, in_ti3, in_ti4, in_ls1, in_ls2, in_ls3, in_ls4, in_li1, in_li2, in_li3, in_li4, in_sign, bindT, wipeL, Tg.slots, List.cons_append, List.append_nil, List.nil_append, setN, Int.reduceBEq, Int.reduceLE, Int.reduceLT, decide_true, decide_false, Int.reduceSub, Int.reduceAdd, Int.reduceEq, Int.reduceBNe, bne_self_eq_false,
  lcK_nil, lcK_cons, lcL_nil, lcL_cons, accK_none, forL_nil, forL_cons, goK_nx, goK_ct, goK_bk, goK_rt, goK_ex, Option.map_some, Option.map_none, Option.bind_some, Option.bind_none, if_true, if_false, Bool.false_eq_true, Bool.true_eq_false, reduceCtorEq, Bool.not_false, Bool.not_true, $[$xs:ident],*])
theorem c_write_term : ∀ (t : Tm) (k : Nat) (S : Sto), t.wt = true → tlen t ≤ LL → callF tab (k + t.depth) F_write_term [t.d] S = .ok (.str t.text) S
  | .val n, k, S, w, h => by
    simp only [Tm.wt, Bool.and_eq_true, decide_eq_true_eq] at w
    have e := str_int S (i := n) (by omega) (by omega)
    simp only [Tm.depth]
    rw [U_write_term]
    os_names B_write_term Tm.d e
    rfl
  | .arg n, k, S, w, h => by
    simp only [Tm.wt, Bool.and_eq_true, decide_eq_true_eq] at w
    have e := str_int S (i := n) (by omega) (by omega)
    simp only [Tm.depth]
    rw [U_write_term]
    have ej := jo S [Str.ofString "arg", strOf n] [.str (Str.ofString "arg"), .str (strOf n)] rfl h
    os_names B_write_term Tm.d e hasM_join bmA_join ej
    rfl
  | .cell n, k, S, w, h => by
    simp only [Tm.depth]
    rw [U_write_term]
    have ej := jo S [Str.ofString "cell", n] [.str (Str.ofString "cell"), .str n] rfl h
    os_names B_write_term Tm.d hasM_join bmA_join ej
    rfl
  | .tick, k, S, w, h => by
    simp only [Tm.depth]
    rw [U_write_term]
    have ej := jo S [Str.ofString "tick"] [.str (Str.ofString "tick")] rfl (by decide +kernel)
    os_names B_write_term Tm.d hasM_join bmA_join ej
    rfl
  | .call0 f, k, S, w, h => by
    simp only [Tm.depth]
    rw [U_write_term, z0]
    have e := str_int S (i := 0) (by omega) (by omega)
    have ej := jo S [Str.ofString "call", f, strOf 0] [.str (Str.ofString "call"), .str f, .str (strOf 0)] rfl (by
      rw [tl_call0] at h
      simp only [List.map_cons, List.map_nil, List.sum_nil, List.length_nil, List.sum_cons, List.length_cons, lw_call, lw_0]
      omega)
    os_names B_write_term Tm.d e hasM_join bmA_join ej
  | .call1 f a, k, S, w, h => by
    simp only [Tm.depth]
    rw [tl_call1] at h
    have ih := c_write_term a k S w (by omega)
    have la := text_len a
    rw [← Nat.add_assoc, U_write_term]
    have e := str_int S (i := 1) (by omega) (by omega)
    have ej := jo S [Str.ofString "call", f, strOf 1, a.text] [.str (Str.ofString "call"), .str f, .str (strOf 1), .str a.text] rfl (by
      simp only [List.map_cons, List.map_nil, List.sum_nil, List.length_nil, List.sum_cons, List.length_cons, lw_call, lw_1]
      omega)
    os_names B_write_term Tm.d e hasM_join bmA_join ej ih
    rw [text1c, z1]
    rfl
  | .call2 f a b, k, S, w, h => by
    simp only [Tm.depth]
    rw [tl_call2] at h
    simp only [Tm.wt, Bool.and_eq_true] at w
    have i1 := c_write_term a (k + (max a.depth b.depth - a.depth)) S w.1 (by omega)
    have i2 := c_write_term b (k + (max a.depth b.depth - b.depth)) S w.2 (by omega)
    rw [show k + (max a.depth b.depth - a.depth) + a.depth = k + max a.depth b.depth by omega] at i1
    rw [show k + (max a.depth b.depth - b.depth) + b.depth = k + max a.depth b.depth by omega] at i2
    have la := text_len a
    have lb := text_len b
    rw [← Nat.add_assoc, U_write_term]
    have e := str_int S (i := 2) (by omega) (by omega)
    have ej := jo S [Str.ofString "call", f, strOf 2, a.text, b.text] [.str (Str.ofString "call"), .str f, .str (strOf 2), .str a.text, .str b.text] rfl (by
      simp only [List.map_cons, List.map_nil, List.sum_nil, List.length_nil, List.sum_cons, List.length_cons, lw_call, lw_2]
      omega)
    os_names B_write_term Tm.d e hasM_join bmA_join ej i1 i2
    rw [text2c, z2]
    rfl
  | .op o a b, k, S, w, h => by
    simp only [Tm.depth]
    rw [tl_op] at h
    simp only [Tm.wt, Bool.and_eq_true] at w
    have i1 := c_write_term a (k + (max a.depth b.depth - a.depth)) S w.1 (by omega)
    have i2 := c_write_term b (k + (max a.depth b.depth - b.depth)) S w.2 (by omega)
    rw [show k + (max a.depth b.depth - a.depth) + a.depth = k + max a.depth b.depth by omega] at i1
    rw [show k + (max a.depth b.depth - b.depth) + b.depth = k + max a.depth b.depth by omega] at i2
    have la := text_len a
    have lb := text_len b
    rw [← Nat.add_assoc, U_write_term]
    have ej := jo S [o.s, a.text, b.text] [.str o.s, .str a.text, .str b.text] rfl (by
      simp only [List.map_cons, List.map_nil, List.sum_nil, List.length_nil, List.sum_cons, List.length_cons, lw_op]
      omega)
    have q1 : (Str.ofString "plus" == o.s || (Str.ofString "less" == o.s || Str.ofString "same" == o.s)) = true := by cases o <;> decide +kernel
    have q3 : (o.s == Str.ofString "call") = false := by cases o <;> decide +kernel
    os_names B_write_term Tm.d q1 q3 hasM_join bmA_join ej i1 i2
    rw [text2]
    rfl
  | .ife a b c, k, S, w, h => by
    simp only [Tm.depth]
    rw [tl_ife] at h
    simp only [Tm.wt, Bool.and_eq_true] at w
    generalize hm : max a.depth (max b.depth c.depth) = m
    have i1 := c_write_term a (k + (m - a.depth)) S w.1 (by omega)
    have i2 := c_write_term b (k + (m - b.depth)) S w.2.1 (by omega)
    have i3 := c_write_term c (k + (m - c.depth)) S w.2.2 (by omega)
    rw [show k + (m - a.depth) + a.depth = k + m by omega] at i1
    rw [show k + (m - b.depth) + b.depth = k + m by omega] at i2
    rw [show k + (m - c.depth) + c.depth = k + m by omega] at i3
    have la := text_len a
    have lb := text_len b
    have lc := text_len c
    rw [← Nat.add_assoc, U_write_term]
    have ej := jo S [Str.ofString "if", a.text, b.text, c.text] [.str (Str.ofString "if"), .str a.text, .str b.text, .str c.text] rfl (by
      simp only [List.map_cons, List.map_nil, List.sum_nil, List.length_nil, List.sum_cons, List.length_cons, lw_if]
      omega)
    os_names B_write_term Tm.d hasM_join bmA_join ej i1 i2 i3
    rw [text3]
    rfl
end K79
namespace K79
open PySem Mi Mi.Q Ta
local macro_rules | `(tactic| os_names $xs:ident*) => `(tactic| simp only [e_var, e_cst, e_glb, e_tup, e_lst, e_dic, e_bin, e_neg, e_nott, e_and, e_or, e_ife, e_cmp, e_chn, e_att, e_idx, e_slc, e_rev, e_isi, e_bf, e_bm, e_call, e_mk, e_mth, e_lc, e_lc2, e_frz,
  t_nott, t_and, t_or, t_ife, t_var, t_cst, t_glb, t_bin, t_cmp, t_chn, t_att, t_idx, t_isi, t_bf, t_bm, t_call, t_mth, tru_bl, tru_int, e_nil, e_cons, e_star, starK_lst, starK_tup, e_no, e_yes, evOK_int, c_no, c_yes, i_of, i_range1, i_range2, i_enum, enK_lst,
  s_nil, s_cons, s_set, s_par, s_unp, unpK_some, s_attS, s_idxS, stoK_some, s_aug, augK_some, augV_int, augE_some, s_exp, s_ret, s_retN, s_iff, s_forr, s_whil, s_brk, s_cnt, s_pass, s_rais, raisK_some, s_tryy, tryK_rt, tryK_nx, tryK_ex,
  bind_ok, bind_ex, then_ok, then_ex, seq_nx, seq_rt, seq_bk, seq_ct, seq_ex, of_some, endF_rt, endF_nx, endF_ex, leaveR_ok, leaveR_ex, noEx_ok,
  lk_some, mkT0, mkT1, mkT2, mkT3, mkT4, mkT5, mkT6, frs_false, mkL0, mkL1, mkL2, mkL3, mkL4, mkL5, mkL6, mkL7, mkL8, mkL10, mkL14, negK_int, notK_bl, andK_bl, orK_bl, and_ok, or_ok, and_okB, or_okB,
  g0, g1, g2, g3, g4, g5, g6, g7, g8, g9, g10, g11, g12, g13, g14, g15, s0, s1, s2, s3, s4, s5, s6, s7, s8, s9, s10, s11, s12, s13, s14, s15,
  eq_ints, eq_strs, eq_bls, eq_cn, eq_nn, isTs_nil, isTs_cons, orT_true, orT_false, isT_int, isT_bl, isT_str, isT_non, isT_tup, isT_lst, isT_dct, tyB, cmp_eq, cmp_ne, cmp_lt, cmp_le, cmp_gt, cmp_ge, cmp_in, cmp_notin, cmp_is, cmp_isnot, nn_non, nn_int, nn_str, nn_tup, nn_lst, nn_bl, nn_dct, nn_ins, nn_ref,
  len_lst, len_tup, len_str, len_dct, len_scr, list_lst, list_tup, tuple_lst, tuple_tup, int_int, int_bl, str_str, abs_int, min_ints, max_ints, iter_lst, iter_tup, iter_str, fresh_false, add_ints, sub_ints, ix_t0, ix_t1, ix_t2, ix_t3, ix_l0, ix_l1, ix_l2, ix_l3, ix_d, sl_t1,
  q_tick_arg, q_tick_cell, q_tick_call, q_tick_plus, q_tick_less, q_tick_same, q_tick_if, q_arg_tick, q_arg_cell, q_arg_call, q_arg_plus, q_arg_less, q_arg_same, q_arg_if, q_cell_tick, q_cell_arg, q_cell_call, q_cell_plus, q_cell_less, q_cell_same, q_cell_if, q_call_tick, q_call_arg, q_call_cell, q_call_plus, q_call_less, q_call_same, q_call_if, q_plus_tick, q_plus_arg, q_plus_cell, q_plus_call, q_plus_less, q_plus_same, q_plus_if, q_less_tick, q_less_arg, q_less_cell, q_less_call, q_less_plus, q_less_same, q_less_if, q_same_tick, q_same_arg, q_same_cell, q_same_call, q_same_plus, q_same_less, q_same_if, q_if_tick, q_if_arg, q_if_cell, q_if_call, q_if_plus, q_if_less, q_if_same, beq_self_eq_true, Bool.and_true, Bool.true_and, Bool.and_false, Bool.false_and, Bool.or_true, Bool.true_or, Bool.or_false, Bool.false_or, List.length_cons, List.length_nil, Nat.zero_add, Nat.reduceAdd, lci0, lcj0, fri0, acc0, any0, all0, lci1, lcj1, fri1, acc1, any1, all1, lci2, lcj2, fri2, acc2, any2, all2, lci3, lcj3, fri3, acc3, any3, all3, lci4, lcj4, fri4, acc4, any4, all4, lci5, lcj5, fri5, acc5, any5, all5, lcT, lcT2, lcU, forT1, List.length_map, seq_ite, then_ite, bind_ite, endF_ite, nc0, nc1, nc2, nc3, nc4, nc5, nc6, nc7, nc8, nc9, nc10, nc11, nc12, nc13, nc14, nc15, nc16, nc17, nc18, nc19, nc20, nc21, nc22, nc23, nc24, nc25, nc26, nc27, nc28, nc29, nc30, in_ts1, in_ts2, in_ts3, in_ts4, in_ti1, in_ti2, in_ti3, in_ti4, in_ls1, in_ls2, in_ls3, in_ls4, in_li1, in_li2, in_li3, in_li4, in_sign, bindT, wipeL, Tg.slots, List.cons_append, List.append_nil, List.nil_append, setN, Int.reduceBEq, Int.reduceLE, Int.reduceLT, decide_true, decide_false, Int.reduceSub, Int.reduceAdd, Int.reduceEq, Int.reduceBNe, bne_self_eq_false,
  lcK_nil, lcK_cons, lcL_nil, lcL_cons, accK_none, forL_nil, forL_cons, goK_nx, goK_ct, goK_bk, goK_rt, goK_ex, Option.map_some, Option.map_none, Option.bind_some, Option.bind_none, if_true, if_false, Bool.false_eq_true, Bool.true_eq_false, reduceCtorEq, Bool.not_false, Bool.not_true, $[$xs:ident],*])
/-! ### Words -/
def W (ws : List Str) (b : Bool) (C : List Cell) (fl : Nat) : Sto := ⟨.lst (ws.reverse.map .str) :: .ins C_Words [(A_left, .ref (C.length + 1)), (A_is_bad, .bl b)] :: C, fl⟩
section
variable (ws : List Str) (b : Bool) (C : List Cell) (fl : Nat)
theorem W1 : getc (W ws b C fl).c (C.length + 1) = some (.lst (ws.reverse.map .str)) := if_pos rfl
theorem W0 : getc (W ws b C fl).c C.length = some (.ins C_Words [(A_left, .ref (C.length + 1)), (A_is_bad, .bl b)]) := getc_up (getc_top _ C)
theorem dW1 : deref (W ws b C fl) (.ref (C.length + 1)) = some (.lst (ws.reverse.map .str)) := by
  unfold deref
  simp only [W1]
  rfl
theorem dW0 : deref (W ws b C fl) (.ref C.length) = some (.ins C_Words [(A_left, .ref (C.length + 1)), (A_is_bad, .bl b)]) := by
  unfold deref
  simp only [W0]
  rfl
theorem pW1 (ws' : List Str) : putS (W ws b C fl) (C.length + 1) (.lst (ws'.reverse.map .str)) = W ws' b C fl := by
  unfold putS W
  simp only [setc, List.length_cons, if_true]
theorem pW0 (b' : Bool) : putS (W ws b C fl) C.length (.ins C_Words [(A_left, .ref (C.length + 1)), (A_is_bad, .bl b')]) = W ws b' C fl := by
  show (⟨if C.length = C.length + 1 then _ else _ :: (if C.length = C.length then _ else _), fl⟩ : Sto) = _
  rw [if_neg (by omega), if_pos rfl]
  rfl
theorem aW_left : attO (W ws b C fl) (.ref C.length) A_left = some (.ref (C.length + 1)) := by
  unfold attO
  rw [dW0]
  rfl
theorem aW_bad : attO (W ws b C fl) (.ref C.length) A_is_bad = some (.bl b) := by
  unfold attO
  rw [dW0]
  rfl
theorem cW (m : Nat) (h1 : (m == A_left) = false) (h2 : (m == A_is_bad) = false) : clsOf (W ws b C fl) (.ref C.length) m = some C_Words := by
  unfold clsOf
  rw [dW0]
  show (if (List.lookup m [(A_left, D.ref (C.length + 1)), (A_is_bad, .bl b)]).isNone = true then _ else none) = _
  simp only [List.lookup, h1, h2]
  rfl
theorem cW_pull : clsOf (W ws b C fl) (.ref C.length) A_pull = some C_Words := cW _ _ _ _ _ rfl rfl
theorem cW_name : clsOf (W ws b C fl) (.ref C.length) A_pull_name = some C_Words := cW _ _ _ _ _ rfl rfl
theorem cW_figure : clsOf (W ws b C fl) (.ref C.length) A_pull_figure = some C_Words := cW _ _ _ _ _ rfl rfl
theorem cW_done : clsOf (W ws b C fl) (.ref C.length) A_is_done = some C_Words := cW _ _ _ _ _ rfl rfl
theorem eW_nil : eqO (W [] b C fl) (.ref (C.length + 1)) (.lst []) = some true := by
  unfold eqO
  rw [dW1]
  rfl
theorem eW_cons (w : Str) : eqO (W (w :: ws) b C fl) (.ref (C.length + 1)) (.lst []) = some false := by
  unfold eqO
  rw [dW1, List.reverse_cons, List.map_append]
  cases (ws.reverse.map D.str) <;> rfl
theorem hW : hasM .pop (W ws b C fl) (.ref (C.length + 1)) = true := by
  unfold hasM
  rw [dW1]
theorem sW_bad (hf : fl ≤ C.length) (b' : Bool) : attS (W ws b C fl) (.ref C.length) A_is_bad (.bl b') = some (W ws b' C fl) := by
  unfold attS
  simp only [W0]
  rw [if_pos (by
    have : wOk (W ws b C fl) C.length (.bl b') = true := by
      unfold wOk
      rw [show decide ((W ws b C fl).fl ≤ C.length) = true from decide_eq_true hf]; rfl
    rw [this]; rfl)]
  exact congrArg some (pW0 ws b C fl b')
theorem bW_pop (w : Str) : bmA .pop (W (w :: ws) b C fl) (.ref (C.length + 1)) [] = .ok (.str w) (W ws b C fl) := by
  rw [show bmA .pop (W (w :: ws) b C fl) (.ref (C.length + 1)) [] = bmW .pop (W (w :: ws) b C fl) (.ref (C.length + 1)) [] from if_pos rfl]
  unfold bmW
  simp only [W1]
  have e : ((w :: ws).reverse.map D.str) = ws.reverse.map D.str ++ [.str w] := by rw [List.reverse_cons, List.map_append]; rfl
  rw [e, List.getLast?_concat, List.dropLast_concat]
  simp only [pW1]
end
section
variable (k : Nat) (ws : List Str) (b : Bool) (C : List Cell) (fl : Nat) (hf : fl ≤ C.length)
theorem rev_lst (S : Sto) (l : List D) : revO S (.lst l) = some (.lst l.reverse) := rfl
include hf in
theorem c_init (x : Nat × D) : callF tab (k + 1) F_Words___init__ [.ref C.length, .lst (ws.map .str)] ⟨.ins C_Words [] :: C, fl⟩ = .ok .non (W ws false C fl) := by
  rw [U_Words___init__]
  have g : getc (Cell.lst (ws.map D.str).reverse :: Cell.ins C_Words [] :: C) C.length = some (.ins C_Words []) := getc_up (getc_top _ C)
  have e1 : attS ⟨Cell.lst (ws.map D.str).reverse :: Cell.ins C_Words [] :: C, fl⟩ (.ref C.length) A_left (.ref (C.length + 1)) = some ⟨Cell.lst (ws.map D.str).reverse :: Cell.ins C_Words [(A_left, .ref (C.length + 1))] :: C, fl⟩ := by
    unfold attS
    simp only [g]
    have w : wOk ⟨Cell.lst (ws.map D.str).reverse :: Cell.ins C_Words [] :: C, fl⟩ C.length (.ref (C.length + 1)) = true := by
      unfold wOk
      rw [show decide (fl ≤ C.length) = true from decide_eq_true hf]; rfl
    rw [w]
    show some (⟨if C.length = C.length + 1 then _ else _ :: (if C.length = C.length then _ else _), fl⟩ : Sto) = _
    rw [if_neg (by omega), if_pos rfl]
    rfl
  have g2 : getc (Cell.lst (ws.map D.str).reverse :: Cell.ins C_Words [(A_left, .ref (C.length + 1))] :: C) C.length = some (.ins C_Words [(A_left, .ref (C.length + 1))]) := getc_up (getc_top _ C)
  have e2 : attS ⟨Cell.lst (ws.map D.str).reverse :: Cell.ins C_Words [(A_left, .ref (C.length + 1))] :: C, fl⟩ (.ref C.length) A_is_bad (.bl false) = some (W ws false C fl) := by
    unfold attS
    simp only [g2]
    have w : wOk ⟨Cell.lst (ws.map D.str).reverse :: Cell.ins C_Words [(A_left, .ref (C.length + 1))] :: C, fl⟩ C.length (.bl false) = true := by
      unfold wOk
      rw [show decide (fl ≤ C.length) = true from decide_eq_true hf]; rfl
    rw [w]
    show some (⟨if C.length = C.length + 1 then _ else _ :: (if C.length = C.length then _ else _), fl⟩ : Sto) = _
    rw [if_neg (by omega), if_pos rfl, ← List.map_reverse]
    rfl
  os_names B_Words___init__ rev_lst fresh_lst alloc_eq e1 e2
include hf in
theorem c_pull : callF tab (k + 1) F_Words_pull [.ref C.length] (W ws b C fl) = .ok (.str (pull ws b).1) (W (pull ws b).2.1 (pull ws b).2.2 C fl) := by
  rw [U_Words_pull]
  cases ws with
  | nil =>
    have e1 := sW_bad [] b C fl hf true
    os_names B_Words_pull aW_left eW_nil e1 pull
  | cons w ws => os_names B_Words_pull aW_left eW_cons hW bW_pop pull
include hf in
theorem c_pull_name : callF tab (k + 2) F_Words_pull_name [.ref C.length] (W ws b C fl) = .ok (.str (pName ws b).1) (W (pName ws b).2.1 (pName ws b).2.2 C fl) := by
  rw [U_Words_pull_name]
  have e1 := fun k ws b => c_pull k ws b C fl hf
  os_names B_Words_pull_name cW_pull M_Words_pull e1 c_is_name
  unfold pName
  cases isName (pull ws b).1 with
  | true => os_names if_true 
  | false =>
    have e2 := sW_bad (pull ws b).2.1 (pull ws b).2.2 C fl hf true
    os_names aW_left e2
theorem int_str {x : Str} {i : Int} (S : Sto) (h1 : x.cps.size ≤ 600) (h2 : intText? x = some i) : bfO .int S [.str x] = some (.int i) := by
  show (if x.cps.size ≤ 600 then (intText? x).map D.int else none) = _
  rw [if_pos h1, h2]
  rfl
theorem fig_ok {w : Str} {i : Int} (h : figV w = some i) : w.cps.size = 1 ∧ (∀ S, isinO S (.str w) (.str "0123456789") = some true) ∧ ∀ S, bfO .int S [.str w] = some (.int i) := by
  obtain ⟨e, h0, h9⟩ := figV_some h
  have : i = 0 ∨ i = 1 ∨ i = 2 ∨ i = 3 ∨ i = 4 ∨ i = 5 ∨ i = 6 ∨ i = 7 ∨ i = 8 ∨ i = 9 := by omega
  rcases this with rfl | rfl | rfl | rfl | rfl | rfl | rfl | rfl | rfl | rfl <;> subst e <;> exact ⟨by decide +kernel, fun S => rfl, fun S => int_str S (by decide +kernel) (by decide +kernel)⟩
theorem fig_no {w : Str} (h : figV w = none) : w.cps.size ≠ 1 ∨ (w.cps.size = 1 ∧ ∀ S, isinO S (.str w) (.str "0123456789") = some false) := by
  by_cases h1 : w.cps.size = 1
  · refine .inr ⟨h1, fun S => ?_⟩
    obtain ⟨⟨l⟩⟩ := w
    match l, h1 with
    | [c], _ =>
      rw [show (⟨⟨[c]⟩⟩ : Str) = ⟨#[c]⟩ from rfl, in_sign]
      have e : ("0123456789" : Str).cps.toList = [48, 49, 50, 51, 52, 53, 54, 55, 56, 57] := by decide +kernel
      rw [e]
      refine congrArg some (decide_eq_false fun hc => ?_)
      have : c = 48 ∨ c = 49 ∨ c = 50 ∨ c = 51 ∨ c = 52 ∨ c = 53 ∨ c = 54 ∨ c = 55 ∨ c = 56 ∨ c = 57 := by simpa using hc
      rcases this with rfl | rfl | rfl | rfl | rfl | rfl | rfl | rfl | rfl | rfl <;> revert h <;> decide +kernel
  · exact .inl h1
include hf in
theorem c_pull_figure (lo hi : Int) : callF tab (k + 2) F_Words_pull_figure [.ref C.length, .int lo, .int hi] (W ws b C fl) = .ok (.int (pFig lo hi ws b).1) (W (pFig lo hi ws b).2.1 (pFig lo hi ws b).2.2 C fl) := by
  rw [U_Words_pull_figure]
  have e1 := fun k ws b => c_pull k ws b C fl hf
  have e2 := fun ws b => sW_bad ws b C fl hf true
  os_names B_Words_pull_figure cW_pull M_Words_pull e1
  unfold pFig figB
  generalize hw : (pull ws b).1 = w
  cases h : figV w with
  | some i =>
    obtain ⟨h1, h2, h3⟩ := fig_ok h
    os_names h1 h2 h3
    by_cases c1 : lo ≤ i
    · by_cases c2 : i ≤ hi
      · os_names h1 h2 h3 c1 c2 and_self
      · os_names h1 h2 h3 c1 c2 and_false e2
    · os_names h1 h2 h3 c1 false_and e2
  | none =>
    rcases fig_no h with h1 | ⟨h1, h2⟩
    · have h3 : ((w.cps.size : Int) == 1) = false := by
        rw [beq_eq_false_iff_ne]; omega
      os_names h3 e2
    · os_names h1 h2 e2
end
end K79
namespace K79
open PySem Mi Mi.Q Ta
local macro_rules | `(tactic| os_names $xs:ident*) => `(tactic| simp only [e_var, e_cst, e_glb, e_tup, e_lst, e_dic, e_bin, e_neg, e_nott, e_and, e_or, e_ife, e_cmp, e_chn, e_att, e_idx, e_slc, e_rev, e_isi, e_bf, e_bm, e_call, e_mk, e_mth, e_lc, e_lc2, e_frz,
  t_nott, t_and, t_or, t_ife, t_var, t_cst, t_glb, t_bin, t_cmp, t_chn, t_att, t_idx, t_isi, t_bf, t_bm, t_call, t_mth, tru_bl, tru_int, e_nil, e_cons, e_star, starK_lst, starK_tup, e_no, e_yes, evOK_int, c_no, c_yes, i_of, i_range1, i_range2, i_enum, enK_lst,
  s_nil, s_cons, s_set, s_par, s_unp, unpK_some, s_attS, s_idxS, stoK_some, s_aug, augK_some, augV_int, augE_some, s_exp, s_ret, s_retN, s_iff, s_forr, s_whil, s_brk, s_cnt, s_pass, s_rais, raisK_some, s_tryy, tryK_rt, tryK_nx, tryK_ex,
  bind_ok, bind_ex, then_ok, then_ex, seq_nx, seq_rt, seq_bk, seq_ct, seq_ex, of_some, endF_rt, endF_nx, endF_ex, leaveR_ok, leaveR_ex, noEx_ok,
  lk_some, mkT0, mkT1, mkT2, mkT3, mkT4, mkT5, mkT6, frs_false, mkL0, mkL1, mkL2, mkL3, mkL4, mkL5, mkL6, mkL7, mkL8, mkL10, mkL14, negK_int, notK_bl, andK_bl, orK_bl, and_ok, or_ok, and_okB, or_okB,
  g0, g1, g2, g3, g4, g5, g6, g7, g8, g9, g10, g11, g12, g13, g14, g15, s0, s1, s2, s3, s4, s5, s6, s7, s8, s9, s10, s11, s12, s13, s14, s15,
  eq_ints, eq_strs, eq_bls, eq_cn, eq_nn, isTs_nil, isTs_cons, orT_true, orT_false, isT_int, isT_bl, isT_str, isT_non, isT_tup, isT_lst, isT_dct, tyB, cmp_eq, cmp_ne, cmp_lt, cmp_le, cmp_gt, cmp_ge, cmp_in, cmp_notin, cmp_is, cmp_isnot, nn_non, nn_int, nn_str, nn_tup, nn_lst, nn_bl, nn_dct, nn_ins, nn_ref,
  len_lst, len_tup, len_str, len_dct, len_scr, list_lst, list_tup, tuple_lst, tuple_tup, int_int, int_bl, str_str, abs_int, min_ints, max_ints, iter_lst, iter_tup, iter_str, fresh_false, add_ints, sub_ints, ix_t0, ix_t1, ix_t2, ix_t3, ix_l0, ix_l1, ix_l2, ix_l3, ix_d, sl_t1,
  q_tick_arg, q_tick_cell, q_tick_call, q_tick_plus, q_tick_less, q_tick_same, q_tick_if, q_arg_tick, q_arg_cell, q_arg_call, q_arg_plus, q_arg_less, q_arg_same, q_arg_if, q_cell_tick, q_cell_arg, q_cell_call, q_cell_plus, q_cell_less, q_cell_same, q_cell_if, q_call_tick, q_call_arg, q_call_cell, q_call_plus, q_call_less, q_call_same, q_call_if, q_plus_tick, q_plus_arg, q_plus_cell, q_plus_call, q_plus_less, q_plus_same, q_plus_if, q_less_tick, q_less_arg, q_less_cell, q_less_call, q_less_plus, q_less_same, q_less_if, q_same_tick, q_same_arg, q_same_cell, q_same_call, q_same_plus, q_same_less, q_same_if, q_if_tick, q_if_arg, q_if_cell, q_if_call, q_if_plus, q_if_less, q_if_same, beq_self_eq_true, Bool.and_true, Bool.true_and, Bool.and_false, Bool.false_and, Bool.or_true, Bool.true_or, Bool.or_false, Bool.false_or, List.length_cons, List.length_nil, Nat.zero_add, Nat.reduceAdd, lci0, lcj0, fri0, acc0, any0, all0, lci1, lcj1, fri1, acc1, any1, all1, lci2, lcj2, fri2, acc2, any2, all2, lci3, lcj3, fri3, acc3, any3, all3, lci4, lcj4, fri4, acc4, any4, all4, lci5, lcj5, fri5, acc5, any5, all5, lcT, lcT2, lcU, forT1, List.length_map, seq_ite, then_ite, bind_ite, endF_ite, nc0, nc1, nc2, nc3, nc4, nc5, nc6, nc7, nc8, nc9, nc10, nc11, nc12, nc13, nc14, nc15, nc16, nc17, nc18, nc19, nc20, nc21, nc22, nc23, nc24, nc25, nc26, nc27, nc28, nc29, nc30, in_ts1, in_ts2, in_ts3, in_ts4, in_ti1, in_ti2, in_ti3, in_ti4, in_ls1, in_ls2, in_ls3, in_ls4, in_li1, in_li2, in_li3, in_li4, in_sign, bindT, wipeL, Tg.slots, List.cons_append, List.append_nil, List.nil_append, setN, Int.reduceBEq, Int.reduceLE, Int.reduceLT, decide_true, decide_false, Int.reduceSub, Int.reduceAdd, Int.reduceEq, Int.reduceBNe, bne_self_eq_false,
  lcK_nil, lcK_cons, lcL_nil, lcL_cons, accK_none, forL_nil, forL_cons, goK_nx, goK_ct, goK_bk, goK_rt, goK_ex, Option.map_some, Option.map_none, Option.bind_some, Option.bind_none, if_true, if_false, Bool.false_eq_true, Bool.true_eq_false, reduceCtorEq, Bool.not_false, Bool.not_true, $[$xs:ident],*])
theorem rg1_0 (S : Sto) : rg1 (.int 0) S = .ok (.fix []) S := rfl
theorem rg1_1 (S : Sto) : rg1 (.int 1) S = .ok (.fix [.int 0]) S := rfl
theorem rg1_2 (S : Sto) : rg1 (.int 2) S = .ok (.fix [.int 0, .int 1]) S := rfl
theorem rg1_3 (S : Sto) : rg1 (.int 3) S = .ok (.fix [.int 0, .int 1, .int 2]) S := rfl
theorem opOf_q {w : Str} : (match opOf w with | some _ => true | none => false) = (Str.ofString "plus" == w || (Str.ofString "less" == w || Str.ofString "same" == w)) := by
  unfold opOf
  by_cases h1 : w = Str.ofString "plus"
  · subst h1; decide +kernel
  · by_cases h2 : w = Str.ofString "less"
    · subst h2; decide +kernel
    · by_cases h3 : w = Str.ofString "same"
      · subst h3; decide +kernel
      · rw [if_neg h1, if_neg h2, if_neg h3]
        have q1 : (Str.ofString "plus" == w) = false := beq_eq_false_iff_ne.mpr fun e => h1 e.symm
        have q2 : (Str.ofString "less" == w) = false := beq_eq_false_iff_ne.mpr fun e => h2 e.symm
        have q3 : (Str.ofString "same" == w) = false := beq_eq_false_iff_ne.mpr fun e => h3 e.symm
        rw [q1, q2, q3]
        rfl
theorem fig2_ok {w : Str} {i : Int} (h : figB 0 2 w = some i) : w.cps.size = 1 ∧ (∀ S, isinO S (.str w) (.str "012") = some true) ∧ ∀ S, bfO .int S [.str w] = some (.int i) := by
  have e := figB_some h
  have r := figB_range h
  have : i = 0 ∨ i = 1 ∨ i = 2 := by omega
  rcases this with rfl | rfl | rfl <;> subst e <;> exact ⟨by decide +kernel, fun S => rfl, fun S => int_str S (by decide +kernel) (by decide +kernel)⟩
theorem fig2_no {w : Str} (h : figB 0 2 w = none) : w.cps.size ≠ 1 ∨ (w.cps.size = 1 ∧ ∀ S, isinO S (.str w) (.str "012") = some false) := by
  by_cases h1 : w.cps.size = 1
  · refine .inr ⟨h1, fun S => ?_⟩
    obtain ⟨⟨l⟩⟩ := w
    match l, h1 with
    | [c], _ =>
      rw [show (⟨⟨[c]⟩⟩ : Str) = ⟨#[c]⟩ from rfl, in_sign]
      have e : ("012" : Str).cps.toList = [48, 49, 50] := by decide +kernel
      rw [e]
      refine congrArg some (decide_eq_false fun hc => ?_)
      have : c = 48 ∨ c = 49 ∨ c = 50 := by simpa using hc
      rcases this with rfl | rfl | rfl <;> revert h <;> decide +kernel
  · exact .inl h1
section
variable (C : List Cell) (fl : Nat) (hf : fl ≤ C.length)
include hf in
theorem c_pulled_term : ∀ (n k : Nat) (ws : List Str) (b : Bool), callF tab (k + n + 3) F_pulled_term [.ref C.length, .int n] (W ws b C fl) = .ok (parse n ws b).1.d (W (parse n ws b).2.1 (parse n ws b).2.2 C fl)
  | 0, k, ws, b => by
    rw [U_pulled_term]
    have e1 := fun k ws b => c_pull k ws b C fl hf
    have e2 := fun ws b => sW_bad ws b C fl hf true
    os_names B_pulled_term cW_pull M_Words_pull e1 e2 parse Tm.d
  | n + 1, k, ws, b => by
    rw [U_pulled_term]
    have e1 := fun k ws b => c_pull k ws b C fl hf
    have e2 := fun ws b => sW_bad ws b C fl hf true
    have e3 := fun k ws b => c_pull_name k ws b C fl hf
    have e4 := fun k ws b => c_pull_figure k ws b C fl hf
    have ih := c_pulled_term n k
    have n0 : (((n + 1 : Nat) : Int) == 0) = false := by rw [beq_eq_false_iff_ne]; omega
    have n1 : ((n + 1 : Nat) : Int) - 1 = n := by omega
    rw [show k + (n + 1) + 2 = k + n + 3 by omega]
    os_names B_pulled_term cW_pull M_Words_pull e1 n0 aW_bad
    unfold parse
    cases hb : (pull ws b).2.2 with
    | true => os_names hb e2 Tm.d
    | false =>
      os_names hb
      generalize (pull ws b).1 = w
      generalize (pull ws b).2.1 = ws
      have oq := opOf_q (w := w)
      cases ho : opOf w with
      | some o =>
        have hw := opOf_some ho
        have oq1 : (Str.ofString "plus" == w || (Str.ofString "less" == w || Str.ofString "same" == w)) = true := by rw [← oq, ho]
        have q1 : (w == Str.ofString "if") = false := by rw [hw]; cases o <;> decide +kernel
        os_names oq1 q1 rg1_2 n1 ih Tm.d
        rw [hw]
      | none =>
        have oq1 : (Str.ofString "plus" == w || (Str.ofString "less" == w || Str.ofString "same" == w)) = false := by rw [← oq, ho]
        clear oq
        by_cases c1 : w = Str.ofString "if"
        · subst c1
          os_names rg1_3 n1 ih Tm.d
        · have q1 : (w == Str.ofString "if") = false := beq_eq_false_iff_ne.mpr c1
          by_cases c2 : w = Str.ofString "call"
          · have r := pFig_range (lo := 0) (hi := 2) (by decide) (ws := (pName ws false).2.1) (b := (pName ws false).2.2)
            subst c2
            os_names p_call_if cW_name M_Words_pull_name cW_figure M_Words_pull_figure e3 e4
            generalize hm : pFig 0 2 (pName ws false).2.1 (pName ws false).2.2 = m at r ⊢
            obtain ⟨m, ws2, b2⟩ := m
            simp only at r ⊢
            have : m = 0 ∨ m = 1 ∨ m = 2 := by omega
            rcases this with rfl | rfl | rfl
            · os_names rg1_0 n1 ih Tm.d
            · os_names rg1_1 n1 ih Tm.d
            · os_names rg1_2 n1 ih Tm.d
          · have q2 : (w == Str.ofString "call") = false := beq_eq_false_iff_ne.mpr c2
            by_cases c3 : w = Str.ofString "arg"
            · subst c3
              os_names p_arg_if p_arg_call cW_figure M_Words_pull_figure e4 Tm.d
            · have q3 : (w == Str.ofString "arg") = false := beq_eq_false_iff_ne.mpr c3
              by_cases c4 : w = Str.ofString "cell"
              · subst c4
                os_names p_cell_if p_cell_call p_cell_arg cW_name M_Words_pull_name e3 Tm.d
              · have q4 : (w == Str.ofString "cell") = false := beq_eq_false_iff_ne.mpr c4
                by_cases c5 : w = Str.ofString "tick"
                · subst c5
                  os_names p_tick_if p_tick_call p_tick_arg p_tick_cell Tm.d
                · have q5 : (w == Str.ofString "tick") = false := beq_eq_false_iff_ne.mpr c5
                  cases hg : figB 0 2 w with
                  | some i =>
                    obtain ⟨g1, g2, g3⟩ := fig2_ok hg
                    os_names oq1 q1 q2 q3 q4 q5 c1 c2 c3 c4 c5 Tm.d g1 g2 g3
                  | none =>
                    rcases fig2_no hg with g1 | ⟨g1, g2⟩
                    · have g3 : ((w.cps.size : Int) == 1) = false := by
                        rw [beq_eq_false_iff_ne]; omega
                      os_names oq1 q1 q2 q3 q4 q5 c1 c2 c3 c4 c5 Tm.d g3 e2
                    · os_names oq1 q1 q2 q3 q4 q5 c1 c2 c3 c4 c5 Tm.d g1 g2 e2
end
end K79
namespace K79
open PySem Mi Mi.Q Ta
local macro_rules | `(tactic| os_names $xs:ident*) => `(tactic| simp only [e_var, e_cst, e_glb, e_tup, e_lst, e_dic, e_bin, e_neg, e_nott, e_and, e_or, e_ife, e_cmp, e_chn, e_att, e_idx, e_slc, e_rev, e_isi, e_bf, e_bm, e_call, e_mk, e_mth, e_lc, e_lc2, e_frz,
  t_nott, t_and, t_or, t_ife, t_var, t_cst, t_glb, t_bin, t_cmp, t_chn, t_att, t_idx, t_isi, t_bf, t_bm, t_call, t_mth, tru_bl, tru_int, e_nil, e_cons, e_star, starK_lst, starK_tup, e_no, e_yes, evOK_int, c_no, c_yes, i_of, i_range1, i_range2, i_enum, enK_lst,
  s_nil, s_cons, s_set, s_par, s_unp, unpK_some, s_attS, s_idxS, stoK_some, s_aug, augK_some, augV_int, augE_some, s_exp, s_ret, s_retN, s_iff, s_forr, s_whil, s_brk, s_cnt, s_pass, s_rais, raisK_some, s_tryy, tryK_rt, tryK_nx, tryK_ex,
  bind_ok, bind_ex, then_ok, then_ex, seq_nx, seq_rt, seq_bk, seq_ct, seq_ex, of_some, endF_rt, endF_nx, endF_ex, leaveR_ok, leaveR_ex, noEx_ok,
  lk_some, mkT0, mkT1, mkT2, mkT3, mkT4, mkT5, mkT6, frs_false, mkL0, mkL1, mkL2, mkL3, mkL4, mkL5, mkL6, mkL7, mkL8, mkL10, mkL14, negK_int, notK_bl, andK_bl, orK_bl, and_ok, or_ok, and_okB, or_okB,
  g0, g1, g2, g3, g4, g5, g6, g7, g8, g9, g10, g11, g12, g13, g14, g15, s0, s1, s2, s3, s4, s5, s6, s7, s8, s9, s10, s11, s12, s13, s14, s15,
  eq_ints, eq_strs, eq_bls, eq_cn, eq_nn, isTs_nil, isTs_cons, orT_true, orT_false, isT_int, isT_bl, isT_str, isT_non, isT_tup, isT_lst, isT_dct, tyB, cmp_eq, cmp_ne, cmp_lt, cmp_le, cmp_gt, cmp_ge, cmp_in, cmp_notin, cmp_is, cmp_isnot, nn_non, nn_int, nn_str, nn_tup, nn_lst, nn_bl, nn_dct, nn_ins, nn_ref,
  len_lst, len_tup, len_str, len_dct, len_scr, list_lst, list_tup, tuple_lst, tuple_tup, int_int, int_bl, str_str, abs_int, min_ints, max_ints, iter_lst, iter_tup, iter_str, fresh_false, add_ints, sub_ints, ix_t0, ix_t1, ix_t2, ix_t3, ix_l0, ix_l1, ix_l2, ix_l3, ix_d, sl_t1,
  q_tick_arg, q_tick_cell, q_tick_call, q_tick_plus, q_tick_less, q_tick_same, q_tick_if, q_arg_tick, q_arg_cell, q_arg_call, q_arg_plus, q_arg_less, q_arg_same, q_arg_if, q_cell_tick, q_cell_arg, q_cell_call, q_cell_plus, q_cell_less, q_cell_same, q_cell_if, q_call_tick, q_call_arg, q_call_cell, q_call_plus, q_call_less, q_call_same, q_call_if, q_plus_tick, q_plus_arg, q_plus_cell, q_plus_call, q_plus_less, q_plus_same, q_plus_if, q_less_tick, q_less_arg, q_less_cell, q_less_call, q_less_plus, q_less_same, q_less_if, q_same_tick, q_same_arg, q_same_cell, q_same_call, q_same_plus, q_same_less, q_same_if, q_if_tick, q_if_arg, q_if_cell, q_if_call, q_if_plus, q_if_less, q_if_same, beq_self_eq_true, Bool.and_true, Bool.true_and, Bool.and_false, Bool.false_and, Bool.or_true, Bool.true_or, Bool.or_false, Bool.false_or, List.length_cons, List.length_nil, Nat.zero_add, Nat.reduceAdd, lci0, lcj0, fri0, acc0, any0, all0, lci1, lcj1, fri1, acc1, any1, all1, lci2, lcj2, fri2, acc2, any2, all2, lci3, lcj3, fri3, acc3, any3, all3, lci4, lcj4, fri4, acc4, any4, all4, lci5, lcj5, fri5, acc5, any5, all5, lcT, lcT2, lcU, forT1, List.length_map, seq_ite, then_ite, bind_ite, endF_ite, nc0, nc1, nc2, nc3, nc4, nc5, nc6, nc7, nc8, nc9, nc10, nc11, nc12, nc13, nc14, nc15, nc16, nc17, nc18, nc19, nc20, nc21, nc22, nc23, nc24, nc25, nc26, nc27, nc28, nc29, nc30, in_ts1, in_ts2, in_ts3, in_ts4, in_ti1, in_ti2, in_ti3, in_ti4, in_ls1, in_ls2, in_ls3, in_ls4, in_li1, in_li2, in_li3, in_li4, in_sign, bindT, wipeL, Tg.slots, List.cons_append, List.append_nil, List.nil_append, setN, Int.reduceBEq, Int.reduceLE, Int.reduceLT, decide_true, decide_false, Int.reduceSub, Int.reduceAdd, Int.reduceEq, Int.reduceBNe, bne_self_eq_false,
  lcK_nil, lcK_cons, lcL_nil, lcL_cons, accK_none, forL_nil, forL_cons, goK_nx, goK_ct, goK_bk, goK_rt, goK_ex, Option.map_some, Option.map_none, Option.bind_some, Option.bind_none, if_true, if_false, Bool.false_eq_true, Bool.true_eq_false, reduceCtorEq, Bool.not_false, Bool.not_true, $[$xs:ident],*])
def BADV : D := .lst [.str "bad", .int 0]
def readM (ws : List Str) (n : Int) : Option Tm := if (!(parse 8 ws false).2.2 && (parse 8 ws false).2.1.isEmpty && isTermB n (parse 8 ws false).1) = true then some (parse 8 ws false).1 else none
def optD : Option Tm → D
  | some t => t.d
  | none => .non
theorem d_lt (n : Nat) (t : Tm) : t.d.lt n = true := by
  induction t <;> simp_all [Tm.d, D.lt, D.ltL]
theorem mk_Words (cl : Nat → List D → Sto → R D) (ds : List D) (S : Sto) : make tab cl C_Words ds S = (cl F_Words___init__ (.ref S.c.length :: ds) ⟨.ins C_Words [] :: S.c, S.fl⟩).bind fun r S' => if r.isNon then .ok (.ref S.c.length) S' else .bad := rfl
theorem c_done (k : Nat) (ws : List Str) (b : Bool) (C : List Cell) (fl : Nat) : callF tab (k + 1) F_Words_is_done [.ref C.length] (W ws b C fl) = .ok (.bl (!b && ws.isEmpty)) (W ws b C fl) := by
  rw [U_Words_is_done]
  cases ws with
  | nil => cases b <;> os_names B_Words_is_done aW_bad aW_left eW_nil List.isEmpty_nil
  | cons w ws => cases b <;> os_names B_Words_is_done aW_bad aW_left eW_cons List.isEmpty_cons
theorem lv_W (ws : List Str) (b : Bool) (C : List Cell) (fl : Nat) (d : D) (h : d.lt C.length = true) : leave C.length fl d (W ws b C C.length) = .ok d ⟨C, fl⟩ := by
  unfold leave
  rw [h]
  show R.ok d ⟨List.drop (C.length + 1 + 1 - C.length) (_ :: _ :: C), fl⟩ = _
  rw [show C.length + 1 + 1 - C.length = 2 by omega]
  rfl
theorem c_term_in (k : Nat) (ws : List Str) (n : Int) (S : Sto) : callF tab (k + 12) F_term_in [.lst (ws.map .str), .int n] S = .ok (optD (readM ws n)) S := by
  rw [U_term_in]
  have e1 := c_init (k + 10) ws S.c S.c.length (Nat.le_refl _) (0, .non)
  have e2 := c_pulled_term S.c S.c.length (Nat.le_refl _) 8 k ws false
  rw [show ((8 : Nat) : Int) = 8 from rfl] at e2
  have e3 := fun ws b => c_done (k + 10) ws b S.c S.c.length
  have e4 := fun t S => c_is_term (k + 6) t n S
  have lv := fun ws b d h => lv_W ws b S.c S.fl d h
  os_names B_term_in mk_Words e1 e2 e3 cW_done M_Words_is_done e4
  unfold readM
  cases h1 : (!(parse 8 ws false).2.2 && (parse 8 ws false).2.1.isEmpty) with
  | false =>
    os_names optD
    exact lv _ _ _ rfl
  | true =>
    cases h2 : isTermB n (parse 8 ws false).1 with
    | false =>
      os_names h2 optD
      exact lv _ _ _ rfl
    | true => os_names h2 lv d_lt optD
theorem c_read_term (k : Nat) (x : Str) (n : Int) (S : Sto) (hx : x.length + 2 ≤ LL) : callF tab (k + 13) F_read_term [.str x, .int n] S = match readM (Txt.split x " ") n with
    | some t => .ok t.d S
    | none => .ex C_BadText [(A_index, .int 0)] S := by
  rw [U_read_term]
  have e1 : bmO .split S (.str x) [.str (Str.ofString " ")] = some (.lst ((Txt.split x " ").map .str)) := if_pos ⟨by decide +kernel, by decide +kernel, hx⟩
  have e2 := c_term_in k (Txt.split x " ") n S
  have e3 : excOf tab C_BadText [.int 0] = some [(A_index, .int 0)] := rfl
  os_names B_read_term hasM_split bmA_split e1 e2
  cases readM (Txt.split x " ") n with
  | none => os_names optD e3
  | some t =>
    have : t.d.isNon = false := by cases t <;> rfl
    os_names optD this
theorem hBad (x n : D) (S : Sto) : handle tab C_BadText [(A_index, .int 0)] (.cons C_BadText (some 2) (.ret (.lst (.cons (.cst (.str "bad")) (.cons (.att 2 A_index) .nil)))) .nil) [some x, some n, none] S = .rt BADV S := rfl
theorem xBad : excT tab C_BadText = true := rfl
def rdD : Option Tm → D
  | some t => t.d
  | none => BADV
theorem c_law_read (k : Nat) (x : Str) (n : Int) (S : Sto) (hx : x.length + 2 ≤ LL) : callF tab (k + 14) F_law_read [.str x, .int n] S = .ok (rdD (readM (Txt.split x " ") n)) S := by
  rw [U_law_read]
  have e1 := c_read_term k x n S hx
  cases h : readM (Txt.split x " ") n with
  | none =>
    rw [h] at e1
    os_names B_law_read e1 hBad xBad rdD
  | some t =>
    rw [h] at e1
    os_names B_law_read e1 rdD
theorem c_read_odd (k : Nat) (x : D) (n : Int) (S : Sto) (hx : ∀ S, isT tab S x .str = some false) : callF tab (k + 13) F_read_term [x, .int n] S = .ex C_BadText [(A_index, .int 0)] S := by
  rw [U_read_term]
  have e3 : excOf tab C_BadText [.int 0] = some [(A_index, .int 0)] := rfl
  os_names B_read_term hx e3
theorem c_law_read_odd (k : Nat) (x : D) (n : Int) (S : Sto) (hx : ∀ S, isT tab S x .str = some false) : callF tab (k + 14) F_law_read [x, .int n] S = .ok BADV S := by
  rw [U_law_read]
  have e1 := c_read_odd k x n S hx
  os_names B_law_read e1 hBad xBad
end K79
namespace K79
open PySem Mi Mi.Q Ta
local macro_rules | `(tactic| os_names $xs:ident*) => `(tactic| simp only [e_var, e_cst, e_glb, e_tup, e_lst, e_dic, e_bin, e_neg, e_nott, e_and, e_or, e_ife, e_cmp, e_chn, e_att, e_idx, e_slc, e_rev, e_isi, e_bf, e_bm, e_call, e_mk, e_mth, e_lc, e_lc2, e_frz,
  t_nott, t_and, t_or, t_ife, t_var, t_cst, t_glb, t_bin, t_cmp, t_chn, t_att, t_idx, t_isi, t_bf, t_bm, t_call, t_mth, tru_bl, tru_int, e_nil, e_cons, e_star, starK_lst, starK_tup, e_no, e_yes, evOK_int, c_no, c_yes, i_of, i_range1, i_range2, i_enum, enK_lst,
  s_nil, s_cons, s_set, s_par, s_unp, unpK_some, s_attS, s_idxS, stoK_some, s_aug, augK_some, augV_int, augE_some, s_exp, s_ret, s_retN, s_iff, s_forr, s_whil, s_brk, s_cnt, s_pass, s_rais, raisK_some, s_tryy, tryK_rt, tryK_nx, tryK_ex,
  bind_ok, bind_ex, then_ok, then_ex, seq_nx, seq_rt, seq_bk, seq_ct, seq_ex, of_some, endF_rt, endF_nx, endF_ex, leaveR_ok, leaveR_ex, noEx_ok,
  lk_some, mkT0, mkT1, mkT2, mkT3, mkT4, mkT5, mkT6, frs_false, mkL0, mkL1, mkL2, mkL3, mkL4, mkL5, mkL6, mkL7, mkL8, mkL10, mkL14, negK_int, notK_bl, andK_bl, orK_bl, and_ok, or_ok, and_okB, or_okB,
  g0, g1, g2, g3, g4, g5, g6, g7, g8, g9, g10, g11, g12, g13, g14, g15, s0, s1, s2, s3, s4, s5, s6, s7, s8, s9, s10, s11, s12, s13, s14, s15,
  eq_ints, eq_strs, eq_bls, eq_cn, eq_nn, isTs_nil, isTs_cons, orT_true, orT_false, isT_int, isT_bl, isT_str, isT_non, isT_tup, isT_lst, isT_dct, tyB, cmp_eq, cmp_ne, cmp_lt, cmp_le, cmp_gt, cmp_ge, cmp_in, cmp_notin, cmp_is, cmp_isnot, nn_non, nn_int, nn_str, nn_tup, nn_lst, nn_bl, nn_dct, nn_ins, nn_ref,
  len_lst, len_tup, len_str, len_dct, len_scr, list_lst, list_tup, tuple_lst, tuple_tup, int_int, int_bl, str_str, abs_int, min_ints, max_ints, iter_lst, iter_tup, iter_str, fresh_false, add_ints, sub_ints, ix_t0, ix_t1, ix_t2, ix_t3, ix_l0, ix_l1, ix_l2, ix_l3, ix_d, sl_t1,
  q_tick_arg, q_tick_cell, q_tick_call, q_tick_plus, q_tick_less, q_tick_same, q_tick_if, q_arg_tick, q_arg_cell, q_arg_call, q_arg_plus, q_arg_less, q_arg_same, q_arg_if, q_cell_tick, q_cell_arg, q_cell_call, q_cell_plus, q_cell_less, q_cell_same, q_cell_if, q_call_tick, q_call_arg, q_call_cell, q_call_plus, q_call_less, q_call_same, q_call_if, q_plus_tick, q_plus_arg, q_plus_cell, q_plus_call, q_plus_less, q_plus_same, q_plus_if, q_less_tick, q_less_arg, q_less_cell, q_less_call, q_less_plus, q_less_same, q_less_if, q_same_tick, q_same_arg, q_same_cell, q_same_call, q_same_plus, q_same_less, q_same_if, q_if_tick, q_if_arg, q_if_cell, q_if_call, q_if_plus, q_if_less, q_if_same, beq_self_eq_true, Bool.and_true, Bool.true_and, Bool.and_false, Bool.false_and, Bool.or_true, Bool.true_or, Bool.or_false, Bool.false_or, List.length_cons, List.length_nil, Nat.zero_add, Nat.reduceAdd, lci0, lcj0, fri0, acc0, any0, all0, lci1, lcj1, fri1, acc1, any1, all1, lci2, lcj2, fri2, acc2, any2, all2, lci3, lcj3, fri3, acc3, any3, all3, lci4, lcj4, fri4, acc4, any4, all4, lci5, lcj5, fri5, acc5, any5, all5, lcT, lcT2, lcU, forT1, List.length_map, seq_ite, then_ite, bind_ite, endF_ite, nc0, nc1, nc2, nc3, nc4, nc5, nc6, nc7, nc8, nc9, nc10, nc11, nc12, nc13, nc14, nc15, nc16, nc17, nc18, nc19, nc20, nc21, nc22, nc23, nc24, nc25, nc26, nc27, nc28, nc29, nc30, in_ts1, in_ts2, in_ts3, in_ts4, in_ti1, in_ti2, in_ti3, in_ti4, in_ls1, in_ls2, in_ls3, in_ls4, in_li1, in_li2, in_li3, in_li4, in_sign, bindT, wipeL, Tg.slots, List.cons_append, List.append_nil, List.nil_append, setN, Int.reduceBEq, Int.reduceLE, Int.reduceLT, decide_true, decide_false, Int.reduceSub, Int.reduceAdd, Int.reduceEq, Int.reduceBNe, bne_self_eq_false,
  lcK_nil, lcK_cons, lcL_nil, lcL_cons, accK_none, forL_nil, forL_cons, goK_nx, goK_ct, goK_bk, goK_rt, goK_ex, Option.map_some, Option.map_none, Option.bind_some, Option.bind_none, if_true, if_false, Bool.false_eq_true, Bool.true_eq_false, reduceCtorEq, Bool.not_false, Bool.not_true, $[$xs:ident],*])
/-! ### draws -/
/-- the pool at its place -/
def Po (S : Sto) (pl : Nat) (a b : Int) : Sto := putS S pl (.lst [.int a, .int b])
section
variable (S : Sto) (pl : Nat) (hp : (getc S.c pl).isSome = true) (a b : Int)
theorem po_po (x y : Int) : putS (Po S pl a b) pl (.lst [.int x, .int y]) = Po S pl x y := by
  show (⟨setc (setc S.c pl _) pl _, S.fl⟩ : Sto) = _
  rw [setc_setc]
  rfl
include hp in
theorem gPo : getc (Po S pl a b).c pl = some (.lst [.int a, .int b]) := by
  obtain ⟨x, hx⟩ := Option.isSome_iff_exists.mp hp
  exact getc_same hx
include hp in
theorem dPo : deref (Po S pl a b) (.ref pl) = some (.lst [.int a, .int b]) := by
  unfold deref
  simp only [gPo S pl hp]
  rfl
include hp in
theorem ixPo0 : idxO (Po S pl a b) (.ref pl) (.int 0) = some (.int a) := by
  unfold idxO
  rw [dPo S pl hp]
  exact ix_l0 S _ _
include hp in
theorem ixPo1 : idxO (Po S pl a b) (.ref pl) (.int 1) = some (.int b) := by
  unfold idxO
  rw [dPo S pl hp]
  exact ix_l1 S _ _ _
include hp in
theorem sPo0 (x : Int) : idxS (Po S pl a b) (.ref pl) (.int 0) (.int x) = some (Po S pl x b) := by
  unfold idxS
  simp only [gPo S pl hp]
  have w : wOk (Po S pl a b) pl (.int x) = true := by unfold wOk; rw [lt_int, Bool.or_true]
  show (if wOk (Po S pl a b) pl (.int x) = true then (L2.ixN 2 0).map _ else none) = _
  rw [w, if_pos rfl, show L2.ixN 2 0 = some 0 by decide]
  exact congrArg some (po_po S pl a b x b)
include hp in
theorem sPo1 (x : Int) : idxS (Po S pl a b) (.ref pl) (.int 1) (.int x) = some (Po S pl a x) := by
  unfold idxS
  simp only [gPo S pl hp]
  have w : wOk (Po S pl a b) pl (.int x) = true := by unfold wOk; rw [lt_int, Bool.or_true]
  show (if wOk (Po S pl a b) pl (.int x) = true then (L2.ixN 2 1).map _ else none) = _
  rw [w, if_pos rfl, show L2.ixN 2 1 = some 1 by decide]
  exact congrArg some (po_po S pl a b a x)
include hp in
theorem c_draw (m : Int) (h0 : 0 < m) (h1 : m < 1073741824) : ∃ v a' b', 0 ≤ v ∧ v < m ∧ ∀ k, callF tab (k + 1) F_law_draw [.ref pl, .int m] (Po S pl a b) = .ok (.int v) (Po S pl a' b') := by
  have e1 := ixPo0 S pl hp
  have e2 := ixPo1 S pl hp
  have e3 := sPo0 S pl hp
  have e4 := sPo1 S pl hp
  by_cases c : 0 < a
  · refine ⟨a % m, a / m, b, Int.emod_nonneg _ (by omega), Int.emod_lt_of_pos _ h0, fun k => ?_⟩
    rw [U_law_draw]
    have f1 := mod_ints a h0
    have f2 := div_ints a h0 h1
    have c' : decide (0 < a) = true := decide_eq_true c
    os_names B_law_draw e1 e3 f1 f2 c'
  · refine ⟨(b * 48271 + 11) % 2147483647 * ((b * 48271 + 11) % 2147483647) % 2147483629 / 16 % m, a, (b * 48271 + 11) % 2147483647, Int.emod_nonneg _ (by omega), Int.emod_lt_of_pos _ h0, fun k => ?_⟩
    rw [U_law_draw]
    have c' : decide (0 < a) = false := decide_eq_false c
    have f1 := mul_r b (j := 48271) (by decide)
    have f2 := fun x : Int => mod_ints x (j := 2147483647) (by decide)
    have g0 := Int.emod_nonneg (b * 48271 + 11) (b := 2147483647) (by decide)
    have g1 := Int.emod_lt_of_pos (b * 48271 + 11) (b := 2147483647) (by decide)
    generalize hx : (b * 48271 + 11) % 2147483647 = x at *
    have f3 := mul_l (i := x) x (by
      unfold small
      simp only [Bool.and_eq_true, decide_eq_true_eq]
      have : (2 : Int) ^ 64 = 18446744073709551616 := by decide
      omega)
    have f4 := fun x : Int => mod_ints x (j := 2147483629) (by decide)
    have f5 := fun x : Int => div_ints x (j := 16) (by decide) (by decide)
    have f6 := fun x : Int => mod_ints x h0
    os_names B_law_draw e1 e2 e4 f1 f2 f3 f4 f5 f6 c' hx
include hp in
theorem c_pick (l : List D) (h0 : l ≠ []) (h1 : l.length < 1073741824) : ∃ x a' b', x ∈ l ∧ ∀ k, callF tab (k + 2) F_law_pick [.ref pl, .lst l] (Po S pl a b) = .ok x (Po S pl a' b') := by
  have hl : 0 < l.length := List.length_pos_iff.mpr h0
  obtain ⟨v, a', b', v0, v1, e⟩ := c_draw S pl hp a b l.length (by omega) (by omega)
  have hv : v.toNat < l.length := by omega
  refine ⟨l[v.toNat], a', b', List.getElem_mem hv, fun k => ?_⟩
  rw [U_law_pick]
  have e2 := ix_l (Po S pl a' b') (l := l) (i := v) (j := v.toNat) (x := l[v.toNat]) (by omega) (List.getElem?_eq_getElem hv)
  os_names B_law_pick e e2
end
end K79
namespace K79
open PySem Mi Mi.Q Ta
local macro_rules | `(tactic| os_names $xs:ident*) => `(tactic| simp only [e_var, e_cst, e_glb, e_tup, e_lst, e_dic, e_bin, e_neg, e_nott, e_and, e_or, e_ife, e_cmp, e_chn, e_att, e_idx, e_slc, e_rev, e_isi, e_bf, e_bm, e_call, e_mk, e_mth, e_lc, e_lc2, e_frz,
  t_nott, t_and, t_or, t_ife, t_var, t_cst, t_glb, t_bin, t_cmp, t_chn, t_att, t_idx, t_isi, t_bf, t_bm, t_call, t_mth, tru_bl, tru_int, e_nil, e_cons, e_star, starK_lst, starK_tup, e_no, e_yes, evOK_int, c_no, c_yes, i_of, i_range1, i_range2, i_enum, enK_lst,
  s_nil, s_cons, s_set, s_par, s_unp, unpK_some, s_attS, s_idxS, stoK_some, s_aug, augK_some, augV_int, augE_some, s_exp, s_ret, s_retN, s_iff, s_forr, s_whil, s_brk, s_cnt, s_pass, s_rais, raisK_some, s_tryy, tryK_rt, tryK_nx, tryK_ex,
  bind_ok, bind_ex, then_ok, then_ex, seq_nx, seq_rt, seq_bk, seq_ct, seq_ex, of_some, endF_rt, endF_nx, endF_ex, leaveR_ok, leaveR_ex, noEx_ok,
  lk_some, mkT0, mkT1, mkT2, mkT3, mkT4, mkT5, mkT6, frs_false, mkL0, mkL1, mkL2, mkL3, mkL4, mkL5, mkL6, mkL7, mkL8, mkL10, mkL14, negK_int, notK_bl, andK_bl, orK_bl, and_ok, or_ok, and_okB, or_okB,
  g0, g1, g2, g3, g4, g5, g6, g7, g8, g9, g10, g11, g12, g13, g14, g15, s0, s1, s2, s3, s4, s5, s6, s7, s8, s9, s10, s11, s12, s13, s14, s15,
  eq_ints, eq_strs, eq_bls, eq_cn, eq_nn, isTs_nil, isTs_cons, orT_true, orT_false, isT_int, isT_bl, isT_str, isT_non, isT_tup, isT_lst, isT_dct, tyB, cmp_eq, cmp_ne, cmp_lt, cmp_le, cmp_gt, cmp_ge, cmp_in, cmp_notin, cmp_is, cmp_isnot, nn_non, nn_int, nn_str, nn_tup, nn_lst, nn_bl, nn_dct, nn_ins, nn_ref,
  len_lst, len_tup, len_str, len_dct, len_scr, list_lst, list_tup, tuple_lst, tuple_tup, int_int, int_bl, str_str, abs_int, min_ints, max_ints, iter_lst, iter_tup, iter_str, fresh_false, add_ints, sub_ints, ix_t0, ix_t1, ix_t2, ix_t3, ix_l0, ix_l1, ix_l2, ix_l3, ix_d, sl_t1,
  q_tick_arg, q_tick_cell, q_tick_call, q_tick_plus, q_tick_less, q_tick_same, q_tick_if, q_arg_tick, q_arg_cell, q_arg_call, q_arg_plus, q_arg_less, q_arg_same, q_arg_if, q_cell_tick, q_cell_arg, q_cell_call, q_cell_plus, q_cell_less, q_cell_same, q_cell_if, q_call_tick, q_call_arg, q_call_cell, q_call_plus, q_call_less, q_call_same, q_call_if, q_plus_tick, q_plus_arg, q_plus_cell, q_plus_call, q_plus_less, q_plus_same, q_plus_if, q_less_tick, q_less_arg, q_less_cell, q_less_call, q_less_plus, q_less_same, q_less_if, q_same_tick, q_same_arg, q_same_cell, q_same_call, q_same_plus, q_same_less, q_same_if, q_if_tick, q_if_arg, q_if_cell, q_if_call, q_if_plus, q_if_less, q_if_same, beq_self_eq_true, Bool.and_true, Bool.true_and, Bool.and_false, Bool.false_and, Bool.or_true, Bool.true_or, Bool.or_false, Bool.false_or, List.length_cons, List.length_nil, Nat.zero_add, Nat.reduceAdd, lci0, lcj0, fri0, acc0, any0, all0, lci1, lcj1, fri1, acc1, any1, all1, lci2, lcj2, fri2, acc2, any2, all2, lci3, lcj3, fri3, acc3, any3, all3, lci4, lcj4, fri4, acc4, any4, all4, lci5, lcj5, fri5, acc5, any5, all5, lcT, lcT2, lcU, forT1, List.length_map, seq_ite, then_ite, bind_ite, endF_ite, nc0, nc1, nc2, nc3, nc4, nc5, nc6, nc7, nc8, nc9, nc10, nc11, nc12, nc13, nc14, nc15, nc16, nc17, nc18, nc19, nc20, nc21, nc22, nc23, nc24, nc25, nc26, nc27, nc28, nc29, nc30, in_ts1, in_ts2, in_ts3, in_ts4, in_ti1, in_ti2, in_ti3, in_ti4, in_ls1, in_ls2, in_ls3, in_ls4, in_li1, in_li2, in_li3, in_li4, in_sign, bindT, wipeL, Tg.slots, List.cons_append, List.append_nil, List.nil_append, setN, Int.reduceBEq, Int.reduceLE, Int.reduceLT, decide_true, decide_false, Int.reduceSub, Int.reduceAdd, Int.reduceEq, Int.reduceBNe, bne_self_eq_false,
  lcK_nil, lcK_cons, lcL_nil, lcL_cons, accK_none, forL_nil, forL_cons, goK_nx, goK_ct, goK_bk, goK_rt, goK_ex, Option.map_some, Option.map_none, Option.bind_some, Option.bind_none, if_true, if_false, Bool.false_eq_true, Bool.true_eq_false, reduceCtorEq, Bool.not_false, Bool.not_true, $[$xs:ident],*])
theorem intsO_map (l : List Int) : intsO (l.map .int) = some l := by
  induction l with
  | nil => rfl
  | cons x l ih => simp only [List.map_cons, intsO, ih]; rfl
theorem sum_lst (S : Sto) (l : List Int) : bfO .sum S [.lst (l.map .int)] = some (.int l.sum) := by
  show (intsO (l.map D.int)).map _ = _
  rw [intsO_map] <;> rfl
theorem sl_scr (S : Sto) (l : List Int) (a b : Option Int) : slcO S (.scr l) a b = some (.lst ((cut l a b).map .int)) := by
  show some (D.lst (cut (l.map D.int) a b)) = _
  unfold cut
  rw [List.length_map, List.map_take, List.map_drop]
theorem ix_scr (S : Sto) (l : List Int) (i : Int) (h0 : 0 ≤ i) (h1 : i < l.length) : idxO S (.scr l) (.int i) = some (.int (l[i.toNat]'(by omega))) := by
  show (L2.ixN (l.map D.int).length i).bind _ = _
  rw [List.length_map, show L2.ixN l.length i = some i.toNat by unfold L2.ixN; rw [if_pos h0, if_pos h1]]
  show (l.map D.int)[i.toNat]? = _
  rw [List.getElem?_map, List.getElem?_eq_getElem (by omega)]
  rfl
theorem pow1018 : binO .pow (.int 10) (.int 18) = some (.int 1000000000000000000) := by
  show (if 0 ≤ (18 : Int) ∧ (18 : Int) ≤ 1000000 ∧ (10 : Int).natAbs < 2 ^ 64 then some (D.int ((10 : Int) ^ (18 : Int).toNat)) else none) = _
  rw [if_pos (by decide)]
  rfl
theorem small_of {i : Int} (h0 : 0 ≤ i) (h1 : i < 9000000000000000000) : small i = true := by
  unfold small
  simp only [Bool.and_eq_true, decide_eq_true_eq]
  have : (2 : Int) ^ 64 = 18446744073709551616 := by decide
  omega
theorem c_pool (k : Nat) (ns : List Int) (i : Int) (S : Sto) (h0 : 0 ≤ i) (h1 : i < 1000) : ∃ a b : Int, callF tab (k + 1) F_law_pool [.scr ns, .int i] S = .ok (.ref S.c.length) ⟨.lst [.int a, .int b] :: S.c, S.fl⟩ := by
  rw [U_law_pool]
  have f1 := fun x : Int => mod_ints x (j := 2147483629) (by decide)
  have f2 := fun x : Int => mul_r x (j := i) (small_of h0 (by omega))
  have f3 := fun x : Int => mul_l (i := 7) x (by decide)
  have f4 := fun x : Int => mul_r x (j := 48271) (by decide)
  have f5 := fun x : Int => mod_ints x (j := 2147483647) (by decide)
  have f6 := fun (x : Int) (b : Bool) => mul_r x (j := if b = true then 1 else 0) (by cases b <;> decide)
  have f7 : ∀ x : Int, binO .mul (.int (x % 2147483647)) (.int (x % 2147483647)) = some (.int (x % 2147483647 * (x % 2147483647))) := fun x => mul_r _ (small_of (Int.emod_nonneg x (by decide)) (by have := Int.emod_lt_of_pos x (b := 2147483647) (by decide); omega))
  have fr : ∀ (S : Sto) (x y : D), frs true S [x, y] = .ok (.ref S.c.length) ⟨.lst [x, y] :: S.c, S.fl⟩ := fun S x y => if_pos (show 2 ≤ LL by decide)
  by_cases c : i < ns.length
  · have c' : decide (i < (ns.length : Int)) = true := decide_eq_true c
    have e := ix_scr S ns i h0 c
    os_names B_law_pool c' e f1 f2 f3 f4 f5 f6 f7 pow1018 fr
    exact ⟨_, _, rfl⟩
  · have c' : decide (i < (ns.length : Int)) = false := decide_eq_false c
    os_names B_law_pool c' sl_scr sum_lst f1 f2 f3 f4 f5 f6 f7 pow1018 fr
    exact ⟨_, _, rfl⟩
/-! ### names -/
def sign (o s : Int) (k : Nat) : Nat := 97 + ((o + s * (k : Int)) % 26).toNat
def nameAt (h t : Str) (o s : Int) (k : Nat) : Str := h ++ ⟨#[sign o s k]⟩ ++ t
def isEnd (h t : Str) : Bool := decide (h.cps.size + t.cps.size ≤ 7) && h.cps.toList.all (fun c => decide (97 ≤ c) && decide (c ≤ 122)) && t.cps.toList.all (fun c => decide (97 ≤ c) && decide (c ≤ 122))
theorem sign_le (o s : Int) (k : Nat) : 97 ≤ sign o s k ∧ sign o s k ≤ 122 := by
  unfold sign
  have h0 := Int.emod_nonneg (o + s * (k : Int)) (b := 26) (by decide)
  have h1 := Int.emod_lt_of_pos (o + s * (k : Int)) (b := 26) (by decide)
  omega
theorem name_size (h t : Str) (o s : Int) (k : Nat) : (nameAt h t o s k).cps.size = h.cps.size + 1 + t.cps.size := by
  show (h.cps ++ #[sign o s k] ++ t.cps).size = _
  rw [Array.size_append, Array.size_append]
  rfl
theorem name_list (h t : Str) (o s : Int) (k : Nat) : (nameAt h t o s k).cps.toList = h.cps.toList ++ (sign o s k :: t.cps.toList) := by
  show (h.cps ++ #[sign o s k] ++ t.cps).toList = _
  simp
theorem name_ok {h t : Str} (e : isEnd h t = true) (o s : Int) (k : Nat) : isName (nameAt h t o s k) = true := by
  unfold isEnd at e
  simp only [Bool.and_eq_true, decide_eq_true_eq] at e
  unfold isName
  rw [name_size, name_list]
  have := sign_le o s k
  simp only [Bool.and_eq_true, decide_eq_true_eq, List.all_append, List.all_cons]
  refine ⟨⟨by omega, by omega⟩, e.1.2, this, e.2⟩
theorem sg (j : Nat) (h : j < 26) : (("abcdefghijklmnopqrstuvwxyz" : Str).cps.toList)[j]? = some (97 + j) := by
  have e : ("abcdefghijklmnopqrstuvwxyz" : Str).cps.toList = [97,98,99,100,101,102,103,104,105,106,107,108,109,110,111,112,113,114,115,116,117,118,119,120,121,122] := by decide +kernel
  rw [e]
  have : j = 0 ∨ j = 1 ∨ j = 2 ∨ j = 3 ∨ j = 4 ∨ j = 5 ∨ j = 6 ∨ j = 7 ∨ j = 8 ∨ j = 9 ∨ j = 10 ∨ j = 11 ∨ j = 12 ∨ j = 13 ∨ j = 14 ∨ j = 15 ∨ j = 16 ∨ j = 17 ∨ j = 18 ∨ j = 19 ∨ j = 20 ∨ j = 21 ∨ j = 22 ∨ j = 23 ∨ j = 24 ∨ j = 25 := by omega
  rcases this with rfl | rfl | rfl | rfl | rfl | rfl | rfl | rfl | rfl | rfl | rfl | rfl | rfl | rfl | rfl | rfl | rfl | rfl | rfl | rfl | rfl | rfl | rfl | rfl | rfl | rfl <;> rfl
theorem c_names (S : Sto) (pl : Nat) (hp : (getc S.c pl).isSome = true) (a b : Int) (n : Nat) (hn : n ≤ 26) : ∃ h t o s a' b', isEnd h t = true ∧ (s = 1 ∨ s = 3 ∨ s = 5 ∨ s = 7 ∨ s = 9 ∨ s = 11) ∧ 0 ≤ o ∧
    ∀ k, callF tab (k + 3) F_law_names [.ref pl, .int n] (Po S pl a b) = .ok (.lst ((List.range n).map fun k => .str (nameAt h t o s k))) (Po S pl a' b') := by
  obtain ⟨v1, a1, b1, h1, h2, e1⟩ := c_draw S pl hp a b 26 (by decide) (by decide)
  obtain ⟨v2, a2, b2, h3, h4, e2⟩ := c_draw S pl hp a1 b1 6 (by decide) (by decide)
  obtain ⟨x, a3, b3, hx, e3⟩ := c_pick S pl hp a2 b2 [.tup [.str "", .str ""], .tup [.str "", .str "q"], .tup [.str "ab", .str ""], .tup [.str "abcdefg", .str ""], .tup [.str "", .str "abcdefg"]] (List.cons_ne_nil _ _) (show 5 < 1073741824 by decide)
  obtain ⟨h, t, he, rfl⟩ : ∃ h t, isEnd h t = true ∧ x = .tup [.str h, .str t] := by
    simp only [List.mem_cons, List.not_mem_nil, or_false] at hx
    rcases hx with rfl | rfl | rfl | rfl | rfl
    · exact ⟨_, _, by decide +kernel, rfl⟩
    · exact ⟨_, _, by decide +kernel, rfl⟩
    · exact ⟨_, _, by decide +kernel, rfl⟩
    · exact ⟨_, _, by decide +kernel, rfl⟩
    · exact ⟨_, _, by decide +kernel, rfl⟩
  refine ⟨h, t, v1, 1 + 2 * v2, a3, b3, he, by omega, h1, fun k => ?_⟩
  rw [U_law_names]
  have f1 := fun x : Int => mul_l (i := 2) x (by decide)
  os_names B_law_names e1 e2 e3 f1
  have r1 := rg1_int (Po S pl a3 b3) (i := (n : Int)) (by omega) (by omega)
  rw [Int.toNat_natCast] at r1
  os_names r1
  have hs : isEnd h t = true := he
  unfold isEnd at hs
  simp only [Bool.and_eq_true, decide_eq_true_eq] at hs
  unfold rangeL
  rw [lc_map (fun k : Nat => D.int (0 + (k : Int))) (fun k => .str (nameAt h t v1 (1 + 2 * v2) k)) (List.range n) ?_ (by rw [List.length_range]; unfold LL; omega)]
  · os_names if_true 
  · intro j hj
    rw [List.mem_range] at hj
    have f2 := fun x : Int => mul_l (i := 1 + 2 * v2) x (small_of (by omega) (by omega))
    have f3 := fun x : Int => mod_ints x (j := 26) (by decide)
    have g0 := Int.emod_nonneg (v1 + (1 + 2 * v2) * (0 + (j : Int))) (b := 26) (by decide)
    have g1 := Int.emod_lt_of_pos (v1 + (1 + 2 * v2) * (0 + (j : Int))) (b := 26) (by decide)
    have f4 := ix_s (Po S pl a3 b3) (x := "abcdefghijklmnopqrstuvwxyz") (i := (v1 + (1 + 2 * v2) * (0 + (j : Int))) % 26) (j := ((v1 + (1 + 2 * v2) * (0 + (j : Int))) % 26).toNat) (by omega) (sg _ (by omega))
    have f5 : ∀ c : Nat, binO .add (.str h) (.str ⟨#[c]⟩) = some (.str (h ++ ⟨#[c]⟩)) := fun c => add_strs (by
      show h.cps.size + 1 ≤ LL
      unfold LL; omega)
    have f6 : ∀ c : Nat, binO .add (.str (h ++ ⟨#[c]⟩)) (.str t) = some (.str (h ++ ⟨#[c]⟩ ++ t)) := fun c => add_strs (by
      show (h.cps ++ #[c]).size + t.cps.size ≤ LL
      rw [Array.size_append]
      show h.cps.size + 1 + t.cps.size ≤ LL
      unfold LL; omega)
    os_names f2 f3 f4 f5 f6
    simp only [nameAt, sign, Int.zero_add]
end K79
namespace K79
open PySem Mi Mi.Q Ta
local macro_rules | `(tactic| os_names $xs:ident*) => `(tactic| simp only [e_var, e_cst, e_glb, e_tup, e_lst, e_dic, e_bin, e_neg, e_nott, e_and, e_or, e_ife, e_cmp, e_chn, e_att, e_idx, e_slc, e_rev, e_isi, e_bf, e_bm, e_call, e_mk, e_mth, e_lc, e_lc2, e_frz,
  t_nott, t_and, t_or, t_ife, t_var, t_cst, t_glb, t_bin, t_cmp, t_chn, t_att, t_idx, t_isi, t_bf, t_bm, t_call, t_mth, tru_bl, tru_int, e_nil, e_cons, e_star, starK_lst, starK_tup, e_no, e_yes, evOK_int, c_no, c_yes, i_of, i_range1, i_range2, i_enum, enK_lst,
  s_nil, s_cons, s_set, s_par, s_unp, unpK_some, s_attS, s_idxS, stoK_some, s_aug, augK_some, augV_int, augE_some, s_exp, s_ret, s_retN, s_iff, s_forr, s_whil, s_brk, s_cnt, s_pass, s_rais, raisK_some, s_tryy, tryK_rt, tryK_nx, tryK_ex,
  bind_ok, bind_ex, then_ok, then_ex, seq_nx, seq_rt, seq_bk, seq_ct, seq_ex, of_some, endF_rt, endF_nx, endF_ex, leaveR_ok, leaveR_ex, noEx_ok,
  lk_some, mkT0, mkT1, mkT2, mkT3, mkT4, mkT5, mkT6, frs_false, mkL0, mkL1, mkL2, mkL3, mkL4, mkL5, mkL6, mkL7, mkL8, mkL10, mkL14, negK_int, notK_bl, andK_bl, orK_bl, and_ok, or_ok, and_okB, or_okB,
  g0, g1, g2, g3, g4, g5, g6, g7, g8, g9, g10, g11, g12, g13, g14, g15, s0, s1, s2, s3, s4, s5, s6, s7, s8, s9, s10, s11, s12, s13, s14, s15,
  eq_ints, eq_strs, eq_bls, eq_cn, eq_nn, isTs_nil, isTs_cons, orT_true, orT_false, isT_int, isT_bl, isT_str, isT_non, isT_tup, isT_lst, isT_dct, tyB, cmp_eq, cmp_ne, cmp_lt, cmp_le, cmp_gt, cmp_ge, cmp_in, cmp_notin, cmp_is, cmp_isnot, nn_non, nn_int, nn_str, nn_tup, nn_lst, nn_bl, nn_dct, nn_ins, nn_ref,
  len_lst, len_tup, len_str, len_dct, len_scr, list_lst, list_tup, tuple_lst, tuple_tup, int_int, int_bl, str_str, abs_int, min_ints, max_ints, iter_lst, iter_tup, iter_str, fresh_false, add_ints, sub_ints, ix_t0, ix_t1, ix_t2, ix_t3, ix_l0, ix_l1, ix_l2, ix_l3, ix_d, sl_t1,
  q_tick_arg, q_tick_cell, q_tick_call, q_tick_plus, q_tick_less, q_tick_same, q_tick_if, q_arg_tick, q_arg_cell, q_arg_call, q_arg_plus, q_arg_less, q_arg_same, q_arg_if, q_cell_tick, q_cell_arg, q_cell_call, q_cell_plus, q_cell_less, q_cell_same, q_cell_if, q_call_tick, q_call_arg, q_call_cell, q_call_plus, q_call_less, q_call_same, q_call_if, q_plus_tick, q_plus_arg, q_plus_cell, q_plus_call, q_plus_less, q_plus_same, q_plus_if, q_less_tick, q_less_arg, q_less_cell, q_less_call, q_less_plus, q_less_same, q_less_if, q_same_tick, q_same_arg, q_same_cell, q_same_call, q_same_plus, q_same_less, q_same_if, q_if_tick, q_if_arg, q_if_cell, q_if_call, q_if_plus, q_if_less, q_if_same, beq_self_eq_true, Bool.and_true, Bool.true_and, Bool.and_false, Bool.false_and, Bool.or_true, Bool.true_or, Bool.or_false, Bool.false_or, List.length_cons, List.length_nil, Nat.zero_add, Nat.reduceAdd, lci0, lcj0, fri0, acc0, any0, all0, lci1, lcj1, fri1, acc1, any1, all1, lci2, lcj2, fri2, acc2, any2, all2, lci3, lcj3, fri3, acc3, any3, all3, lci4, lcj4, fri4, acc4, any4, all4, lci5, lcj5, fri5, acc5, any5, all5, lcT, lcT2, lcU, forT1, List.length_map, seq_ite, then_ite, bind_ite, endF_ite, nc0, nc1, nc2, nc3, nc4, nc5, nc6, nc7, nc8, nc9, nc10, nc11, nc12, nc13, nc14, nc15, nc16, nc17, nc18, nc19, nc20, nc21, nc22, nc23, nc24, nc25, nc26, nc27, nc28, nc29, nc30, in_ts1, in_ts2, in_ts3, in_ts4, in_ti1, in_ti2, in_ti3, in_ti4, in_ls1, in_ls2, in_ls3, in_ls4, in_li1, in_li2, in_li3, in_li4, in_sign, bindT, wipeL, Tg.slots, List.cons_append, List.append_nil, List.nil_append, setN, Int.reduceBEq, Int.reduceLE, Int.reduceLT, decide_true, decide_false, Int.reduceSub, Int.reduceAdd, Int.reduceEq, Int.reduceBNe, bne_self_eq_false,
  lcK_nil, lcK_cons, lcL_nil, lcL_cons, accK_none, forL_nil, forL_cons, goK_nx, goK_ct, goK_bk, goK_rt, goK_ex, Option.map_some, Option.map_none, Option.bind_some, Option.bind_none, if_true, if_false, Bool.false_eq_true, Bool.true_eq_false, reduceCtorEq, Bool.not_false, Bool.not_true, $[$xs:ident],*])
/-- a term over cells, functions with so many arguments -/
def okT (cs : List Str) (fs : List (Str × Int)) (n : Int) : Tm → Prop
  | .val i => 0 ≤ i ∧ i ≤ 2
  | .arg i => 0 ≤ i ∧ i ≤ n - 1
  | .cell x => x ∈ cs
  | .tick => True
  | .call0 f => (f, 0) ∈ fs
  | .call1 f a => (f, 1) ∈ fs ∧ okT cs fs n a
  | .call2 f a b => (f, 2) ∈ fs ∧ okT cs fs n a ∧ okT cs fs n b
  | .op _ a b => okT cs fs n a ∧ okT cs fs n b
  | .ife a b c => okT cs fs n a ∧ okT cs fs n b ∧ okT cs fs n c
theorem okT_ok {cs : List Str} {fs : List (Str × Int)} {n : Int} (hc : ∀ x ∈ cs, isName x = true) (hf : ∀ p ∈ fs, isName p.1 = true) : ∀ {t : Tm}, okT cs fs n t → t.ok n = true := by
  intro t
  induction t with
  | val i => simp only [okT, Tm.ok, Bool.and_eq_true, decide_eq_true_eq]; exact id
  | arg i => simp only [okT, Tm.ok, Bool.and_eq_true, decide_eq_true_eq]; exact id
  | cell x => exact hc x
  | tick => intro _; rfl
  | call0 f => exact hf _
  | call1 f a ih => simp only [okT, Tm.ok, Bool.and_eq_true]; exact fun h => ⟨hf _ h.1, ih h.2⟩
  | call2 f a b i1 i2 => simp only [okT, Tm.ok, Bool.and_eq_true]; exact fun h => ⟨hf _ h.1, i1 h.2.1, i2 h.2.2⟩
  | op o a b i1 i2 => simp only [okT, Tm.ok, Bool.and_eq_true]; exact fun h => ⟨i1 h.1, i2 h.2⟩
  | ife a b c i1 i2 i3 => simp only [okT, Tm.ok, Bool.and_eq_true]; exact fun h => ⟨i1 h.1, i2 h.2.1, i3 h.2.2⟩
/-- a book of the law's own: B in all states at hand -/
structure BkAt (S : Sto) (pl : Nat) (B : D) (cells fns : List D) (cs : List Str) (fs : List (Str × Int)) : Prop where
  ic : ∀ a b, idxO (Po S pl a b) B (.str "cells") = some (.lst cells)
  if_ : ∀ a b, idxO (Po S pl a b) B (.str "functions") = some (.lst fns)
  cl : cells.length < 1000
  fl : fns.length < 1000
  cok : ∀ d ∈ cells, ∃ x r, d = .tup (.str x :: r) ∧ x ∈ cs
  fok : ∀ d ∈ fns, ∃ x m, (∀ S, idxO S d (.str "name") = some (.str x)) ∧ (∀ S, idxO S d (.str "many") = some (.int m)) ∧ (x, m) ∈ fs ∧ (m = 0 ∨ m = 1 ∨ m = 2)
section
variable (S : Sto) (pl : Nat) (hp : (getc S.c pl).isSome = true) (B : D) (cells fns : List D) (cs : List Str) (fs : List (Str × Int)) (hB : BkAt S pl B cells fns cs fs) (n : Int) (hn0 : 0 ≤ n) (hn2 : n ≤ 2)
include hp hB hn0 hn2 in
theorem c_leaf (deep m v : Int) (a b a1 b1 : Int) (hm : (decide (0 < deep) = true ∧ m = 9) ∨ (decide (0 < deep) = false ∧ m = 4)) (e1 : ∀ k, callF tab (k + 1) F_law_draw [.ref pl, .int m] (Po S pl a b) = .ok (.int v) (Po S pl a1 b1)) (hv : v = 0 ∨ v = 1 ∨ v = 2 ∨ v = 8 ∨ v = 3) :
    ∃ t a' b', okT cs fs n t ∧ t.depth ≤ 1 ∧ ∀ k, callF tab (k + 3) F_law_term [.ref pl, B, .int n, .int deep] (Po S pl a b) = .ok t.d (Po S pl a' b') := by
  obtain ⟨w, a2, b2, h2, h3, e2⟩ := c_draw S pl hp a1 b1 3 (by decide) (by decide)
  have ic := hB.ic
  have hcl := hB.cl
  have cok := hB.cok
  rcases hv with rfl | rfl | hv | hv | rfl
  · refine ⟨.val w, a2, b2, ⟨h2, by omega⟩, Nat.le_refl _, fun k => ?_⟩
    rcases hm with ⟨dd, rfl⟩ | ⟨dd, rfl⟩ <;> (rw [U_law_term]; os_names B_law_term e1 e2 dd Tm.d)
  · by_cases c : n = 0
    · subst c
      refine ⟨.val w, a2, b2, ⟨h2, by omega⟩, Nat.le_refl _, fun k => ?_⟩
      rcases hm with ⟨dd, rfl⟩ | ⟨dd, rfl⟩ <;> (rw [U_law_term]; os_names B_law_term e1 e2 dd Tm.d)
    · obtain ⟨u, a3, b3, h4, h5, e3⟩ := c_draw S pl hp a1 b1 n (by omega) (by omega)
      have c' : (n == 0) = false := beq_eq_false_iff_ne.mpr c
      refine ⟨.arg u, a3, b3, ⟨h4, by omega⟩, Nat.le_refl _, fun k => ?_⟩
      rcases hm with ⟨dd, rfl⟩ | ⟨dd, rfl⟩ <;> (rw [U_law_term]; os_names B_law_term e1 e3 dd Tm.d c')
  · subst hv
    cases cells with
    | nil =>
      refine ⟨.val w, a2, b2, ⟨h2, by omega⟩, Nat.le_refl _, fun k => ?_⟩
      rcases hm with ⟨dd, rfl⟩ | ⟨dd, rfl⟩ <;> (rw [U_law_term]; os_names B_law_term e1 e2 dd Tm.d ic)
    | cons c0 cr =>
      obtain ⟨x, a3, b3, hx, e3⟩ := c_pick S pl hp a1 b1 (c0 :: cr) (List.cons_ne_nil _ _) (by omega)
      obtain ⟨y, r, rfl, hy⟩ := cok x hx
      refine ⟨.cell y, a3, b3, hy, Nat.le_refl _, fun k => ?_⟩
      rcases hm with ⟨dd, rfl⟩ | ⟨dd, rfl⟩ <;> (rw [U_law_term]; os_names B_law_term e1 e3 dd Tm.d ic)
  · subst hv
    cases cells with
    | nil =>
      refine ⟨.val w, a2, b2, ⟨h2, by omega⟩, Nat.le_refl _, fun k => ?_⟩
      rcases hm with ⟨dd, rfl⟩ | ⟨dd, rfl⟩ <;> (rw [U_law_term]; os_names B_law_term e1 e2 dd Tm.d ic)
    | cons c0 cr =>
      obtain ⟨x, a3, b3, hx, e3⟩ := c_pick S pl hp a1 b1 (c0 :: cr) (List.cons_ne_nil _ _) (by omega)
      obtain ⟨y, r, rfl, hy⟩ := cok x hx
      refine ⟨.cell y, a3, b3, hy, Nat.le_refl _, fun k => ?_⟩
      rcases hm with ⟨dd, rfl⟩ | ⟨dd, rfl⟩ <;> (rw [U_law_term]; os_names B_law_term e1 e3 dd Tm.d ic)
  · by_cases c : w = 0
    · subst c
      refine ⟨.tick, a2, b2, trivial, Nat.le_refl _, fun k => ?_⟩
      rcases hm with ⟨dd, rfl⟩ | ⟨dd, rfl⟩ <;> (rw [U_law_term]; os_names B_law_term e1 e2 dd Tm.d ic)
    · obtain ⟨u, a3, b3, h4, h5, e3⟩ := c_draw S pl hp a2 b2 3 (by decide) (by decide)
      have c' : (w == 0) = false := beq_eq_false_iff_ne.mpr c
      refine ⟨.val u, a3, b3, ⟨h4, by omega⟩, Nat.le_refl _, fun k => ?_⟩
      rcases hm with ⟨dd, rfl⟩ | ⟨dd, rfl⟩ <;> (rw [U_law_term]; os_names B_law_term e1 e2 e3 dd Tm.d ic c')
include hp hB hn0 hn2 in
theorem c_term0 (a b : Int) : ∃ t a' b', okT cs fs n t ∧ t.depth ≤ 1 ∧ ∀ k, callF tab (k + 3) F_law_term [.ref pl, B, .int n, .int 0] (Po S pl a b) = .ok t.d (Po S pl a' b') := by
  obtain ⟨v, a1, b1, h0, h1, e1⟩ := c_draw S pl hp a b 4 (by decide) (by decide)
  exact c_leaf S pl hp B cells fns cs fs hB n hn0 hn2 0 4 v a b a1 b1 (.inr ⟨by decide, rfl⟩) e1 (by omega)
include hp hB hn0 hn2 in
theorem c_head (v d : Int) (a b a1 b1 : Int) (hd : 0 < d) (e1 : ∀ k, callF tab (k + 1) F_law_draw [.ref pl, .int 9] (Po S pl a b) = .ok (.int v) (Po S pl a1 b1)) (hv : v = 5 ∨ v = 6 ∨ (v = 4 ∧ fns = [])) (j : Nat)
    (ih : ∀ a b : Int, ∃ t a' b', okT cs fs n t ∧ t.depth ≤ j + 1 ∧ ∀ k, callF tab (k + j + 3) F_law_term [.ref pl, B, .int n, .int (d - 1)] (Po S pl a b) = .ok t.d (Po S pl a' b')) :
    ∃ t a' b', okT cs fs n t ∧ t.depth ≤ j + 2 ∧ ∀ k, callF tab (k + (j + 1) + 3) F_law_term [.ref pl, B, .int n, .int d] (Po S pl a b) = .ok t.d (Po S pl a' b') := by
  have dd : decide (0 < d) = true := decide_eq_true hd
  have hif := hB.if_
  obtain ⟨x, a2, b2, hx, e2⟩ := c_pick S pl hp a1 b1 [.str "plus", .str "less", .str "same"] (List.cons_ne_nil _ _) (show 3 < 1073741824 by decide)
  obtain ⟨o, rfl⟩ : ∃ o : Op, x = .str o.s := by
    simp only [List.mem_cons, List.not_mem_nil, or_false] at hx
    rcases hx with rfl | rfl | rfl
    · exact ⟨.plus, rfl⟩
    · exact ⟨.less, rfl⟩
    · exact ⟨.same, rfl⟩
  obtain ⟨t1, a3, b3, o1, d1, e3⟩ := ih a2 b2
  obtain ⟨t2, a4, b4, o2, d2, e4⟩ := ih a3 b3
  refine ⟨.op o t1 t2, a4, b4, ⟨o1, o2⟩, by simp only [Tm.depth]; omega, fun k => ?_⟩
  rw [show k + (j + 1) + 3 = k + j + 3 + 1 by omega, U_law_term]
  rcases hv with rfl | rfl | ⟨rfl, rfl⟩ <;> os_names B_law_term e1 e2 e3 e4 dd Tm.d hif
include hp hB hn0 hn2 in
theorem c_law_term : ∀ (j : Nat) (a b : Int), ∃ t a' b', okT cs fs n t ∧ t.depth ≤ j + 1 ∧ ∀ k, callF tab (k + j + 3) F_law_term [.ref pl, B, .int n, .int j] (Po S pl a b) = .ok t.d (Po S pl a' b')
  | 0, a, b => c_term0 S pl hp B cells fns cs fs hB n hn0 hn2 a b
  | j + 1, a, b => by
    have ih := c_law_term j
    have dj : ((j + 1 : Nat) : Int) - 1 = j := by omega
    have dp : 0 < ((j + 1 : Nat) : Int) := by omega
    have dd : decide (0 < ((j + 1 : Nat) : Int)) = true := decide_eq_true dp
    obtain ⟨v, a1, b1, h0, h1, e1⟩ := c_draw S pl hp a b 9 (by decide) (by decide)
    by_cases hl : v = 0 ∨ v = 1 ∨ v = 2 ∨ v = 8 ∨ v = 3
    · obtain ⟨t, a', b', h1, h2, h3⟩ := c_leaf S pl hp B cells fns cs fs hB n hn0 hn2 ((j + 1 : Nat) : Int) 9 v a b a1 b1 (.inl ⟨dd, rfl⟩) e1 hl
      exact ⟨t, a', b', h1, by omega, fun k => h3 (k + (j + 1))⟩
    · by_cases h7 : v = 7
      · subst h7
        obtain ⟨t1, a2, b2, o1, d1, e2⟩ := ih a1 b1
        obtain ⟨t2, a3, b3, o2, d2, e3⟩ := ih a2 b2
        obtain ⟨t3, a4, b4, o3, d3, e4⟩ := ih a3 b3
        refine ⟨.ife t1 t2 t3, a4, b4, ⟨o1, o2, o3⟩, by simp only [Tm.depth]; omega, fun k => ?_⟩
        rw [show k + (j + 1) + 3 = k + j + 3 + 1 by omega, U_law_term]
        have f1 := add_tups (x := .str (Str.ofString "if")) (a := []) (b := [t1.d, t2.d, t3.d]) (show 1 + 3 ≤ LL by decide)
        os_names B_law_term e1 e2 e3 e4 dd dj Tm.d rg1_3 f1
      · by_cases h4 : v = 4 ∧ fns ≠ []
        · obtain ⟨rfl, hne⟩ := h4
          have hif := hB.if_
          have hfl := hB.fl
          obtain ⟨x, a2, b2, hx, e2⟩ := c_pick S pl hp a1 b1 fns hne (by omega)
          obtain ⟨f, m, i1, i2, i3, i4⟩ := hB.fok x hx
          obtain ⟨f0, fr, hfe⟩ := List.exists_cons_of_ne_nil hne
          have t0 := c_term0 S pl hp B cells fns cs fs hB n hn0 hn2
          rw [hfe] at hif e2
          rcases i4 with rfl | rfl | rfl
          · refine ⟨.call0 f, a2, b2, i3, by simp only [Tm.depth]; omega, fun k => ?_⟩
            rw [show k + (j + 1) + 3 = k + j + 3 + 1 by omega, U_law_term]
            os_names B_law_term e1 e2 dd Tm.d hif i1 i2 rg1_0
          · obtain ⟨t1, a3, b3, o1, d1, e3⟩ := t0 a2 b2
            refine ⟨.call1 f t1, a3, b3, ⟨i3, o1⟩, by simp only [Tm.depth]; omega, fun k => ?_⟩
            rw [show k + (j + 1) + 3 = k + j + 3 + 1 by omega, U_law_term]
            os_names B_law_term e1 e2 dd Tm.d hif i1 i2 rg1_1 e3
          · obtain ⟨t1, a3, b3, o1, d1, e3⟩ := t0 a2 b2
            obtain ⟨t2, a4, b4, o2, d2, e4⟩ := t0 a3 b3
            refine ⟨.call2 f t1 t2, a4, b4, ⟨i3, o1, o2⟩, by simp only [Tm.depth]; omega, fun k => ?_⟩
            rw [show k + (j + 1) + 3 = k + j + 3 + 1 by omega, U_law_term]
            os_names B_law_term e1 e2 dd Tm.d hif i1 i2 rg1_2 e3 e4
        · rw [← dj] at ih
          have hq : v = 5 ∨ v = 6 ∨ (v = 4 ∧ fns = []) := by
            by_cases h40 : v = 4
            · by_cases hf : fns = []
              · exact .inr (.inr ⟨h40, hf⟩)
              · exact absurd ⟨h40, hf⟩ h4
            · omega
          exact c_head S pl hp B cells fns cs fs hB n hn0 hn2 v ((j + 1 : Nat) : Int) a b a1 b1 dp e1 hq j ih
end
end K79
namespace K79
open PySem Mi Mi.Q Ta
local macro_rules | `(tactic| os_names $xs:ident*) => `(tactic| simp only [e_var, e_cst, e_glb, e_tup, e_lst, e_dic, e_bin, e_neg, e_nott, e_and, e_or, e_ife, e_cmp, e_chn, e_att, e_idx, e_slc, e_rev, e_isi, e_bf, e_bm, e_call, e_mk, e_mth, e_lc, e_lc2, e_frz,
  t_nott, t_and, t_or, t_ife, t_var, t_cst, t_glb, t_bin, t_cmp, t_chn, t_att, t_idx, t_isi, t_bf, t_bm, t_call, t_mth, tru_bl, tru_int, e_nil, e_cons, e_star, starK_lst, starK_tup, e_no, e_yes, evOK_int, c_no, c_yes, i_of, i_range1, i_range2, i_enum, enK_lst,
  s_nil, s_cons, s_set, s_par, s_unp, unpK_some, s_attS, s_idxS, stoK_some, s_aug, augK_some, augV_int, augE_some, s_exp, s_ret, s_retN, s_iff, s_forr, s_whil, s_brk, s_cnt, s_pass, s_rais, raisK_some, s_tryy, tryK_rt, tryK_nx, tryK_ex,
  bind_ok, bind_ex, then_ok, then_ex, seq_nx, seq_rt, seq_bk, seq_ct, seq_ex, of_some, endF_rt, endF_nx, endF_ex, leaveR_ok, leaveR_ex, noEx_ok,
  lk_some, mkT0, mkT1, mkT2, mkT3, mkT4, mkT5, mkT6, frs_false, mkL0, mkL1, mkL2, mkL3, mkL4, mkL5, mkL6, mkL7, mkL8, mkL10, mkL14, negK_int, notK_bl, andK_bl, orK_bl, and_ok, or_ok, and_okB, or_okB,
  g0, g1, g2, g3, g4, g5, g6, g7, g8, g9, g10, g11, g12, g13, g14, g15, s0, s1, s2, s3, s4, s5, s6, s7, s8, s9, s10, s11, s12, s13, s14, s15,
  eq_ints, eq_strs, eq_bls, eq_cn, eq_nn, isTs_nil, isTs_cons, orT_true, orT_false, isT_int, isT_bl, isT_str, isT_non, isT_tup, isT_lst, isT_dct, tyB, cmp_eq, cmp_ne, cmp_lt, cmp_le, cmp_gt, cmp_ge, cmp_in, cmp_notin, cmp_is, cmp_isnot, nn_non, nn_int, nn_str, nn_tup, nn_lst, nn_bl, nn_dct, nn_ins, nn_ref,
  len_lst, len_tup, len_str, len_dct, len_scr, list_lst, list_tup, tuple_lst, tuple_tup, int_int, int_bl, str_str, abs_int, min_ints, max_ints, iter_lst, iter_tup, iter_str, fresh_false, add_ints, sub_ints, ix_t0, ix_t1, ix_t2, ix_t3, ix_l0, ix_l1, ix_l2, ix_l3, ix_d, sl_t1,
  q_tick_arg, q_tick_cell, q_tick_call, q_tick_plus, q_tick_less, q_tick_same, q_tick_if, q_arg_tick, q_arg_cell, q_arg_call, q_arg_plus, q_arg_less, q_arg_same, q_arg_if, q_cell_tick, q_cell_arg, q_cell_call, q_cell_plus, q_cell_less, q_cell_same, q_cell_if, q_call_tick, q_call_arg, q_call_cell, q_call_plus, q_call_less, q_call_same, q_call_if, q_plus_tick, q_plus_arg, q_plus_cell, q_plus_call, q_plus_less, q_plus_same, q_plus_if, q_less_tick, q_less_arg, q_less_cell, q_less_call, q_less_plus, q_less_same, q_less_if, q_same_tick, q_same_arg, q_same_cell, q_same_call, q_same_plus, q_same_less, q_same_if, q_if_tick, q_if_arg, q_if_cell, q_if_call, q_if_plus, q_if_less, q_if_same, beq_self_eq_true, Bool.and_true, Bool.true_and, Bool.and_false, Bool.false_and, Bool.or_true, Bool.true_or, Bool.or_false, Bool.false_or, List.length_cons, List.length_nil, Nat.zero_add, Nat.reduceAdd, lci0, lcj0, fri0, acc0, any0, all0, lci1, lcj1, fri1, acc1, any1, all1, lci2, lcj2, fri2, acc2, any2, all2, lci3, lcj3, fri3, acc3, any3, all3, lci4, lcj4, fri4, acc4, any4, all4, lci5, lcj5, fri5, acc5, any5, all5, lcT, lcT2, lcU, forT1, List.length_map, seq_ite, then_ite, bind_ite, endF_ite, nc0, nc1, nc2, nc3, nc4, nc5, nc6, nc7, nc8, nc9, nc10, nc11, nc12, nc13, nc14, nc15, nc16, nc17, nc18, nc19, nc20, nc21, nc22, nc23, nc24, nc25, nc26, nc27, nc28, nc29, nc30, in_ts1, in_ts2, in_ts3, in_ts4, in_ti1, in_ti2, in_ti3, in_ti4, in_ls1, in_ls2, in_ls3, in_ls4, in_li1, in_li2, in_li3, in_li4, in_sign, bindT, wipeL, Tg.slots, List.cons_append, List.append_nil, List.nil_append, setN, Int.reduceBEq, Int.reduceLE, Int.reduceLT, decide_true, decide_false, Int.reduceSub, Int.reduceAdd, Int.reduceEq, Int.reduceBNe, bne_self_eq_false,
  lcK_nil, lcK_cons, lcL_nil, lcL_cons, accK_none, forL_nil, forL_cons, goK_nx, goK_ct, goK_bk, goK_rt, goK_ex, Option.map_some, Option.map_none, Option.bind_some, Option.bind_none, if_true, if_false, Bool.false_eq_true, Bool.true_eq_false, reduceCtorEq, Bool.not_false, Bool.not_true, $[$xs:ident],*])
def wl (ys : List Str) : Nat := (ys.map Str.length).sum + ys.length
theorem wl_app (a b : List Str) : wl (a ++ b) = wl a + wl b := by
  unfold wl
  rw [List.map_append, List.sum_append, List.length_append]
  omega
theorem wl_take (n : Nat) (a : List Str) : wl (a.take n) ≤ wl a := by
  have := wl_app (a.take n) (a.drop n)
  rw [List.take_append_drop] at this
  omega
theorem wl_drop (n : Nat) (a : List Str) : wl (a.drop n) ≤ wl a := by
  have := wl_app (a.take n) (a.drop n)
  rw [List.take_append_drop] at this
  omega
theorem wl_cut (a : List Str) (x y : Option Int) : wl (cut a x y) ≤ wl a := by
  unfold cut
  exact Nat.le_trans (wl_take _ _) (wl_drop _ _)
theorem sl_strs (S : Sto) (l : List Str) (a b : Option Int) : slcO S (.lst (l.map .str)) a b = some (.lst ((cut l a b).map .str)) := by
  show some (D.lst (cut (l.map D.str) a b)) = _
  unfold cut
  rw [List.length_map, List.map_take, List.map_drop]
theorem wl_len (a : List Str) : a.length ≤ wl a := by unfold wl; omega
/-- words without a space -/
def noSp (x : Str) : Bool := x.cps.toList.all fun c => decide (c ≠ 32)
theorem name_sp {x : Str} (h : isName x = true) : noSp x = true := by
  unfold isName at h
  unfold noSp
  simp only [Bool.and_eq_true, List.all_eq_true, decide_eq_true_eq] at h ⊢
  intro c hc
  have := h.2 c hc
  omega
theorem num_sp {i : Int} (h0 : 0 ≤ i) (h2 : i ≤ 2) : noSp (strOf i) = true := by
  have : i = 0 ∨ i = 1 ∨ i = 2 := by omega
  rcases this with rfl | rfl | rfl <;> decide +kernel
theorem words_sp : ∀ {t : Tm}, t.good = true → ∀ w ∈ t.words, noSp w = true := by
  intro t
  have e1 : noSp (Str.ofString "call") = true := by decide +kernel
  have e2 : noSp (Str.ofString "0") = true := by decide +kernel
  have e3 : noSp (Str.ofString "1") = true := by decide +kernel
  have e4 : noSp (Str.ofString "2") = true := by decide +kernel
  have e5 : noSp (Str.ofString "arg") = true := by decide +kernel
  have e6 : noSp (Str.ofString "cell") = true := by decide +kernel
  have e7 : noSp (Str.ofString "tick") = true := by decide +kernel
  have e8 : noSp (Str.ofString "if") = true := by decide +kernel
  have e9 : ∀ o : Op, noSp o.s = true := by intro o; cases o <;> decide +kernel
  induction t with
  | val i =>
    simp only [Tm.good, Tm.words, Bool.and_eq_true, decide_eq_true_eq, List.mem_cons, List.not_mem_nil, or_false]
    rintro h w rfl
    exact num_sp h.1 h.2
  | arg i =>
    simp only [Tm.good, Tm.words, Bool.and_eq_true, decide_eq_true_eq, List.mem_cons, List.not_mem_nil, or_false]
    rintro h w (rfl | rfl)
    · exact e5
    · exact num_sp h.1 (by omega)
  | cell x =>
    simp only [Tm.good, Tm.words, List.mem_cons, List.not_mem_nil, or_false]
    rintro h w (rfl | rfl)
    · exact e6
    · exact name_sp h
  | tick =>
    simp only [Tm.words, List.mem_cons, List.not_mem_nil, or_false]
    rintro _ w rfl
    exact e7
  | call0 f =>
    simp only [Tm.good, Tm.words, List.mem_cons, List.not_mem_nil, or_false]
    rintro h w (rfl | rfl | rfl)
    · exact e1
    · exact name_sp h
    · exact e2
  | call1 f a ih =>
    simp only [Tm.good, Tm.words, Bool.and_eq_true, List.mem_cons]
    rintro h w (rfl | rfl | rfl | hw)
    · exact e1
    · exact name_sp h.1
    · exact e3
    · exact ih h.2 w hw
  | call2 f a b i1 i2 =>
    simp only [Tm.good, Tm.words, Bool.and_eq_true, List.mem_cons, List.mem_append]
    rintro h w (rfl | rfl | rfl | hw | hw)
    · exact e1
    · exact name_sp h.1
    · exact e4
    · exact i1 h.2.1 w hw
    · exact i2 h.2.2 w hw
  | op o a b i1 i2 =>
    simp only [Tm.good, Tm.words, Bool.and_eq_true, List.mem_cons, List.mem_append]
    rintro h w (rfl | hw | hw)
    · exact e9 o
    · exact i1 h.1 w hw
    · exact i2 h.2 w hw
  | ife a b c i1 i2 i3 =>
    simp only [Tm.good, Tm.words, Bool.and_eq_true, List.mem_cons, List.mem_append]
    rintro h w (rfl | hw | hw | hw)
    · exact e8
    · exact i1 h.1 w hw
    · exact i2 h.2.1 w hw
    · exact i3 h.2.2 w hw
theorem split_back {l : List Str} (hne : l ≠ []) (h : ∀ w ∈ l, noSp w = true) : Txt.split (Str.join " " l) " " = l := by
  rw [show Str.join " " l = Txt.join " " l from (TL.join_eq " " l).symm]
  refine TL.split_join (s := 32) (S := []) (by decide +kernel) (by decide +kernel) hne fun p hp => ?_
  have := h p hp
  unfold noSp at this
  rw [List.all_eq_true] at this
  intro hc
  exact of_decide_eq_true (this 32 hc) rfl
theorem join_back (x : Str) : Str.join " " (Txt.split x " ") = x := StrLaws.join_split x " "
/-- what is read tells its text -/
theorem read_text {x : Str} {n : Int} {t : Tm} (h : readM (Txt.split x " ") n = some t) : t.text = x ∧ t.wt = true := by
  unfold readM at h
  split at h
  · rename_i c
    cases h
    simp only [Bool.and_eq_true, Bool.not_eq_true', List.isEmpty_iff] at c
    obtain ⟨_, h2, h3⟩ := parse_sound 8 _ _ c.1.1
    rw [c.1.2, List.append_nil] at h2
    refine ⟨?_, parse_wt _ _ _⟩
    unfold Tm.text
    rw [← h2, join_back]
  · cases h
theorem read_words {t : Tm} {n : Int} (hn : n ≤ 2) (h : t.ok n = true) (hd : t.depth ≤ 8) (hs : t.words.length ≤ 30) : readM t.words n = some t := by
  have e := parse_back t 8 [] (ok_good hn h) hd
  rw [List.append_nil] at e
  unfold readM
  rw [e]
  have : isTermB n t = true := isTermB_ok h hd (Nat.le_trans (size_le t) hs)
  simp [this]
theorem read_more {t : Tm} {n : Int} {w : Str} (hn : n ≤ 2) (h : t.ok n = true) (hd : t.depth ≤ 8) : readM (t.words ++ [w]) n = none := by
  have e := parse_back t 8 [w] (ok_good hn h) hd
  unfold readM
  rw [e]
  simp
theorem tlen_eq (t : Tm) : t.text.length + 1 = tlen t := by
  have : ∀ l : List Str, l ≠ [] → (Str.join " " l).length + 1 = (l.map Str.length).sum + l.length := by
    intro l
    induction l with
    | nil => exact fun h => absurd rfl h
    | cons x l ih =>
      intro _
      cases l with
      | nil =>
        show x.length + 1 = _
        simp
      | cons y r =>
        have := ih (List.cons_ne_nil y r)
        rw [join_cons (List.cons_ne_nil y r), len_app, len_app, sp_len]
        simp only [List.map_cons, List.sum_cons, List.length_cons] at this ⊢
        omega
  exact this _ (words_ne t)
theorem pow_step (j : Nat) : 4 ^ (j + 1) = 4 * 4 ^ j := by rw [Nat.pow_succ]; omega
theorem name_le {x : Str} (h : isName x = true) : x.length ≤ 8 := by
  unfold isName at h
  simp only [Bool.and_eq_true, decide_eq_true_eq] at h
  exact h.1.2
theorem tlen_le {n : Int} (hn : n ≤ 2) : ∀ (t : Tm) (j : Nat), t.ok n = true → t.depth ≤ j + 1 → tlen t ≤ 50 * 4 ^ j := by
  intro t
  have p1 : ∀ j : Nat, 1 ≤ 4 ^ j := fun j => Nat.one_le_pow _ _ (by decide)
  have hl : ∀ i : Int, 0 ≤ i → i ≤ 2 → (strOf i).length = 1 := fun i h0 h2 => by
    have : i = 0 ∨ i = 1 ∨ i = 2 := by omega
    rcases this with rfl | rfl | rfl <;> decide +kernel
  induction t with
  | val i =>
    intro j h _
    simp only [Tm.ok, Bool.and_eq_true, decide_eq_true_eq] at h
    rw [tl_val, hl i h.1 h.2]
    have := p1 j; omega
  | arg i =>
    intro j h _
    simp only [Tm.ok, Bool.and_eq_true, decide_eq_true_eq] at h
    rw [tl_arg, hl i h.1 (by omega)]
    have := p1 j; omega
  | cell x =>
    intro j h _
    rw [tl_cell]
    have := p1 j
    have := name_le h
    omega
  | tick =>
    intro j _ _
    have : tlen .tick = 5 := by decide +kernel
    have := p1 j; omega
  | call0 f =>
    intro j h _
    rw [tl_call0]
    have := p1 j
    have := name_le h
    omega
  | call1 f a ih =>
    intro j h hd
    simp only [Tm.ok, Bool.and_eq_true] at h
    simp only [Tm.depth] at hd
    cases j with
    | zero => have := depth_pos a; omega
    | succ j =>
      have := ih j h.2 (by omega)
      have := name_le h.1
      have := p1 j
      rw [tl_call1, pow_step]
      omega
  | call2 f a b i1 i2 =>
    intro j h hd
    simp only [Tm.ok, Bool.and_eq_true] at h
    simp only [Tm.depth] at hd
    cases j with
    | zero => have := depth_pos a; omega
    | succ j =>
      have := i1 j h.2.1 (by omega)
      have := i2 j h.2.2 (by omega)
      have := name_le h.1
      have := p1 j
      rw [tl_call2, pow_step]
      omega
  | op o a b i1 i2 =>
    intro j h hd
    simp only [Tm.ok, Bool.and_eq_true] at h
    simp only [Tm.depth] at hd
    cases j with
    | zero => have := depth_pos a; omega
    | succ j =>
      have := i1 j h.1 (by omega)
      have := i2 j h.2 (by omega)
      have := p1 j
      rw [tl_op, pow_step]
      omega
  | ife a b c i1 i2 i3 =>
    intro j h hd
    simp only [Tm.ok, Bool.and_eq_true] at h
    simp only [Tm.depth] at hd
    cases j with
    | zero => have := depth_pos a; omega
    | succ j =>
      have := i1 j h.1 (by omega)
      have := i2 j h.2.1 (by omega)
      have := i3 j h.2.2 (by omega)
      have := p1 j
      rw [tl_ife, pow_step]
      omega
/-! ### equal terms -/
theorem d_plain (t : Tm) : t.d.plain = true := by
  induction t <;> simp_all [Tm.d, D.plain, D.plainL]
theorem d_dep (t : Tm) : t.d.dep ≤ 2 * t.depth := by
  induction t <;> simp_all [Tm.d, D.dep, D.depL, Tm.depth] <;> omega
theorem eqO_of (S : Sto) (x y : D) (hl : ∀ l, x ≠ .lst l) (p : x.plain = true) (q : y.plain = true) (d1 : x.dep ≤ 60) (d2 : y.dep ≤ 60) (r1 : ∀ n, x ≠ .ref n) (r2 : ∀ n, y ≠ .ref n) (s1 : ∀ n, x ≠ .scr n) (s2 : ∀ n, y ≠ .scr n) : eqO S x y = some (x.eqv y) := by
  have dx : deref S x = some x := by
    cases x <;> first | rfl | exact absurd rfl (r1 _) | exact absurd rfl (s1 _)
  have dy : deref S y = some y := by
    cases y <;> first | rfl | exact absurd rfl (r2 _) | exact absurd rfl (s2 _)
  unfold eqO
  rw [dx, dy]
  split
  · rename_i e _; cases e; exact absurd rfl (hl _)
  · rename_i e1 e2; cases e1; cases e2
    rw [if_pos (by simp [p, q, d1, d2])]
  · rename_i h; exact (h x y rfl rfl).elim
theorem tm_lst (t : Tm) (l : List D) : t.d ≠ .lst l := by cases t <;> (intro e; cases e)
theorem tm_ref (t : Tm) (l : Nat) : t.d ≠ .ref l := by cases t <;> (intro e; cases e)
theorem tm_scr (t : Tm) (l : List Int) : t.d ≠ .scr l := by cases t <;> (intro e; cases e)
theorem eq_tm (S : Sto) (t u : Tm) (ht : t.depth ≤ 30) (hu : u.depth ≤ 30) : eqO S t.d u.d = some (t.d.eqv u.d) := by
  have h1 := d_plain t
  have h2 := d_plain u
  have h3 := d_dep t
  have h4 := d_dep u
  exact eqO_of S _ _ (tm_lst t) h1 h2 (by omega) (by omega) (tm_ref t) (tm_ref u) (tm_scr t) (tm_scr u)
theorem eq_tm_self (S : Sto) (t : Tm) (ht : t.depth ≤ 30) : eqO S t.d t.d = some true := by
  rw [eq_tm S t t ht ht, eqv_refl _ (d_plain t)]
theorem eq_tm_bad (S : Sto) (t : Tm) (ht : t.depth ≤ 29) : eqO S t.d BADV = some false := by
  have h3 := d_dep t
  rw [eqO_of S _ _ (tm_lst t) (d_plain t) (by decide) (by omega) (by decide) (tm_ref t) (by intro n e; cases e) (tm_scr t) (by intro n e; cases e)]
  cases t <;> rfl
theorem eq_bad (S : Sto) : eqO S BADV BADV = some true := rfl
end K79
namespace K79
open PySem Mi Mi.Q Ta
local macro_rules | `(tactic| os_names $xs:ident*) => `(tactic| simp only [e_var, e_cst, e_glb, e_tup, e_lst, e_dic, e_bin, e_neg, e_nott, e_and, e_or, e_ife, e_cmp, e_chn, e_att, e_idx, e_slc, e_rev, e_isi, e_bf, e_bm, e_call, e_mk, e_mth, e_lc, e_lc2, e_frz,
  t_nott, t_and, t_or, t_ife, t_var, t_cst, t_glb, t_bin, t_cmp, t_chn, t_att, t_idx, t_isi, t_bf, t_bm, t_call, t_mth, tru_bl, tru_int, e_nil, e_cons, e_star, starK_lst, starK_tup, e_no, e_yes, evOK_int, c_no, c_yes, i_of, i_range1, i_range2, i_enum, enK_lst,
  s_nil, s_cons, s_set, s_par, s_unp, unpK_some, s_attS, s_idxS, stoK_some, s_aug, augK_some, augV_int, augE_some, s_exp, s_ret, s_retN, s_iff, s_forr, s_whil, s_brk, s_cnt, s_pass, s_rais, raisK_some, s_tryy, tryK_rt, tryK_nx, tryK_ex,
  bind_ok, bind_ex, then_ok, then_ex, seq_nx, seq_rt, seq_bk, seq_ct, seq_ex, of_some, endF_rt, endF_nx, endF_ex, leaveR_ok, leaveR_ex, noEx_ok,
  lk_some, mkT0, mkT1, mkT2, mkT3, mkT4, mkT5, mkT6, frs_false, mkL0, mkL1, mkL2, mkL3, mkL4, mkL5, mkL6, mkL7, mkL8, mkL10, mkL14, negK_int, notK_bl, andK_bl, orK_bl, and_ok, or_ok, and_okB, or_okB,
  g0, g1, g2, g3, g4, g5, g6, g7, g8, g9, g10, g11, g12, g13, g14, g15, s0, s1, s2, s3, s4, s5, s6, s7, s8, s9, s10, s11, s12, s13, s14, s15,
  eq_ints, eq_strs, eq_bls, eq_cn, eq_nn, isTs_nil, isTs_cons, orT_true, orT_false, isT_int, isT_bl, isT_str, isT_non, isT_tup, isT_lst, isT_dct, tyB, cmp_eq, cmp_ne, cmp_lt, cmp_le, cmp_gt, cmp_ge, cmp_in, cmp_notin, cmp_is, cmp_isnot, nn_non, nn_int, nn_str, nn_tup, nn_lst, nn_bl, nn_dct, nn_ins, nn_ref,
  len_lst, len_tup, len_str, len_dct, len_scr, list_lst, list_tup, tuple_lst, tuple_tup, int_int, int_bl, str_str, abs_int, min_ints, max_ints, iter_lst, iter_tup, iter_str, fresh_false, add_ints, sub_ints, ix_t0, ix_t1, ix_t2, ix_t3, ix_l0, ix_l1, ix_l2, ix_l3, ix_d, sl_t1,
  q_tick_arg, q_tick_cell, q_tick_call, q_tick_plus, q_tick_less, q_tick_same, q_tick_if, q_arg_tick, q_arg_cell, q_arg_call, q_arg_plus, q_arg_less, q_arg_same, q_arg_if, q_cell_tick, q_cell_arg, q_cell_call, q_cell_plus, q_cell_less, q_cell_same, q_cell_if, q_call_tick, q_call_arg, q_call_cell, q_call_plus, q_call_less, q_call_same, q_call_if, q_plus_tick, q_plus_arg, q_plus_cell, q_plus_call, q_plus_less, q_plus_same, q_plus_if, q_less_tick, q_less_arg, q_less_cell, q_less_call, q_less_plus, q_less_same, q_less_if, q_same_tick, q_same_arg, q_same_cell, q_same_call, q_same_plus, q_same_less, q_same_if, q_if_tick, q_if_arg, q_if_cell, q_if_call, q_if_plus, q_if_less, q_if_same, beq_self_eq_true, Bool.and_true, Bool.true_and, Bool.and_false, Bool.false_and, Bool.or_true, Bool.true_or, Bool.or_false, Bool.false_or, List.length_cons, List.length_nil, Nat.zero_add, Nat.reduceAdd, lci0, lcj0, fri0, acc0, any0, all0, lci1, lcj1, fri1, acc1, any1, all1, lci2, lcj2, fri2, acc2, any2, all2, lci3, lcj3, fri3, acc3, any3, all3, lci4, lcj4, fri4, acc4, any4, all4, lci5, lcj5, fri5, acc5, any5, all5, lcT, lcT2, lcU, forT1, List.length_map, seq_ite, then_ite, bind_ite, endF_ite, nc0, nc1, nc2, nc3, nc4, nc5, nc6, nc7, nc8, nc9, nc10, nc11, nc12, nc13, nc14, nc15, nc16, nc17, nc18, nc19, nc20, nc21, nc22, nc23, nc24, nc25, nc26, nc27, nc28, nc29, nc30, in_ts1, in_ts2, in_ts3, in_ts4, in_ti1, in_ti2, in_ti3, in_ti4, in_ls1, in_ls2, in_ls3, in_ls4, in_li1, in_li2, in_li3, in_li4, in_sign, bindT, wipeL, Tg.slots, List.cons_append, List.append_nil, List.nil_append, setN, Int.reduceBEq, Int.reduceLE, Int.reduceLT, decide_true, decide_false, Int.reduceSub, Int.reduceAdd, Int.reduceEq, Int.reduceBNe, bne_self_eq_false,
  lcK_nil, lcK_cons, lcL_nil, lcL_cons, accK_none, forL_nil, forL_cons, goK_nx, goK_ct, goK_bk, goK_rt, goK_ex, Option.map_some, Option.map_none, Option.bind_some, Option.bind_none, if_true, if_false, Bool.false_eq_true, Bool.true_eq_false, reduceCtorEq, Bool.not_false, Bool.not_true, $[$xs:ident],*])
theorem parse_depth : ∀ (n : Nat) (ws : List Str) (b : Bool), (parse n ws b).1.depth ≤ n + 1
  | 0, _, _ => Nat.le_refl _
  | n + 1, ws, b => by
    have ih := parse_depth n
    unfold parse
    split
    · simp [Tm.depth]
    · split
      · simp only [Tm.depth]
        have h1 := ih (pull ws b).2.1 false
        have h2 := ih (parse n (pull ws b).2.1 false).2.1 (parse n (pull ws b).2.1 false).2.2
        omega
      · split
        · simp only [Tm.depth]
          have h1 := ih (pull ws b).2.1 false
          have h2 := ih (parse n (pull ws b).2.1 false).2.1 (parse n (pull ws b).2.1 false).2.2
          have h3 := ih (parse n (parse n (pull ws b).2.1 false).2.1 (parse n (pull ws b).2.1 false).2.2).2.1 (parse n (parse n (pull ws b).2.1 false).2.1 (parse n (pull ws b).2.1 false).2.2).2.2
          omega
        · split
          · simp only
            split
            · simp [Tm.depth]
            · split
              · simp only [Tm.depth]
                have := ih (pFig 0 2 (pName (pull ws b).2.1 false).2.1 (pName (pull ws b).2.1 false).2.2).2.1 (pFig 0 2 (pName (pull ws b).2.1 false).2.1 (pName (pull ws b).2.1 false).2.2).2.2
                omega
              · simp only [Tm.depth]
                generalize pFig 0 2 (pName (pull ws b).2.1 false).2.1 (pName (pull ws b).2.1 false).2.2 = m
                have h1 := ih m.2.1 m.2.2
                have h2 := ih (parse n m.2.1 m.2.2).2.1 (parse n m.2.1 m.2.2).2.2
                omega
          · split
            · simp [Tm.depth]
            · split
              · simp [Tm.depth]
              · split
                · simp [Tm.depth]
                · split <;> simp [Tm.depth]
theorem read_depth {ws : List Str} {n : Int} {t : Tm} (h : readM ws n = some t) : t.depth ≤ 9 := by
  unfold readM at h
  split at h
  · cases h; exact parse_depth 8 _ _
  · cases h
theorem join_wl (ys : List Str) : (Str.join " " ys).length ≤ wl ys := by
  have := join_len " " ys
  rw [sp_len] at this
  unfold wl
  omega
def okL (x : D) : Prop := ∃ ys : List Str, x = .lst (ys.map .str) ∧ wl ys + 2 ≤ LL
theorem in_turn (n : Int) (x : D) (hx : okL x) : ∃ told : D, ∀ (k : Nat) (S : Sto) (e0 e1 e2 e3 e4 e5 e6 e8 e9 e10 e11 e12 e13 e14 e15 : Option D),
    forT tab (callF tab (k + 30)) (.one 13) L_law_1 x [e0, e1, e2, e3, e4, e5, e6, some (.int n), e8, e9, e10, e11, e12, e13, e14, e15] S = .nx [e0, e1, e2, e3, e4, e5, e6, some (.int n), e8, e9, e10, e11, e12, some x, some told, e15] S := by
  obtain ⟨ys, rfl, hw⟩ := hx
  have hj := join_wl ys
  have ej := fun S => jo S ys (ys.map .str) rfl (by unfold wl at hw; omega)
  cases hr : readM (Txt.split (Str.join " " ys) " ") n with
  | none =>
    refine ⟨BADV, fun k S e0 e1 e2 e3 e4 e5 e6 e8 e9 e10 e11 e12 e13 e14 e15 => ?_⟩
    have e := c_law_read (k + 16) (Str.join " " ys) n S (by omega)
    rw [hr] at e
    have eb := eq_bad S
    unfold BADV at eb
    os_names L_law_1 hasM_join bmA_join ej e rdD BADV eb
  | some u =>
    obtain ⟨ht, hwt⟩ := read_text hr
    have hd := read_depth hr
    refine ⟨u.d, fun k S e0 e1 e2 e3 e4 e5 e6 e8 e9 e10 e11 e12 e13 e14 e15 => ?_⟩
    have e := c_law_read (k + 16) (Str.join " " ys) n S (by omega)
    rw [hr] at e
    have eb := eq_tm_bad S u (by omega)
    unfold BADV at eb
    have et := c_law_term_text u (k + 30 - u.depth) S hwt (by
      have := tlen_eq u
      rw [ht] at this
      omega)
    rw [show k + 30 - u.depth + u.depth = k + 30 by omega, ht] at et
    have el : isT tab S u.d .list = some false := by cases u <;> rfl
    os_names L_law_1 hasM_join bmA_join ej e rdD eb el et
theorem in_all (n : Int) : ∀ (l : List D), (∀ x ∈ l, okL x) → ∃ u v : Option D → Option D, ∀ (k : Nat) (S : Sto) (e0 e1 e2 e3 e4 e5 e6 e8 e9 e10 e11 e12 e13 e14 e15 : Option D),
    forL (forT tab (callF tab (k + 30)) (.one 13) L_law_1) l [e0, e1, e2, e3, e4, e5, e6, some (.int n), e8, e9, e10, e11, e12, e13, e14, e15] S = .nx [e0, e1, e2, e3, e4, e5, e6, some (.int n), e8, e9, e10, e11, e12, u e13, v e14, e15] S
  | [], _ => ⟨id, id, fun _ _ _ _ _ _ _ _ _ _ _ _ _ _ _ _ _ => rfl⟩
  | x :: r, h => by
    obtain ⟨told, e⟩ := in_turn n x (h x List.mem_cons_self)
    obtain ⟨u, v, ih⟩ := in_all n r fun y hy => h y (List.mem_cons_of_mem _ hy)
    refine ⟨fun _ => u (some x), fun _ => v (some told), fun k S e0 e1 e2 e3 e4 e5 e6 e8 e9 e10 e11 e12 e13 e14 e15 => ?_⟩
    rw [forL_cons, e, goK_nx, ih]
end K79
namespace K79
open PySem Mi Mi.Q Ta
local macro_rules | `(tactic| os_names $xs:ident*) => `(tactic| simp only [e_var, e_cst, e_glb, e_tup, e_lst, e_dic, e_bin, e_neg, e_nott, e_and, e_or, e_ife, e_cmp, e_chn, e_att, e_idx, e_slc, e_rev, e_isi, e_bf, e_bm, e_call, e_mk, e_mth, e_lc, e_lc2, e_frz,
  t_nott, t_and, t_or, t_ife, t_var, t_cst, t_glb, t_bin, t_cmp, t_chn, t_att, t_idx, t_isi, t_bf, t_bm, t_call, t_mth, tru_bl, tru_int, e_nil, e_cons, e_star, starK_lst, starK_tup, e_no, e_yes, evOK_int, c_no, c_yes, i_of, i_range1, i_range2, i_enum, enK_lst,
  s_nil, s_cons, s_set, s_par, s_unp, unpK_some, s_attS, s_idxS, stoK_some, s_aug, augK_some, augV_int, augE_some, s_exp, s_ret, s_retN, s_iff, s_forr, s_whil, s_brk, s_cnt, s_pass, s_rais, raisK_some, s_tryy, tryK_rt, tryK_nx, tryK_ex,
  bind_ok, bind_ex, then_ok, then_ex, seq_nx, seq_rt, seq_bk, seq_ct, seq_ex, of_some, endF_rt, endF_nx, endF_ex, leaveR_ok, leaveR_ex, noEx_ok,
  lk_some, mkT0, mkT1, mkT2, mkT3, mkT4, mkT5, mkT6, frs_false, mkL0, mkL1, mkL2, mkL3, mkL4, mkL5, mkL6, mkL7, mkL8, mkL10, mkL14, negK_int, notK_bl, andK_bl, orK_bl, and_ok, or_ok, and_okB, or_okB,
  g0, g1, g2, g3, g4, g5, g6, g7, g8, g9, g10, g11, g12, g13, g14, g15, s0, s1, s2, s3, s4, s5, s6, s7, s8, s9, s10, s11, s12, s13, s14, s15,
  eq_ints, eq_strs, eq_bls, eq_cn, eq_nn, isTs_nil, isTs_cons, orT_true, orT_false, isT_int, isT_bl, isT_str, isT_non, isT_tup, isT_lst, isT_dct, tyB, cmp_eq, cmp_ne, cmp_lt, cmp_le, cmp_gt, cmp_ge, cmp_in, cmp_notin, cmp_is, cmp_isnot, nn_non, nn_int, nn_str, nn_tup, nn_lst, nn_bl, nn_dct, nn_ins, nn_ref,
  len_lst, len_tup, len_str, len_dct, len_scr, list_lst, list_tup, tuple_lst, tuple_tup, int_int, int_bl, str_str, abs_int, min_ints, max_ints, iter_lst, iter_tup, iter_str, fresh_false, add_ints, sub_ints, ix_t0, ix_t1, ix_t2, ix_t3, ix_l0, ix_l1, ix_l2, ix_l3, ix_d, sl_t1,
  q_tick_arg, q_tick_cell, q_tick_call, q_tick_plus, q_tick_less, q_tick_same, q_tick_if, q_arg_tick, q_arg_cell, q_arg_call, q_arg_plus, q_arg_less, q_arg_same, q_arg_if, q_cell_tick, q_cell_arg, q_cell_call, q_cell_plus, q_cell_less, q_cell_same, q_cell_if, q_call_tick, q_call_arg, q_call_cell, q_call_plus, q_call_less, q_call_same, q_call_if, q_plus_tick, q_plus_arg, q_plus_cell, q_plus_call, q_plus_less, q_plus_same, q_plus_if, q_less_tick, q_less_arg, q_less_cell, q_less_call, q_less_plus, q_less_same, q_less_if, q_same_tick, q_same_arg, q_same_cell, q_same_call, q_same_plus, q_same_less, q_same_if, q_if_tick, q_if_arg, q_if_cell, q_if_call, q_if_plus, q_if_less, q_if_same, beq_self_eq_true, Bool.and_true, Bool.true_and, Bool.and_false, Bool.false_and, Bool.or_true, Bool.true_or, Bool.or_false, Bool.false_or, List.length_cons, List.length_nil, Nat.zero_add, Nat.reduceAdd, lci0, lcj0, fri0, acc0, any0, all0, lci1, lcj1, fri1, acc1, any1, all1, lci2, lcj2, fri2, acc2, any2, all2, lci3, lcj3, fri3, acc3, any3, all3, lci4, lcj4, fri4, acc4, any4, all4, lci5, lcj5, fri5, acc5, any5, all5, lcT, lcT2, lcU, forT1, List.length_map, seq_ite, then_ite, bind_ite, endF_ite, nc0, nc1, nc2, nc3, nc4, nc5, nc6, nc7, nc8, nc9, nc10, nc11, nc12, nc13, nc14, nc15, nc16, nc17, nc18, nc19, nc20, nc21, nc22, nc23, nc24, nc25, nc26, nc27, nc28, nc29, nc30, in_ts1, in_ts2, in_ts3, in_ts4, in_ti1, in_ti2, in_ti3, in_ti4, in_ls1, in_ls2, in_ls3, in_ls4, in_li1, in_li2, in_li3, in_li4, in_sign, bindT, wipeL, Tg.slots, List.cons_append, List.append_nil, List.nil_append, setN, Int.reduceBEq, Int.reduceLE, Int.reduceLT, decide_true, decide_false, Int.reduceSub, Int.reduceAdd, Int.reduceEq, Int.reduceBNe, bne_self_eq_false,
  lcK_nil, lcK_cons, lcL_nil, lcL_cons, accK_none, forL_nil, forL_cons, goK_nx, goK_ct, goK_bk, goK_rt, goK_ex, Option.map_some, Option.map_none, Option.bind_some, Option.bind_none, if_true, if_false, Bool.false_eq_true, Bool.true_eq_false, reduceCtorEq, Bool.not_false, Bool.not_true, $[$xs:ident],*])
theorem cut_len {α : Type} (l : List α) (x y : Option Int) : (cut l x y).length ≤ l.length := by
  unfold cut
  rw [List.length_take, List.length_drop]
  omega
theorem map_app1 (a : List Str) (w : Str) : a.map D.str ++ [.str w] = (a ++ [w]).map .str := by rw [List.map_append]; rfl
theorem text_sp (t : Tm) : t.text ++ Str.ofString " " = Str.join " " (t.words ++ [Str.ofString ""]) := by
  rw [join_app (words_ne t) (List.cons_ne_nil _ _)]
  show _ = Str.join " " t.words ++ Str.ofString " " ++ Str.ofString ""
  have : ∀ x : Str, x ++ Str.ofString "" = x := fun x => by
    show (⟨x.cps ++ (Str.ofString "").cps⟩ : Str) = x
    have e : (Str.ofString "").cps = #[] := by decide +kernel
    rw [e, Array.append_empty]
  rw [this]
  rfl
def B79 (n0 n1 n2 n3 : Str) : D := .dct [("cells", .lst [.tup [.str n0, .str "table"], .tup [.str n1, .str "frozen"]]), ("functions", .lst [.dct [("name", .str n2), ("many", .int 2)], .dct [("name", .str n3), ("many", .int 0)]])]
theorem bk79 (S : Sto) (pl : Nat) (n0 n1 n2 n3 : Str) : BkAt S pl (B79 n0 n1 n2 n3) [.tup [.str n0, .str "table"], .tup [.str n1, .str "frozen"]] [.dct [("name", .str n2), ("many", .int 2)], .dct [("name", .str n3), ("many", .int 0)]] [n0, n1] [(n2, 2), (n3, 0)] := by
  refine ⟨fun _ _ => rfl, fun _ _ => rfl, by simp, by simp, fun d hd => ?_, fun d hd => ?_⟩
  · simp only [List.mem_cons, List.not_mem_nil, or_false] at hd
    rcases hd with rfl | rfl
    · exact ⟨n0, _, rfl, by simp⟩
    · exact ⟨n1, _, rfl, by simp⟩
  · simp only [List.mem_cons, List.not_mem_nil, or_false] at hd
    rcases hd with rfl | rfl
    · exact ⟨n2, 2, fun _ => rfl, fun _ => rfl, by simp, .inr (.inr rfl)⟩
    · exact ⟨n3, 0, fun _ => rfl, fun _ => rfl, by simp, .inl rfl⟩
section
variable (S : Sto) (pl : Nat) (hp : (getc S.c pl).isSome = true) (n0 n1 n2 n3 : Str) (h0 : isName n0 = true) (h1 : isName n1 = true) (h2 : isName n2 = true) (h3 : isName n3 = true) (n : Int) (hn0 : 0 ≤ n) (hn2 : n ≤ 2)
def Nx (r : RS) (P : Mi.Env → Sto → Prop) : Prop := ∃ e S, r = .nx e S ∧ P e S
theorem forL_nx (f : D → Mi.Env → Sto → RS) (I : Mi.Env → Sto → Prop) : ∀ (l : List D), (∀ x ∈ l, ∀ e S, I e S → Nx (f x e S) I) → ∀ e S, I e S → Nx (forL f l e S) I
  | [], _, e, S, h => ⟨e, S, rfl, h⟩
  | x :: r, hf, e, S, h => by
    obtain ⟨e', S', h1, h2⟩ := hf x List.mem_cons_self e S h
    rw [forL_cons, h1, goK_nx]
    exact forL_nx f I r (fun y hy => hf y (List.mem_cons_of_mem _ hy)) e' S' h2
def I2 (S : Sto) (pl : Nat) (B : D) (n : Int) (e0 e1 e5 e6 e15 : Option D) (e : Mi.Env) (S' : Sto) : Prop := ∃ e4 e8 e9 e10 e11 e12 e13 e14 a b, e = [e0, e1, some (.ref pl), some B, e4, e5, e6, some (.int n), e8, e9, e10, e11, e12, e13, e14, e15] ∧ S' = Po S pl a b
include hp h0 h1 h2 h3 hn0 hn2 in
theorem turn2 (a b : Int) (x : D) (k : Nat) (e0 e1 e4 e5 e6 e8 e9 e10 e11 e12 e13 e14 e15 : Option D) :
    Nx (forT tab (callF tab (k + 30)) (.one 4) L_law_2 x [e0, e1, some (.ref pl), some (B79 n0 n1 n2 n3), e4, e5, e6, some (.int n), e8, e9, e10, e11, e12, e13, e14, e15] (Po S pl a b)) (I2 S pl (B79 n0 n1 n2 n3) n e0 e1 e5 e6 e15) := by
  obtain ⟨j, a1, b1, j0, j1, d1⟩ := c_draw S pl hp a b 4 (by decide) (by decide)
  have bk := bk79 S pl n0 n1 n2 n3
  obtain ⟨t, a2, b2, ot, dt, et⟩ := c_law_term S pl hp _ _ _ _ _ bk n hn0 hn2 j.toNat a1 b1
  have ok : t.ok n = true := okT_ok (fun x hx => by
    simp only [List.mem_cons, List.not_mem_nil, or_false] at hx
    rcases hx with rfl | rfl <;> assumption) (fun p hp => by
    simp only [List.mem_cons, List.not_mem_nil, or_false] at hp
    rcases hp with rfl | rfl <;> assumption) ot
  have hg := ok_good hn2 ok
  have hw := good_wt hg
  have hd : t.depth ≤ 4 := by omega
  have hl : tlen t ≤ 3200 := tlen_le hn2 t 3 ok (by omega)
  have ej : ((j.toNat : Nat) : Int) = j := by omega
  have et1 := et (k + 27 - j.toNat)
  rw [ej, show k + 27 - j.toNat + j.toNat + 3 = k + 30 by omega] at et1
  have ett := c_law_term_text t (k + 30 - t.depth) (Po S pl a2 b2) hw (by unfold LL; omega)
  have ewt := c_write_term t (k + 30 - t.depth) (Po S pl a2 b2) hw (by unfold LL; omega)
  rw [show k + 30 - t.depth + t.depth = k + 30 by omega] at ett ewt
  have tl := text_len t
  have hsb : Txt.split t.text " " = t.words := split_back (words_ne t) (words_sp hg)
  have esp : ∀ S, bmO .split S (.str t.text) [.str (Str.ofString " ")] = some (.lst (t.words.map .str)) := fun S => by
    refine (if_pos ⟨by decide +kernel, by decide +kernel, by unfold LL; omega⟩).trans ?_
    rw [hsb]
  by_cases c : t.words.length ≤ 30
  · have c' : decide ((t.words.length : Int) ≤ 30) = true := decide_eq_true (by omega)
    have er := c_law_read (k + 16) t.text n (Po S pl a2 b2) (by unfold LL; omega)
    rw [hsb, read_words hn2 ok (by omega) c] at er
    have es := eq_tm_self (Po S pl a2 b2) t (by omega)
    have wp := words_pos t
    obtain ⟨v, a3, b3, v0, v1, d3⟩ := c_draw S pl hp a2 b2 (t.words.length : Int) (by omega) (by omega)
    have cl := fun x y => cut_len t.words x y
    have A1 : ∀ w : Str, binO .add (.lst (t.words.map .str)) (.lst [.str w]) = some (.lst ((t.words ++ [w]).map .str)) := fun w => by
      rw [add_lsts (by simp only [List.length_map, List.length_cons, List.length_nil]; unfold LL; omega), map_app1]
    have A2 : ∀ (x y : Option Int) (w : Str), binO .add (.lst ((cut t.words x y).map .str)) (.lst [.str w]) = some (.lst ((cut t.words x y ++ [w]).map .str)) := fun x y w => by
      rw [add_lsts (by have := cl x y; simp only [List.length_map, List.length_cons, List.length_nil]; unfold LL; omega), map_app1]
    have A3 : ∀ (x y x' y' : Option Int) (w : Str), binO .add (.lst ((cut t.words x y ++ [w]).map .str)) (.lst ((cut t.words x' y').map .str)) = some (.lst ((cut t.words x y ++ [w] ++ cut t.words x' y').map .str)) := fun x y x' y' w => by
      rw [add_lsts (by have := cl x y; have := cl x' y'; simp only [List.length_map, List.length_append, List.length_cons, List.length_nil]; unfold LL; omega), ← List.map_append]
    have A4 : ∀ w : Str, binO .add (.lst [.str w]) (.lst (t.words.map .str)) = some (.lst ((w :: t.words).map .str)) := fun w => by
      rw [add_lsts (by simp only [List.length_map, List.length_cons, List.length_nil]; unfold LL; omega)]
      rfl
    have A5 : ∀ a b c d e f g h i : D, binO .add (.lst [a, b, c, d, e, f]) (.lst [g, h, i]) = some (.lst [a, b, c, d, e, f, g, h, i]) := fun a b c d e f g h i => add_lsts (show 6 + 3 ≤ LL by decide)
    have W0 : wl t.words ≤ 3200 := hl
    have Wc := fun x y => Nat.le_trans (wl_cut t.words x y) W0
    have w1 : ∀ w : Str, w.length ≤ 8 → wl [w] ≤ 9 := fun w h => by
      unfold wl
      simp only [List.map_cons, List.map_nil, List.sum_cons, List.sum_nil, List.length_cons, List.length_nil]
      omega
    have K1 : ∀ w : Str, w.length ≤ 8 → okL (.lst ((t.words ++ [w]).map .str)) := fun w h => ⟨_, rfl, by rw [wl_app]; have := w1 w h; unfold LL; omega⟩
    have K3 : ∀ (x y x' y' : Option Int) (w : Str), w.length ≤ 8 → okL (.lst ((cut t.words x y ++ [w] ++ cut t.words x' y').map .str)) := fun x y x' y' w h => ⟨_, rfl, by
      rw [wl_app, wl_app]; have := w1 w h; have := Wc x y; have := Wc x' y'; unfold LL; omega⟩
    have K4 : ∀ w : Str, w.length ≤ 8 → okL (.lst ((w :: t.words).map .str)) := fun w h => ⟨_, rfl, by
      rw [show w :: t.words = [w] ++ t.words from rfl, wl_app]; have := w1 w h; unfold LL; omega⟩
    have K5 : ∀ (x y : Option Int), okL (.lst ((cut t.words x y).map .str)) := fun x y => ⟨_, rfl, by have := Wc x y; unfold LL; omega⟩
    obtain ⟨u, v', ei⟩ := in_all n [.lst ((t.words ++ [Str.ofString "0"]).map .str), .lst ((t.words ++ [Str.ofString "arg"]).map .str), .lst ((cut t.words none (some v) ++ [Str.ofString ""] ++ cut t.words (some v) none).map .str),
      .lst ((cut t.words none (some (-1))).map .str), .lst ((t.words ++ [Str.ofString ""]).map .str), .lst ((Str.ofString "" :: t.words).map .str),
      .lst ((cut t.words none (some v) ++ [Str.ofString "Plus"] ++ cut t.words (some (v + 1)) none).map .str), .lst ((cut t.words none (some v) ++ [Str.ofString "01"] ++ cut t.words (some (v + 1)) none).map .str), .lst ((cut t.words none (some v) ++ [Str.ofString "-1"] ++ cut t.words (some (v + 1)) none).map .str)] (by
      intro x hx
      simp only [List.mem_cons, List.not_mem_nil, or_false] at hx
      rcases hx with rfl | rfl | rfl | rfl | rfl | rfl | rfl | rfl | rfl
      · exact K1 _ (by decide +kernel)
      · exact K1 _ (by decide +kernel)
      · exact K3 _ _ _ _ _ (by decide +kernel)
      · exact K5 _ _
      · exact K1 _ (by decide +kernel)
      · exact K4 _ (by decide +kernel)
      · exact K3 _ _ _ _ _ (by decide +kernel)
      · exact K3 _ _ _ _ _ (by decide +kernel)
      · exact K3 _ _ _ _ _ (by decide +kernel))
    have sp : ∀ w : Str, noSp w = true → Txt.split (Str.join " " (t.words ++ [w])) " " = t.words ++ [w] := fun w hw => split_back (by simp) fun y hy => by
      rcases List.mem_append.mp hy with h | h
      · exact words_sp hg y h
      · rw [List.mem_singleton.mp h]; exact hw
    have er1 := c_law_read (k + 16) (Str.join " " (t.words ++ [Str.ofString "0"])) n (Po S pl a3 b3) (by
      have := join_wl (t.words ++ [Str.ofString "0"])
      rw [wl_app] at this
      have := w1 (Str.ofString "0") (by decide +kernel)
      unfold LL; omega)
    rw [sp (Str.ofString "0") (by decide +kernel), read_more hn2 ok (by omega)] at er1
    have er2 := c_law_read (k + 16) (t.text ++ Str.ofString " ") n (Po S pl a3 b3) (by
      rw [len_app, sp_len]; unfold LL; omega)
    rw [text_sp, sp (Str.ofString "") (by decide +kernel), read_more hn2 ok (by omega), ← text_sp] at er2
    have ejn := fun S => jo S (t.words ++ [Str.ofString "0"]) _ rfl (by
      have : wl (t.words ++ [Str.ofString "0"]) ≤ LL := by
        rw [wl_app]
        have := w1 (Str.ofString "0") (by decide +kernel)
        unfold LL; omega
      exact this)
    have eadd : binO .add (.str t.text) (.str (Str.ofString " ")) = some (.str (t.text ++ Str.ofString " ")) := add_strs (by
      show t.text.length + (Str.ofString " ").length ≤ LL
      rw [sp_len]; unfold LL; omega)
    have eb := eq_bad (Po S pl a3 b3)
    unfold BADV at eb
    have fr : ∀ (f : D → Mi.Env → Sto → RS) (S : Sto) (e : Mi.Env) (a b c d a1 b1 c1 d1 e1 : D), forI f (.fix [a, b, c, d, a1, b1, c1, d1, e1]) FL 0 e S = forL f [a, b, c, d, a1, b1, c1, d1, e1] e S := fun f S e a b c d a1 b1 c1 d1 e1 => forI_fix f e S (show 9 ≤ LL by decide)
    os_names L_law_2 d1 et1 ett ewt hasM_split bmA_split esp c' er es rdD d3 sl_strs A1 A2 A3 A4 A5 fr ei hasM_join bmA_join ejn er1 er2 eadd eb BADV
    exact ⟨_, _, rfl, _, _, _, _, _, _, _, _, _, _, rfl, rfl⟩
  · have c' : decide ((t.words.length : Int) ≤ 30) = false := decide_eq_false (by omega)
    os_names L_law_2 d1 et1 ett hasM_split bmA_split esp c'
    exact ⟨_, _, rfl, _, _, _, _, _, _, _, _, _, _, rfl, rfl⟩
end
end K79
namespace K79
open PySem Mi Mi.Q Ta
local macro_rules | `(tactic| os_names $xs:ident*) => `(tactic| simp only [e_var, e_cst, e_glb, e_tup, e_lst, e_dic, e_bin, e_neg, e_nott, e_and, e_or, e_ife, e_cmp, e_chn, e_att, e_idx, e_slc, e_rev, e_isi, e_bf, e_bm, e_call, e_mk, e_mth, e_lc, e_lc2, e_frz,
  t_nott, t_and, t_or, t_ife, t_var, t_cst, t_glb, t_bin, t_cmp, t_chn, t_att, t_idx, t_isi, t_bf, t_bm, t_call, t_mth, tru_bl, tru_int, e_nil, e_cons, e_star, starK_lst, starK_tup, e_no, e_yes, evOK_int, c_no, c_yes, i_of, i_range1, i_range2, i_enum, enK_lst,
  s_nil, s_cons, s_set, s_par, s_unp, unpK_some, s_attS, s_idxS, stoK_some, s_aug, augK_some, augV_int, augE_some, s_exp, s_ret, s_retN, s_iff, s_forr, s_whil, s_brk, s_cnt, s_pass, s_rais, raisK_some, s_tryy, tryK_rt, tryK_nx, tryK_ex,
  bind_ok, bind_ex, then_ok, then_ex, seq_nx, seq_rt, seq_bk, seq_ct, seq_ex, of_some, endF_rt, endF_nx, endF_ex, leaveR_ok, leaveR_ex, noEx_ok,
  lk_some, mkT0, mkT1, mkT2, mkT3, mkT4, mkT5, mkT6, frs_false, mkL0, mkL1, mkL2, mkL3, mkL4, mkL5, mkL6, mkL7, mkL8, mkL10, mkL14, negK_int, notK_bl, andK_bl, orK_bl, and_ok, or_ok, and_okB, or_okB,
  g0, g1, g2, g3, g4, g5, g6, g7, g8, g9, g10, g11, g12, g13, g14, g15, s0, s1, s2, s3, s4, s5, s6, s7, s8, s9, s10, s11, s12, s13, s14, s15,
  eq_ints, eq_strs, eq_bls, eq_cn, eq_nn, isTs_nil, isTs_cons, orT_true, orT_false, isT_int, isT_bl, isT_str, isT_non, isT_tup, isT_lst, isT_dct, tyB, cmp_eq, cmp_ne, cmp_lt, cmp_le, cmp_gt, cmp_ge, cmp_in, cmp_notin, cmp_is, cmp_isnot, nn_non, nn_int, nn_str, nn_tup, nn_lst, nn_bl, nn_dct, nn_ins, nn_ref,
  len_lst, len_tup, len_str, len_dct, len_scr, list_lst, list_tup, tuple_lst, tuple_tup, int_int, int_bl, str_str, abs_int, min_ints, max_ints, iter_lst, iter_tup, iter_str, fresh_false, add_ints, sub_ints, ix_t0, ix_t1, ix_t2, ix_t3, ix_l0, ix_l1, ix_l2, ix_l3, ix_d, sl_t1,
  q_tick_arg, q_tick_cell, q_tick_call, q_tick_plus, q_tick_less, q_tick_same, q_tick_if, q_arg_tick, q_arg_cell, q_arg_call, q_arg_plus, q_arg_less, q_arg_same, q_arg_if, q_cell_tick, q_cell_arg, q_cell_call, q_cell_plus, q_cell_less, q_cell_same, q_cell_if, q_call_tick, q_call_arg, q_call_cell, q_call_plus, q_call_less, q_call_same, q_call_if, q_plus_tick, q_plus_arg, q_plus_cell, q_plus_call, q_plus_less, q_plus_same, q_plus_if, q_less_tick, q_less_arg, q_less_cell, q_less_call, q_less_plus, q_less_same, q_less_if, q_same_tick, q_same_arg, q_same_cell, q_same_call, q_same_plus, q_same_less, q_same_if, q_if_tick, q_if_arg, q_if_cell, q_if_call, q_if_plus, q_if_less, q_if_same, beq_self_eq_true, Bool.and_true, Bool.true_and, Bool.and_false, Bool.false_and, Bool.or_true, Bool.true_or, Bool.or_false, Bool.false_or, List.length_cons, List.length_nil, Nat.zero_add, Nat.reduceAdd, lci0, lcj0, fri0, acc0, any0, all0, lci1, lcj1, fri1, acc1, any1, all1, lci2, lcj2, fri2, acc2, any2, all2, lci3, lcj3, fri3, acc3, any3, all3, lci4, lcj4, fri4, acc4, any4, all4, lci5, lcj5, fri5, acc5, any5, all5, lcT, lcT2, lcU, forT1, List.length_map, seq_ite, then_ite, bind_ite, endF_ite, nc0, nc1, nc2, nc3, nc4, nc5, nc6, nc7, nc8, nc9, nc10, nc11, nc12, nc13, nc14, nc15, nc16, nc17, nc18, nc19, nc20, nc21, nc22, nc23, nc24, nc25, nc26, nc27, nc28, nc29, nc30, in_ts1, in_ts2, in_ts3, in_ts4, in_ti1, in_ti2, in_ti3, in_ti4, in_ls1, in_ls2, in_ls3, in_ls4, in_li1, in_li2, in_li3, in_li4, in_sign, bindT, wipeL, Tg.slots, List.cons_append, List.append_nil, List.nil_append, setN, Int.reduceBEq, Int.reduceLE, Int.reduceLT, decide_true, decide_false, Int.reduceSub, Int.reduceAdd, Int.reduceEq, Int.reduceBNe, bne_self_eq_false,
  lcK_nil, lcK_cons, lcL_nil, lcL_cons, accK_none, forL_nil, forL_cons, goK_nx, goK_ct, goK_bk, goK_rt, goK_ex, Option.map_some, Option.map_none, Option.bind_some, Option.bind_none, if_true, if_false, Bool.false_eq_true, Bool.true_eq_false, reduceCtorEq, Bool.not_false, Bool.not_true, $[$xs:ident],*])
theorem Nx_seq {r : RS} {f : Mi.Env → Sto → RS} {P Q : Mi.Env → Sto → Prop} (h : Nx r P) (g : ∀ e S, P e S → Nx (f e S) Q) : Nx (r.seq f) Q := by
  obtain ⟨e, S, rfl, p⟩ := h
  exact g e S p
theorem lc_none {f : D → Sto → R (Option D)} {S : Sto} (l : List D) (h : ∀ x ∈ l, f x S = .ok none S) (hl : l.length ≤ LL) : lcI f (.fix l) FL 0 [] S = .ok [] S := by
  rw [lcI_fix _ _ _ hl, lcL_pure (fun _ => none) l [] h (by simpa using hl)]
  simp
theorem po_top (S : Sto) (a b : Int) : (⟨.lst [.int a, .int b] :: S.c, S.fl⟩ : Sto) = Po ⟨.lst [] :: S.c, S.fl⟩ S.c.length a b := by
  show _ = (⟨setc (.lst [] :: S.c) S.c.length (.lst [.int a, .int b]), S.fl⟩ : Sto)
  rw [setc_top]
def oddS (n : Int) : List Str := ["", " ", "3", "arg", "arg " ++ strOf n, "arg x", "cell", "cell A", "plus 1", "less 1 2 3", "if 1 2", "call f", "call f 3 1 1 1", "call f 1", "call f 01 1", "call F 0", "Tick", "tick 1", "same 1  2", "arg -1", "arg 00"]
def oddL (n : Int) : List D := [.non, .int 5, .str "", .str " ", .str "3", .str "arg", .str (Str.ofString "arg " ++ strOf n), .str "arg x", .str "cell", .str "cell A", .str "plus 1", .str "less 1 2 3", .str "if 1 2", .str "call f",
  .str "call f 3 1 1 1", .str "call f 1", .str "call f 01 1", .str "call F 0", .str "Tick", .str "tick 1", .str "same 1  2", .lst [.str "tick"], .str "arg -1", .str "arg 00"]
theorem odd_all (n : Int) (h0 : 0 ≤ n) (h2 : n ≤ 2) : ∀ x ∈ oddS n, (readM (Txt.split x " ") n).isNone = true ∧ x.length + 2 ≤ 100 := by
  have : n = 0 ∨ n = 1 ∨ n = 2 := by omega
  have key : ∀ l : List Str, (l.all fun x => (readM (Txt.split x " ") n).isNone && decide (x.length + 2 ≤ 100)) = true → ∀ x ∈ l, (readM (Txt.split x " ") n).isNone = true ∧ x.length + 2 ≤ 100 := fun l h x hx => by
    have := List.all_eq_true.mp h x hx
    simpa using this
  refine key _ ?_
  rcases this with rfl | rfl | rfl <;> decide +kernel
theorem odd_mem (n : Int) (x : D) (h : x ∈ oddL n) : (∃ s ∈ oddS n, x = .str s) ∨ ∀ S, isT tab S x .str = some false := by
  unfold oddL at h
  simp only [List.mem_cons, List.not_mem_nil, or_false] at h
  rcases h with rfl | rfl | h | h | h | h | h | h | h | h | h | h | h | h | h | h | h | h | h | h | h | rfl | h | h
  · exact .inr fun _ => rfl
  · exact .inr fun _ => rfl
  all_goals first
    | (refine .inl ⟨_, ?_, h⟩; unfold oddS; simp only [List.mem_cons, true_or, or_true]; done)
    | exact .inr fun _ => rfl
theorem odd_read (n : Int) (h0 : 0 ≤ n) (h2 : n ≤ 2) (x : D) (h : x ∈ oddL n) (k : Nat) (S : Sto) : callF tab (k + 14) F_law_read [x, .int n] S = .ok BADV S := by
  rcases odd_mem n x h with ⟨s, hs, rfl⟩ | ho
  · obtain ⟨h3, h4⟩ := odd_all n h0 h2 s hs
    rw [c_law_read k s n S (by unfold LL; omega)]
    rw [Option.isNone_iff_eq_none] at h3
    rw [h3]
    rfl
  · exact c_law_read_odd k x n S ho
def I3 (ns : List Int) (e : Mi.Env) (_ : Sto) : Prop := ∃ e1 e2 e3 e4 e5 e6 e7 e8 e9 e10 e11 e12 e13 e14 e15, e = [some (.scr ns), e1, e2, e3, e4, e5, e6, e7, e8, e9, e10, e11, e12, e13, e14, e15]
theorem turn3 (ns : List Int) (i : Int) (h0 : 0 ≤ i) (h1 : i < 1000) (k : Nat) (S : Sto) (e1 e2 e3 e4 e5 e6 e7 e8 e9 e10 e11 e12 e13 e14 e15 : Option D) :
    Nx (forT tab (callF tab (k + 30)) (.one 1) L_law_3 (.int i) [some (.scr ns), e1, e2, e3, e4, e5, e6, e7, e8, e9, e10, e11, e12, e13, e14, e15] S) (I3 ns) := by
  obtain ⟨a, b, ep⟩ := c_pool (k + 29) ns i S h0 h1
  rw [po_top] at ep
  generalize hS1 : (⟨.lst [] :: S.c, S.fl⟩ : Sto) = S1 at ep
  have hp : (getc S1.c S.c.length).isSome = true := by
    rw [← hS1]
    show (getc (.lst [] :: S.c) S.c.length).isSome = true
    rw [getc_top] <;> rfl
  obtain ⟨h, t, o, s, a1, b1, he, hs, ho, en⟩ := c_names S1 S.c.length hp a b 4 (by decide)
  have e4' := en (k + 27)
  rw [show (List.range 4).map (fun k => D.str (nameAt h t o s k)) = [.str (nameAt h t o s 0), .str (nameAt h t o s 1), .str (nameAt h t o s 2), .str (nameAt h t o s 3)] from rfl, show ((4 : Nat) : Int) = 4 from rfl] at e4'
  obtain ⟨n, a2, b2, n0, n1, d3⟩ := c_draw S1 S.c.length hp a1 b1 3 (by decide) (by decide)
  have r12 : rg1 (.int 12) (Po S1 S.c.length a2 b2) = .ok (.fix (rangeL 0 12)) (Po S1 S.c.length a2 b2) := rfl
  os_names L_law_3 ep e4' d3 List.zip_cons_cons List.zip_nil_right r12
  refine Nx_seq (P := I2 S1 S.c.length (B79 (nameAt h t o s 0) (nameAt h t o s 1) (nameAt h t o s 2) (nameAt h t o s 3)) n (some (.scr ns)) (some (.int i)) e5 (some (.lst [.str (nameAt h t o s 0), .str (nameAt h t o s 1), .str (nameAt h t o s 2), .str (nameAt h t o s 3)])) e15) ?_ ?_
  · rw [forI_fix _ _ _ (by decide)]
    refine forL_nx _ _ _ (fun x hx e S' hI => ?_) _ _ ⟨_, _, _, _, _, _, _, _, _, _, rfl, rfl⟩
    obtain ⟨f4, f8, f9, f10, f11, f12, f13, f14, a, b, rfl, rfl⟩ := hI
    exact turn2 S1 S.c.length hp _ _ _ _ (name_ok he _ _ _) (name_ok he _ _ _) (name_ok he _ _ _) (name_ok he _ _ _) n n0 (by omega) a b x k _ _ _ _ _ _ _ _ _ _ _ _ _
  · intro e S' hI
    obtain ⟨f4, f8, f9, f10, f11, f12, f13, f14, a, b, rfl, rfl⟩ := hI
    have es := str_int (Po S1 S.c.length a b) (i := n) n0 (by omega)
    have ea : binO .add (.str (Str.ofString "arg ")) (.str (strOf n)) = some (.str (Str.ofString "arg " ++ strOf n)) := add_strs (by
      have : n = 0 ∨ n = 1 ∨ n = 2 := by omega
      rcases this with rfl | rfl | rfl <;> decide +kernel)
    have el : ∀ a b c d e f g h i j k l m n a1 b1 c1 d1 e1 f1 g1 h1 i1 j1 : D, binO .add (.lst [a, b, c, d, e, f, g, h, i, j, k, l, m, n]) (.lst [a1, b1, c1, d1, e1, f1, g1, h1, i1, j1]) = some (.lst [a, b, c, d, e, f, g, h, i, j, k, l, m, n, a1, b1, c1, d1, e1, f1, g1, h1, i1, j1]) := fun a b c d e f g h i j k l m n a1 b1 c1 d1 e1 f1 g1 h1 i1 j1 => add_lsts (show 14 + 10 ≤ LL by decide)
    os_names es ea el
    rw [lc_none _ ?_ ?_]
    · os_names if_true 
      exact ⟨_, _, rfl, _, _, _, _, _, _, _, _, _, _, _, _, _, _, _, rfl⟩
    · intro x hx
      have hx : x ∈ oddL n := hx
      have er := odd_read n n0 (by omega) x hx (k + 16) (Po S1 S.c.length a b)
      have eb := eq_bad (Po S1 S.c.length a b)
      unfold BADV at eb er
      os_names er eb
    · exact (show 24 ≤ LL by decide)
theorem law_ok (ns : List Int) (hl : ns.length ≤ 63) : ∃ S', callF tab 60 F_law [.scr ns] ⟨[], 0⟩ = .ok (.bl true) S' := by
  have e := U_law 59 (.scr ns) ⟨[], 0⟩
  rw [show 60 = 59 + 1 from rfl, e]
  obtain ⟨m, h0, h1, hm⟩ : ∃ m : Int, 0 ≤ m ∧ m ≤ 2 ∧ (if (if (2 : Int) < (ns.length : Int) then 2 else (ns.length : Int)) > 1 then (if (2 : Int) < (ns.length : Int) then 2 else (ns.length : Int)) else 1) = m := by
    refine ⟨_, ?_, ?_, rfl⟩ <;> (split <;> split <;> omega)
  have r := rg1_int ⟨[], 0⟩ h0 (by omega)
  os_names B_law hm r
  have key : Nx (forI (forT tab (callF tab 59) (.one 1) L_law_3) (.fix (rangeL 0 m.toNat)) FL 0 [some (.scr ns), none, none, none, none, none, none, none, none, none, none, none, none, none, none, none] ⟨[], 0⟩) (I3 ns) := by
    rw [forI_fix _ _ _ (by unfold rangeL; rw [List.length_map, List.length_range]; unfold LL; omega)]
    refine forL_nx _ _ _ (fun x hx e S hI => ?_) _ _ ⟨_, _, _, _, _, _, _, _, _, _, _, _, _, _, _, rfl⟩
    unfold rangeL at hx
    obtain ⟨j, hj, rfl⟩ := List.mem_map.mp hx
    rw [List.mem_range] at hj
    obtain ⟨e1, e2, e3, e4, e5, e6, e7, e8, e9, e10, e11, e12, e13, e14, e15, rfl⟩ := hI
    exact turn3 ns (0 + (j : Int)) (by omega) (by omega) 29 S _ _ _ _ _ _ _ _ _ _ _ _ _ _ _
  obtain ⟨e', S', e1, -⟩ := key
  os_names e1
  exact ⟨_, rfl⟩
end K79
/-! Mi: how data stand in the abstract heap; what an evaluation leaves. -/
namespace Mi
open PySem PySem.Spec PyProof.Rows L2

/-- the text's numbers by names and addresses -/
structure Nm where
  att : Nat → Str
  /-- classes with instances, classes of exceptions -/
  cls : Nat → Addr
  exc : Nat → Addr

def sOk (x : Str) : Prop := x.length ≤ LL ∧ PyData.strOk x = true
theorem LL_line : LL ≤ sizeLine := by rw [sizeLine_eq]; decide

section
variable (K : PySem.W.Frag) (A : Nm) (F : Hp) (m : Nat → Addr) (n : Nat)
mutual
/-- the value v stands for d; F: what never changes; m: where the store's objects are, n of them -/
def RV : D → V → Prop
  | .non, v => v = .non
  | .bl b, v => v = .bl b
  | .int i, v => v = .int i
  | .str x, v => v = .str x ∧ sOk x
  | .tup l, v => ∃ a us, v = .ref a ∧ SqT K F a us ∧ l.length ≤ LL ∧ RVs l us
  | .lst l, v => ∃ a us, v = .ref a ∧ F a = some (.lst us) ∧ l.length ≤ LL ∧ RVs l us
  | .dct l, v => ∃ a kvs, v = .ref a ∧ F a = some (.dK kvs) ∧ l.length ≤ LL ∧ RVk l kvs
  | .ins c l, v => ∃ a dx fs, v = .ref a ∧ F a = some (.ins (A.cls c) dx fs) ∧ RVf l fs
  | .ref k, v => k < n ∧ v = .ref (m k)
  | .scr l, v => ∃ a, v = .ref a ∧ SqL K F a (l.map V.int) ∧ l.length ≤ LL
def RVs : List D → List V → Prop
  | [], us => us = []
  | d :: r, us => ∃ u us', us = u :: us' ∧ RV d u ∧ RVs r us'
def RVk : List (Str × D) → List (Key × V) → Prop
  | [], us => us = []
  | (k, d) :: r, us => ∃ u us', us = (.inr k, u) :: us' ∧ RV d u ∧ RVk r us'
def RVf : List (Nat × D) → List (Str × V) → Prop
  | [], us => us = []
  | (k, d) :: r, us => ∃ u us', us = (A.att k, u) :: us' ∧ RV d u ∧ RVf r us'
end
/-- an object of the store, at a -/
def CR (H : Hp) (a : Addr) : Cell → Prop
  | .lst l => ∃ us, H a = some (.lst us) ∧ l.length ≤ LL ∧ RVs K A F m n l us
  | .dct l => ∃ kvs, H a = some (.dK kvs) ∧ l.length ≤ LL ∧ RVk K A F m n l kvs
  | .ins c l => ∃ dx fs, H a = some (.ins (A.cls c) dx fs) ∧ l.length ≤ 100 ∧ RVf K A F m n l fs
  | .dead => True
end
def live : Cell → Bool
  | .dead => false
  | _ => true
/-- the state -/
structure SR (K : PySem.W.Frag) (A : Nm) (F : Hp) (m : Nat → Addr) (S : Sto) (H : Hp) : Prop where
  flo : S.fl ≤ S.c.length
  sub : Same F H
  sep : ∀ l c, getc S.c l = some c → live c = true → F (m l) = none
  inj : ∀ l l', l < S.c.length → l' < S.c.length → m l = m l' → l = l'
  trk : ∀ l, l < S.c.length → H (m l) ≠ none
  cel : ∀ l c, getc S.c l = some c → CR K A F m S.c.length H (m l) c
/-- the names -/
structure ER (K : PySem.W.Frag) (A : Nm) (F : Hp) (m : Nat → Addr) (n : Nat) (e : Mi.Env) (σ : L2.St) : Prop where
  len : e.length = σ.length
  get : ∀ (i : Nat) (d : D), e[i]? = some (some d) → ∃ v, σ[i]? = some (some v) ∧ RV K A F m n d v

def Cell.lt (n : Nat) : Cell → Bool
  | .lst l => D.ltL n l
  | .dct l => D.ltK n l
  | .ins _ l => D.ltF n l
  | .dead => true
/-- below n the objects name such alone -/
def Good (C : List Cell) (n : Nat) : Prop := ∀ l c, l < n → getc C l = some c → c.lt n = true

/-- from a state to a later one -/
structure Ext (F : Hp) (m : Nat → Addr) (S : Sto) (H : Hp) (F' : Hp) (m' : Nat → Addr) (S' : Sto) (H' : Hp) : Prop where
  sub : Same F F'
  ag : ∀ l, l < S.c.length → m' l = m l
  le : S.c.length ≤ S'.c.length
  fl : S'.fl = S.fl
  good : ∀ n, n ≤ S.fl → Good S.c n → Good S'.c n
  keep : ∀ a o, H a = some o → (∀ l, l < S.c.length → m l ≠ a) → H' a = some o
  new : ∀ l, S.c.length ≤ l → l < S'.c.length → H (m' l) = none
  dom : ∀ a, H a ≠ none → H' a ≠ none
  /-- what is new among what never changes was new, or of the store -/
  fnew : ∀ a, F' a ≠ none → F a ≠ none ∨ H a = none ∨ ∃ l, l < S.c.length ∧ m l = a
theorem Ext.refl {F m S H} : Ext F m S H F m S H := ⟨fun _ _ h => h, fun _ _ => rfl, Nat.le_refl _, rfl, fun _ _ h => h, fun _ _ h _ => h, fun l h1 h2 => absurd (Nat.lt_of_lt_of_le h2 h1) (Nat.lt_irrefl _), fun _ h => h, fun _ h => .inl h⟩
theorem Ext.trans {F m S H F1 m1 S1 H1 F2 m2 S2 H2} (a : Ext F m S H F1 m1 S1 H1) (b : Ext F1 m1 S1 H1 F2 m2 S2 H2) : Ext F m S H F2 m2 S2 H2 where
  sub := a.sub.trans b.sub
  ag := fun l h => (b.ag l (Nat.lt_of_lt_of_le h a.le)).trans (a.ag l h)
  le := Nat.le_trans a.le b.le
  fl := b.fl.trans a.fl
  good := fun n h g => b.good n (by rw [a.fl]; exact h) (a.good n h g)
  keep := fun x o h nx => by
    refine b.keep x o (a.keep x o h nx) fun l hl e => ?_
    by_cases hl2 : l < S.c.length
    · exact nx l hl2 ((a.ag l hl2).symm.trans e)
    · have := a.new l (Nat.le_of_not_lt hl2) hl
      rw [e, h] at this
      cases this
  new := fun l h1 h2 => by
    by_cases hl : l < S1.c.length
    · rw [b.ag l hl]
      exact a.new l h1 hl
    · have := b.new l (Nat.le_of_not_lt hl) h2
      cases q : H (m2 l) with
      | none => rfl
      | some o => exact absurd this (a.dom _ (by rw [q]; exact fun z => nomatch z))
  dom := fun x h => b.dom x (a.dom x h)
  fnew := fun x h => by
    rcases b.fnew x h with q | q | ⟨l, hl, q⟩
    · exact a.fnew x q
    · right; left
      cases z : H x with
      | none => rfl
      | some o => exact absurd q (a.dom x (by rw [z]; exact fun z => nomatch z))
    · by_cases hl2 : l < S.c.length
      · exact .inr (.inr ⟨l, hl2, (a.ag l hl2).symm.trans q⟩)
      · right; left
        rw [← q]
        exact a.new l (Nat.le_of_not_lt hl2) hl

theorem same_sqT {K F F' a us} (s : Same F F') (h : SqT K F a us) : SqT K F' a us := by
  rcases h with (h | ⟨o, h⟩) | h
  · exact .inl (.inl (s _ _ h))
  · exact .inl (.inr ⟨o, s _ _ h⟩)
  · exact .inr h
theorem same_sqL {K F F' a us} (s : Same F F') (h : SqL K F a us) : SqL K F' a us := s.seq h

section
variable {K : PySem.W.Frag} {A : Nm} {F F' : Hp} {m m' : Nat → Addr} {n n' : Nat}
mutual
theorem RV.mono (hs : Same F F') (hm : ∀ l, l < n → m' l = m l) (hn : n ≤ n') : ∀ (d : D) (v : V), RV K A F m n d v → RV K A F' m' n' d v
  | .non, _, h => h
  | .bl _, _, h => h
  | .int _, _, h => h
  | .str _, _, h => h
  | .tup l, _, h => by
    obtain ⟨a, us, e, q, hl, r⟩ := h
    exact ⟨a, us, e, same_sqT hs q, hl, RVs.mono hs hm hn l us r⟩
  | .lst l, _, h => by
    obtain ⟨a, us, e, q, hl, r⟩ := h
    exact ⟨a, us, e, hs _ _ q, hl, RVs.mono hs hm hn l us r⟩
  | .dct l, _, h => by
    obtain ⟨a, us, e, q, hl, r⟩ := h
    exact ⟨a, us, e, hs _ _ q, hl, RVk.mono hs hm hn l us r⟩
  | .ins c l, _, h => by
    obtain ⟨a, dx, fs, e, q, r⟩ := h
    exact ⟨a, dx, fs, e, hs _ _ q, RVf.mono hs hm hn l fs r⟩
  | .ref k, _, h => ⟨Nat.lt_of_lt_of_le h.1 hn, by rw [hm k h.1]; exact h.2⟩
  | .scr l, _, h => by
    obtain ⟨a, e, q, hl⟩ := h
    exact ⟨a, e, same_sqL hs q, hl⟩
theorem RVs.mono (hs : Same F F') (hm : ∀ l, l < n → m' l = m l) (hn : n ≤ n') : ∀ (ds : List D) (vs : List V), RVs K A F m n ds vs → RVs K A F' m' n' ds vs
  | [], _, h => h
  | d :: r, _, h => by
    obtain ⟨u, us, e, h1, h2⟩ := h
    exact ⟨u, us, e, RV.mono hs hm hn d u h1, RVs.mono hs hm hn r us h2⟩
theorem RVk.mono (hs : Same F F') (hm : ∀ l, l < n → m' l = m l) (hn : n ≤ n') : ∀ (ds : List (Str × D)) (vs : List (Key × V)), RVk K A F m n ds vs → RVk K A F' m' n' ds vs
  | [], _, h => h
  | (k, d) :: r, _, h => by
    obtain ⟨u, us, e, h1, h2⟩ := h
    exact ⟨u, us, e, RV.mono hs hm hn d u h1, RVk.mono hs hm hn r us h2⟩
theorem RVf.mono (hs : Same F F') (hm : ∀ l, l < n → m' l = m l) (hn : n ≤ n') : ∀ (ds : List (Nat × D)) (vs : List (Str × V)), RVf K A F m n ds vs → RVf K A F' m' n' ds vs
  | [], _, h => h
  | (k, d) :: r, _, h => by
    obtain ⟨u, us, e, h1, h2⟩ := h
    exact ⟨u, us, e, RV.mono hs hm hn d u h1, RVf.mono hs hm hn r us h2⟩
end
theorem RVs.length : ∀ {ds : List D} {vs : List V}, RVs K A F m n ds vs → vs.length = ds.length
  | [], _, h => by cases (show _ = [] from h); rfl
  | d :: r, _, h => by
    obtain ⟨u, us, e, h1, h2⟩ := h
    rw [e, List.length_cons, List.length_cons, RVs.length h2]
theorem RVk.length : ∀ {ds : List (Str × D)} {vs : List (Key × V)}, RVk K A F m n ds vs → vs.length = ds.length
  | [], _, h => by cases (show _ = [] from h); rfl
  | (k, d) :: r, _, h => by
    obtain ⟨u, us, e, h1, h2⟩ := h
    rw [e, List.length_cons, List.length_cons, RVk.length h2]
theorem RVf.length : ∀ {ds : List (Nat × D)} {vs : List (Str × V)}, RVf K A F m n ds vs → vs.length = ds.length
  | [], _, h => by cases (show _ = [] from h); rfl
  | (k, d) :: r, _, h => by
    obtain ⟨u, us, e, h1, h2⟩ := h
    rw [e, List.length_cons, List.length_cons, RVf.length h2]
theorem RVs.append : ∀ {ds es : List D} {vs us : List V}, RVs K A F m n ds vs → RVs K A F m n es us → RVs K A F m n (ds ++ es) (vs ++ us)
  | [], _, _, _, h, g => by cases (show _ = [] from h); exact g
  | d :: r, _, _, _, h, g => by
    obtain ⟨u, us, e, h1, h2⟩ := h
    rw [e]
    exact ⟨u, _, rfl, h1, RVs.append h2 g⟩
theorem RVs.get : ∀ {ds : List D} {vs : List V} {i : Nat} {d : D}, RVs K A F m n ds vs → ds[i]? = some d → ∃ v, vs[i]? = some v ∧ RV K A F m n d v
  | [], _, i, _, _, g => by simp at g
  | d :: r, _, 0, _, h, g => by
    obtain ⟨u, us, e, h1, h2⟩ := h
    rw [e]
    cases (show some d = some _ from g)
    exact ⟨u, rfl, h1⟩
  | d :: r, _, i + 1, _, h, g => by
    obtain ⟨u, us, e, h1, h2⟩ := h
    rw [e]
    exact RVs.get (i := i) h2 g
theorem RVs.drop : ∀ {ds : List D} {vs : List V} (i : Nat), RVs K A F m n ds vs → RVs K A F m n (ds.drop i) (vs.drop i)
  | ds, vs, 0, h => h
  | [], _, i + 1, h => by cases (show _ = [] from h); exact rfl
  | d :: r, _, i + 1, h => by
    obtain ⟨u, us, e, h1, h2⟩ := h
    rw [e]
    exact RVs.drop i h2
theorem RVs.take : ∀ {ds : List D} {vs : List V} (i : Nat), RVs K A F m n ds vs → RVs K A F m n (ds.take i) (vs.take i)
  | ds, vs, 0, h => rfl
  | [], _, i + 1, h => by cases (show _ = [] from h); exact rfl
  | d :: r, _, i + 1, h => by
    obtain ⟨u, us, e, h1, h2⟩ := h
    rw [e]
    exact ⟨u, _, rfl, h1, RVs.take i h2⟩
theorem RVs.set : ∀ {ds : List D} {vs : List V} (i : Nat) {d : D} {v : V}, RVs K A F m n ds vs → RV K A F m n d v → RVs K A F m n (ds.set i d) (vs.set i v)
  | [], _, i, _, _, h, _ => by cases (show _ = [] from h); exact rfl
  | d :: r, _, 0, _, v, h, g => by
    obtain ⟨u, us, e, h1, h2⟩ := h
    rw [e]
    exact ⟨v, _, rfl, g, h2⟩
  | d :: r, _, i + 1, _, _, h, g => by
    obtain ⟨u, us, e, h1, h2⟩ := h
    rw [e]
    exact ⟨u, _, rfl, h1, RVs.set i h2 g⟩
theorem RVs.reverse : ∀ {ds : List D} {vs : List V}, RVs K A F m n ds vs → RVs K A F m n ds.reverse vs.reverse
  | [], _, h => by cases (show _ = [] from h); exact rfl
  | d :: r, _, h => by
    obtain ⟨u, us, e, h1, h2⟩ := h
    rw [e, List.reverse_cons, List.reverse_cons]
    exact RVs.append (RVs.reverse h2) ⟨u, [], rfl, h1, rfl⟩
theorem RVf.look (inj : ∀ i j, A.att i = A.att j → i = j) : ∀ {ds : List (Nat × D)} {vs : List (Str × V)} {f : Nat} {d : D}, RVf K A F m n ds vs → ds.lookup f = some d → ∃ v, vs.lookup (A.att f) = some v ∧ RV K A F m n d v
  | [], _, _, _, _, g => by simp at g
  | (k, d) :: r, _, f, _, h, g => by
    obtain ⟨u, us, e, h1, h2⟩ := h
    rw [e]
    by_cases q : f = k
    · subst q
      simp only [List.lookup, beq_self_eq_true] at g ⊢
      cases g
      exact ⟨u, rfl, h1⟩
    · have q1 : (f == k) = false := by simpa using q
      have q2 : (A.att f == A.att k) = false := by
        rw [beq_eq_false_iff_ne]
        exact fun z => q (inj _ _ z)
      simp only [List.lookup, q1] at g
      simp only [List.lookup, q2]
      exact RVf.look inj h2 g
theorem RVf.none (inj : ∀ i j, A.att i = A.att j → i = j) : ∀ {ds : List (Nat × D)} {vs : List (Str × V)} {f : Nat}, RVf K A F m n ds vs → ds.lookup f = none → vs.lookup (A.att f) = none
  | [], _, _, h, _ => by cases (show _ = [] from h); rfl
  | (k, d) :: r, _, f, h, g => by
    obtain ⟨u, us, e, h1, h2⟩ := h
    rw [e]
    by_cases q : f = k
    · subst q
      simp [List.lookup] at g
    · have q1 : (f == k) = false := by simpa using q
      have q2 : (A.att f == A.att k) = false := by
        rw [beq_eq_false_iff_ne]
        exact fun z => q (inj _ _ z)
      simp only [List.lookup, q1] at g
      simp only [List.lookup, q2]
      exact RVf.none inj h2 g
theorem RVf.put (inj : ∀ i j, A.att i = A.att j → i = j) {f : Nat} {d : D} {v : V} (g : RV K A F m n d v) : ∀ {ds : List (Nat × D)} {vs : List (Str × V)}, RVf K A F m n ds vs → RVf K A F m n (putA f d ds) (putF (A.att f) v vs)
  | [], _, h => by cases (show _ = [] from h); exact ⟨v, [], rfl, g, rfl⟩
  | (k, x) :: r, _, h => by
    obtain ⟨u, us, e, h1, h2⟩ := h
    rw [e]
    unfold putA putF
    by_cases q : k = f
    · subst q
      rw [if_pos rfl, if_pos rfl]
      exact ⟨v, us, rfl, g, h2⟩
    · rw [if_neg q, if_neg fun z => q (inj _ _ z)]
      exact ⟨u, _, rfl, h1, RVf.put inj g h2⟩
end

/-! ### the store -/
theorem getc_lt : ∀ {C : List Cell} {l : Nat} {c : Cell}, getc C l = some c → l < C.length
  | [], _, _, h => by cases h
  | x :: C, l, c, h => by
    unfold getc at h
    by_cases q : l = C.length
    · rw [q, List.length_cons]; exact Nat.lt_succ_self _
    · rw [if_neg q] at h
      exact Nat.lt_succ_of_lt (getc_lt h)
theorem getc_cons_old {C : List Cell} {x : Cell} {l : Nat} (h : l < C.length) : getc (x :: C) l = getc C l := by
  show (if l = C.length then some x else getc C l) = _
  rw [if_neg (Nat.ne_of_lt h)]
theorem getc_cons_new {C : List Cell} {x : Cell} : getc (x :: C) C.length = some x := if_pos rfl
theorem setc_length : ∀ (C : List Cell) (l : Nat) (y : Cell), (setc C l y).length = C.length
  | [], _, _ => rfl
  | x :: C, l, y => by
    unfold setc
    split
    · rfl
    · rw [List.length_cons, List.length_cons, setc_length C l y]
theorem getc_setc_same : ∀ {C : List Cell} {l : Nat} {y : Cell}, l < C.length → getc (setc C l y) l = some y
  | [], _, _, h => by cases h
  | x :: C, l, y, h => by
    unfold setc
    by_cases q : l = C.length
    · rw [if_pos q]; unfold getc; rw [if_pos q]
    · rw [if_neg q]; unfold getc; rw [setc_length, if_neg q]
      exact getc_setc_same (Nat.lt_of_le_of_ne (Nat.le_of_lt_succ h) q)
theorem getc_setc_ne : ∀ {C : List Cell} {l k : Nat} {y : Cell}, k ≠ l → getc (setc C l y) k = getc C k
  | [], _, _, _, _ => rfl
  | x :: C, l, k, y, h => by
    unfold setc
    by_cases q : l = C.length
    · rw [if_pos q]; unfold getc
      by_cases q2 : k = C.length
      · exact absurd (q2.trans q.symm) h
      · rw [if_neg q2, if_neg q2]
    · rw [if_neg q]; unfold getc; rw [setc_length]
      split
      · rfl
      · exact getc_setc_ne h
theorem getc_of_lt : ∀ {C : List Cell} {l : Nat}, l < C.length → ∃ c, getc C l = some c
  | [], _, h => by cases h
  | x :: C, l, h => by
    by_cases q : l = C.length
    · rw [q]; exact ⟨x, getc_cons_new⟩
    · have h2 : l < C.length := Nat.lt_of_le_of_ne (Nat.le_of_lt_succ h) q
      rw [getc_cons_old h2]
      exact getc_of_lt h2
theorem getc_drop : ∀ {C : List Cell} {n l : Nat}, n ≤ C.length → l < n → getc (C.drop (C.length - n)) l = getc C l
  | [], n, l, h1, h2 => by
    have : n = 0 := Nat.le_zero.mp h1
    omega
  | x :: C, n, l, h1, h2 => by
    rw [List.length_cons] at h1 ⊢
    by_cases q : n = C.length + 1
    · rw [q, Nat.sub_self, List.drop_zero]
    · have h3 : n ≤ C.length := by omega
      have e : C.length + 1 - n = (C.length - n) + 1 := by omega
      rw [e, List.drop_succ_cons, getc_drop h3 h2, getc_cons_old (Nat.lt_of_lt_of_le h2 h3)]

/-! ### naming older objects alone -/
mutual
theorem D.lt_mono {n n' : Nat} (h : n ≤ n') : ∀ d : D, d.lt n = true → d.lt n' = true
  | .non, _ => rfl
  | .bl _, _ => rfl
  | .int _, _ => rfl
  | .str _, _ => rfl
  | .tup l, q => by
    unfold D.lt at q ⊢
    exact D.ltL_mono h l q
  | .lst l, q => by
    unfold D.lt at q ⊢
    exact D.ltL_mono h l q
  | .dct l, q => by
    unfold D.lt at q ⊢
    exact D.ltK_mono h l q
  | .ins _ l, q => by
    unfold D.lt at q ⊢
    exact D.ltF_mono h l q
  | .ref k, q => by
    unfold D.lt at q ⊢
    exact decide_eq_true (Nat.lt_of_lt_of_le (of_decide_eq_true q) h)
  | .scr _, _ => rfl
theorem D.ltL_mono {n n' : Nat} (h : n ≤ n') : ∀ l : List D, D.ltL n l = true → D.ltL n' l = true
  | [], _ => rfl
  | d :: r, q => by
    unfold D.ltL at q ⊢
    obtain ⟨q1, q2⟩ := Bool.and_eq_true_iff.mp q
    exact Bool.and_eq_true_iff.mpr ⟨D.lt_mono h d q1, D.ltL_mono h r q2⟩
theorem D.ltK_mono {n n' : Nat} (h : n ≤ n') : ∀ l : List (Str × D), D.ltK n l = true → D.ltK n' l = true
  | [], _ => rfl
  | (_, d) :: r, q => by
    unfold D.ltK at q ⊢
    obtain ⟨q1, q2⟩ := Bool.and_eq_true_iff.mp q
    exact Bool.and_eq_true_iff.mpr ⟨D.lt_mono h d q1, D.ltK_mono h r q2⟩
theorem D.ltF_mono {n n' : Nat} (h : n ≤ n') : ∀ l : List (Nat × D), D.ltF n l = true → D.ltF n' l = true
  | [], _ => rfl
  | (_, d) :: r, q => by
    unfold D.ltF at q ⊢
    obtain ⟨q1, q2⟩ := Bool.and_eq_true_iff.mp q
    exact Bool.and_eq_true_iff.mpr ⟨D.lt_mono h d q1, D.ltF_mono h r q2⟩
end
section
variable {K : PySem.W.Frag} {A : Nm} {F : Hp} {m m' : Nat → Addr} {n n' : Nat}
mutual
/-- what names objects below n' alone stands with n' objects, too -/
theorem RV.less (hm : ∀ l, l < n' → m' l = m l) : ∀ (d : D) (v : V), d.lt n' = true → RV K A F m n d v → RV K A F m' n' d v
  | .non, _, _, h => h
  | .bl _, _, _, h => h
  | .int _, _, _, h => h
  | .str _, _, _, h => h
  | .tup l, _, q, h => by
    unfold D.lt at q
    obtain ⟨a, us, e, z, hl, r⟩ := h
    exact ⟨a, us, e, z, hl, RVs.less hm l us q r⟩
  | .lst l, _, q, h => by
    unfold D.lt at q
    obtain ⟨a, us, e, z, hl, r⟩ := h
    exact ⟨a, us, e, z, hl, RVs.less hm l us q r⟩
  | .dct l, _, q, h => by
    unfold D.lt at q
    obtain ⟨a, us, e, z, hl, r⟩ := h
    exact ⟨a, us, e, z, hl, RVk.less hm l us q r⟩
  | .ins c l, _, q, h => by
    unfold D.lt at q
    obtain ⟨a, dx, fs, e, z, r⟩ := h
    exact ⟨a, dx, fs, e, z, RVf.less hm l fs q r⟩
  | .ref k, _, q, h => by
    unfold D.lt at q
    have q' := of_decide_eq_true q
    exact ⟨q', by rw [hm k q']; exact h.2⟩
  | .scr _, _, _, h => h
theorem RVs.less (hm : ∀ l, l < n' → m' l = m l) : ∀ (ds : List D) (vs : List V), D.ltL n' ds = true → RVs K A F m n ds vs → RVs K A F m' n' ds vs
  | [], _, _, h => h
  | d :: r, _, q, h => by
    unfold D.ltL at q
    obtain ⟨q1, q2⟩ := Bool.and_eq_true_iff.mp q
    obtain ⟨u, us, e, h1, h2⟩ := h
    exact ⟨u, us, e, RV.less hm d u q1 h1, RVs.less hm r us q2 h2⟩
theorem RVk.less (hm : ∀ l, l < n' → m' l = m l) : ∀ (ds : List (Str × D)) (vs : List (Key × V)), D.ltK n' ds = true → RVk K A F m n ds vs → RVk K A F m' n' ds vs
  | [], _, _, h => h
  | (k, d) :: r, _, q, h => by
    unfold D.ltK at q
    obtain ⟨q1, q2⟩ := Bool.and_eq_true_iff.mp q
    obtain ⟨u, us, e, h1, h2⟩ := h
    exact ⟨u, us, e, RV.less hm d u q1 h1, RVk.less hm r us q2 h2⟩
theorem RVf.less (hm : ∀ l, l < n' → m' l = m l) : ∀ (ds : List (Nat × D)) (vs : List (Str × V)), D.ltF n' ds = true → RVf K A F m n ds vs → RVf K A F m' n' ds vs
  | [], _, _, h => h
  | (k, d) :: r, _, q, h => by
    unfold D.ltF at q
    obtain ⟨q1, q2⟩ := Bool.and_eq_true_iff.mp q
    obtain ⟨u, us, e, h1, h2⟩ := h
    exact ⟨u, us, e, RV.less hm d u q1 h1, RVf.less hm r us q2 h2⟩
end
end
end Mi
/-! Mi: readings by the evaluator, the state's steps. -/
namespace Mi
open PySem PySem.Spec PyProof.Rows L2

/-- how results stand -/
abbrev Rl (α β : Type) := Hp → (Nat → Addr) → Nat → α → β → Prop
/-- what is wanted behind an evaluation -/
def Out {α β : Type} (K : PySem.W.Frag) (A : Nm) (rl : Rl α β) (W : WX) (σ : L2.St) (F : Hp) (m : Nat → Addr) (S : Sto) (H : Hp) (r : R α) (Q : β → Hp → Prop) : Prop := match r with
  | .ok a S' => ∀ F' m' H' b, Ext F m S H F' m' S' H' → SR K A F' m' S' H' → rl F' m' S'.c.length a b → Q b H'
  | .ex c v S' => ∀ F' m' H' dd fs, Ext F m S H F' m' S' H' → SR K A F' m' S' H' → F' dd = some (.xd fs) → RVf K A F' m' S'.c.length v fs → W (.ref (A.exc c)) (some dd) σ H'
  | .bad => False
section
variable {α β γ δ : Type} {K : PySem.W.Frag} {A : Nm} {rl : Rl α β} {rl' : Rl γ δ} {W : WX} {σ : L2.St} {F F' : Hp} {m m' : Nat → Addr} {S S' : Sto} {H H' : Hp} {r : R α} {Q Q' : β → Hp → Prop}
theorem Out.imp (h : Out K A rl W σ F m S H r Q) (q : ∀ b H1, Q b H1 → Q' b H1) : Out K A rl W σ F m S H r Q' := by
  cases r with
  | ok a S' => exact fun F' m' H' b e s z => q b H' (h F' m' H' b e s z)
  | ex c v S' => exact h
  | bad => exact h
theorem Out.later (h : Out K A rl W σ F m S H r Q) (e0 : Ext F m S H F' m' S' H') : Out K A rl W σ F' m' S' H' r Q := by
  cases r with
  | ok a S' => exact fun F' m' H' b e s z => h F' m' H' b (e0.trans e) s z
  | ex c v S' => exact fun F' m' H' dd fs e s z => h F' m' H' dd fs (e0.trans e) s z
  | bad => exact h
theorem Out.bind {f : α → Sto → R γ} {Q : δ → Hp → Prop} (h : Out K A rl' W σ F m S H (r.bind f) Q) :
    Out K A rl W σ F m S H r fun b H1 => ∃ a S1 F1 m1, r = .ok a S1 ∧ Ext F m S H F1 m1 S1 H1 ∧ SR K A F1 m1 S1 H1 ∧ rl F1 m1 S1.c.length a b ∧ Out K A rl' W σ F1 m1 S1 H1 (f a S1) Q := by
  cases r with
  | ok a S1 => exact fun F1 m1 H1 b e s z => ⟨a, S1, F1, m1, rfl, e, s, z, Out.later h e⟩
  | ex c v S' => exact h
  | bad => exact h
end
abbrev rlV (K : PySem.W.Frag) (A : Nm) : Rl D V := RV K A
abbrev rlVs (K : PySem.W.Frag) (A : Nm) : Rl (List D) (List V) := RVs K A
abbrev rlI (α : Type) : Rl α α := fun _ _ _ a b => a = b
theorem ER.mono {K A F m S H F' m' S' H' e σ} (er : ER K A F m S.c.length e σ) (x : Ext F m S H F' m' S' H') : ER K A F' m' S'.c.length e σ :=
  ⟨er.len, fun i d h => by
    obtain ⟨v, h1, h2⟩ := er.get i d h
    exact ⟨v, h1, RV.mono x.sub x.ag x.le d v h2⟩⟩
theorem Ext.rv {K A F m S H F' m' S' H' d v} (x : Ext F m S H F' m' S' H') (h : RV K A F m S.c.length d v) : RV K A F' m' S'.c.length d v := RV.mono x.sub x.ag x.le d v h
theorem Ext.rvs {K A F m S H F' m' S' H' d v} (x : Ext F m S H F' m' S' H') (h : RVs K A F m S.c.length d v) : RVs K A F' m' S'.c.length d v := RVs.mono x.sub x.ag x.le d v h

/-- a reading: the names and the store stand for an evaluator's, whose end is wanted -/
def tG {α β : Type} (K : PySem.W.Frag) (A : Nm) (rl : Rl α β) (W : WX) (f : Mi.Env → Sto → R α) : L2.St → Hp → (β → Hp → Prop) → Prop := fun σ H Q =>
  ∃ e S F m, SR K A F m S H ∧ ER K A F m S.c.length e σ ∧ Out K A rl W σ F m S H (f e S) Q

theorem PE.imp {X : Cx} {e : Expr} {t t' : TE} (h : PE X e t) (hi : ∀ σ H Q, t' σ H Q → t σ H Q) : PE X e t' := ⟨fun pins s σ H Q I w => h.run pins s σ H Q I (hi _ _ _ w)⟩
theorem PT.imp {X : Cx} {e : Expr} {t t' : TT} (h : PT X e t) (hi : ∀ σ H Q, t' σ H Q → t σ H Q) : PT X e t' := ⟨fun pins s σ H Q I w => h.run pins s σ H Q I (hi _ _ _ w)⟩
theorem PA.imp {X : Cx} {e : List Expr} {t t' : TA} (h : PA X e t) (hi : ∀ σ H Q, t' σ H Q → t σ H Q) : PA X e t' := ⟨fun pos pins s σ H Q I w => h.run pos pins s σ H Q I (hi _ _ _ w)⟩
theorem PO.imp {X : Cx} {e : Option Expr} {t t' : TO} (h : PO X e t) (hi : ∀ σ H Q, t' σ H Q → t σ H Q) : PO X e t' := by
  refine ⟨fun pins s σ H Q I w => ?_⟩
  exact h.run pins s σ H Q I (hi _ _ _ w)

/-! ### the state's steps -/
section
variable {K : PySem.W.Frag} {A : Nm} {F F' : Hp} {m m' : Nat → Addr} {S S' : Sto} {H H' : Hp} {p : Addr} {o : HO}
theorem CR.keep {c : Cell} {a : Addr} {n : Nat} (h : CR K A F m n H a c) (e : H' a = H a) (hs : Same F F') (hm : ∀ l, l < n → m' l = m l) {n' : Nat} (hn : n ≤ n') : CR K A F' m' n' H' a c := by
  cases c with
  | lst l =>
    obtain ⟨us, h1, h2, h3⟩ := h
    exact ⟨us, e.trans h1, h2, RVs.mono hs hm hn l us h3⟩
  | dct l =>
    obtain ⟨us, h1, h2, h3⟩ := h
    exact ⟨us, e.trans h1, h2, RVk.mono hs hm hn l us h3⟩
  | ins c l =>
    obtain ⟨dx, us, h1, h2, h3⟩ := h
    exact ⟨dx, us, e.trans h1, h2, RVf.mono hs hm hn l us h3⟩
  | dead => exact h
theorem ne_new (sr : SR K A F m S H) (hp : H p = none) {l : Nat} (hl : l < S.c.length) : m l ≠ p := fun e => sr.trk l hl (by rw [e]; exact hp)
theorem same_new2 (hp : F p = none) : Same F (upd F p o) := fun a u h => by
  rw [upd_ne (fun e => by rw [e, hp] at h; cases h)]
  exact h
/-- a new thing that never changes -/
theorem SR.new (sr : SR K A F m S H) (hp : H p = none) : SR K A (upd F p o) m S (upd H p o) ∧ Ext F m S H (upd F p o) m S (upd H p o) := by
  have hF : F p = none := sr.sub.free hp
  refine ⟨⟨sr.flo, fun a u h => ?_, fun l c h1 h2 => ?_, sr.inj, fun l hl => ?_, fun l c h => ?_⟩, same_new2 hF, fun _ _ => rfl, Nat.le_refl _, rfl, fun _ _ h => h, fun a u h _ => ?_, fun l h1 h2 => absurd (Nat.lt_of_lt_of_le h2 h1) (Nat.lt_irrefl _), fun a h => ?_, fun a h => by
    by_cases q : a = p
    · exact .inr (.inl (by rw [q]; exact hp))
    · rw [upd_ne q] at h
      exact .inl h⟩
  · by_cases q : a = p
    · rw [q, upd_same] at h ⊢; exact h
    · rw [upd_ne q] at h ⊢; exact sr.sub _ _ h
  · rw [upd_ne (ne_new sr hp (getc_lt h1))]; exact sr.sep l c h1 h2
  · rw [upd_ne (ne_new sr hp hl)]; exact sr.trk l hl
  · exact (sr.cel l c h).keep (upd_ne (ne_new sr hp (getc_lt h))) (same_new2 hF) (fun _ _ => rfl) (Nat.le_refl _)
  · rw [upd_ne (fun e => by rw [e, hp] at h; cases h)]; exact h
  · by_cases q : a = p
    · rw [q, upd_same]; exact fun z => nomatch z
    · rw [upd_ne q]; exact h
/-- a thing is tracked that nobody names -/
theorem SR.side (sr : SR K A F m S H) (hp : H p = none) : SR K A F m S (upd H p o) ∧ Ext F m S H F m S (upd H p o) := by
  refine ⟨⟨sr.flo, fun a u h => ?_, sr.sep, sr.inj, fun l hl => ?_, fun l c h => ?_⟩, fun _ _ h => h, fun _ _ => rfl, Nat.le_refl _, rfl, fun _ _ h => h, fun a u h _ => ?_, fun l h1 h2 => absurd (Nat.lt_of_lt_of_le h2 h1) (Nat.lt_irrefl _), fun a h => ?_, fun _ h => .inl h⟩
  · have h1 := sr.sub _ _ h
    rw [upd_ne (fun e => by rw [e, hp] at h1; cases h1)]; exact h1
  · rw [upd_ne (ne_new sr hp hl)]; exact sr.trk l hl
  · exact (sr.cel l c h).keep (upd_ne (ne_new sr hp (getc_lt h))) (fun _ _ h => h) (fun _ _ => rfl) (Nat.le_refl _)
  · rw [upd_ne (fun e => by rw [e, hp] at h; cases h)]; exact h
  · by_cases q : a = p
    · rw [q, upd_same]; exact fun z => nomatch z
    · rw [upd_ne q]; exact h
/-- the addresses with one more -/
def mx (m : Nat → Addr) (n : Nat) (p : Addr) : Nat → Addr := fun l => if l = n then p else m l
theorem mx_old {m : Nat → Addr} {n l : Nat} {p : Addr} (h : l < n) : mx m n p l = m l := if_neg (Nat.ne_of_lt h)
theorem mx_new {m : Nat → Addr} {n : Nat} {p : Addr} : mx m n p n = p := if_pos rfl
/-- a new object of the store -/
theorem SR.alloc (sr : SR K A F m S H) (hp : H p = none) {c : Cell} (hc : CR K A F (mx m S.c.length p) (S.c.length + 1) (upd H p o) p c) :
    SR K A F (mx m S.c.length p) ⟨c :: S.c, S.fl⟩ (upd H p o) ∧ Ext F m S H F (mx m S.c.length p) ⟨c :: S.c, S.fl⟩ (upd H p o) := by
  have hF : F p = none := sr.sub.free hp
  refine ⟨⟨Nat.le_succ_of_le sr.flo, fun a u h => ?_, fun l c h1 h2 => ?_, fun l l' h1 h2 e => ?_, fun l hl => ?_, fun l c' h => ?_⟩, fun _ _ h => h, fun _ h => mx_old h, Nat.le_succ _, rfl, fun n hn g l c' h1 h2 => ?_, fun a u h _ => ?_, fun l h1 h2 => ?_, fun a h => ?_, fun _ h => .inl h⟩
  · have h1 := sr.sub _ _ h
    rw [upd_ne (fun e => by rw [e, hp] at h1; cases h1)]; exact h1
  · have hl := getc_lt h1
    by_cases q : l = S.c.length
    · rw [q, mx_new]; exact hF
    · have q2 : l < S.c.length := Nat.lt_of_le_of_ne (Nat.le_of_lt_succ hl) q
      rw [mx_old q2]
      rw [getc_cons_old q2] at h1
      exact sr.sep l c h1 h2
  · have g1 : l < S.c.length + 1 := h1
    have g2 : l' < S.c.length + 1 := h2
    by_cases q : l = S.c.length
    · by_cases q' : l' = S.c.length
      · exact q.trans q'.symm
      · have q2 : l' < S.c.length := by omega
        rw [q, mx_new, mx_old q2] at e
        exact absurd e.symm (ne_new sr hp q2)
    · have q2 : l < S.c.length := by omega
      by_cases q' : l' = S.c.length
      · rw [q', mx_new, mx_old q2] at e
        exact absurd e (ne_new sr hp q2)
      · have q3 : l' < S.c.length := by omega
        rw [mx_old q2, mx_old q3] at e
        exact sr.inj l l' q2 q3 e
  · have g1 : l < S.c.length + 1 := hl
    by_cases q : l = S.c.length
    · rw [q, mx_new, upd_same]; exact fun z => nomatch z
    · have q2 : l < S.c.length := by omega
      rw [mx_old q2, upd_ne (ne_new sr hp q2)]
      exact sr.trk l q2
  · have hl := getc_lt h
    by_cases q : l = S.c.length
    · rw [q, getc_cons_new] at h
      cases h
      rw [q, mx_new]
      exact hc
    · have q2 : l < S.c.length := Nat.lt_of_le_of_ne (Nat.le_of_lt_succ hl) q
      rw [getc_cons_old q2] at h
      rw [mx_old q2]
      exact (sr.cel l c' h).keep (upd_ne (ne_new sr hp q2)) (fun _ _ h => h) (fun _ h => mx_old h) (Nat.le_succ _)
  · by_cases q : l = S.c.length
    · exact absurd (Nat.lt_of_lt_of_le h1 (Nat.le_trans hn sr.flo)) (by rw [q]; exact Nat.lt_irrefl _)
    · have hl := getc_lt h2
      have q2 : l < S.c.length := Nat.lt_of_le_of_ne (Nat.le_of_lt_succ hl) q
      rw [getc_cons_old q2] at h2
      exact g l c' h1 h2
  · rw [upd_ne (fun e => by rw [e, hp] at h; cases h)]; exact h
  · have g2 : l < S.c.length + 1 := h2
    have q : l = S.c.length := by omega
    rw [q, mx_new]; exact hp
  · by_cases q : a = p
    · rw [q, upd_same]; exact fun z => nomatch z
    · rw [upd_ne q]; exact h
/-- an object of the store is changed -/
theorem SR.put (sr : SR K A F m S H) {l : Nat} {c : Cell} (hl : l < S.c.length) (hF : F (m l) = none) (hc : CR K A F m S.c.length (upd H (m l) o) (m l) c) (hlive : live c = true) (hw : ∀ n, n ≤ S.fl → l < n → Good S.c n → c.lt n = true) :
    SR K A F m (putS S l c) (upd H (m l) o) ∧ Ext F m S H F m (putS S l c) (upd H (m l) o) := by
  have len : (putS S l c).c.length = S.c.length := setc_length _ _ _
  have ne : ∀ k, k < S.c.length → k ≠ l → m k ≠ m l := fun k hk n e => n (sr.inj k l hk hl e)
  refine ⟨⟨by rw [len]; exact sr.flo, fun a u h => ?_, fun k c' h1 h2 => ?_, fun k k' h1 h2 e => ?_, fun k hk => ?_, fun k c' h => ?_⟩, fun _ _ h => h, fun _ _ => rfl, Nat.le_of_eq len.symm, rfl, fun n hn g k c' h1 h2 => ?_, fun a u h nx => ?_, fun k h1 h2 => ?_, fun a h => ?_, fun _ h => .inl h⟩
  · rw [upd_ne (fun e => by rw [e, hF] at h; cases h)]; exact sr.sub _ _ h
  · have hk := getc_lt h1
    rw [len] at hk
    by_cases q : k = l
    · rw [q]; exact hF
    · have h1' : getc (setc S.c l c) k = some c' := h1
      rw [getc_setc_ne q] at h1'
      exact sr.sep k c' h1' h2
  · rw [len] at h1 h2
    exact sr.inj k k' h1 h2 e
  · rw [len] at hk
    by_cases q : k = l
    · rw [q, upd_same]; exact fun z => nomatch z
    · rw [upd_ne (ne k hk q)]; exact sr.trk k hk
  · have h' : getc (setc S.c l c) k = some c' := h
    have hk := getc_lt h
    rw [len] at hk
    by_cases q : k = l
    · rw [q, getc_setc_same hl] at h'
      cases h'
      rw [len, q]
      exact hc
    · rw [getc_setc_ne q] at h'
      rw [len]
      exact (sr.cel k c' h').keep (upd_ne (ne k hk q)) (fun _ _ h => h) (fun _ _ => rfl) (Nat.le_refl _)
  · have h2' : getc (setc S.c l c) k = some c' := h2
    by_cases q : k = l
    · rw [q, getc_setc_same hl] at h2'
      cases h2'
      exact hw n hn (by rw [← q]; exact h1) g
    · rw [getc_setc_ne q] at h2'
      exact g k c' h1 h2'
  · rw [upd_ne (fun e => nx l hl e.symm)]; exact h
  · rw [len] at h2
    exact absurd (Nat.lt_of_lt_of_le h2 h1) (Nat.lt_irrefl _)
  · by_cases q : a = m l
    · rw [q, upd_same]; exact fun z => nomatch z
    · rw [upd_ne q]; exact h
/-- an object of the store never changes from now on -/
theorem SR.freeze (sr : SR K A F m S H) {l : Nat} {c : Cell} (hg : getc S.c l = some c) (hlive : live c = true) (ho : H (m l) = some o) :
    SR K A (upd F (m l) o) m (putS S l .dead) H ∧ Ext F m S H (upd F (m l) o) m (putS S l .dead) H := by
  have hl := getc_lt hg
  have hF := sr.sep l c hg hlive
  have len : (putS S l .dead).c.length = S.c.length := setc_length _ _ _
  have ne : ∀ k, k < S.c.length → k ≠ l → m k ≠ m l := fun k hk n e => n (sr.inj k l hk hl e)
  have sF : Same F (upd F (m l) o) := same_new2 hF
  refine ⟨⟨by rw [len]; exact sr.flo, fun a u h => ?_, fun k c' h1 h2 => ?_, fun k k' h1 h2 e => ?_, fun k hk => ?_, fun k c' h => ?_⟩, sF, fun _ _ => rfl, Nat.le_of_eq len.symm, rfl, fun n hn g k c' h1 h2 => ?_, fun a u h nx => h, fun k h1 h2 => ?_, fun a h => h, fun a h => by
    by_cases q : a = m l
    · exact .inr (.inr ⟨l, hl, q.symm⟩)
    · rw [upd_ne q] at h
      exact .inl h⟩
  · by_cases q : a = m l
    · rw [q, upd_same] at h
      cases h
      rw [q]; exact ho
    · rw [upd_ne q] at h; exact sr.sub _ _ h
  · have h1' : getc (setc S.c l .dead) k = some c' := h1
    have hk := getc_lt h1
    rw [len] at hk
    by_cases q : k = l
    · rw [q, getc_setc_same hl] at h1'
      cases h1'
      exact absurd h2 (by decide)
    · rw [getc_setc_ne q] at h1'
      rw [upd_ne (ne k hk q)]
      exact sr.sep k c' h1' h2
  · rw [len] at h1 h2
    exact sr.inj k k' h1 h2 e
  · rw [len] at hk
    exact sr.trk k hk
  · have h' : getc (setc S.c l .dead) k = some c' := h
    have hk := getc_lt h
    rw [len] at hk
    by_cases q : k = l
    · rw [q, getc_setc_same hl] at h'
      cases h'
      exact True.intro
    · rw [getc_setc_ne q] at h'
      rw [len]
      exact (sr.cel k c' h').keep rfl sF (fun _ _ => rfl) (Nat.le_refl _)
  · have h2' : getc (setc S.c l .dead) k = some c' := h2
    by_cases q : k = l
    · rw [q, getc_setc_same hl] at h2'
      cases h2'
      rfl
    · rw [getc_setc_ne q] at h2'
      exact g k c' h1 h2'
  · rw [len] at h2
    exact absurd (Nat.lt_of_lt_of_le h2 h1) (Nat.lt_irrefl _)
/-- a region is left: the objects from n on are forgotten -/
theorem SR.leave (sr : SR K A F m S H) {n fl : Nat} (hn : n ≤ S.c.length) (hfl : fl ≤ n) (g : Good S.c n) : SR K A F m ⟨S.c.drop (S.c.length - n), fl⟩ H := by
  have len : (S.c.drop (S.c.length - n)).length = n := by rw [List.length_drop]; omega
  refine ⟨by show fl ≤ (S.c.drop (S.c.length - n)).length; rw [len]; exact hfl, sr.sub, fun l c h1 h2 => ?_, fun l l' h1 h2 e => ?_, fun l hl => ?_, fun l c h => ?_⟩
  · have hl := getc_lt h1
    have hl' : l < n := by rw [← len]; exact hl
    have h1' : getc (S.c.drop (S.c.length - n)) l = some c := h1
    rw [getc_drop hn hl'] at h1'
    exact sr.sep l c h1' h2
  · have g1 : l < n := by rw [← len]; exact h1
    have g2 : l' < n := by rw [← len]; exact h2
    exact sr.inj l l' (Nat.lt_of_lt_of_le g1 hn) (Nat.lt_of_lt_of_le g2 hn) e
  · have g1 : l < n := by rw [← len]; exact hl
    exact sr.trk l (Nat.lt_of_lt_of_le g1 hn)
  · have hl := getc_lt h
    have hl' : l < n := by rw [← len]; exact hl
    have h' : getc (S.c.drop (S.c.length - n)) l = some c := h
    rw [getc_drop hn hl'] at h'
    have hc := sr.cel l c h'
    have hg := g l c hl' h'
    show CR K A F m (S.c.drop (S.c.length - n)).length H (m l) c
    rw [len]
    cases c with
    | lst x =>
      obtain ⟨us, h1, h2, h3⟩ := hc
      exact ⟨us, h1, h2, RVs.less (fun _ _ => rfl) x us hg h3⟩
    | dct x =>
      obtain ⟨us, h1, h2, h3⟩ := hc
      exact ⟨us, h1, h2, RVk.less (fun _ _ => rfl) x us hg h3⟩
    | ins c x =>
      obtain ⟨dx, us, h1, h2, h3⟩ := hc
      exact ⟨dx, us, h1, h2, RVf.less (fun _ _ => rfl) x us hg h3⟩
    | dead => exact hc
end
end Mi
/-! Mi: the operations on values keep to the evaluator's. -/
namespace Mi
open PySem PySem.Spec PyProof.Rows L2

/-- what stands at a value, read -/
def RR (K : PySem.W.Frag) (A : Nm) (F : Hp) (m : Nat → Addr) (n : Nat) (H : Hp) : D → V → Prop
  | .lst l, v => ∃ a us, v = .ref a ∧ SqL K H a us ∧ l.length ≤ LL ∧ RVs K A F m n l us
  | .dct l, v => ∃ a kvs, v = .ref a ∧ H a = some (.dK kvs) ∧ l.length ≤ LL ∧ RVk K A F m n l kvs
  | .ins c l, v => ∃ a dx fs, v = .ref a ∧ H a = some (.ins (A.cls c) dx fs) ∧ RVf K A F m n l fs
  | .tup l, v => ∃ a us, v = .ref a ∧ SqT K H a us ∧ l.length ≤ LL ∧ RVs K A F m n l us
  | .str x, v => v = .str x ∧ sOk x
  | .non, v => v = .non
  | .bl b, v => v = .bl b
  | .int i, v => v = .int i
  | _, _ => False
theorem rvs_ints {K A F m n} : ∀ l : List Int, RVs K A F m n (l.map D.int) (l.map V.int)
  | [] => rfl
  | _ :: r => ⟨_, _, rfl, rfl, rvs_ints r⟩
theorem deref_ok {K A F m S H d v x} (sr : SR K A F m S H) (h : RV K A F m S.c.length d v) (e : deref S d = some x) : RR K A F m S.c.length H x v := by
  cases d with
  | non => cases e; exact h
  | bl b => cases e; exact h
  | int i => cases e; exact h
  | str x => cases e; exact h
  | tup l =>
    cases e
    obtain ⟨a, us, e, q, hl, r⟩ := h
    exact ⟨a, us, e, same_sqT sr.sub q, hl, r⟩
  | lst l =>
    cases e
    obtain ⟨a, us, e, q, hl, r⟩ := h
    exact ⟨a, us, e, SqL.of (sr.sub _ _ q), hl, r⟩
  | dct l =>
    cases e
    obtain ⟨a, us, e, q, hl, r⟩ := h
    exact ⟨a, us, e, sr.sub _ _ q, hl, r⟩
  | ins c l =>
    cases e
    obtain ⟨a, dx, fs, e, q, r⟩ := h
    exact ⟨a, dx, fs, e, sr.sub _ _ q, r⟩
  | scr l =>
    cases e
    obtain ⟨a, e, q, hl⟩ := h
    exact ⟨a, _, e, same_sqL sr.sub q, by rw [List.length_map]; exact hl, rvs_ints l⟩
  | ref k =>
    obtain ⟨hk, ev⟩ := h
    obtain ⟨c, hc⟩ := getc_of_lt hk
    have e2 : (match getc S.c k with
      | some c => derefC c
      | none => none) = some x := e
    rw [hc] at e2
    have q := sr.cel k c hc
    cases c with
    | lst l =>
      cases e2
      obtain ⟨us, h1, h2, h3⟩ := q
      exact ⟨_, us, ev, SqL.of h1, h2, h3⟩
    | dct l =>
      cases e2
      obtain ⟨us, h1, h2, h3⟩ := q
      exact ⟨_, us, ev, h1, h2, h3⟩
    | ins c l =>
      cases e2
      obtain ⟨dx, us, h1, h2, h3⟩ := q
      exact ⟨_, dx, us, ev, h1, h3⟩
    | dead => cases e2

/-! ### ends -/
section
variable {α : Type} {K : PySem.W.Frag} {A : Nm} {W : WX} {σ : L2.St} {F : Hp} {m : Nat → Addr} {S : Sto} {H : Hp} {Q : VK} {d : D} {v : V} {p : Addr} {us : List V} {ds : List D}
/-- the value is there as it is -/
theorem Out.here (h : Out K A (rlV K A) W σ F m S H (.ok d S) Q) (sr : SR K A F m S H) (r : RV K A F m S.c.length d v) : Q v H := h F m H v Ext.refl sr r
theorem Out.tup (h : Out K A (rlV K A) W σ F m S H (.ok (.tup ds) S) Q) (sr : SR K A F m S H) (hp : H p = none) (hl : ds.length ≤ LL) (r : RVs K A F m S.c.length ds us) : Q (.ref p) (upd H p (.tup us)) := by
  obtain ⟨s, x⟩ := sr.new (o := .tup us) hp
  exact h _ m _ _ x s ⟨p, us, rfl, .inl (.inl upd_same), hl, x.rvs r⟩
theorem Out.lst (h : Out K A (rlV K A) W σ F m S H (.ok (.lst ds) S) Q) (sr : SR K A F m S H) (hp : H p = none) (hl : ds.length ≤ LL) (r : RVs K A F m S.c.length ds us) : Q (.ref p) (upd H p (.lst us)) := by
  obtain ⟨s, x⟩ := sr.new (o := .lst us) hp
  exact h _ m _ _ x s ⟨p, us, rfl, upd_same, hl, x.rvs r⟩
/-- a new list, frozen or of the store -/
theorem Out.list {mu : Bool} (h : Out K A (rlV K A) W σ F m S H (fresh mu S (.lst ds)) Q) (sr : SR K A F m S H) (hp : H p = none) (hl : ds.length ≤ LL) (r : RVs K A F m S.c.length ds us) : Q (.ref p) (upd H p (.lst us)) := by
  cases mu with
  | false => exact Out.lst h sr hp hl r
  | true =>
    have r2 : RVs K A F (mx m S.c.length p) (S.c.length + 1) ds us := RVs.mono (fun _ _ h => h) (fun _ h => mx_old h) (Nat.le_succ _) ds us r
    obtain ⟨s, x⟩ := sr.alloc (o := .lst us) (c := .lst ds) hp ⟨us, upd_same, hl, r2⟩
    exact h F _ _ _ x s ⟨Nat.lt_succ_self _, by rw [mx_new]⟩
theorem Out.dict {mu : Bool} {l : List (Str × D)} {kvs : List (Key × V)} (h : Out K A (rlV K A) W σ F m S H (fresh mu S (.dct l)) Q) (sr : SR K A F m S H) (hp : H p = none) (hl : l.length ≤ LL) (r : RVk K A F m S.c.length l kvs) : Q (.ref p) (upd H p (.dK kvs)) := by
  cases mu with
  | false =>
    obtain ⟨s, x⟩ := sr.new (o := .dK kvs) hp
    exact h _ m _ _ x s ⟨p, kvs, rfl, upd_same, hl, RVk.mono x.sub x.ag x.le l kvs r⟩
  | true =>
    have r2 : RVk K A F (mx m S.c.length p) (S.c.length + 1) l kvs := RVk.mono (fun _ _ h => h) (fun _ h => mx_old h) (Nat.le_succ _) l kvs r
    obtain ⟨s, x⟩ := sr.alloc (o := .dK kvs) (c := .dct l) hp ⟨kvs, upd_same, hl, r2⟩
    exact h F _ _ _ x s ⟨Nat.lt_succ_self _, by rw [mx_new]⟩
end

/-! ### two-place operations -/
def r2 (K : PySem.W.Frag) (A : Nm) (f : Sto → D → D → Option D) : R2 := fun x y H Q => ∃ W σ S F m dx dy, SR K A F m S H ∧ RV K A F m S.c.length dx x ∧ RV K A F m S.c.length dy y ∧ Out K A (rlV K A) W σ F m S H (R.of S (f S dx dy)) Q
theorem str_app {x y : Str} (hx : sOk x) (hy : sOk y) (hl : x.length + y.length ≤ LL) : sOk (x ++ y) := by
  refine ⟨by rw [Str.length_append]; exact hl, ?_⟩
  have h1 := hx.2
  have h2 := hy.2
  unfold PyData.strOk at h1 h2 ⊢
  show (x.cps ++ y.cps).all _ = true
  rw [Array.all_append, h1, h2]
  rfl
section
variable {X : Cx} {A : Nm}
theorem bin_sub : OpR X (binaryOp .Sub) (r2 X.K A fun _ a b => binO .sub a b) := by
  intro pins s σ0 H x y v u Q I rx ry ⟨W, σ, S, F, m, dx, dy, sr, hx, hy, h⟩
  cases dx <;> cases dy <;> first
    | exact h.elim
    | skip
  exact op_sub pins s σ0 H x y v u Q I rx ry ⟨_, _, hx, hy, h.here sr rfl⟩
theorem bin_mod : OpR X (binaryOp .Mod) (r2 X.K A fun _ a b => binO .mod a b) := by
  intro pins s σ0 H x y v u Q I rx ry ⟨W, σ, S, F, m, dx, dy, sr, hx, hy, h⟩
  cases dx <;> cases dy <;> first
    | exact h.elim
    | skip
  rename_i i j
  have h2 : Out X.K A (rlV X.K A) W σ F m S H (R.of S (if 0 < j then some (.int (i % j)) else none)) Q := h
  by_cases c : 0 < j
  · rw [if_pos c] at h2
    exact op_mod pins s σ0 H x y v u Q I rx ry ⟨_, _, hx, hy, c, h2.here sr rfl⟩
  · rw [if_neg c] at h2
    exact h2.elim
theorem bin_fdiv : OpR X (binaryOp .FloorDiv) (r2 X.K A fun _ a b => binO .fdiv a b) := by
  intro pins s σ0 H x y v u Q I rx ry ⟨W, σ, S, F, m, dx, dy, sr, hx, hy, h⟩
  cases dx <;> cases dy <;> first
    | exact h.elim
    | skip
  rename_i i j
  have h2 : Out X.K A (rlV X.K A) W σ F m S H (R.of S (if 0 < j ∧ j < 1073741824 then some (.int (i / j)) else none)) Q := h
  by_cases c : 0 < j ∧ j < 1073741824
  · rw [if_pos c] at h2
    exact op_fdiv pins s σ0 H x y v u Q I rx ry ⟨_, _, hx, hy, c, h2.here sr rfl⟩
  · rw [if_neg c] at h2
    exact h2.elim
theorem bin_pow : OpR X (binaryOp .Pow) (r2 X.K A fun _ a b => binO .pow a b) := by
  intro pins s σ0 H x y v u Q I rx ry ⟨W, σ, S, F, m, dx, dy, sr, hx, hy, h⟩
  cases dx <;> cases dy <;> first
    | exact h.elim
    | skip
  rename_i i j
  have h2 : Out X.K A (rlV X.K A) W σ F m S H (R.of S (if 0 ≤ j ∧ j ≤ 1000000 ∧ i.natAbs < 2 ^ 64 then some (.int (i ^ j.toNat)) else none)) Q := h
  by_cases c : 0 ≤ j ∧ j ≤ 1000000 ∧ i.natAbs < 2 ^ 64
  · rw [if_pos c] at h2
    exact op_pow pins s σ0 H x y v u Q I rx ry ⟨_, _, hx, hy, c, h2.here sr rfl⟩
  · rw [if_neg c] at h2
    exact h2.elim
theorem small_ok {i : Int} (h : small i = true) : -(2 ^ 64) < i ∧ i < 2 ^ 64 := by
  obtain ⟨h1, h2⟩ := Bool.and_eq_true_iff.mp h
  exact ⟨of_decide_eq_true h1, of_decide_eq_true h2⟩
theorem bin_mul : OpR X (binaryOp .Mult) (r2 X.K A fun _ a b => binO .mul a b) := by
  intro pins s σ0 H x y v u Q I rx ry ⟨W, σ, S, F, m, dx, dy, sr, hx, hy, h⟩
  cases dx <;> cases dy <;> first
    | exact h.elim
    | skip
  rename_i i j
  have h2 : Out X.K A (rlV X.K A) W σ F m S H (R.of S (if (small i || small j) = true then some (.int (i * j)) else none)) Q := h
  by_cases c : (small i || small j) = true
  · rw [if_pos c] at h2
    refine op_mul pins s σ0 H x y v u Q I rx ry ⟨_, _, hx, hy, ?_, h2.here sr rfl⟩
    rcases Bool.or_eq_true_iff.mp c with c | c
    · exact .inl (small_ok c)
    · exact .inr (small_ok c)
  · rw [if_neg c] at h2
    exact h2.elim
theorem bin_add : OpR X (binaryOp .Add) (r2 X.K A fun _ a b => binO .add a b) := by
  intro pins s σ0 H x y v u Q I rx ry ⟨W, σ, S, F, m, dx, dy, sr, hx, hy, h⟩
  cases dx with
  | int i =>
    cases dy <;> first
      | exact h.elim
      | skip
    exact op_add pins s σ0 H x y v u Q I rx ry ⟨_, _, hx, hy, h.here sr rfl⟩
  | str i =>
    cases dy <;> first
      | exact h.elim
      | skip
    rename_i j
    have h2 : Out X.K A (rlV X.K A) W σ F m S H (R.of S (if i.cps.size + j.cps.size ≤ LL then some (.str (i ++ j)) else none)) Q := h
    by_cases c : i.cps.size + j.cps.size ≤ LL
    · rw [if_pos c] at h2
      exact op_add_str pins s σ0 H x y v u Q I rx ry ⟨_, _, hx.1, hy.1, Nat.le_trans c LL_line, h2.here sr ⟨rfl, str_app hx.2 hy.2 c⟩⟩
    · rw [if_neg c] at h2
      exact h2.elim
  | lst i =>
    cases dy <;> first
      | exact h.elim
      | skip
    rename_i j
    have h2 : Out X.K A (rlV X.K A) W σ F m S H (R.of S (if i.length + j.length ≤ LL then some (.lst (i ++ j)) else none)) Q := h
    by_cases c : i.length + j.length ≤ LL
    · rw [if_pos c] at h2
      obtain ⟨a, us, e1, f1, l1, g1⟩ := hx
      obtain ⟨b, ws, e2, f2, l2, g2⟩ := hy
      refine op_cat pins s σ0 H x y v u Q I rx ry ⟨a, b, us, ws, e1, e2, sr.sub _ _ f1, sr.sub _ _ f2, ?_, fun p hp => h2.lst sr hp (by rw [List.length_append]; exact c) (RVs.append g1 g2)⟩
      rw [RVs.length g1, RVs.length g2]
      exact Nat.le_trans c LL_line
    · rw [if_neg c] at h2
      exact h2.elim
  | tup i =>
    cases i with
    | nil => cases dy <;> exact h.elim
    | cons i0 i =>
      cases dy <;> first
        | exact h.elim
        | skip
      rename_i j
      have h2 : Out X.K A (rlV X.K A) W σ F m S H (R.of S (if (i0 :: i).length + j.length ≤ LL then some (.tup (i0 :: i ++ j)) else none)) Q := h
      by_cases c : (i0 :: i).length + j.length ≤ LL
      · rw [if_pos c] at h2
        obtain ⟨a, us, e1, f1, l1, g1⟩ := hx
        obtain ⟨b, ws, e2, f2, l2, g2⟩ := hy
        refine op_catT pins s σ0 H x y v u Q I rx ry ⟨a, b, us, ws, e1, e2, same_sqT sr.sub f1, same_sqT sr.sub f2, ?_, ?_, fun z => ?_, fun _ p hp => h2.tup sr hp (by rw [List.length_append]; exact c) (RVs.append g1 g2)⟩
        · intro z
          have := RVs.length g1
          rw [z] at this
          cases this
        · rw [RVs.length g1, RVs.length g2]
          exact Nat.le_trans c LL_line
        · have hj : j = [] := by
            have := RVs.length g2
            rw [z] at this
            exact List.length_eq_zero_iff.mp this.symm
          subst hj
          rw [List.append_nil] at h2
          exact h2.here sr ⟨a, us, rfl, f1, l1, g1⟩
      · rw [if_neg c] at h2
        exact h2.elim
  | _ => exact h.elim
def opOf : BOp → Operator
  | .add => .Add | .sub => .Sub | .mul => .Mult | .fdiv => .FloorDiv | .mod => .Mod | .pow => .Pow
theorem bin_ok (op : BOp) : OpR X (binaryOp (opOf op)) (r2 X.K A fun _ a b => binO op a b) := by
  cases op with
  | add => exact bin_add
  | sub => exact bin_sub
  | mul => exact bin_mul
  | fdiv => exact bin_fdiv
  | mod => exact bin_mod
  | pow => exact bin_pow
end
end Mi
/-! Mi: comparisons. -/
namespace Mi
open PySem PySem.Spec PyProof.Rows L2

/-! ### plain data as the library's -/
mutual
def toPy : D → PyData
  | .bl b => .bool b
  | .int i => .int i
  | .str x => .str x
  | .tup l => .tuple (toPys l)
  | .lst l => .list (toPys l)
  | _ => .none
def toPys : List D → List PyData
  | [] => []
  | x :: r => toPy x :: toPys r
end
mutual
theorem toPy_dep : ∀ d : D, (toPy d).depth ≤ d.dep
  | .non => Nat.le_refl _
  | .bl _ => Nat.le_refl _
  | .int _ => Nat.le_refl _
  | .str _ => Nat.le_refl _
  | .tup l => by
    unfold toPy D.dep PyData.depth
    exact Nat.succ_le_succ (toPys_dep l)
  | .lst l => by
    unfold toPy D.dep PyData.depth
    exact Nat.succ_le_succ (toPys_dep l)
  | .dct _ => Nat.le_refl _
  | .ins _ _ => Nat.le_refl _
  | .ref _ => Nat.le_refl _
  | .scr _ => Nat.le_refl _
theorem toPys_dep : ∀ l : List D, PyData.depthAll (toPys l) ≤ D.depL l
  | [] => Nat.le_refl _
  | x :: r => by
    unfold toPys D.depL PyData.depthAll
    have h1 := toPy_dep x
    have h2 := toPys_dep r
    omega
end
mutual
theorem toPy_eqv : ∀ a b : D, a.plain = true → b.plain = true → PyData.eqv (toPy a) (toPy b) = a.eqv b
  | .non, b, _, hb => by cases b <;> first | rfl | cases hb
  | .bl _, b, _, hb => by cases b <;> first | rfl | cases hb
  | .int _, b, _, hb => by cases b <;> first | rfl | cases hb
  | .str _, b, _, hb => by cases b <;> first | rfl | cases hb
  | .tup l, b, ha, hb => by
    cases b <;> first
      | rfl
      | cases hb
      | skip
    rename_i r
    unfold toPy D.eqv PyData.eqv
    unfold D.plain at ha hb
    exact toPys_eqv l r ha hb
  | .lst l, b, ha, hb => by
    cases b <;> first
      | rfl
      | cases hb
      | skip
    rename_i r
    unfold toPy D.eqv PyData.eqv
    unfold D.plain at ha hb
    exact toPys_eqv l r ha hb
  | .dct _, _, ha, _ => by cases ha
  | .ins _ _, _, ha, _ => by cases ha
  | .ref _, _, ha, _ => by cases ha
  | .scr _, _, ha, _ => by cases ha
theorem toPys_eqv : ∀ a b : List D, D.plainL a = true → D.plainL b = true → PyData.eqvAll (toPys a) (toPys b) = D.eqvL a b
  | [], [], _, _ => rfl
  | [], _ :: _, _, _ => rfl
  | _ :: _, [], _, _ => rfl
  | x :: a, y :: b, ha, hb => by
    unfold D.plainL at ha hb
    obtain ⟨a1, a2⟩ := Bool.and_eq_true_iff.mp ha
    obtain ⟨b1, b2⟩ := Bool.and_eq_true_iff.mp hb
    unfold toPys D.eqvL PyData.eqvAll
    rw [toPy_eqv x y a1 b1, toPys_eqv a b a2 b2]
end
section
variable {K : PySem.W.Frag} {A : Nm} {F H : Hp} {m : Nat → Addr} {n : Nat}
mutual
theorem toPy_dp (hs : Same F H) : ∀ (d : D) (v : V), d.plain = true → RV K A F m n d v → Dp K H v (toPy d)
  | .non, _, _, h => by cases (show _ = V.non from h); exact .non
  | .bl b, _, _, h => by cases (show _ = V.bl b from h); exact .bl b
  | .int i, _, _, h => by cases (show _ = V.int i from h); exact .int i
  | .str x, _, _, h => by cases (show _ = V.str x from h.1); exact .str x
  | .tup l, _, p, h => by
    obtain ⟨a, us, e, q, hl, r⟩ := h
    subst e
    unfold D.plain at p
    unfold toPy
    exact .tup (same_sqT hs q) (toPys_dp hs l us p r)
  | .lst l, _, p, h => by
    obtain ⟨a, us, e, q, hl, r⟩ := h
    subst e
    unfold D.plain at p
    unfold toPy
    exact .lst (SqL.of (hs _ _ q)) (toPys_dp hs l us p r)
  | .dct _, _, p, _ => by cases p
  | .ins _ _, _, p, _ => by cases p
  | .ref _, _, p, _ => by cases p
  | .scr _, _, p, _ => by cases p
theorem toPys_dp (hs : Same F H) : ∀ (ds : List D) (vs : List V), D.plainL ds = true → RVs K A F m n ds vs → DpAll K H vs (toPys ds)
  | [], _, _, h => by cases (show _ = [] from h); exact .nil
  | d :: r, _, p, h => by
    obtain ⟨u, us, e, h1, h2⟩ := h
    subst e
    unfold D.plainL at p
    obtain ⟨p1, p2⟩ := Bool.and_eq_true_iff.mp p
    unfold toPys
    exact .cons (toPy_dp hs d u p1 h1) (toPys_dp hs r us p2 h2)
end
mutual
theorem toPy_lay : ∀ (d : D) (v : V), d.plain = true → RV K A F m n d v → (toPy d).canLay0 = true
  | .non, _, _, _ => rfl
  | .bl _, _, _, _ => rfl
  | .int _, _, _, _ => rfl
  | .str x, _, _, h => h.2.2
  | .tup l, _, p, h => by
    obtain ⟨a, us, e, q, hl, r⟩ := h
    unfold D.plain at p
    unfold toPy PyData.canLay0
    exact toPys_lay l us p r
  | .lst l, _, p, h => by
    obtain ⟨a, us, e, q, hl, r⟩ := h
    unfold D.plain at p
    unfold toPy PyData.canLay0
    exact toPys_lay l us p r
  | .dct _, _, p, _ => by cases p
  | .ins _ _, _, p, _ => by cases p
  | .ref _, _, p, _ => by cases p
  | .scr _, _, p, _ => by cases p
theorem toPys_lay : ∀ (ds : List D) (vs : List V), D.plainL ds = true → RVs K A F m n ds vs → PyData.canLayAll0 (toPys ds) = true
  | [], _, _, _ => rfl
  | d :: r, _, p, h => by
    obtain ⟨u, us, e, h1, h2⟩ := h
    unfold D.plainL at p
    obtain ⟨p1, p2⟩ := Bool.and_eq_true_iff.mp p
    unfold toPys PyData.canLayAll0
    rw [toPy_lay d u p1 h1, toPys_lay r us p2 h2]
    rfl
end
/-- what is read at a value, as the library's data -/
theorem rr_dp (hs : Same F H) {d : D} {v : V} (p : d.plain = true) (h : RR K A F m n H d v) : Dp K H v (toPy d) ∧ (toPy d).canLay0 = true := by
  cases d with
  | non => cases (show v = V.non from h); exact ⟨.non, rfl⟩
  | bl b => cases (show v = V.bl b from h); exact ⟨.bl b, rfl⟩
  | int i => cases (show v = V.int i from h); exact ⟨.int i, rfl⟩
  | str x => cases (show v = V.str x from h.1); exact ⟨.str x, h.2.2⟩
  | tup l =>
    obtain ⟨a, us, e, q, hl, r⟩ := h
    subst e
    unfold D.plain at p
    unfold toPy PyData.canLay0
    exact ⟨.tup q (toPys_dp hs l us p r), toPys_lay l us p r⟩
  | lst l =>
    obtain ⟨a, us, e, q, hl, r⟩ := h
    subst e
    unfold D.plain at p
    unfold toPy PyData.canLay0
    exact ⟨.lst q (toPys_dp hs l us p r), toPys_lay l us p r⟩
  | dct _ => cases p
  | ins _ _ => cases p
  | ref _ => cases p
  | scr _ => cases p
end

section
variable {X : Cx} {A : Nm}
/-- == as the evaluator has it -/
theorem eq_core (hu : X.A.units + 64 < cLine) {pins : List (Addr × Obj)} {s : Shared} {σ0 : L2.St} {H : Hp} {x y : V} {v u : Value} {F m S dx dy b} (I : Inv X pins σ0 H s) (rx : RelV x v) (ry : RelV y u) (sr : SR X.K A F m S H)
    (hx : RV X.K A F m S.c.length dx x) (hy : RV X.K A F m S.c.length dy y) (e : eqO S dx dy = some b) :
    (∀ Q : Value → Shared → Prop, Q (.bool b) s → wpAny (model X.prog X.w) X.A (compareOp .Eq v u) Q X.xe s) ∧ ∀ Q : Value → Shared → Prop, Q (.bool (!b)) s → wpAny (model X.prog X.w) X.A (compareOp .NotEq v u) Q X.xe s := by
  unfold eqO at e
  cases ex : deref S dx with
  | none => rw [ex] at e; cases e
  | some p =>
    cases ey : deref S dy with
    | none =>
      rw [ex, ey] at e
      cases p <;> first
        | cases e
        | (rename_i l; cases l <;> cases e)
    | some q =>
      have gx := deref_ok sr hx ex
      have gy := deref_ok sr hy ey
      have plainCase : (if (p.plain && q.plain && (decide (p.dep ≤ 60) && decide (q.dep ≤ 60))) = true then some (p.eqv q) else none) = some b →
          (∀ Q : Value → Shared → Prop, Q (.bool b) s → wpAny (model X.prog X.w) X.A (compareOp .Eq v u) Q X.xe s) ∧ ∀ Q : Value → Shared → Prop, Q (.bool (!b)) s → wpAny (model X.prog X.w) X.A (compareOp .NotEq v u) Q X.xe s := fun z => by
        by_cases c : (p.plain && q.plain && (decide (p.dep ≤ 60) && decide (q.dep ≤ 60))) = true
        · rw [if_pos c] at z
          obtain ⟨c1, c2⟩ := Bool.and_eq_true_iff.mp c
          obtain ⟨p1, q1⟩ := Bool.and_eq_true_iff.mp c1
          obtain ⟨p2, q2⟩ := Bool.and_eq_true_iff.mp c2
          obtain ⟨d1, l1⟩ := rr_dp sr.sub p1 gx
          obtain ⟨d2, l2⟩ := rr_dp sr.sub q1 gy
          obtain ⟨as, r1⟩ := Dp.reads I _ x v d1 rx
          obtain ⟨bs, r2⟩ := Dp.reads I _ y u d2 ry
          have eb : PyData.eqv (toPy p) (toPy q) = b := (toPy_eqv p q p1 q1).trans (Option.some.inj z)
          have hroom : X.A.units + min (toPy p).depth (toPy q).depth < cLine := by
            have h1 := toPy_dep p
            have h2 : p.dep ≤ 60 := of_decide_eq_true p2
            have h3 : min (toPy p).depth (toPy q).depth ≤ (toPy p).depth := Nat.min_le_left _ _
            omega
          exact ⟨fun Q hQ => SeqAt.compareEq_reads r1 r2 l1 l2 hroom (by rw [eb]; exact hQ), fun Q hQ => SeqAt.compareNe_reads r1 r2 l1 l2 hroom (by rw [eb]; exact hQ)⟩
        · rw [if_neg c] at z
          cases z
      rw [ex, ey] at e
      by_cases special : (∃ z r, p = .lst (z :: r)) ∧ q = .lst []
      · obtain ⟨⟨z, r, rfl⟩, rfl⟩ := special
        have eb : false = b := Option.some.inj e
        subst eb
        obtain ⟨a, us, e1, q1, _, g1⟩ := gx
        obtain ⟨a2, us2, e2, q2, _, g2⟩ := gy
        subst e1 e2
        cases rx
        cases ry
        obtain ⟨its, rv, pl, _⟩ := I.list q1
        obtain ⟨its2, rv2, pl2, _⟩ := I.list q2
        have n1 : its.toArray.size ≠ its2.toArray.size := by
          rw [List.size_toArray, List.size_toArray, ← rv.length, ← rv2.length, RVs.length g1, RVs.length g2]
          exact fun z => nomatch z
        have n2 : (its.toArray.size != its2.toArray.size) = true := bne_iff_ne.mpr n1
        have hu0 : X.A.units < cLine := by omega
        exact ⟨fun Q hQ => SeqAt.eq_list_lengthsAt pl.isList pl2.isList n2 hu0 hQ, fun Q hQ => SeqAt.RcNeAt.lists_lengths pl.isList pl2.isList n2 hu0 _ _ _ _ hQ⟩
      · refine plainCase ?_
        cases p with
        | lst l =>
          cases l with
          | nil => exact e
          | cons z r =>
            cases q with
            | lst l2 =>
              cases l2 with
              | nil => exact absurd ⟨⟨z, r, rfl⟩, rfl⟩ special
              | cons _ _ => exact e
            | _ => exact e
        | _ => exact e
def cO (op : COp) : Sto → D → D → Option D := fun S a b => (cmpO op S a b).map .bl
theorem out_bl {K : PySem.W.Frag} {A : Nm} {W : WX} {σ : L2.St} {F : Hp} {m : Nat → Addr} {S : Sto} {H : Hp} {Q : VK} {o : Option Bool} (sr : SR K A F m S H) (h : Out K A (rlV K A) W σ F m S H (R.of S (o.map D.bl)) Q) : ∃ b, o = some b ∧ Q (.bl b) H := by
  cases o with
  | none => exact h.elim
  | some b => exact ⟨b, rfl, h.here sr rfl⟩
theorem cmp_eq (hu : X.A.units + 64 < cLine) : OpR X (compareOp .Eq) (r2 X.K A (cO .eq)) := by
  intro pins s σ0 H x y v u Q I rx ry ⟨W, σ, S, F, m, dx, dy, sr, hx, hy, h⟩
  obtain ⟨b, e, q⟩ := out_bl (o := eqO S dx dy) sr h
  exact (eq_core hu I rx ry sr hx hy e).1 _ ⟨.bl b, H, I, rfl, q⟩
theorem cmp_ne (hu : X.A.units + 64 < cLine) : OpR X (compareOp .NotEq) (r2 X.K A (cO .ne)) := by
  intro pins s σ0 H x y v u Q I rx ry ⟨W, σ, S, F, m, dx, dy, sr, hx, hy, h⟩
  obtain ⟨b, e, q⟩ := out_bl (o := (eqO S dx dy).map (!·)) sr h
  cases e2 : eqO S dx dy with
  | none => rw [e2] at e; cases e
  | some c =>
    rw [e2] at e
    cases (Option.some.inj e)
    exact (eq_core hu I rx ry sr hx hy e2).2 _ ⟨.bl (!c), H, I, rfl, q⟩
theorem cmp_lt : OpR X (compareOp .Lt) (r2 X.K A (cO .lt)) := by
  intro pins s σ0 H x y v u Q I rx ry ⟨W, σ, S, F, m, dx, dy, sr, hx, hy, h⟩
  cases dx <;> cases dy <;> first
    | exact h.elim
    | skip
  exact op_lt pins s σ0 H x y v u Q I rx ry ⟨_, _, hx, hy, h.here sr rfl⟩
theorem cmp_le : OpR X (compareOp .LtE) (r2 X.K A (cO .le)) := by
  intro pins s σ0 H x y v u Q I rx ry ⟨W, σ, S, F, m, dx, dy, sr, hx, hy, h⟩
  cases dx <;> cases dy <;> first
    | exact h.elim
    | skip
  exact op_le pins s σ0 H x y v u Q I rx ry ⟨_, _, hx, hy, h.here sr rfl⟩
theorem cmp_gt : OpR X (compareOp .Gt) (r2 X.K A (cO .gt)) := by
  intro pins s σ0 H x y v u Q I rx ry ⟨W, σ, S, F, m, dx, dy, sr, hx, hy, h⟩
  cases dx <;> cases dy <;> first
    | exact h.elim
    | skip
  exact op_gt pins s σ0 H x y v u Q I rx ry ⟨_, _, hx, hy, h.here sr rfl⟩
theorem cmp_ge : OpR X (compareOp .GtE) (r2 X.K A (cO .ge)) := by
  intro pins s σ0 H x y v u Q I rx ry ⟨W, σ, S, F, m, dx, dy, sr, hx, hy, h⟩
  cases dx <;> cases dy <;> first
    | exact h.elim
    | skip
  exact op_ge pins s σ0 H x y v u Q I rx ry ⟨_, _, hx, hy, h.here sr rfl⟩
theorem dec_non {K A F m n} {d : D} {v : V} (h : RV K A F m n d v) : decide (v = .non) = d.isNon := by
  cases d with
  | non => cases (show v = V.non from h); rfl
  | bl b => cases (show v = V.bl b from h); rfl
  | int b => cases (show v = V.int b from h); rfl
  | str b => cases (show v = V.str b from h.1); rfl
  | tup l => obtain ⟨a, _, e, _⟩ := h; subst e; rfl
  | lst l => obtain ⟨a, _, e, _⟩ := h; subst e; rfl
  | dct l => obtain ⟨a, _, e, _⟩ := h; subst e; rfl
  | ins c l => obtain ⟨a, _, _, e, _⟩ := h; subst e; rfl
  | ref k => obtain ⟨_, e⟩ := h; subst e; rfl
  | scr l => obtain ⟨a, e, _⟩ := h; subst e; rfl
theorem cmp_is : OpR X (compareOp .Is) (r2 X.K A (cO .is)) := by
  intro pins s σ0 H x y v u Q I rx ry ⟨W, σ, S, F, m, dx, dy, sr, hx, hy, h⟩
  cases dy <;> first
    | exact h.elim
    | skip
  obtain ⟨b, e, q⟩ := out_bl (o := some dx.isNon) sr h
  cases (Option.some.inj e)
  exact op_isN pins s σ0 H x y v u Q I rx ry ⟨hy, by rw [dec_non hx]; exact q⟩
theorem cmp_isnot : OpR X (compareOp .IsNot) (r2 X.K A (cO .isnot)) := by
  intro pins s σ0 H x y v u Q I rx ry ⟨W, σ, S, F, m, dx, dy, sr, hx, hy, h⟩
  cases dy <;> first
    | exact h.elim
    | skip
  obtain ⟨b, e, q⟩ := out_bl (o := some (!dx.isNon)) sr h
  cases (Option.some.inj e)
  refine op_notN pins s σ0 H x y v u Q I rx ry ⟨hy, ?_⟩
  rw [dec_non hx]
  exact q
/-! ### in -/
theorem flat_ok {K A F m n} {d : D} {v : V} (f : d.flat = true) (h : RV K A F m n d v) : flatV v = true ∧ ∀ e w, e.flat = true → RV K A F m n e w → eqV v w = d.eqv e := by
  cases d with
  | non =>
    cases (show v = V.non from h)
    refine ⟨rfl, fun e w g q => ?_⟩
    cases e <;> first
      | (cases (show w = V.non from q); rfl)
      | (cases (show w = V.bl _ from q); rfl)
      | (cases (show w = V.int _ from q); rfl)
      | (cases (show w = V.str _ from q.1); rfl)
      | exact absurd (show false = true from g) Bool.false_ne_true
  | bl b =>
    cases (show v = V.bl b from h)
    refine ⟨rfl, fun e w g q => ?_⟩
    cases e <;> first
      | (cases (show w = V.non from q); rfl)
      | (cases (show w = V.bl _ from q); rfl)
      | (cases (show w = V.int _ from q); rfl)
      | (cases (show w = V.str _ from q.1); rfl)
      | exact absurd (show false = true from g) Bool.false_ne_true
  | int b =>
    cases (show v = V.int b from h)
    refine ⟨rfl, fun e w g q => ?_⟩
    cases e <;> first
      | (cases (show w = V.non from q); rfl)
      | (cases (show w = V.bl _ from q); rfl)
      | (cases (show w = V.int _ from q); rfl)
      | (cases (show w = V.str _ from q.1); rfl)
      | exact absurd (show false = true from g) Bool.false_ne_true
  | str b =>
    cases (show v = V.str b from h.1)
    refine ⟨rfl, fun e w g q => ?_⟩
    cases e <;> first
      | (cases (show w = V.non from q); rfl)
      | (cases (show w = V.bl _ from q); rfl)
      | (cases (show w = V.int _ from q); rfl)
      | (cases (show w = V.str _ from q.1); rfl)
      | exact absurd (show false = true from g) Bool.false_ne_true
  | _ => cases f
theorem flats_ok {K A F m n} {x : D} {v : V} (f : x.flat = true) (h : RV K A F m n x v) : ∀ {l : List D} {us : List V}, l.all D.flat = true → RVs K A F m n l us → us.all flatV = true ∧ inV v us = l.any fun y => y.eqv x
  | [], _, _, g => by cases (show _ = [] from g); exact ⟨rfl, rfl⟩
  | d :: r, _, p, g => by
    obtain ⟨u, us, e, h1, h2⟩ := g
    subst e
    rw [List.all_cons] at p
    obtain ⟨p1, p2⟩ := Bool.and_eq_true_iff.mp p
    obtain ⟨i1, i2⟩ := flats_ok f h p2 h2
    obtain ⟨j1, j2⟩ := flat_ok p1 h1
    refine ⟨by rw [List.all_cons, j1, i1]; rfl, ?_⟩
    show (u :: us).any (fun y => eqV y v) = _
    rw [List.any_cons, List.any_cons, j2 x v f h]
    exact congrArg _ i2
theorem rvk_find {K A F m n} {k : Str} : ∀ {l : List (Str × D)} {kvs : List (Key × V)}, RVk K A F m n l kvs →
    (∃ d v, getK k l = some d ∧ valV kvs (.inr k) = some v ∧ RV K A F m n d v) ∨ (getK k l = none ∧ valV kvs (.inr k) = none)
  | [], _, h => by cases (show _ = [] from h); exact .inr ⟨rfl, rfl⟩
  | (a, d) :: r, _, h => by
    obtain ⟨u, us, e, h1, h2⟩ := h
    subst e
    have ih := rvk_find (k := k) h2
    unfold getK valV at ih ⊢
    by_cases q : a = k
    · subst q
      refine .inl ⟨d, u, ?_, ?_, h1⟩
      · rw [List.find?_cons_of_pos (by simp)]; rfl
      · rw [List.find?_cons_of_pos (by simp)]; rfl
    · have q2 : ¬ ((Sum.inr a : Key) = Sum.inr k) := fun z => q (Sum.inr.inj z)
      rw [List.find?_cons_of_neg (by simpa using q), List.find?_cons_of_neg (by simpa using q2)]
      exact ih
theorem rvk_put {K A F m n} {k : Str} {d : D} {v : V} (g : RV K A F m n d v) {l : List (Str × D)} {kvs : List (Key × V)} (h : RVk K A F m n l kvs) : RVk K A F m n (Mi.putK k d l) (L2.putK kvs (.inr k) v) := by
  have any : ∀ {l : List (Str × D)} {kvs : List (Key × V)}, RVk K A F m n l kvs → (l.any fun p => decide (p.1 = k)) = kvs.any fun kv => decide (kv.1 = (Sum.inr k : Key)) := by
    intro l
    induction l with
    | nil => intro kvs h; cases (show _ = [] from h); rfl
    | cons p r ih =>
      obtain ⟨a, d⟩ := p
      intro kvs h
      obtain ⟨u, us, e, h1, h2⟩ := h
      subst e
      rw [List.any_cons, List.any_cons, ih h2]
      have : decide (a = k) = decide ((Sum.inr a : Key) = Sum.inr k) := by
        by_cases q : a = k
        · subst q; simp
        · have q2 : ¬ ((Sum.inr a : Key) = Sum.inr k) := fun z => q (Sum.inr.inj z)
          rw [decide_eq_false q, decide_eq_false q2]
      show (decide (a = k) || _) = (decide ((Sum.inr a : Key) = Sum.inr k) || _)
      rw [this]
  have mp : ∀ {l : List (Str × D)} {kvs : List (Key × V)}, RVk K A F m n l kvs → RVk K A F m n (l.map fun p => if p.1 = k then (p.1, d) else p) (kvs.map fun kv => if kv.1 = (Sum.inr k : Key) then (kv.1, v) else kv) := by
    intro l
    induction l with
    | nil => intro kvs h; cases (show _ = [] from h); exact rfl
    | cons p r ih =>
      obtain ⟨a, x⟩ := p
      intro kvs h
      obtain ⟨u, us, e, h1, h2⟩ := h
      subst e
      rw [List.map_cons, List.map_cons]
      by_cases q : a = k
      · subst q
        simp only [if_true]
        exact ⟨v, _, rfl, g, ih h2⟩
      · have q2 : ¬ ((Sum.inr a : Key) = Sum.inr k) := fun z => q (Sum.inr.inj z)
        simp only [if_neg q, if_neg q2]
        exact ⟨u, _, rfl, h1, ih h2⟩
  have ap : ∀ {l : List (Str × D)} {kvs : List (Key × V)}, RVk K A F m n l kvs → RVk K A F m n (l ++ [(k, d)]) (kvs ++ [(Sum.inr k, v)]) := by
    intro l
    induction l with
    | nil => intro kvs h; cases (show _ = [] from h); exact ⟨v, [], rfl, g, rfl⟩
    | cons p r ih =>
      obtain ⟨a, x⟩ := p
      intro kvs h
      obtain ⟨u, us, e, h1, h2⟩ := h
      subst e
      exact ⟨u, _, rfl, h1, ih h2⟩
  unfold Mi.putK L2.putK
  rw [any h]
  split
  · exact mp h
  · exact ap h
theorem isin_ok (hu : X.A.units + 64 < cLine) {pins : List (Addr × Obj)} {s : Shared} {σ0 : L2.St} {H : Hp} {x y : V} {v u : Value} {F m S dx dy b} (I : Inv X pins σ0 H s) (rx : RelV x v) (ry : RelV y u) (sr : SR X.K A F m S H)
    (hx : RV X.K A F m S.c.length dx x) (hy : RV X.K A F m S.c.length dy y) (e : isinO S dx dy = some b) :
    (∀ Q : VK, Q (.bl b) H → wpAny (model X.prog X.w) X.A (compareOp .In v u) (EP X pins σ0 Q) X.xe s) ∧ ∀ Q : VK, Q (.bl (!b)) H → wpAny (model X.prog X.w) X.A (compareOp .NotIn v u) (EP X pins σ0 Q) X.xe s := by
  cases ey : deref S dy with
  | none =>
    unfold isinO at e
    rw [ey] at e
    cases dx <;> cases e
  | some q =>
    have gy := deref_ok sr hy ey
    -- a list or a tuple of flat things
    have seqCase : ∀ (l : List D) (us : List V) (a : Addr), y = .ref a → (SqL X.K H a us ∨ SqT X.K H a us) → RVs X.K A F m S.c.length l us →
        (if (dx.flat && l.all D.flat) = true then some (l.any fun z => z.eqv dx) else none) = some b →
        (∀ Q : VK, Q (.bl b) H → wpAny (model X.prog X.w) X.A (compareOp .In v u) (EP X pins σ0 Q) X.xe s) ∧ ∀ Q : VK, Q (.bl (!b)) H → wpAny (model X.prog X.w) X.A (compareOp .NotIn v u) (EP X pins σ0 Q) X.xe s := by
      intro l us a ea hq g z
      by_cases c : (dx.flat && l.all D.flat) = true
      · rw [if_pos c] at z
        obtain ⟨c1, c2⟩ := Bool.and_eq_true_iff.mp c
        obtain ⟨f1, f2⟩ := flats_ok c1 hx c2 g
        have fx := (flat_ok c1 hx).1
        have eb : inV x us = b := f2.trans (Option.some.inj z)
        exact ⟨fun Q hQ => op_in_seq pins s σ0 H x y v u Q I rx ry ⟨a, us, ea, hq, fx, f1, by rw [eb]; exact hQ⟩, fun Q hQ => op_notIn_seq pins s σ0 H x y v u Q I rx ry ⟨a, us, ea, hq, fx, f1, by rw [eb]; exact hQ⟩⟩
      · rw [if_neg c] at z
        cases z
    unfold isinO at e
    rw [ey] at e
    cases q with
    | lst l =>
      obtain ⟨a, us, ea, hq, _, g⟩ := gy
      refine seqCase l us a ea (.inl hq) g ?_
      cases dx <;> exact e
    | tup l =>
      obtain ⟨a, us, ea, hq, _, g⟩ := gy
      refine seqCase l us a ea (.inr hq) g ?_
      cases dx <;> exact e
    | str z =>
      cases dx <;> first
        | cases e
        | skip
      rename_i c
      cases (show x = V.str c from hx.1)
      cases (show y = V.str z from gy.1)
      have e2 : (if c.cps.size = 1 then some (decide (c.cps[0]! ∈ z.cps.toList)) else none) = some b := e
      by_cases h1 : c.cps.size = 1
      · rw [if_pos h1] at e2
        obtain ⟨k, ek⟩ : ∃ k, c = ⟨#[k]⟩ := by
          obtain ⟨l⟩ := c
          obtain ⟨l⟩ := l
          match l, h1 with
          | [k], _ => exact ⟨k, rfl⟩
        subst ek
        have eb : decide (k ∈ z.cps.toList) = b := Option.some.inj e2
        exact ⟨fun Q hQ => op_in_sign pins s σ0 H _ _ v u Q I rx ry ⟨k, z, rfl, rfl, by rw [eb]; exact hQ⟩, fun Q hQ => op_notIn_sign pins s σ0 H _ _ v u Q I rx ry ⟨k, z, rfl, rfl, by rw [eb]; exact hQ⟩⟩
      · rw [if_neg h1] at e2
        cases e2
    | dct l =>
      cases dx <;> first
        | exact nomatch (show (none : Option Bool) = some b from e)
        | skip
      rename_i k
      cases (show x = V.str k from hx.1)
      obtain ⟨a, kvs, ea, hH, _, g⟩ := gy
      subst ea
      cases ry
      have eb : (getK k l).isSome = b := Option.some.inj e
      have ek : (valV kvs (.inr k)).isSome = b := by
        rw [← eb]
        rcases rvk_find (k := k) g with ⟨d, w, h1, h2, _⟩ | ⟨h1, h2⟩
        · rw [h1, h2]; rfl
        · rw [h1, h2]; rfl
      have hu1 : X.A.units + 1 < cLine := by omega
      exact ⟨fun Q hQ => d_in hu1 I (DGet.k (k := Sum.inr k) hH) rx fun s' I' => ⟨.bl b, H, I', by rw [ek]; rfl, hQ⟩, fun Q hQ => d_notIn hu1 I (DGet.k (k := Sum.inr k) hH) rx fun s' I' => ⟨.bl (!b), H, I', by rw [ek]; rfl, hQ⟩⟩
    | _ => cases dx <;> cases e
theorem cmp_in (hu : X.A.units + 64 < cLine) : OpR X (compareOp .In) (r2 X.K A (cO .isin)) := by
  intro pins s σ0 H x y v u Q I rx ry ⟨W, σ, S, F, m, dx, dy, sr, hx, hy, h⟩
  obtain ⟨b, e, q⟩ := out_bl (o := isinO S dx dy) sr h
  exact (isin_ok hu I rx ry sr hx hy e).1 Q q
theorem cmp_notin (hu : X.A.units + 64 < cLine) : OpR X (compareOp .NotIn) (r2 X.K A (cO .notin)) := by
  intro pins s σ0 H x y v u Q I rx ry ⟨W, σ, S, F, m, dx, dy, sr, hx, hy, h⟩
  obtain ⟨b, e, q⟩ := out_bl (o := (isinO S dx dy).map (!·)) sr h
  cases e2 : isinO S dx dy with
  | none => rw [e2] at e; cases e
  | some c =>
    rw [e2] at e
    cases (Option.some.inj e)
    exact (isin_ok hu I rx ry sr hx hy e2).2 Q q
def cOf : COp → CmpOp
  | .eq => .Eq | .ne => .NotEq | .lt => .Lt | .le => .LtE | .gt => .Gt | .ge => .GtE | .isin => .In | .notin => .NotIn | .is => .Is | .isnot => .IsNot
theorem cmp_ok (hu : X.A.units + 64 < cLine) (op : COp) : OpR X (compareOp (cOf op)) (r2 X.K A (cO op)) := by
  cases op with
  | eq => exact cmp_eq hu
  | ne => exact cmp_ne hu
  | lt => exact cmp_lt
  | le => exact cmp_le
  | gt => exact cmp_gt
  | ge => exact cmp_ge
  | isin => exact cmp_in hu
  | notin => exact cmp_notin hu
  | is => exact cmp_is
  | isnot => exact cmp_isnot
end
end Mi
/-! Mi: subscripts, slices, built-in functions, methods of built-in types, fields. -/
namespace Mi
open PySem PySem.Spec PyProof.Rows L2

section
variable {X : Cx} {A : Nm}
theorem atI_rel {K A F m n} {l : List D} {us : List V} {i : Int} {d : D} (g : RVs K A F m n l us) (e : (L2.ixN l.length i).bind (fun j => l[j]?) = some d) : ∃ v, atI us i = some v ∧ RV K A F m n d v := by
  unfold atI
  rw [RVs.length g]
  cases q : L2.ixN l.length i with
  | none => rw [q] at e; cases e
  | some j =>
    rw [q] at e
    exact g.get e
theorem str_sign {x : Str} (h : sOk x) {j c : Nat} (e : x.cps.toList[j]? = some c) : sOk ⟨#[c]⟩ := by
  refine ⟨by show 1 ≤ LL; decide, ?_⟩
  have h2 := h.2
  unfold PyData.strOk at h2 ⊢
  rw [Array.all_eq_true'] at h2
  have := h2 c (Array.mem_toList_iff.mp (List.mem_of_getElem? e))
  simpa using this
/-- subscripts of lists, tuples, texts, dicts -/
theorem idx_ok (hu : X.A.units + 1 < cLine) : IxR X (r2 X.K A idxO) := by
  intro value slice pins s σ0 H x y v u Q I rx ry ⟨W, σ, S, F, m, dx, dy, sr, hx, hy, h⟩ hsub
  cases ex : deref S dx with
  | none =>
    have h2 : Out X.K A (rlV X.K A) W σ F m S H (R.of S (idxC (deref S dx) dy)) Q := h
    rw [ex] at h2
    exact h2.elim
  | some q =>
    have g := deref_ok sr hx ex
    have h2 : Out X.K A (rlV X.K A) W σ F m S H (R.of S (idxC (deref S dx) dy)) Q := h
    rw [ex] at h2
    cases q with
    | lst l =>
      cases dy <;> first
        | exact h2.elim
        | skip
      rename_i i
      cases (show y = V.int i from hy)
      have h3 : Out X.K A (rlV X.K A) W σ F m S H (R.of S ((L2.ixN l.length i).bind fun j => l[j]?)) Q := h2
      obtain ⟨a, us, ea, hq, _, gs⟩ := g
      cases e : (L2.ixN l.length i).bind fun j => l[j]? with
      | none => rw [e] at h3; exact h3.elim
      | some d =>
        rw [e] at h3
        obtain ⟨w, h4, h5⟩ := atI_rel gs e
        exact ix_list value slice pins s σ0 H x _ v u Q I rx ry ⟨a, us, i, w, ea, rfl, hq, h4, h3.here sr h5⟩ hsub
    | tup l =>
      cases dy <;> first
        | exact h2.elim
        | skip
      rename_i i
      cases (show y = V.int i from hy)
      have h3 : Out X.K A (rlV X.K A) W σ F m S H (R.of S ((L2.ixN l.length i).bind fun j => l[j]?)) Q := h2
      obtain ⟨a, us, ea, hq, _, gs⟩ := g
      cases e : (L2.ixN l.length i).bind fun j => l[j]? with
      | none => rw [e] at h3; exact h3.elim
      | some d =>
        rw [e] at h3
        obtain ⟨w, h4, h5⟩ := atI_rel gs e
        exact ix_tup value slice pins s σ0 H x _ v u Q I rx ry ⟨a, us, i, w, ea, rfl, hq, h4, h3.here sr h5⟩ hsub
    | str z =>
      cases dy <;> first
        | exact h2.elim
        | skip
      rename_i i
      cases (show y = V.int i from hy)
      have h3 : Out X.K A (rlV X.K A) W σ F m S H (R.of S ((L2.ixN z.cps.size i).bind fun j => z.cps.toList[j]?.map fun c => .str ⟨#[c]⟩)) Q := h2
      obtain ⟨ez, oz⟩ := g
      cases q : L2.ixN z.cps.size i with
      | none => rw [q] at h3; exact h3.elim
      | some j =>
        rw [q] at h3
        have h4 : Out X.K A (rlV X.K A) W σ F m S H (R.of S (z.cps.toList[j]?.map fun c => .str ⟨#[c]⟩)) Q := h3
        cases e : z.cps.toList[j]? with
        | none => rw [e] at h4; exact h4.elim
        | some c =>
          rw [e] at h4
          refine ix_str value slice pins s σ0 H x _ v u Q I rx ry ⟨z, i, c, ez, rfl, Nat.le_trans oz.1 LL_line, ?_, h4.here sr ⟨rfl, str_sign oz e⟩⟩ hsub
          unfold atI
          rw [show z.cps.toList.length = z.cps.size from Array.length_toList, q]
          exact e
    | dct l =>
      cases dy <;> first
        | exact h2.elim
        | skip
      rename_i k
      cases (show y = V.str k from hy.1)
      obtain ⟨a, kvs, ea, hH, _, gk⟩ := g
      subst ea
      cases rx
      have h3 : Out X.K A (rlV X.K A) W σ F m S H (R.of S (getK k l)) Q := h2
      rcases rvk_find (k := k) gk with ⟨d, w, e1, e2, e3⟩ | ⟨e1, e2⟩
      · rw [e1] at h3
        have D : DGet H a (V.str k) (some w) := by
          have := DGet.k (k := Sum.inr k) hH
          rw [e2] at this
          exact this
        exact tail_any (dict_typeIs I D) slot_dict_getitem.lookup (d_getItem hu I D ry fun w' s' I' rw' => ⟨w, H, I', rw', h3.here sr e3⟩) hsub
      · rw [e1] at h3
        exact h3.elim
    | _ => cases dy <;> exact h2.elim
/-! ### slices -/
theorem cutV_rel {K A F m n} {l : List D} {us : List V} (lo hi : Option Int) (g : RVs K A F m n l us) : RVs K A F m n (cut l lo hi) (cutV us lo hi) := by
  unfold cut cutV
  rw [RVs.length g]
  exact RVs.take _ (RVs.drop _ g)
theorem cut_length {α : Type} (l : List α) (lo hi : Option Int) : (cut l lo hi).length ≤ l.length := by
  unfold cut
  rw [List.length_take, List.length_drop]
  omega
def rSlc (K : PySem.W.Frag) (A : Nm) : V → Option Int → Option Int → Hp → VK → Prop := fun x lo hi H Q => ∃ W σ S F m dx, SR K A F m S H ∧ RV K A F m S.c.length dx x ∧ Out K A (rlV K A) W σ F m S H (R.of S (slcO S dx lo hi)) Q
theorem slc_ok : SlR X (rSlc X.K A) := by
  intro pins s σ0 H x v vl vu lo hi sl Q I rx hs pl pu ⟨W, σ, S, F, m, dx, sr, hx, h⟩
  have h2 : Out X.K A (rlV X.K A) W σ F m S H (R.of S (slcC (deref S dx) lo hi)) Q := h
  cases ex : deref S dx with
  | none => rw [ex] at h2; exact h2.elim
  | some q =>
    have g := deref_ok sr hx ex
    rw [ex] at h2
    cases q with
    | lst l =>
      obtain ⟨a, us, ea, hq, hl, gs⟩ := g
      exact sl_list pins s σ0 H x v vl vu lo hi sl Q I rx hs pl pu ⟨a, us, ea, hq, fun p hp => Out.lst h2 sr hp (Nat.le_trans (cut_length _ _ _) hl) (cutV_rel lo hi gs)⟩
    | tup l =>
      obtain ⟨a, us, ea, hq, hl, gs⟩ := g
      have h3 : Out X.K A (rlV X.K A) W σ F m S H (R.of S (if HT.sIx l.length 0 lo = 0 ∧ HT.sIx l.length l.length hi = l.length then none else some (.tup (cut l lo hi)))) Q := h2
      by_cases c : HT.sIx l.length 0 lo = 0 ∧ HT.sIx l.length l.length hi = l.length
      · rw [if_pos c] at h3
        exact h3.elim
      · rw [if_neg c] at h3
        exact sl_tup pins s σ0 H x v vl vu lo hi sl Q I rx hs pl pu ⟨a, us, ea, hq, by rw [RVs.length gs]; exact c, fun p hp => Out.tup h3 sr hp (Nat.le_trans (cut_length _ _ _) hl) (cutV_rel lo hi gs)⟩
    | _ => exact h2.elim
/-! ### truth -/
theorem tru_rel {K A F m S} {d : D} {v : V} {b : Bool} {H : Hp} (h : RV K A F m S.c.length d v) (e : tru S d = some b) : TruV K v H b := by
  cases d with
  | non => cases (show v = V.non from h); cases e; rfl
  | bl c => cases (show v = V.bl c from h); cases e; rfl
  | int c => cases (show v = V.int c from h); cases e; rfl
  | _ => cases e
/-! ### built-in functions -/
def bfN : Bf → Str
  | .len => "len" | .list => "list" | .tuple => "tuple" | .dict => "dict" | .int => "int" | .str => "str" | .abs => "abs" | .sum => "sum" | .all => "all" | .any => "any" | .min => "min" | .max => "max" | .repr => "repr" | .sorted => "sorted"
def bfV : Bf → Value
  | .len => .builtin "len" | .list => .type "list" | .tuple => .type "tuple" | .dict => .type "dict" | .int => .type "int" | .str => .type "str" | .abs => .builtin "abs" | .sum => .builtin "sum" | .all => .builtin "all" | .any => .builtin "any" | .min => .builtin "min" | .max => .builtin "max" | .repr => .builtin "repr" | .sorted => .builtin "sorted"
def rBf (K : PySem.W.Frag) (A : Nm) (b : Bf) (mu : Bool) : List V → Hp → VK → Prop := fun xs H Q => ∃ W σ S F m ds, SR K A F m S H ∧ RVs K A F m S.c.length ds xs ∧ Out K A (rlV K A) W σ F m S H ((R.of S (bfO b S ds)).bind fun d S => fresh mu S d) Q
theorem rvs1 {K A F m n} {d : D} {us : List V} (h : RVs K A F m n [d] us) : ∃ v, us = [v] ∧ RV K A F m n d v := by
  obtain ⟨v, r, e, h1, h2⟩ := h
  cases (show r = [] from h2)
  exact ⟨v, e, h1⟩
theorem rvs2 {K A F m n} {d e : D} {us : List V} (h : RVs K A F m n [d, e] us) : ∃ v w, us = [v, w] ∧ RV K A F m n d v ∧ RV K A F m n e w := by
  obtain ⟨v, r, e1, h1, h2⟩ := h
  obtain ⟨w, e2, h3⟩ := rvs1 h2
  rw [e2] at e1
  exact ⟨v, w, e1, h1, h3⟩
/-- the end of a built-in whose answer is no container -/
theorem out_flat {K : PySem.W.Frag} {A : Nm} {W : WX} {σ : L2.St} {F : Hp} {m : Nat → Addr} {S : Sto} {H : Hp} {Q : VK} {mu : Bool} {d : D} {v : V} (f : d.flat = true) (h : Out K A (rlV K A) W σ F m S H (fresh mu S d) Q) (sr : SR K A F m S H) (r : RV K A F m S.c.length d v) : Q v H := by
  cases mu with
  | false => exact Out.here h sr r
  | true =>
    exfalso
    cases d with
    | lst _ => exact absurd (show false = true from f) Bool.false_ne_true
    | dct _ => exact absurd (show false = true from f) Bool.false_ne_true
    | _ => exact h.elim
theorem out_bind {K : PySem.W.Frag} {A : Nm} {W : WX} {σ : L2.St} {F : Hp} {m : Nat → Addr} {S : Sto} {H : Hp} {Q : VK} {mu : Bool} {o : Option D} (h : Out K A (rlV K A) W σ F m S H ((R.of S o).bind fun d S => fresh mu S d) Q) : ∃ d, o = some d ∧ Out K A (rlV K A) W σ F m S H (fresh mu S d) Q := by
  cases o with
  | none => exact h.elim
  | some d => exact ⟨d, rfl, h⟩
theorem ints_ok {K A F m n} : ∀ {l : List D} {ns : List Int} {us : List V}, intsO l = some ns → RVs K A F m n l us → us = ns.map V.int
  | [], ns, us, e, h => by cases e; exact h
  | .int b :: r, ns, us, e, h => by
    obtain ⟨u, us', e1, h1, h2⟩ := h
    have e' : (intsO r).map (b :: ·) = some ns := e
    cases q : intsO r with
    | none => rw [q] at e'; cases e'
    | some ns' =>
      rw [q] at e'
      cases e'
      cases (show u = V.int b from h1)
      rw [e1, ints_ok q h2]
      rfl
  | .non :: _, _, _, e, _ => by cases e
  | .bl _ :: _, _, _, e, _ => by cases e
  | .str _ :: _, _, _, e, _ => by cases e
  | .tup _ :: _, _, _, e, _ => by cases e
  | .lst _ :: _, _, _, e, _ => by cases e
  | .dct _ :: _, _, _, e, _ => by cases e
  | .ins _ _ :: _, _, _, e, _ => by cases e
  | .ref _ :: _, _, _, e, _ => by cases e
  | .scr _ :: _, _, _, e, _ => by cases e
theorem bls_ok {K A F m n} : ∀ {l : List D} {ns : List Bool} {us : List V}, blsO l = some ns → RVs K A F m n l us → us = ns.map V.bl
  | [], ns, us, e, h => by cases e; exact h
  | .bl b :: r, ns, us, e, h => by
    obtain ⟨u, us', e1, h1, h2⟩ := h
    have e' : (blsO r).map (b :: ·) = some ns := e
    cases q : blsO r with
    | none => rw [q] at e'; cases e'
    | some ns' =>
      rw [q] at e'
      cases e'
      cases (show u = V.bl b from h1)
      rw [e1, bls_ok q h2]
      rfl
  | .non :: _, _, _, e, _ => by cases e
  | .int _ :: _, _, _, e, _ => by cases e
  | .str _ :: _, _, _, e, _ => by cases e
  | .tup _ :: _, _, _, e, _ => by cases e
  | .lst _ :: _, _, _, e, _ => by cases e
  | .dct _ :: _, _, _, e, _ => by cases e
  | .ins _ _ :: _, _, _, e, _ => by cases e
  | .ref _ :: _, _, _, e, _ => by cases e
  | .scr _ :: _, _, _, e, _ => by cases e
theorem strs_ok {K A F m n} : ∀ {l : List D} {ns : List Str} {us : List V}, strsO l = some ns → RVs K A F m n l us → us = ns.map V.str ∧ ∀ x ∈ ns, sOk x
  | [], ns, us, e, h => by cases e; exact ⟨h, fun x z => nomatch z⟩
  | .str b :: r, ns, us, e, h => by
    obtain ⟨u, us', e1, h1, h2⟩ := h
    have e' : (strsO r).map (b :: ·) = some ns := e
    cases q : strsO r with
    | none => rw [q] at e'; cases e'
    | some ns' =>
      rw [q] at e'
      cases e'
      cases (show u = V.str b from h1.1)
      obtain ⟨i1, i2⟩ := strs_ok q h2
      refine ⟨by rw [e1, i1]; rfl, fun x hx => ?_⟩
      rcases List.mem_cons.mp hx with z | z
      · rw [z]; exact h1.2
      · exact i2 x z
  | .non :: _, _, _, e, _ => by cases e
  | .int _ :: _, _, _, e, _ => by cases e
  | .bl _ :: _, _, _, e, _ => by cases e
  | .tup _ :: _, _, _, e, _ => by cases e
  | .lst _ :: _, _, _, e, _ => by cases e
  | .dct _ :: _, _, _, e, _ => by cases e
  | .ins _ _ :: _, _, _, e, _ => by cases e
  | .ref _ :: _, _, _, e, _ => by cases e
  | .scr _ :: _, _, _, e, _ => by cases e
end
end Mi
/-! Mi: built-in functions and methods. -/
namespace Mi
open PySem PySem.Spec PyProof.Rows L2 TL

/-! ### texts -/
theorem sOk_of {x : Str} (h1 : (tl x).length ≤ LL) (h2 : ∀ c ∈ tl x, c < 0x110000) : sOk x := by
  refine ⟨by
    have e : (tl x).length = x.length := Array.length_toList
    rw [← e]
    exact h1, ?_⟩
  unfold PyData.strOk
  rw [Array.all_eq_true']
  intro c hc
  exact decide_eq_true (h2 c (Array.mem_toList_iff.mpr hc))
theorem sOk_mem {x : Str} (h : sOk x) : ∀ c ∈ tl x, c < 0x110000 := fun c hc => by
  have h2 := h.2
  unfold PyData.strOk at h2
  rw [Array.all_eq_true'] at h2
  exact of_decide_eq_true (h2 c (Array.mem_toList_iff.mp hc))
theorem sOk_len {x : Str} (h : sOk x) : (tl x).length ≤ LL := by
  have e : (tl x).length = x.length := Array.length_toList
  rw [e]
  exact h.1
theorem spl_mem (S : List Nat) : ∀ (l : List Nat) (k : Nat) (acc p : List Nat), p ∈ spl S k acc l → (∀ c ∈ p, c ∈ acc ∨ c ∈ l) ∧ p.length ≤ acc.length + l.length
  | [], k, acc, p, h => by
    rw [spl_nil] at h
    rw [List.mem_singleton.mp h]
    exact ⟨fun c hc => .inl hc, Nat.le_refl _⟩
  | c :: r, 0, acc, p, h => by
    unfold spl at h
    split at h
    · rcases List.mem_cons.mp h with z | z
      · rw [z]
        exact ⟨fun c hc => .inl hc, Nat.le_add_right _ _⟩
      · obtain ⟨i1, i2⟩ := spl_mem S r _ [] p z
        refine ⟨fun d hd => ?_, ?_⟩
        · rcases i1 d hd with q | q
          · cases q
          · exact .inr (List.mem_cons_of_mem _ q)
        · rw [List.length_cons]
          rw [List.length_nil] at i2
          omega
    · obtain ⟨i1, i2⟩ := spl_mem S r 0 (acc ++ [c]) p h
      refine ⟨fun d hd => ?_, ?_⟩
      · rcases i1 d hd with q | q
        · rcases List.mem_append.mp q with q | q
          · exact .inl q
          · rw [List.mem_singleton.mp q]
            exact .inr List.mem_cons_self
        · exact .inr (List.mem_cons_of_mem _ q)
      · rw [List.length_append, List.length_singleton] at i2
        rw [List.length_cons]
        omega
  | c :: r, k + 1, acc, p, h => by
    unfold spl at h
    obtain ⟨i1, i2⟩ := spl_mem S r k acc p h
    refine ⟨fun d hd => ?_, ?_⟩
    · rcases i1 d hd with q | q
      · exact .inl q
      · exact .inr (List.mem_cons_of_mem _ q)
    · rw [List.length_cons]
      omega
theorem split_sOk {x y : Str} (hx : sOk x) (hy : y.length = 1) (hk : y.cps.all (· < 256) = true) : ∀ p ∈ Txt.split x y, sOk p := fun p hp => by
  have hne : tl y ≠ [] := fun z => by
    have e : (tl y).length = y.length := Array.length_toList
    rw [z, hy] at e
    cases e
  have e := split_spl x y hne (kind_ok hk)
  have hp' : tl p ∈ spl (tl y) 0 [] (tl x) := by
    rw [← e]
    exact List.mem_map_of_mem hp
  obtain ⟨i1, i2⟩ := spl_mem _ _ _ _ _ hp'
  refine sOk_of (Nat.le_trans i2 (by rw [List.length_nil, Nat.zero_add]; exact sOk_len hx)) fun c hc => ?_
  rcases i1 c hc with q | q
  · cases q
  · exact sOk_mem hx c q
theorem joinL_mem (S : List Nat) : ∀ (l : List (List Nat)) (c : Nat), c ∈ joinL S l → c ∈ S ∨ ∃ p ∈ l, c ∈ p
  | [], c, h => by cases h
  | [p], c, h => .inr ⟨p, List.mem_singleton.mpr rfl, h⟩
  | p :: q :: r, c, h => by
    unfold joinL at h
    rcases List.mem_append.mp h with h | h
    · exact .inr ⟨p, List.mem_cons_self, h⟩
    · rcases List.mem_append.mp h with h | h
      · exact .inl h
      · rcases joinL_mem S (q :: r) c h with z | ⟨w, hw, z⟩
        · exact .inl z
        · exact .inr ⟨w, List.mem_cons_of_mem _ hw, z⟩
theorem join_sOk {x : Str} {ys : List Str} (hx : sOk x) (hys : ∀ y ∈ ys, sOk y) (hl : (ys.map (·.length)).sum + ys.length * x.length ≤ LL) : sOk (Txt.join x ys) := by
  refine sOk_of ?_ fun c hc => ?_
  · have e : (tl (Txt.join x ys)).length = (Txt.join x ys).length := Array.length_toList
    rw [e, join_eq]
    exact Nat.le_trans (StrLaws.join_length_le x ys) hl
  · rw [join_eq, tl_join] at hc
    rcases joinL_mem _ _ c hc with z | ⟨w, hw, z⟩
    · exact sOk_mem hx c z
    · obtain ⟨y, hy, rfl⟩ := List.mem_map.mp hw
      exact sOk_mem (hys y hy) c z
theorem numL_ok : ∀ n : Nat, (numL n).length ≤ n + 1 ∧ ∀ c ∈ numL n, c < 0x110000 := by
  intro n
  induction n using Nat.strongRecOn with
  | _ n ih =>
    by_cases h : n < 10
    · rw [numL_lt h]
      refine ⟨Nat.succ_le_succ (Nat.zero_le _), fun c hc => ?_⟩
      rw [List.mem_singleton.mp hc]
      omega
    · rw [numL_step (by omega)]
      obtain ⟨i1, i2⟩ := ih (n / 10) (by omega)
      refine ⟨?_, fun c hc => ?_⟩
      · rw [List.length_append, List.length_singleton]
        omega
      · rcases List.mem_append.mp hc with z | z
        · exact i2 c z
        · rw [List.mem_singleton.mp z]
          omega
theorem strOf_sOk {i : Int} (h0 : 0 ≤ i) (h1 : i < 999999) : sOk (strOf i) := by
  obtain ⟨n, rfl⟩ : ∃ n : Nat, i = (n : Int) := ⟨i.toNat, (Int.toNat_of_nonneg h0).symm⟩
  obtain ⟨i1, i2⟩ := numL_ok n
  unfold strOf
  refine sOk_of ?_ ?_
  · rw [tl_num]
    exact Nat.le_trans i1 (by
      have : LL = 1000000 := rfl
      omega)
  · rw [tl_num]
    exact i2
theorem log_small {i : Int} (h0 : 0 ≤ i) (h1 : i < 999999) : i.natAbs.log2 < 1920 := by
  have h2 : i.natAbs < 2 ^ 20 := by omega
  by_cases z : i.natAbs = 0
  · rw [z]; decide
  · have := (Nat.log2_lt z).mpr h2
    omega

section
variable {X : Cx} {A : Nm}
theorem rvs_nil {K A F m n} {us : List V} (h : RVs K A F m n [] us) : us = [] := h
theorem bf_ok (hc : X.calm = true) (b : Bf) (mu : Bool) : CallR X (bfV b) (rBf X.K A b mu) := by
  intro pins s σ0 H xs us Q I r ⟨W, σ, S, F, m, ds, sr, hr, h⟩
  obtain ⟨d, e, h2⟩ := out_bind h
  match b, ds, e with
  | .len, [x], e =>
    obtain ⟨v, rfl, hv⟩ := rvs1 hr
    have e' : lenC (deref S x) = some d := e
    cases ex : deref S x with
    | none => rw [ex] at e'; cases e'
    | some q =>
      rw [ex] at e'
      have g := deref_ok sr hv ex
      cases q with
      | lst l =>
        cases e'
        obtain ⟨a, ws, ea, hq, hl, gs⟩ := g
        subst ea
        exact call_len pins s σ0 H _ us Q I r ⟨_, l.length, rfl, .inl ⟨ws, hq, (RVs.length gs).symm⟩, out_flat rfl h2 sr rfl⟩
      | tup l =>
        cases e'
        obtain ⟨a, ws, ea, hq, hl, gs⟩ := g
        subst ea
        exact call_len pins s σ0 H _ us Q I r ⟨_, l.length, rfl, .inr ⟨ws, hq, (RVs.length gs).symm⟩, out_flat rfl h2 sr rfl⟩
      | str z =>
        cases e'
        obtain ⟨ez, oz⟩ := g
        subst ez
        exact call_len pins s σ0 H _ us Q I r ⟨_, z.length, rfl, ⟨Nat.le_trans oz.1 LL_line, rfl⟩, out_flat rfl h2 sr rfl⟩
      | dct l =>
        cases e'
        obtain ⟨a, kvs, ea, hH, hl, gk⟩ := g
        subst ea
        refine call_lenD pins s σ0 H _ us Q I r ⟨a, kvs, rfl, hH, ?_⟩
        rw [RVk.length gk]
        exact out_flat rfl h2 sr rfl
      | _ => cases e'
  | .list, [x], e =>
    obtain ⟨v, rfl, hv⟩ := rvs1 hr
    have e' : (seqC (deref S x)).map D.lst = some d := e
    cases ex : deref S x with
    | none => rw [ex] at e'; cases e'
    | some q =>
      rw [ex] at e'
      have g := deref_ok sr hv ex
      cases q with
      | lst l =>
        cases e'
        obtain ⟨a, ws, ea, hq, hl, gs⟩ := g
        subst ea
        exact call_list_of pins s σ0 H _ us Q I r ⟨a, ws, rfl, .inl hq, fun p hp => Out.list h2 sr hp hl gs⟩
      | tup l =>
        cases e'
        obtain ⟨a, ws, ea, hq, hl, gs⟩ := g
        subst ea
        exact call_list_of pins s σ0 H _ us Q I r ⟨a, ws, rfl, .inr hq, fun p hp => Out.list h2 sr hp hl gs⟩
      | _ => cases e'
  | .tuple, [x], e =>
    obtain ⟨v, rfl, hv⟩ := rvs1 hr
    have e' : (seqC (deref S x)).map D.tup = some d := e
    have fr : ∀ {l : List D}, Out X.K A (rlV X.K A) W σ F m S H (fresh mu S (.tup l)) Q → Out X.K A (rlV X.K A) W σ F m S H (.ok (.tup l) S) Q := fun {l} z => by
      cases mu with
      | false => exact z
      | true => exact z.elim
    cases ex : deref S x with
    | none => rw [ex] at e'; cases e'
    | some q =>
      rw [ex] at e'
      have g := deref_ok sr hv ex
      cases q with
      | lst l =>
        cases e'
        obtain ⟨a, ws, ea, hq, hl, gs⟩ := g
        subst ea
        exact call_tuple_of pins s σ0 H _ us Q I r ⟨a, ws, rfl, .inl ⟨hq, fun p hp => Out.tup (fr h2) sr hp hl gs⟩⟩
      | tup l =>
        cases e'
        have ex' : x = .tup l := by
          cases x with
          | tup l' => cases ex; rfl
          | ref k =>
            exfalso
            have e2 : (match getc S.c k with
              | some c => derefC c
              | none => none) = some (.tup l) := ex
            cases q : getc S.c k with
            | none => rw [q] at e2; cases e2
            | some c => rw [q] at e2; cases c <;> cases e2
          | _ => cases ex
        subst ex'
        obtain ⟨a, ws, ea, hq, hl, gs⟩ := g
        subst ea
        exact call_tuple_of pins s σ0 H _ us Q I r ⟨a, ws, rfl, .inr ⟨hq, Out.here (fr h2) sr hv⟩⟩
      | _ => cases e'
  | .int, [.int i], e =>
    obtain ⟨v, rfl, hv⟩ := rvs1 hr
    cases e
    cases (show v = V.int i from hv)
    exact call_int1 pins s σ0 H _ us Q I r (.inl ⟨i, rfl, out_flat rfl h2 sr rfl⟩)
  | .int, [.bl i], e =>
    obtain ⟨v, rfl, hv⟩ := rvs1 hr
    cases e
    cases (show v = V.bl i from hv)
    exact call_int1 pins s σ0 H _ us Q I r (.inr ⟨i, rfl, out_flat rfl h2 sr rfl⟩)
  | .int, [.str x], e =>
    obtain ⟨v, rfl, hv⟩ := rvs1 hr
    cases (show v = V.str x from hv.1)
    have e' : (if x.cps.size ≤ 600 then (intText? x).map D.int else none) = some d := e
    by_cases c : x.cps.size ≤ 600
    · rw [if_pos c] at e'
      cases q : intText? x with
      | none => rw [q] at e'; cases e'
      | some n =>
        rw [q] at e'
        cases e'
        exact call_int_str pins s σ0 H _ us Q I r ⟨x, n, rfl, q, Nat.le_trans c (by decide), out_flat rfl h2 sr rfl⟩
    · rw [if_neg c] at e'
      cases e'
  | .str, [.int i], e =>
    obtain ⟨v, rfl, hv⟩ := rvs1 hr
    cases (show v = V.int i from hv)
    have e' : (if 0 ≤ i ∧ i < 999999 then some (D.str (strOf i)) else none) = some d := e
    by_cases c : 0 ≤ i ∧ i < 999999
    · rw [if_pos c] at e'
      cases e'
      exact call_str_int pins s σ0 H _ us Q I r ⟨i, rfl, log_small c.1 c.2, out_flat rfl h2 sr ⟨rfl, strOf_sOk c.1 c.2⟩⟩
    · rw [if_neg c] at e'
      cases e'
  | .str, [.str x], e =>
    obtain ⟨v, rfl, hv⟩ := rvs1 hr
    cases e
    cases (show v = V.str x from hv.1)
    exact SkE.call_str_str pins s σ0 H _ us Q I r ⟨x, rfl, out_flat rfl h2 sr hv⟩
  | .abs, [.int i], e =>
    obtain ⟨v, rfl, hv⟩ := rvs1 hr
    cases e
    cases (show v = V.int i from hv)
    exact call_abs pins s σ0 H _ us Q I r ⟨i, rfl, out_flat rfl h2 sr rfl⟩
  | .sum, [x], e =>
    obtain ⟨v, rfl, hv⟩ := rvs1 hr
    have e' : ((lstC (deref S x)).bind fun l => (intsO l).map fun ns => D.int ns.sum) = some d := e
    cases ex : deref S x with
    | none => rw [ex] at e'; cases e'
    | some q =>
      rw [ex] at e'
      have g := deref_ok sr hv ex
      cases q with
      | lst l =>
        have e2 : ((intsO l).map fun ns => D.int ns.sum) = some d := e'
        cases q : intsO l with
        | none => rw [q] at e2; cases e2
        | some ns =>
          rw [q] at e2
          cases e2
          obtain ⟨a, ws, ea, hq, hl, gs⟩ := g
          subst ea
          rw [ints_ok q gs] at hq
          exact cr_sum hc pins s σ0 H _ us Q I r ⟨a, ns, rfl, hq, out_flat rfl h2 sr rfl⟩
      | _ => cases e'
  | .all, [x], e =>
    obtain ⟨v, rfl, hv⟩ := rvs1 hr
    have e' : ((lstC (deref S x)).bind fun l => (blsO l).map fun bs => D.bl (bs.all id)) = some d := e
    cases ex : deref S x with
    | none => rw [ex] at e'; cases e'
    | some q =>
      rw [ex] at e'
      have g := deref_ok sr hv ex
      cases q with
      | lst l =>
        have e2 : ((blsO l).map fun bs => D.bl (bs.all id)) = some d := e'
        cases q : blsO l with
        | none => rw [q] at e2; cases e2
        | some ns =>
          rw [q] at e2
          cases e2
          obtain ⟨a, ws, ea, hq, hl, gs⟩ := g
          subst ea
          rw [bls_ok q gs] at hq
          exact cr_all hc pins s σ0 H _ us Q I r ⟨a, ns, rfl, hq, out_flat rfl h2 sr rfl⟩
      | _ => cases e'
  | .any, [x], e =>
    obtain ⟨v, rfl, hv⟩ := rvs1 hr
    have e' : ((lstC (deref S x)).bind fun l => (blsO l).map fun bs => D.bl (bs.any id)) = some d := e
    cases ex : deref S x with
    | none => rw [ex] at e'; cases e'
    | some q =>
      rw [ex] at e'
      have g := deref_ok sr hv ex
      cases q with
      | lst l =>
        have e2 : ((blsO l).map fun bs => D.bl (bs.any id)) = some d := e'
        cases q : blsO l with
        | none => rw [q] at e2; cases e2
        | some ns =>
          rw [q] at e2
          cases e2
          obtain ⟨a, ws, ea, hq, hl, gs⟩ := g
          subst ea
          rw [bls_ok q gs] at hq
          exact cr_any hc pins s σ0 H _ us Q I r ⟨a, ns, rfl, hq, out_flat rfl h2 sr rfl⟩
      | _ => cases e'
  | .min, [.int i, .int j], e =>
    obtain ⟨v, w, rfl, hv, hw⟩ := rvs2 hr
    cases e
    cases (show v = V.int i from hv)
    cases (show w = V.int j from hw)
    exact call_min2 hc pins s σ0 H _ us Q I r ⟨i, j, rfl, out_flat rfl h2 sr rfl⟩
  | .max, [.int i, .int j], e =>
    obtain ⟨v, w, rfl, hv, hw⟩ := rvs2 hr
    cases e
    cases (show v = V.int i from hv)
    cases (show w = V.int j from hw)
    exact call_max2 hc pins s σ0 H _ us Q I r ⟨i, j, rfl, out_flat rfl h2 sr rfl⟩
end
end Mi
/-! Mi: methods of built-in types. -/
namespace Mi
open PySem PySem.Spec PyProof.Rows L2 TL

theorem ltL_append {n : Nat} : ∀ a b : List D, D.ltL n (a ++ b) = (D.ltL n a && D.ltL n b)
  | [], b => rfl
  | x :: a, b => by
    show (D.lt n x && D.ltL n (a ++ b)) = ((D.lt n x && D.ltL n a) && D.ltL n b)
    rw [ltL_append a b, Bool.and_assoc]
theorem ltL_take {n : Nat} : ∀ (k : Nat) (a : List D), D.ltL n a = true → D.ltL n (a.take k) = true
  | 0, a, _ => rfl
  | k + 1, [], _ => rfl
  | k + 1, x :: a, h => by
    unfold D.ltL at h
    obtain ⟨h1, h2⟩ := Bool.and_eq_true_iff.mp h
    exact Bool.and_eq_true_iff.mpr ⟨h1, ltL_take k a h2⟩
theorem ltL_set {n : Nat} {d : D} (hd : d.lt n = true) : ∀ (k : Nat) (a : List D), D.ltL n a = true → D.ltL n (a.set k d) = true
  | _, [], _ => rfl
  | 0, x :: a, h => by
    unfold D.ltL at h
    obtain ⟨h1, h2⟩ := Bool.and_eq_true_iff.mp h
    exact Bool.and_eq_true_iff.mpr ⟨hd, h2⟩
  | k + 1, x :: a, h => by
    unfold D.ltL at h
    obtain ⟨h1, h2⟩ := Bool.and_eq_true_iff.mp h
    exact Bool.and_eq_true_iff.mpr ⟨h1, ltL_set hd k a h2⟩
theorem w_ok {S : Sto} {l n : Nat} {d : D} (h : wOk S l d = true) (hn : n ≤ S.fl) (hl : l < n) : d.lt n = true := by
  unfold wOk at h
  rcases Bool.or_eq_true_iff.mp h with h | h
  · exact absurd (Nat.lt_of_lt_of_le hl (Nat.le_trans hn (of_decide_eq_true h))) (Nat.lt_irrefl _)
  · exact D.lt_mono hl d h
theorem w_okL {S : Sto} {l n : Nat} {d : List D} (h : wOkL S l d = true) (hn : n ≤ S.fl) (hl : l < n) : D.ltL n d = true := by
  unfold wOkL at h
  rcases Bool.or_eq_true_iff.mp h with h | h
  · exact absurd (Nat.lt_of_lt_of_le hl (Nat.le_trans hn (of_decide_eq_true h))) (Nat.lt_irrefl _)
  · exact D.ltL_mono hl d h
section
variable {K : PySem.W.Frag} {A : Nm} {F : Hp} {m : Nat → Addr} {S : Sto} {H : Hp}
theorem cell_lst (sr : SR K A F m S H) {n : Nat} {l : List D} (h : getc S.c n = some (.lst l)) : ∃ us, H (m n) = some (.lst us) ∧ l.length ≤ LL ∧ RVs K A F m S.c.length l us ∧ F (m n) = none ∧ n < S.c.length := by
  obtain ⟨us, h1, h2, h3⟩ := sr.cel n _ h
  exact ⟨us, h1, h2, h3, sr.sep n _ h rfl, getc_lt h⟩
theorem SR.putL (sr : SR K A F m S H) {n : Nat} {l l' : List D} {us' : List V} (h : getc S.c n = some (.lst l)) (hl : l'.length ≤ LL) (hr : RVs K A F m S.c.length l' us') (hw : ∀ k, k ≤ S.fl → n < k → D.ltL k l = true → D.ltL k l' = true) :
    SR K A F m (putS S n (.lst l')) (upd H (m n) (.lst us')) ∧ Ext F m S H F m (putS S n (.lst l')) (upd H (m n) (.lst us')) := by
  obtain ⟨us, h1, h2, h3, h4, h5⟩ := cell_lst sr h
  exact SR.put sr h5 h4 ⟨us', upd_same, hl, hr⟩ rfl fun k hk hn g => hw k hk hn (g n _ hn h)
theorem putS_len (S : Sto) (n : Nat) (c : Cell) : (putS S n c).c.length = S.c.length := setc_length _ _ _
end

def bmId : Bm → String
  | .join => "str.join" | .split => "str.split" | .append => "list.append" | .pop => "list.pop" | .extend => "list.extend" | .index => "list.index" | .clear => "list.clear" | .get => "dict.get" | .update => "dict.update"
def bmT : Bm → String
  | .join => "str" | .split => "str" | .append => "list" | .pop => "list" | .extend => "list" | .index => "list" | .clear => "list" | .get => "dict" | .update => "dict"
def bmNm : Bm → Str
  | .join => "join" | .split => "split" | .append => "append" | .pop => "pop" | .extend => "extend" | .index => "index" | .clear => "clear" | .get => "get" | .update => "update"
def rBm (K : PySem.W.Frag) (A : Nm) (b : Bm) : V → List V → Hp → VK → Prop := fun x xs H Q => ∃ W σ S F m dx ds, SR K A F m S H ∧ RV K A F m S.c.length dx x ∧ RVs K A F m S.c.length ds xs ∧ Out K A (rlV K A) W σ F m S H (bmA b S dx ds) Q

theorem rvs_strs {K A F m n} : ∀ {l : List Str}, (∀ x ∈ l, sOk x) → RVs K A F m n (l.map D.str) (l.map V.str)
  | [], _ => rfl
  | x :: l, h => ⟨_, _, rfl, ⟨rfl, h x List.mem_cons_self⟩, rvs_strs fun y hy => h y (List.mem_cons_of_mem _ hy)⟩
theorem rvs_dropLast {K A F m n} {l : List D} {us : List V} (h : RVs K A F m n l us) : RVs K A F m n l.dropLast us.dropLast := by
  rw [List.dropLast_eq_take, List.dropLast_eq_take, RVs.length h]
  exact RVs.take _ h
section
variable {X : Cx} {A : Nm}
theorem out_of {K : PySem.W.Frag} {W : WX} {σ : L2.St} {F : Hp} {m : Nat → Addr} {S : Sto} {H : Hp} {Q : VK} {o : Option D} (h : Out K A (rlV K A) W σ F m S H (R.of S o) Q) : ∃ d, o = some d ∧ Out K A (rlV K A) W σ F m S H (.ok d S) Q := by
  cases o with
  | none => exact h.elim
  | some d => exact ⟨d, rfl, h⟩
/-- a method that changes its list -/
theorem bmW_ok {K : PySem.W.Frag} {W : WX} {σ : L2.St} {F : Hp} {m : Nat → Addr} {S : Sto} {H : Hp} {Q : VK} {b : Bm} {dx : D} {x : V} {ds : List D} (sr : SR K A F m S H) (hx : RV K A F m S.c.length dx x) (h : Out K A (rlV K A) W σ F m S H (bmW b S dx ds) Q) :
    ∃ n l us, dx = .ref n ∧ x = .ref (m n) ∧ getc S.c n = some (.lst l) ∧ H (m n) = some (.lst us) ∧ l.length ≤ LL ∧ RVs K A F m S.c.length l us := by
  cases dx with
  | ref n =>
    unfold bmW at h
    dsimp only at h
    cases q : getc S.c n with
    | none => rw [q] at h; exact h.elim
    | some c =>
      rw [q] at h
      cases c with
      | lst l =>
        obtain ⟨us, h1, h2, h3, _, _⟩ := cell_lst sr q
        exact ⟨n, l, us, rfl, hx.2, q, h1, h2, h3⟩
      | _ => exact h.elim
  | _ => exact h.elim
theorem last_at {α : Type} {l : List α} {d : α} (h : l.getLast? = some d) : l[l.length - 1]? = some d := by
  rw [List.getLast?_eq_getElem?] at h
  exact h
theorem ext_ok {K : PySem.W.Frag} {F : Hp} {m : Nat → Addr} {S : Sto} {H : Hp} {d : D} {v : V} {r : List D} (sr : SR K A F m S H) (hv : RV K A F m S.c.length d v) (e : extC S d = some r) : ∃ a us, v = .ref a ∧ H a = some (.lst us) ∧ RVs K A F m S.c.length r us := by
  unfold extC at e
  cases d with
  | scr l => cases e
  | lst l =>
    cases (show some l = some r from e)
    obtain ⟨a, us, ea, hF, hl, rr⟩ := hv
    exact ⟨a, us, ea, sr.sub _ _ hF, rr⟩
  | ref n =>
    have e' : lstC (match getc S.c n with
      | some c => derefC c
      | none => none) = some r := e
    cases q : getc S.c n with
    | none => rw [q] at e'; cases e'
    | some c =>
      rw [q] at e'
      cases c with
      | lst l =>
        cases (show some l = some r from e')
        obtain ⟨us, h1, h2, h3, _, _⟩ := cell_lst sr q
        exact ⟨m n, us, hv.2, h1, h3⟩
      | _ => cases e'
  | _ => cases e
theorem bm_join : MtR X "str.join" (rBm X.K A .join) := by
  intro pins s σ0 H x xs v us Q I rx rs ⟨W, σ, S, F, m, dx, ds, sr, hx, hs, h⟩
  obtain ⟨d, e, h2⟩ := out_of h
  match dx, ds, e with
  | .str z, [y], e =>
    have e' : ((seqC (deref S y)).bind fun l => (strsO l).bind fun ys => if (ys.map (·.length)).sum + ys.length * z.length ≤ LL then some (D.str (Txt.join z ys)) else none) = some d := e
    obtain ⟨w, rfl, hw⟩ := rvs1 hs
    cases (show x = V.str z from hx.1)
    have key : ∀ l a ws, deref S y = some (.lst l) ∨ deref S y = some (.tup l) → w = .ref a → (SqL X.K H a ws ∨ SqT X.K H a ws) → RVs X.K A F m S.c.length l ws → wpAny (model X.prog X.w) X.A (call (.builtin "str.join") (v :: us)) (EP X pins σ0 Q) X.xe s := fun l a ws ex ea hq gs => by
      have e2 : ((strsO l).bind fun ys => if (ys.map (·.length)).sum + ys.length * z.length ≤ LL then some (D.str (Txt.join z ys)) else none) = some d := by
        rcases ex with ex | ex <;> (rw [ex] at e'; exact e')
      cases q : strsO l with
      | none => rw [q] at e2; cases e2
      | some ys =>
        rw [q] at e2
        have e3 : (if (ys.map (·.length)).sum + ys.length * z.length ≤ LL then some (D.str (Txt.join z ys)) else none) = some d := e2
        by_cases c : (ys.map (·.length)).sum + ys.length * z.length ≤ LL
        · rw [if_pos c] at e3
          cases e3
          obtain ⟨e4, e5⟩ := strs_ok q gs
          subst e4
          subst ea
          exact mt_join pins s σ0 H _ _ v us Q I rx rs ⟨z, a, ys, rfl, rfl, hq, Nat.le_trans c (by decide), Out.here h2 sr ⟨rfl, join_sOk hx.2 e5 c⟩⟩
        · rw [if_neg c] at e3
          cases e3
    cases ex : deref S y with
    | none => rw [ex] at e'; cases e'
    | some q =>
      have g := deref_ok sr hw ex
      cases q with
      | lst l =>
        obtain ⟨a, ws, ea, hq, hl, gs⟩ := g
        exact key l a ws (.inl ex) ea (.inl hq) gs
      | tup l =>
        obtain ⟨a, ws, ea, hq, hl, gs⟩ := g
        exact key l a ws (.inr ex) ea (.inr hq) gs
      | _ => rw [ex] at e'; cases e'
theorem spl_count (S : List Nat) : ∀ (l : List Nat) (k : Nat) (acc : List Nat), (spl S k acc l).length ≤ l.length + 1
  | [], k, acc => by
    rw [spl_nil]
    exact Nat.le_refl _
  | c :: r, 0, acc => by
    unfold spl
    split
    · have := spl_count S r (S.length - 1) []
      rw [List.length_cons, List.length_cons]
      omega
    · have := spl_count S r 0 (acc ++ [c])
      rw [List.length_cons]
      omega
  | c :: r, k + 1, acc => by
    unfold spl
    have := spl_count S r k acc
    rw [List.length_cons]
    omega
theorem split_len (x y : Str) (h : y.length = 1) (hk : y.cps.all (· < 256) = true) : (Txt.split x y).length ≤ x.length + 1 := by
  have hne : tl y ≠ [] := fun z => by
    have e : (tl y).length = y.length := Array.length_toList
    rw [z, h] at e
    cases e
  have e := split_spl x y hne (kind_ok hk)
  have e1 : ((Txt.split x y).map tl).length = (Txt.split x y).length := List.length_map _
  have e2 := spl_count (tl y) (tl x) 0 []
  have e3 : (tl x).length = x.length := Array.length_toList
  rw [e] at e1
  omega
theorem bm_split : MtR X "str.split" (rBm X.K A .split) := by
  intro pins s σ0 H x xs v us Q I rx rs ⟨W, σ, S, F, m, dx, ds, sr, hx, hs, h⟩
  obtain ⟨d, e, h2⟩ := out_of h
  match dx, ds, e with
  | .str z, [.str y], e =>
    have e' : (if y.length = 1 ∧ y.cps.all (· < 256) = true ∧ z.length + 2 ≤ LL then some (D.lst ((Txt.split z y).map .str)) else none) = some d := e
    obtain ⟨w, rfl, hw⟩ := rvs1 hs
    cases (show x = V.str z from hx.1)
    cases (show w = V.str y from hw.1)
    by_cases c : y.length = 1 ∧ y.cps.all (· < 256) = true ∧ z.length + 2 ≤ LL
    · rw [if_pos c] at e'
      cases e'
      refine mt_split pins s σ0 H _ _ v us Q I rx rs ⟨z, y, rfl, rfl, by rw [c.1]; rfl, Nat.le_trans c.2.2 LL_line, fun p hp => Out.lst h2 sr hp ?_ (rvs_strs (split_sOk hx.2 c.1 c.2.1))⟩
      rw [List.length_map]
      have := split_len z y c.1 c.2.1
      omega
    · rw [if_neg c] at e'
      cases e'
theorem bm_append : MtR X "list.append" (rBm X.K A .append) := by
  intro pins s σ0 H x xs v us Q I rx rs ⟨W, σ, S, F, m, dx, ds, sr, hx, hs, h⟩
  have h' : Out X.K A (rlV X.K A) W σ F m S H (bmW .append S dx ds) Q := h
  obtain ⟨n, l, ws, rfl, rfl, hg, hH, hl, hr⟩ := bmW_ok sr hx h'
  unfold bmW at h'
  simp only [hg] at h'
  match ds, hs, h' with
  | [d], hs, h' =>
    obtain ⟨w, rfl, hw⟩ := rvs1 hs
    by_cases c : (wOk S n d && decide (l.length < LL)) = true
    · have h2 : Out X.K A (rlV X.K A) W σ F m S H (.ok .non (putS S n (.lst (l ++ [d])))) Q := by
        have h3 : Out X.K A (rlV X.K A) W σ F m S H (if (wOk S n d && decide (l.length < LL)) = true then .ok .non (putS S n (.lst (l ++ [d]))) else .bad) Q := h'
        rw [if_pos c] at h3
        exact h3
      obtain ⟨c1, c2⟩ := Bool.and_eq_true_iff.mp c
      have c2 := of_decide_eq_true c2
      obtain ⟨sr', x'⟩ := SR.putL sr hg (l' := l ++ [d]) (us' := ws ++ [w]) (by rw [List.length_append]; exact c2) (RVs.append hr ⟨w, [], rfl, hw, rfl⟩) (fun k hk hn g => by
        rw [ltL_append, g]
        show (true && (d.lt k && true)) = true
        rw [w_ok c1 hk hn] <;> rfl)
      exact mt_append pins s σ0 H _ _ v us Q I rx rs ⟨m n, ws, w, rfl, rfl, hH, by rw [RVs.length hr]; exact Nat.lt_of_lt_of_le c2 LL_line, h2 F m _ .non x' sr' rfl⟩
    · have h3 : Out X.K A (rlV X.K A) W σ F m S H (if (wOk S n d && decide (l.length < LL)) = true then .ok .non (putS S n (.lst (l ++ [d]))) else .bad) Q := h'
      rw [if_neg c] at h3
      exact h3.elim
theorem bm_pop : MtR X "list.pop" (rBm X.K A .pop) := by
  intro pins s σ0 H x xs v us Q I rx rs ⟨W, σ, S, F, m, dx, ds, sr, hx, hs, h⟩
  have h' : Out X.K A (rlV X.K A) W σ F m S H (bmW .pop S dx ds) Q := h
  obtain ⟨n, l, ws, rfl, rfl, hg, hH, hl, hr⟩ := bmW_ok sr hx h'
  unfold bmW at h'
  simp only [hg] at h'
  match ds, hs, h' with
  | [], hs, h' =>
    cases (show xs = [] from hs)
    have h2 : Out X.K A (rlV X.K A) W σ F m S H (match l.getLast? with
      | some d => .ok d (putS S n (.lst l.dropLast))
      | none => .bad) Q := h'
    cases q : l.getLast? with
    | none => rw [q] at h2; exact h2.elim
    | some d =>
      rw [q] at h2
      obtain ⟨w, e1, e2⟩ := RVs.get hr (last_at q)
      obtain ⟨sr', x'⟩ := SR.putL sr hg (l' := l.dropLast) (us' := ws.dropLast) (by rw [List.length_dropLast]; omega) (rvs_dropLast hr) (fun k hk hn g => by
        rw [List.dropLast_eq_take]
        exact ltL_take _ _ g)
      exact mt_pop pins s σ0 H _ _ v us Q I rx rs ⟨m n, ws, w, rfl, rfl, hH, by rw [RVs.length hr]; exact e1, h2 F m _ w x' sr' (x'.rv e2)⟩
theorem bm_extend : MtR X "list.extend" (rBm X.K A .extend) := by
  intro pins s σ0 H x xs v us Q I rx rs ⟨W, σ, S, F, m, dx, ds, sr, hx, hs, h⟩
  have h' : Out X.K A (rlV X.K A) W σ F m S H (bmW .extend S dx ds) Q := h
  obtain ⟨n, l, ws, rfl, rfl, hg, hH, hl, hr⟩ := bmW_ok sr hx h'
  unfold bmW at h'
  simp only [hg] at h'
  match ds, hs, h' with
  | [d], hs, h' =>
    obtain ⟨w, rfl, hw⟩ := rvs1 hs
    have h2 : Out X.K A (rlV X.K A) W σ F m S H (match extC S d with
      | some r => if (wOkL S n r && decide (l.length + r.length ≤ LL)) = true then .ok .non (putS S n (.lst (l ++ r))) else .bad
      | _ => .bad) Q := h'
    cases q : extC S d with
    | none => rw [q] at h2; exact h2.elim
    | some r =>
      rw [q] at h2
      have h3 : Out X.K A (rlV X.K A) W σ F m S H (if (wOkL S n r && decide (l.length + r.length ≤ LL)) = true then .ok .non (putS S n (.lst (l ++ r))) else .bad) Q := h2
      by_cases c : (wOkL S n r && decide (l.length + r.length ≤ LL)) = true
      · rw [if_pos c] at h3
        obtain ⟨c1, c2⟩ := Bool.and_eq_true_iff.mp c
        have c2 := of_decide_eq_true c2
        obtain ⟨a, zs, ea, hz, rz⟩ := ext_ok sr hw q
        subst ea
        obtain ⟨sr', x'⟩ := SR.putL sr hg (l' := l ++ r) (us' := ws ++ zs) (by rw [List.length_append]; exact c2) (RVs.append hr rz) (fun k hk hn g => by
          rw [ltL_append, g, w_okL c1 hk hn] <;> rfl)
        exact mt_extend pins s σ0 H _ _ v us Q I rx rs ⟨m n, a, ws, zs, rfl, rfl, hH, hz, by rw [RVs.length hr, RVs.length rz]; exact Nat.le_trans c2 LL_line, h3 F m _ .non x' sr' rfl⟩
      · rw [if_neg c] at h3
        exact h3.elim
theorem bm_clear : MtR X "list.clear" (rBm X.K A .clear) := by
  intro pins s σ0 H x xs v us Q I rx rs ⟨W, σ, S, F, m, dx, ds, sr, hx, hs, h⟩
  have h' : Out X.K A (rlV X.K A) W σ F m S H (bmW .clear S dx ds) Q := h
  obtain ⟨n, l, ws, rfl, rfl, hg, hH, hl, hr⟩ := bmW_ok sr hx h'
  unfold bmW at h'
  simp only [hg] at h'
  match ds, hs, h' with
  | [], hs, h' =>
    cases (show xs = [] from hs)
    obtain ⟨sr', x'⟩ := SR.putL sr hg (l' := []) (us' := []) (Nat.zero_le _) rfl (fun k hk hn g => rfl)
    exact mt_clear pins s σ0 H _ _ v us Q I rx rs ⟨m n, ws, rfl, rfl, hH, h' F m _ .non x' sr' rfl⟩
theorem bm_ok (b : Bm) : MtR X (bmId b) (rBm X.K A b) := by
  cases b with
  | join => exact bm_join
  | split => exact bm_split
  | append => exact bm_append
  | pop => exact bm_pop
  | extend => exact bm_extend
  | clear => exact bm_clear
  | index => intro pins s σ0 H x xs v us Q I rx rs ⟨W, σ, S, F, m, dx, ds, sr, hx, hs, h⟩; exact (show False from h).elim
  | get => intro pins s σ0 H x xs v us Q I rx rs ⟨W, σ, S, F, m, dx, ds, sr, hx, hs, h⟩; exact (show False from h).elim
  | update => intro pins s σ0 H x xs v us Q I rx rs ⟨W, σ, S, F, m, dx, ds, sr, hx, hs, h⟩; exact (show False from h).elim
theorem bm_ty {K F m S H} {b : Bm} {d : D} {v : V} (sr : SR K A F m S H) (hv : RV K A F m S.c.length d v) (h : hasM b S d = true) : tyV K (bmT b) v H := by
  unfold hasM at h
  cases e : deref S d with
  | none => rw [e] at h; cases b <;> cases h
  | some x =>
    rw [e] at h
    have g := deref_ok sr hv e
    cases x with
    | str z =>
      cases (show v = V.str z from g.1)
      cases b with
      | join => exact rfl
      | split => exact rfl
      | _ => cases h
    | lst l =>
      obtain ⟨a, ws, ea, hq, hl, gs⟩ := g
      subst ea
      cases b with
      | append => exact .inl ⟨rfl, ws, hq⟩
      | pop => exact .inl ⟨rfl, ws, hq⟩
      | extend => exact .inl ⟨rfl, ws, hq⟩
      | clear => exact .inl ⟨rfl, ws, hq⟩
      | index => exact .inl ⟨rfl, ws, hq⟩
      | _ => cases h
    | dct l =>
      obtain ⟨a, kvs, ea, hH, hl, gk⟩ := g
      subst ea
      cases b with
      | get => exact .inr (.inr (.inl ⟨rfl, .inl ⟨kvs, hH⟩⟩))
      | update => exact .inr (.inr (.inl ⟨rfl, .inl ⟨kvs, hH⟩⟩))
      | _ => cases h
    | _ => cases b <;> cases h
theorem bm_pa (b : Bm) : PlainAttrs (bmT b) := by
  cases b with
  | join => exact F.plainAttrs_str
  | split => exact F.plainAttrs_str
  | append => exact F.plainAttrs_list
  | pop => exact F.plainAttrs_list
  | extend => exact F.plainAttrs_list
  | clear => exact F.plainAttrs_list
  | index => exact F.plainAttrs_list
  | get => exact F.plainAttrs_dict
  | update => exact F.plainAttrs_dict
theorem bm_slot (b : Bm) : Slot (bmT b) (bmNm b) (bmId b) := by
  cases b with
  | join => exact F.slot_str_join
  | split => exact F.slot_str_split
  | append => exact F.slot_list_append
  | pop => exact F.slot_list_pop
  | extend => exact F.slot_list_extend
  | clear => exact F.slot_list_clear
  | index => exact F.slot_list_index
  | get => exact F.slot_dict_get
  | update => exact F.slot_dict_update
theorem bm_type (b : Bm) : typeOf (.builtin (bmId b)) = pure (.type "method_descriptor") := by
  cases b with
  | join => exact F.type_str_join
  | split => exact F.type_str_split
  | append => exact F.type_list_append
  | pop => exact F.type_list_pop
  | extend => exact F.type_list_extend
  | clear => exact F.type_list_clear
  | index => exact F.type_list_index
  | get => exact F.type_dict_get
  | update => exact F.type_dict_update
end
end Mi
/-! Mi: attributes, stores, isinstance. -/
namespace Mi
open PySem PySem.Spec PyProof.Rows L2 TL

def tyVal (A : Nm) : Ty → Value
  | .int => .type "int"
  | .bool => .type "bool"
  | .str => .type "str"
  | .list => .type "list"
  | .tuple => .type "tuple"
  | .dict => .type "dict"
  | .cls c => .ref (A.cls c)
def tyOk (T : Tab) : Ty → Bool
  | .cls c => nrm T c
  | _ => true
/-- what the classes are -/
structure GC (K : PySem.W.Frag) (A : Nm) (T : Tab) (fl : List Nat) : Prop where
  inj : ∀ i j, A.att i = A.att j → i = j
  fld : ∀ c f, f ∈ fl → Cls K (A.cls c) ∧ NoAttr K (A.cls c) (A.att f)
  sub : ∀ c b, nrm T c = true → nrm T b = true → PySem.W.kitOne K (.ref (A.cls c)) (.ref (A.cls b)) = some (isSub T DEEP c b)
  nob : ∀ c t, nrm T c = true → (∀ b, t ≠ .cls b) → PySem.W.kitOne K (.ref (A.cls c)) (tyVal A t) = some false
  noc : ∀ c t, nrm T c = true → t ∈ ["NoneType", "bool", "int", "str", "list", "tuple", "dict"] → PySem.W.kitOne K (.type t) (.ref (A.cls c)) = some false
  tyx : ∀ c, nrm T c = true → Cls K (A.cls c) ∧ PySem.W.findIn K (.ref (A.cls c)) "__class__" = some (some (.builtin "object.__class__")) ∧
      PySem.W.specialIn K (.builtin "object.__class__") "__get__" = some (some (.builtin "getset_descriptor.__get__")) ∧ PySem.W.takesIn K (.builtin "object.__class__") = some true ∧
      PySem.W.mroIn K (A.cls c) (.type "object") = some true

section
variable {X : Cx} {A : Nm} {T : Tab} {fl : List Nat}
/-! ### attributes -/
theorem att_ok {K F m S H} (g : GC K A T fl) {f : Nat} (hf : f ∈ fl) {d x : D} {v : V} (sr : SR K A F m S H) (hv : RV K A F m S.c.length d v) (e : attO S d f = some x) :
    ∃ a C dx fs u, v = .ref a ∧ H a = some (.ins C dx fs) ∧ Cls K C ∧ NoAttr K C (A.att f) ∧ fs.lookup (A.att f) = some u ∧ RV K A F m S.c.length x u := by
  unfold attO at e
  cases q : deref S d with
  | none => rw [q] at e; cases e
  | some y =>
    rw [q] at e
    have h := deref_ok sr hv q
    cases y with
    | ins c l =>
      obtain ⟨a, dx, fs, ea, hH, hr⟩ := h
      obtain ⟨u, h1, h2⟩ := RVf.look g.inj hr (show l.lookup f = some x from e)
      obtain ⟨h3, h4⟩ := g.fld c f hf
      exact ⟨a, _, dx, fs, u, ea, hH, h3, h4, h1, h2⟩
    | _ => cases e
/-- x.f = v -/
theorem attS_ok {K F m S H} (g : GC K A T fl) {f : Nat} (hf : f ∈ fl) {o d : D} {v w : V} {S' : Sto} (sr : SR K A F m S H) (hv : RV K A F m S.c.length o v) (hw : RV K A F m S.c.length d w) (e : attS S o f d = some S') :
    ∃ a C dx fs, v = .ref a ∧ H a = some (.ins C dx fs) ∧ Cls K C ∧ NoAttr K C (A.att f) ∧ fs.length < 1000 ∧
      SR K A F m S' (upd H a (.ins C dx (putF (A.att f) w fs))) ∧ Ext F m S H F m S' (upd H a (.ins C dx (putF (A.att f) w fs))) := by
  unfold attS at e
  cases o with
  | ref n =>
    have e' : (match getc S.c n with
      | some (.ins c l) => if (wOk S n d && decide (l.length < 100)) = true then some (putS S n (.ins c (putA f d l))) else none
      | _ => none) = some S' := e
    cases q : getc S.c n with
    | none => rw [q] at e'; cases e'
    | some z =>
      rw [q] at e'
      cases z with
      | ins c l =>
        have e2 : (if (wOk S n d && decide (l.length < 100)) = true then some (putS S n (.ins c (putA f d l))) else none) = some S' := e'
        by_cases k : (wOk S n d && decide (l.length < 100)) = true
        · rw [if_pos k] at e2
          cases e2
          obtain ⟨k1, k3⟩ := Bool.and_eq_true_iff.mp k
          have k2 := of_decide_eq_true k3
          obtain ⟨dx, fs, h1, h2, h3⟩ := sr.cel n _ q
          obtain ⟨h4, h5⟩ := g.fld c f hf
          have hl := getc_lt q
          have len : ∀ (l : List (Nat × D)), (putA f d l).length ≤ l.length + 1 := fun l => by
            induction l with
            | nil => exact Nat.le_refl _
            | cons p r ih =>
              obtain ⟨a, x⟩ := p
              unfold putA
              split
              · rw [List.length_cons, List.length_cons]; omega
              · rw [List.length_cons, List.length_cons]; omega
          obtain ⟨s, x⟩ := SR.put (o := .ins (A.cls c) dx (putF (A.att f) w fs)) (c := .ins c (putA f d l)) sr hl (sr.sep n _ q rfl) ⟨dx, _, upd_same, by have := len l; omega, RVf.put g.inj hw h3⟩ rfl fun b hb hn g2 => by
            have old : D.ltF b l = true := g2 n _ hn q
            show D.ltF b (putA f d l) = true
            have hd := w_ok k1 hb hn
            clear h3 h1 h2 len e' q e k2 g2 k1 k3 hl k
            induction l with
            | nil =>
              show (d.lt b && true) = true
              rw [hd] <;> rfl
            | cons p r ih =>
              obtain ⟨a, x⟩ := p
              unfold D.ltF at old
              obtain ⟨o1, o2⟩ := Bool.and_eq_true_iff.mp old
              unfold putA
              split
              · exact Bool.and_eq_true_iff.mpr ⟨hd, o2⟩
              · exact Bool.and_eq_true_iff.mpr ⟨o1, ih o2⟩
          exact ⟨m n, _, dx, fs, hv.2, h1, h4, h5, by rw [RVf.length h3]; omega, s, x⟩
        · rw [if_neg k] at e2
          cases e2
      | _ => cases e'
  | _ => cases e
/-! ### o[i] = v -/
def rSet (K : PySem.W.Frag) (A : Nm) : TSet := fun o i v H Q => ∃ S F m da di dd S', SR K A F m S H ∧ RV K A F m S.c.length da o ∧ RV K A F m S.c.length di i ∧ RV K A F m S.c.length dd v ∧ idxS S da di dd = some S' ∧
  ∀ H', Ext F m S H F m S' H' → SR K A F m S' H' → Q H'
theorem ltK_put {n : Nat} {k : Str} {d : D} (hd : d.lt n = true) {l : List (Str × D)} (h : D.ltK n l = true) : D.ltK n (Mi.putK k d l) = true := by
  have app : ∀ l : List (Str × D), D.ltK n l = true → D.ltK n (l ++ [(k, d)]) = true := fun l => by
    induction l with
    | nil =>
      intro _
      show (d.lt n && true) = true
      rw [hd] <;> rfl
    | cons p r ih =>
      intro h
      obtain ⟨a, x⟩ := p
      unfold D.ltK at h
      obtain ⟨o1, o2⟩ := Bool.and_eq_true_iff.mp h
      exact Bool.and_eq_true_iff.mpr ⟨o1, ih o2⟩
  have mp : ∀ l : List (Str × D), D.ltK n l = true → D.ltK n (l.map fun p => if p.1 = k then (p.1, d) else p) = true := fun l => by
    induction l with
    | nil => intro _; rfl
    | cons p r ih =>
      intro h
      obtain ⟨a, x⟩ := p
      unfold D.ltK at h
      obtain ⟨o1, o2⟩ := Bool.and_eq_true_iff.mp h
      rw [List.map_cons]
      by_cases q : a = k
      · rw [if_pos (show (a, x).1 = k from q)]
        exact Bool.and_eq_true_iff.mpr ⟨hd, ih o2⟩
      · rw [if_neg (show ¬ (a, x).1 = k from q)]
        exact Bool.and_eq_true_iff.mpr ⟨o1, ih o2⟩
  unfold Mi.putK
  split
  · exact mp l h
  · exact app l h
theorem putK_len {k : Str} {d : D} {l : List (Str × D)} : (Mi.putK k d l).length ≤ l.length + 1 := by
  unfold Mi.putK
  split
  · rw [List.length_map]; omega
  · rw [List.length_append]; exact Nat.le_refl _
theorem set_ok (hu : X.A.units + 1 < cLine) : PSet X (rSet X.K A) := by
  intro pins s σ H o i v ov iv u Q I ro ri rv ⟨S, F, m, da, di, dd, S', sr, ho, hi, hv, e, h⟩
  unfold idxS at e
  cases da with
  | ref n =>
    have e' : idxSC S n di dd (getc S.c n) = some S' := e
    cases q : getc S.c n with
    | none => rw [q] at e'; cases e'
    | some z =>
      rw [q] at e'
      cases z with
      | lst l =>
        cases di with
        | int k =>
          have e2 : (if wOk S n dd = true then (L2.ixN l.length k).map fun j => putS S n (.lst (l.set j dd)) else none) = some S' := e'
          by_cases c : wOk S n dd = true
          · rw [if_pos c] at e2
            cases q2 : L2.ixN l.length k with
            | none => rw [q2] at e2; cases e2
            | some j =>
              rw [q2] at e2
              cases e2
              obtain ⟨us, h1, h2, h3, _, _⟩ := cell_lst sr q
              obtain ⟨s', x'⟩ := SR.putL sr q (l' := l.set j dd) (us' := us.set j v) (by rw [List.length_set]; exact h2) (RVs.set j h3 hv) (fun k hk hn g => ltL_set (w_ok c hk hn) j l g)
              exact set_list pins s σ H o i v ov iv u Q I ro ri rv ⟨m n, us, k, j, ho.2, hi, h1, by rw [RVs.length h3]; exact q2, h _ x' s'⟩
          · rw [if_neg c] at e2
            cases e2
        | _ => cases e'
      | dct l =>
        cases di with
        | str k =>
          have e2 : (if (wOk S n dd && decide (l.length < LL)) = true then some (putS S n (.dct (Mi.putK k dd l))) else none) = some S' := e'
          by_cases c : (wOk S n dd && decide (l.length < LL)) = true
          · rw [if_pos c] at e2
            cases e2
            obtain ⟨c1, c2⟩ := Bool.and_eq_true_iff.mp c
            have c2 := of_decide_eq_true c2
            obtain ⟨kvs, h1, h2, h3⟩ := sr.cel n _ q
            obtain ⟨s', x'⟩ := SR.put (o := .dK (L2.putK kvs (.inr k) v)) (c := .dct (Mi.putK k dd l)) sr (getc_lt q) (sr.sep n _ q rfl) ⟨_, upd_same, by have := putK_len (k := k) (d := dd) (l := l); omega, rvk_put hv h3⟩ rfl fun b hb hn g2 => ltK_put (w_ok c1 hb hn) (g2 n _ hn q)
            cases (show i = V.str k from hi.1)
            cases (show o = V.ref (m n) from ho.2)
            cases (show ov = Value.ref (m n) from ro)
            exact d_setItem hu I (DPut.k (k := .inr k) h1 (by rw [RVk.length h3]; exact Nat.lt_of_lt_of_le c2 LL_line)) ri rv fun s2 I2 => ⟨_, I2, h _ x' s'⟩
          · rw [if_neg c] at e2
            cases e2
        | _ => cases e'
      | _ => cases e'
  | _ => cases e

/-! ### isinstance -/
theorem kit_base {K : PySem.W.Frag} (g : GC K A T fl) {t : Ty} {n : String} (ht : tyOk T t = true) (hn : n ∈ ["NoneType", "bool", "int", "str", "list", "tuple", "dict"]) {r : Bool}
    (hb : ∀ s : String, tyVal A t = .type s → kitB n s = some r) (hc : ∀ b, t = .cls b → r = false) : PySem.W.kitOne K (.type n) (tyVal A t) = some r := by
  cases t with
  | cls b =>
    rw [hc b rfl]
    exact g.noc b n ht hn
  | _ => exact kit_ty (hb _ rfl)
theorem isT_ok {K F m S H} (g : GC K A T fl) {d : D} {v : V} {t0 : Ty} {b0 : Bool} (sr : SR K A F m S H) (hv : RV K A F m S.c.length d v) (e0 : isT T S d t0 = some b0) :
    ∃ w, TyX K H v w ∧ ∀ t b, tyOk T t = true → isT T S d t = some b → PySem.W.kitOne K w (tyVal A t) = some b := by
  unfold isT at e0 ⊢
  cases q : deref S d with
  | none => rw [q] at e0; cases e0
  | some x =>
    rw [q] at e0
    have h := deref_ok sr hv q
    cases x with
    | non =>
      cases (show v = V.non from h)
      refine ⟨_, .base .non, fun t b ht e => ?_⟩
      cases e
      exact kit_base g ht (by decide) (by cases t <;> (intro s es; first | (cases es; done) | (cases es; dsimp only [tyB]; decide +kernel))) (by intro b' eb; subst eb; rfl)
    | bl y =>
      cases (show v = V.bl y from h)
      refine ⟨_, .base (.bl y), fun t b ht e => ?_⟩
      cases e
      exact kit_base g ht (by decide) (by cases t <;> (intro s es; first | (cases es; done) | (cases es; dsimp only [tyB]; decide +kernel))) (by intro b' eb; subst eb; rfl)
    | int y =>
      cases (show v = V.int y from h)
      refine ⟨_, .base (.int y), fun t b ht e => ?_⟩
      cases e
      exact kit_base g ht (by decide) (by cases t <;> (intro s es; first | (cases es; done) | (cases es; dsimp only [tyB]; decide +kernel))) (by intro b' eb; subst eb; rfl)
    | str y =>
      cases (show v = V.str y from h.1)
      refine ⟨_, .base (.str y), fun t b ht e => ?_⟩
      cases e
      exact kit_base g ht (by decide) (by cases t <;> (intro s es; first | (cases es; done) | (cases es; dsimp only [tyB]; decide +kernel))) (by intro b' eb; subst eb; rfl)
    | lst l =>
      obtain ⟨a, us, ea, hq, hl, hr⟩ := h
      subst ea
      have z : TyX K H (.ref a) (.type "list") := by
        rcases hq with (h1 | ⟨o, h1⟩) | ⟨o, its, k, h1, h2, _⟩
        · exact .base (.lst h1)
        · exact .base (.frz h1)
        · exact .kList h1 h2
      refine ⟨_, z, fun t b ht e => ?_⟩
      cases e
      exact kit_base g ht (by decide) (by cases t <;> (intro s es; first | (cases es; done) | (cases es; dsimp only [tyB]; decide +kernel))) (by intro b' eb; subst eb; rfl)
    | tup l =>
      obtain ⟨a, us, ea, hq, hl, hr⟩ := h
      subst ea
      have z : TyX K H (.ref a) (.type "tuple") := by
        rcases hq with (h1 | ⟨o, h1⟩) | ⟨o, its, k, h1, h2, _⟩
        · exact .base (.tup h1)
        · exact .fTuple h1
        · exact .kTuple h1 h2
      refine ⟨_, z, fun t b ht e => ?_⟩
      cases e
      exact kit_base g ht (by decide) (by cases t <;> (intro s es; first | (cases es; done) | (cases es; dsimp only [tyB]; decide +kernel))) (by intro b' eb; subst eb; rfl)
    | dct l =>
      obtain ⟨a, us, ea, hq, hl, hr⟩ := h
      subst ea
      refine ⟨_, .base (.dK hq), fun t b ht e => ?_⟩
      cases e
      exact kit_base g ht (by decide) (by cases t <;> (intro s es; first | (cases es; done) | (cases es; dsimp only [tyB]; decide +kernel))) (by intro b' eb; subst eb; rfl)
    | ins c l =>
      obtain ⟨a, dx, fs, ea, hH, hr⟩ := h
      subst ea
      have un : ∀ t, isTC T t (some (.ins c l)) = if nrm T c = true then some (match t with
        | .cls b => isSub T DEEP c b
        | _ => false) else none := fun t => rfl
      rw [un] at e0
      by_cases k : nrm T c = true
      · obtain ⟨g1, g2, g3, g4, g5⟩ := g.tyx c k
        refine ⟨_, .base (.ins hH g1 g2 g3 g4 g5), fun t b ht e => ?_⟩
        rw [un, if_pos k] at e
        cases t with
        | cls b' =>
          cases e
          exact g.sub c b' k ht
        | _ =>
          cases e
          exact g.nob c _ k (fun b z => nomatch z)
      · rw [if_neg k] at e0
        cases e0
    | _ => exact h.elim
/-- of several: the classes are asked in order -/
theorem isTs_ok {K F m S H} (g : GC K A T fl) {d : D} {v : V} (sr : SR K A F m S H) (hv : RV K A F m S.c.length d v) {ts : List Ty} {b : Bool} (ho : ts.all (tyOk T) = true) (hne : ts ≠ []) (e : isTs T S d ts = some b) :
    ∃ w, TyX K H v w ∧ PySem.W.kitAny K w (ts.map (tyVal A)) = some b := by
  cases ts with
  | nil => exact absurd rfl hne
  | cons t0 r0 =>
    have e' : (match isT T S d t0 with
      | some true => some true
      | some false => isTs T S d r0
      | none => none) = some b := e
    cases q : isT T S d t0 with
    | none => rw [q] at e'; cases e'
    | some c =>
      obtain ⟨w, h1, h2⟩ := isT_ok g sr hv q
      refine ⟨w, h1, ?_⟩
      clear q e' hne
      generalize hz : t0 :: r0 = ts at ho e
      clear hz
      induction ts with
      | nil => cases e; exact kitAny_nil
      | cons t r ih =>
        rw [List.all_cons] at ho
        obtain ⟨ho1, ho2⟩ := Bool.and_eq_true_iff.mp ho
        have e' : (match isT T S d t with
          | some true => some true
          | some false => isTs T S d r
          | none => none) = some b := e
        cases q : isT T S d t with
        | none => rw [q] at e'; cases e'
        | some c =>
          rw [q] at e'
          have h3 := h2 t c ho1 q
          cases c with
          | true => cases e'; exact kitAny_cons h3 (fun z => nomatch z) fun _ => rfl
          | false => exact kitAny_cons h3 (fun _ => ih ho2 e') fun z => nomatch z
end
end Mi
/-! Mi: rules for expressions. -/
namespace Mi
open PySem PySem.Spec PyProof.Rows L2 TL

abbrev EV (X : Cx) (A : Nm) (W : WX) (f : Mi.Env → Sto → R D) : TE := tG X.K A (rlV X.K A) W f
abbrev ET (X : Cx) (A : Nm) (W : WX) (f : Mi.Env → Sto → R Bool) : TT := tG X.K A (rlI Bool) W f
abbrev EL (X : Cx) (A : Nm) (W : WX) (f : Mi.Env → Sto → R (List D)) : TA := tG X.K A (rlVs X.K A) W f
abbrev EO (X : Cx) (A : Nm) (W : WX) (f : Mi.Env → Sto → R (Option Int)) : TO := tG X.K A (rlI (Option Int)) W f

/-! ### what stands in a tree's place -/
/-- no starred part, no set display, no slice -/
def fine : Expr → Bool
  | .Starred _ _ => false
  | .Set _ _ _ => false
  | .Slice _ _ _ _ => false
  | _ => true
theorem star_plain {e : Expr} {es : List Expr} {env : PySem.Env} (h : fine e = true) : starEach (e :: es) env = (false, eval e env) :: starEach es env := by
  cases e <;> first | rfl | cases h
theorem back_plain {pos : Pos} {env : PySem.Env} : ∀ {es : List Expr}, es.all fine = true → (backTo pos (starEach es env)).any (·.1) = false
  | [], _ => rfl
  | e :: es, h => by
    rw [List.all_cons] at h
    obtain ⟨h1, h2⟩ := Bool.and_eq_true_iff.mp h
    rw [star_plain h1]
    show (false || (backTo pos (starEach es env)).any (·.1)) = false
    rw [back_plain h2] <;> rfl
theorem back_few {pos : Pos} {env : PySem.Env} : ∀ {es : List Expr}, es.all fine = true → (backTo pos (starEach es env)).all (fun x => !x.1) = true
  | [], _ => rfl
  | e :: es, h => by
    rw [List.all_cons] at h
    obtain ⟨h1, h2⟩ := Bool.and_eq_true_iff.mp h
    rw [star_plain h1]
    show (true && (backTo pos (starEach es env)).all (fun x => !x.1)) = true
    rw [back_few h2] <;> rfl
theorem fine_in {op : CmpOp} {e : Expr} (h : fine e = true) : behindInMarks op e = false := by
  cases e <;> first | rfl | cases h
theorem fine_ix {e : Expr} (h : fine e = true) : PlainIx e := fun o i => by
  cases e <;> first | rfl | cases h
theorem fine_last {o1 o2 : CmpOp} {b c : Expr} (h : fine c = true) : lastMarks [o1, o2] [b, c] = false := by
  show behindInMarks o2 c = false
  exact fine_in h
/-- an object whose attribute is asked: not super() -/
def nosup : Expr → Bool
  | .Call (.Name _ _) [] [] _ => false
  | _ => true
theorem nosup_base {o : Expr} {f : Str} {env : PySem.Env} {x : Sem Value} (h : nosup o = true) : attributeBase o f env x = x := by
  cases o with
  | Call fn as ks p => cases fn <;> cases as <;> cases ks <;> first | rfl | cases h
  | _ => rfl
/-- trees whose truth is that of their value -/
def valT : Expr → Bool
  | .UnaryOp .Not _ _ => false
  | .BoolOp _ _ _ => false
  | .IfExp _ _ _ _ => false
  | .Compare _ _ _ _ => false
  | _ => true
theorem valT_is {e : Expr} {env : PySem.Env} (h : valT e = true) : ∀ whole, isTrue e env whole = (do let v ← whole; standAt e.pos; holding [v] (truthy v)) := fun whole => by
  cases e with
  | UnaryOp op x p => cases op <;> first | rfl | cases h
  | _ => first | rfl | cases h

section
variable {X : Cx} {A : Nm} {W : WX} {pos : Pos}
theorem tG.bind {α β γ δ : Type} {K : PySem.W.Frag} {rl' : Rl α β} {rl : Rl γ δ} {f : Mi.Env → Sto → R α} {g : Mi.Env → α → Sto → R γ} {σ : L2.St} {H : Hp} {Q : δ → Hp → Prop}
    (h : tG K A rl W (fun e S => (f e S).bind (g e)) σ H Q) :
    tG K A rl' W f σ H fun b H1 => ∃ e a S1 F1 m1, SR K A F1 m1 S1 H1 ∧ ER K A F1 m1 S1.c.length e σ ∧ rl' F1 m1 S1.c.length a b ∧ Out K A rl W σ F1 m1 S1 H1 (g e a S1) Q := by
  obtain ⟨e, S, F, m, sr, er, h⟩ := h
  exact ⟨e, S, F, m, sr, er, Out.imp (Out.bind h) fun b H1 ⟨a, S1, F1, m1, _, x, s1, z, o⟩ => ⟨e, a, S1, F1, m1, s1, er.mono x, z, o⟩⟩
/-- one value, then an operation on it -/
theorem ev1 {f : Mi.Env → Sto → R D} {g : D → Sto → R D} {σ : L2.St} {H : Hp} {Q : VK} {R1 : V → Hp → Prop} (h : EV X A W (fun e S => (f e S).bind g) σ H Q)
    (hr : ∀ dx x S F m H1, SR X.K A F m S H1 → RV X.K A F m S.c.length dx x → Out X.K A (rlV X.K A) W σ F m S H1 (g dx S) Q → R1 x H1) : EV X A W f σ H R1 := by
  obtain ⟨e, S, F, m, sr, er, h⟩ := h
  exact ⟨e, S, F, m, sr, er, Out.imp (Out.bind h) fun x H1 ⟨dx, S1, F1, m1, _, x1, sr1, rx, h1⟩ => hr dx x S1 F1 m1 H1 sr1 rx h1⟩
/-- two values, then an operation on them -/
theorem ev2 {f f2 : Mi.Env → Sto → R D} {g : D → D → Sto → R D} {σ : L2.St} {H : Hp} {Q : VK} {R2 : V → V → Hp → Prop} (h : EV X A W (fun e S => (f e S).bind fun x S => (f2 e S).bind fun y S => g x y S) σ H Q)
    (hr : ∀ dx dy x y S F m H2, SR X.K A F m S H2 → RV X.K A F m S.c.length dx x → RV X.K A F m S.c.length dy y → Out X.K A (rlV X.K A) W σ F m S H2 (g dx dy S) Q → R2 x y H2) :
    EV X A W f σ H fun x H1 => EV X A W f2 σ H1 fun y H2 => R2 x y H2 := by
  obtain ⟨e, S, F, m, sr, er, h⟩ := h
  exact ⟨e, S, F, m, sr, er, Out.imp (Out.bind h) fun x H1 ⟨dx, S1, F1, m1, _, x1, sr1, rx, h1⟩ => ⟨e, S1, F1, m1, sr1, er.mono x1, Out.imp (Out.bind h1) fun y H2 ⟨dy, S2, F2, m2, _, x2, sr2, ry, h2⟩ =>
    hr dx dy x y S2 F2 m2 H2 sr2 (x2.rv rx) ry h2⟩⟩

/-! ### leaves -/
theorem mi_var {i : Nat} {x : Str} (hN : X.N[i]? = some x) (hv : Vis X.env.scope x) (hd : (x == ("__debug__" : Str)) = false) (hcd : (x == ("__classdict__" : Str)) = false) : PE X (.Name x pos) (EV X A W fun e S => match e[i]? with
    | some (some d) => .ok d S
    | _ => .bad) := by
  refine PE.imp (pe_var hN hv hd hcd) fun σ H Q ⟨e, S, F, m, sr, er, h⟩ => ?_
  dsimp only at h
  cases q : e[i]? with
  | none => rw [q] at h; exact h.elim
  | some o =>
    rw [q] at h
    cases o with
    | none => exact h.elim
    | some d =>
      obtain ⟨v, h1, h2⟩ := er.get i d q
      exact ⟨v, h1, Out.here h sr h2⟩
theorem mi_cst {c : Const} {k : Nat} {d : D} {v : V} (hp : PE X (.Constant c k pos) (tC v)) (hd : ∀ F m n, RV X.K A F m n d v) : PE X (.Constant c k pos) (EV X A W fun _ S => .ok d S) :=
  PE.imp hp fun σ H Q ⟨e, S, F, m, sr, er, h⟩ => Out.here h sr (hd F m _)
theorem mi_glob {x : Str} {d : D} {v : V} {u : Value} (hg : Gl X x) (hm : X.mg x = some u) (r : RelV v u) (hdb : (x == ("__debug__" : Str)) = false) (hd : ∀ F m n, RV X.K A F m n d v) : PE X (.Name x pos) (EV X A W fun _ S => .ok d S) :=
  PE.imp (pe_glob hg hm r hdb) fun σ H Q ⟨e, S, F, m, sr, er, h⟩ => Out.here h sr (hd F m _)

/-! ### lists of trees -/
theorem mi_nil : PA X [] (EL X A W fun _ S => .ok [] S) :=
  PA.imp pa_nil fun σ H Q ⟨e, S, F, m, sr, er, h⟩ => h F m H [] Ext.refl sr rfl
theorem mi_cons {a : Expr} {es : List Expr} {f : Mi.Env → Sto → R D} {g : Mi.Env → Sto → R (List D)} (hf : fine a = true) (ha : PE X a (EV X A W f)) (hr : PA X es (EL X A W g)) :
    PA X (a :: es) (EL X A W fun e S => (f e S).bind fun x S => (g e S).bind fun xs S => .ok (x :: xs) S) :=
  PA.imp (pa_cons ha hr (star_plain hf)) fun σ H Q ⟨e, S, F, m, sr, er, h⟩ =>
    ⟨e, S, F, m, sr, er, Out.imp (Out.bind h) fun x H1 ⟨dx, S1, F1, m1, _, x1, sr1, rx, h1⟩ => ⟨e, S1, F1, m1, sr1, er.mono x1, Out.imp (Out.bind h1) fun xs H2 ⟨ds, S2, F2, m2, _, x2, sr2, rs, h2⟩ =>
      h2 F2 m2 H2 (x :: xs) Ext.refl sr2 ⟨x, xs, rfl, x2.rv rx, rs⟩⟩⟩
theorem mi_star {a : Expr} {p : Pos} {es : List Expr} {f : Mi.Env → Sto → R D} {g : Mi.Env → Sto → R (List D)} (ha : PE X a (EV X A W f)) (hr : PA X es (EL X A W g)) :
    PA X (.Starred a p :: es) (EL X A W fun e S => (f e S).bind fun x S => match x with
      | .lst l => (g e S).bind fun xs S => .ok (l ++ xs) S
      | .tup l => (g e S).bind fun xs S => .ok (l ++ xs) S
      | _ => .bad) := by
  refine PA.imp (StX.pa_star ha hr) fun σ H Q ⟨e, S, F, m, sr, er, h⟩ => ⟨e, S, F, m, sr, er, Out.imp (Out.bind h) fun x H1 ⟨dx, S1, F1, m1, _, x1, sr1, rx, h1⟩ => ?_⟩
  cases dx with
  | lst l =>
    obtain ⟨a, us, ea, hF, hl, rl⟩ := rx
    exact ⟨a, us, ea, .inr (SqL.of (sr1.sub _ _ hF)), e, S1, F1, m1, sr1, er.mono x1, Out.imp (Out.bind h1) fun xs H2 ⟨ds, S2, F2, m2, _, x2, sr2, rs, h2⟩ => h2 F2 m2 H2 (us ++ xs) Ext.refl sr2 (RVs.append (x2.rvs rl) rs)⟩
  | tup l =>
    obtain ⟨a, us, ea, hF, hl, rl⟩ := rx
    exact ⟨a, us, ea, .inl (same_sqT sr1.sub hF), e, S1, F1, m1, sr1, er.mono x1, Out.imp (Out.bind h1) fun xs H2 ⟨ds, S2, F2, m2, _, x2, sr2, rs, h2⟩ => h2 F2 m2 H2 (us ++ xs) Ext.refl sr2 (RVs.append (x2.rvs rl) rs)⟩
  | _ => exact h1.elim

/-! ### displays -/
theorem mi_tup {es : List Expr} {k : Nat} {f : Mi.Env → Sto → R (List D)} (h : PA X es (EL X A W f)) : PE X (.Tuple es k pos) (EV X A W fun e S => (f e S).bind fun ds S => if ds.length ≤ LL then .ok (.tup ds) S else .bad) := by
  refine PE.imp (pe_tup h) fun σ H Q ⟨e, S, F, m, sr, er, h⟩ => ⟨e, S, F, m, sr, er, Out.imp (Out.bind h) fun xs H1 ⟨ds, S1, F1, m1, _, x1, sr1, rs, h1⟩ => ?_⟩
  by_cases c : ds.length ≤ LL
  · have h2 : Out X.K A (rlV X.K A) W σ F1 m1 S1 H1 (if ds.length ≤ LL then .ok (.tup ds) S1 else .bad) Q := h1
    rw [if_pos c] at h2
    exact ⟨by rw [RVs.length rs]; exact Nat.le_trans c LL_line, fun p hp => Out.tup h2 sr1 hp c rs⟩
  · have h2 : Out X.K A (rlV X.K A) W σ F1 m1 S1 H1 (if ds.length ≤ LL then .ok (.tup ds) S1 else .bad) Q := h1
    rw [if_neg c] at h2
    exact h2.elim
theorem mi_lst {es : List Expr} {mu : Bool} {f : Mi.Env → Sto → R (List D)} (h : PA X es (EL X A W f)) : PE X (.List es pos) (EV X A W fun e S => (f e S).bind fun ds S => if ds.length ≤ LL then fresh mu S (.lst ds) else .bad) := by
  refine PE.imp (pe_lst h) fun σ H Q ⟨e, S, F, m, sr, er, h⟩ => ⟨e, S, F, m, sr, er, Out.imp (Out.bind h) fun xs H1 ⟨ds, S1, F1, m1, _, x1, sr1, rs, h1⟩ => ?_⟩
  by_cases c : ds.length ≤ LL
  · have h2 : Out X.K A (rlV X.K A) W σ F1 m1 S1 H1 (if ds.length ≤ LL then fresh mu S1 (.lst ds) else .bad) Q := h1
    rw [if_pos c] at h2
    exact ⟨by rw [RVs.length rs]; exact Nat.le_trans c LL_line, fun p hp => Out.list h2 sr1 hp c rs⟩
  · have h2 : Out X.K A (rlV X.K A) W σ F1 m1 S1 H1 (if ds.length ≤ LL then fresh mu S1 (.lst ds) else .bad) Q := h1
    rw [if_neg c] at h2
    exact h2.elim

/-! ### operations -/
theorem mi_bin {op : BOp} {a b : Expr} {f g : Mi.Env → Sto → R D} (ha : PE X a (EV X A W f)) (hb : PE X b (EV X A W g)) :
    PE X (.BinOp a (opOf op) b pos) (EV X A W fun e S => (f e S).bind fun x S => (g e S).bind fun y S => R.of S (binO op x y)) :=
  PE.imp (pe_op (bin_ok op) ha hb) fun σ H Q h => ev2 h fun dx dy x y S F m H2 sr rx ry h2 => ⟨W, σ, S, F, m, dx, dy, sr, rx, ry, h2⟩
theorem mi_neg {a : Expr} {f : Mi.Env → Sto → R D} (ha : PE X a (EV X A W f)) : PE X (.UnaryOp .USub a pos) (EV X A W fun e S => (f e S).bind fun x S => match x with
    | .int i => .ok (.int (-i)) S
    | _ => .bad) := by
  refine PE.imp (pe_un un_neg ha) fun σ H Q h => ev1 h fun dx x S F m H1 sr rx h1 => ?_
  cases dx with
  | int i => exact ⟨i, rx, Out.here h1 sr rfl⟩
  | _ => exact h1.elim
theorem mi_not {a : Expr} {f : Mi.Env → Sto → R D} (ha : PE X a (EV X A W f)) : PE X (.UnaryOp .Not a pos) (EV X A W fun e S => (f e S).bind fun x S => match x with
    | .bl b => .ok (.bl (!b)) S
    | _ => .bad) := by
  refine PE.imp (pe_not ha) fun σ H Q h => ev1 h fun dx x S F m H1 sr rx h1 => ?_
  cases dx with
  | bl i => exact ⟨i, rx, Out.here h1 sr rfl⟩
  | _ => exact h1.elim
theorem mi_notT {a : Expr} {f : Mi.Env → Sto → R Bool} (ha : PT X a (ET X A W f)) : PT X (.UnaryOp .Not a pos) (ET X A W fun e S => (f e S).bind fun c S => .ok (!c) S) := by
  refine PT.imp (pt_not ha) fun σ H Q ⟨e, S, F, m, sr, er, h⟩ => ⟨e, S, F, m, sr, er, Out.imp (Out.bind h) fun c H1 ⟨c', S1, F1, m1, _, x1, sr1, rx, h1⟩ => ?_⟩
  have ec : c' = c := rx
  subst ec
  exact h1 F1 m1 H1 _ Ext.refl sr1 rfl
theorem mi_and {a b : Expr} {rest : List Expr} {f g : Mi.Env → Sto → R D} (ha : PE X a (EV X A W f)) (hb : PE X (.BoolOp .And (b :: rest) pos) (EV X A W g)) : PE X (.BoolOp .And (a :: b :: rest) pos) (EV X A W fun e S => (f e S).bind fun x S => match x with
      | .bl true => g e S
      | .bl false => .ok (.bl false) S
      | _ => .bad) := by
  refine PE.imp (pe_and ha hb) fun σ H Q ⟨e, S, F, m, sr, er, h⟩ => ⟨e, S, F, m, sr, er, Out.imp (Out.bind h) fun x H1 ⟨dx, S1, F1, m1, _, x1, sr1, rx, h1⟩ => ?_⟩
  cases dx with
  | bl i =>
    cases i with
    | true => exact ⟨true, rx, e, S1, F1, m1, sr1, er.mono x1, h1⟩
    | false => exact ⟨false, rx, Out.here h1 sr1 rfl⟩
  | _ => exact h1.elim
theorem mi_or {a b : Expr} {rest : List Expr} {f g : Mi.Env → Sto → R D} (ha : PE X a (EV X A W f)) (hb : PE X (.BoolOp .Or (b :: rest) pos) (EV X A W g)) : PE X (.BoolOp .Or (a :: b :: rest) pos) (EV X A W fun e S => (f e S).bind fun x S => match x with
      | .bl false => g e S
      | .bl true => .ok (.bl true) S
      | _ => .bad) := by
  refine PE.imp (pe_or ha hb) fun σ H Q ⟨e, S, F, m, sr, er, h⟩ => ⟨e, S, F, m, sr, er, Out.imp (Out.bind h) fun x H1 ⟨dx, S1, F1, m1, _, x1, sr1, rx, h1⟩ => ?_⟩
  cases dx with
  | bl i =>
    cases i with
    | true => exact ⟨true, rx, Out.here h1 sr1 rfl⟩
    | false => exact ⟨false, rx, e, S1, F1, m1, sr1, er.mono x1, h1⟩
  | _ => exact h1.elim
theorem pw_of {op : PySem.BoolOp} {vs : List Expr} {t : TT} (h : PT X (.BoolOp op vs pos) t) : PW X (.BoolOp op vs pos) t := ⟨fun _ pins s σ H Q I w => h.run pins s σ H Q I w⟩
theorem mi_one {op : PySem.BoolOp} {a : Expr} {f : Mi.Env → Sto → R D} (ha : PE X a (EV X A W f)) : PE X (.BoolOp op [a] pos) (EV X A W f) := pe_one ha
theorem mi_oneT {op : PySem.BoolOp} {a : Expr} {f : Mi.Env → Sto → R Bool} (ha : PT X a (ET X A W f)) : PT X (.BoolOp op [a] pos) (ET X A W f) := by
  cases op with
  | And => exact (pw_and1 ha).pt
  | Or => exact (pw_or1 ha).pt
theorem mi_andT {a b : Expr} {rest : List Expr} {f g : Mi.Env → Sto → R Bool} (ha : PT X a (ET X A W f)) (hb : PT X (.BoolOp .And (b :: rest) pos) (ET X A W g)) : PT X (.BoolOp .And (a :: b :: rest) pos)
    (ET X A W fun e S => (f e S).bind fun c S => if c then g e S else .ok false S) := by
  refine PT.imp (pw_and ha (pw_of hb)).pt fun σ H Q ⟨e, S, F, m, sr, er, h⟩ => ⟨e, S, F, m, sr, er, Out.imp (Out.bind h) fun c H1 ⟨c', S1, F1, m1, _, x1, sr1, rx, h1⟩ => ?_⟩
  have ec : c' = c := rx
  subst ec
  cases c' with
  | true => exact ⟨e, S1, F1, m1, sr1, er.mono x1, h1⟩
  | false => exact h1 F1 m1 H1 _ Ext.refl sr1 rfl
theorem mi_orT {a b : Expr} {rest : List Expr} {f g : Mi.Env → Sto → R Bool} (ha : PT X a (ET X A W f)) (hb : PT X (.BoolOp .Or (b :: rest) pos) (ET X A W g)) : PT X (.BoolOp .Or (a :: b :: rest) pos)
    (ET X A W fun e S => (f e S).bind fun c S => if c then .ok true S else g e S) := by
  refine PT.imp (pw_or ha (pw_of hb)).pt fun σ H Q ⟨e, S, F, m, sr, er, h⟩ => ⟨e, S, F, m, sr, er, Out.imp (Out.bind h) fun c H1 ⟨c', S1, F1, m1, _, x1, sr1, rx, h1⟩ => ?_⟩
  have ec : c' = c := rx
  subst ec
  cases c' with
  | false => exact ⟨e, S1, F1, m1, sr1, er.mono x1, h1⟩
  | true => exact h1 F1 m1 H1 _ Ext.refl sr1 rfl
theorem mi_ife {c a b : Expr} {t : Mi.Env → Sto → R Bool} {f g : Mi.Env → Sto → R D} (hc : PT X c (ET X A W t)) (ha : PE X a (EV X A W f)) (hb : PE X b (EV X A W g)) : PE X (.IfExp c a b pos)
    (EV X A W fun e S => (t e S).bind fun k S => if k then f e S else g e S) := by
  refine PE.imp (pe_ifExp hc ha hb) fun σ H Q ⟨e, S, F, m, sr, er, h⟩ => ⟨e, S, F, m, sr, er, Out.imp (Out.bind h) fun c H1 ⟨c', S1, F1, m1, _, x1, sr1, rx, h1⟩ => ?_⟩
  have ec : c' = c := rx
  subst ec
  cases c' with
  | true => exact ⟨e, S1, F1, m1, sr1, er.mono x1, h1⟩
  | false => exact ⟨e, S1, F1, m1, sr1, er.mono x1, h1⟩
theorem pt_ifExp {c a b : Expr} {tc ta tb : TT} (hc : PT X c tc) (ha : PT X a ta) (hb : PT X b tb) : PT X (.IfExp c a b pos) (fun σ H Q => tc σ H fun k H1 => if k = true then ta σ H1 Q else tb σ H1 Q) := by
  refine ⟨fun pins s σ H Q I h => ?_⟩
  show wpAny (model X.prog X.w) X.A (do if ← isTrue c X.env (eval c X.env) then isTrue a X.env (eval a X.env) else isTrue b X.env (eval b X.env)) _ _ s
  refine wpAny_bind (thn (hc.run pins s σ H _ I h) fun d s1 ⟨H1, I1, q1⟩ => ?_)
  cases d with
  | true => exact ha.run pins s1 σ H1 Q I1 q1
  | false => exact hb.run pins s1 σ H1 Q I1 q1
theorem mi_ifeT {c a b : Expr} {t f g : Mi.Env → Sto → R Bool} (hc : PT X c (ET X A W t)) (ha : PT X a (ET X A W f)) (hb : PT X b (ET X A W g)) : PT X (.IfExp c a b pos)
    (ET X A W fun e S => (t e S).bind fun k S => if k then f e S else g e S) := by
  refine PT.imp (pt_ifExp hc ha hb) fun σ H Q ⟨e, S, F, m, sr, er, h⟩ => ⟨e, S, F, m, sr, er, Out.imp (Out.bind h) fun c H1 ⟨c', S1, F1, m1, _, x1, sr1, rx, h1⟩ => ?_⟩
  have ec : c' = c := rx
  subst ec
  cases c' with
  | true => exact ⟨e, S1, F1, m1, sr1, er.mono x1, h1⟩
  | false => exact ⟨e, S1, F1, m1, sr1, er.mono x1, h1⟩
/-- the truth of a value -/
theorem mi_truth {a : Expr} {f : Mi.Env → Sto → R D} (hv : valT a = true) (ha : PE X a (EV X A W f)) : PT X a (ET X A W fun e S => (f e S).bind fun x S => R.of S (tru S x)) := by
  refine PT.imp (pt_truth ha (valT_is hv)) fun σ H Q ⟨e, S, F, m, sr, er, h⟩ => ⟨e, S, F, m, sr, er, Out.imp (Out.bind h) fun x H1 ⟨dx, S1, F1, m1, _, x1, sr1, rx, h1⟩ => ?_⟩
  cases q : tru S1 dx with
  | none =>
    have h2 : Out X.K A (rlI Bool) W σ F1 m1 S1 H1 (R.of S1 (tru S1 dx)) Q := h1
    rw [q] at h2
    exact h2.elim
  | some b =>
    have h2 : Out X.K A (rlI Bool) W σ F1 m1 S1 H1 (R.of S1 (tru S1 dx)) Q := h1
    rw [q] at h2
    exact ⟨b, tru_rel rx q, h2 F1 m1 H1 b Ext.refl sr1 rfl⟩
theorem mi_cmp (hu : X.A.units + 64 < cLine) {op : COp} {a b : Expr} {f g : Mi.Env → Sto → R D} (hb0 : fine b = true) (ha : PE X a (EV X A W f)) (hb : PE X b (EV X A W g)) :
    PE X (.Compare a [cOf op] [b] pos) (EV X A W fun e S => (f e S).bind fun x S => (g e S).bind fun y S => R.of S ((cmpO op S x y).map .bl)) :=
  PE.imp (pe_cmpR (cmp_ok hu op) ha hb (fine_in hb0)) fun σ H Q h => ev2 h fun dx dy x y S F m H2 sr rx ry h2 => ⟨W, σ, S, F, m, dx, dy, sr, rx, ry, h2⟩
/-- a comparison as a test -/
theorem out_test {K : PySem.W.Frag} {σ : L2.St} {F : Hp} {m : Nat → Addr} {S : Sto} {H : Hp} {Q : Bool → Hp → Prop} {o : Option Bool} (sr : SR K A F m S H) (h : Out K A (rlI Bool) W σ F m S H ((R.of S (o.map D.bl)).bind fun x S => R.of S (tru S x)) Q) :
    Out K A (rlV K A) W σ F m S H (R.of S (o.map D.bl)) fun x H' => ∃ k, x = .bl k ∧ Q k H' := by
  cases o with
  | none => exact h.elim
  | some b =>
    exact fun F' m' H' v x s r => ⟨b, r, h F' m' H' b x s rfl⟩
theorem mi_cmpT (hu : X.A.units + 64 < cLine) {op : COp} {a b : Expr} {f g : Mi.Env → Sto → R D} (hb0 : fine b = true) (ha : PE X a (EV X A W f)) (hb : PE X b (EV X A W g)) :
    PT X (.Compare a [cOf op] [b] pos) (ET X A W fun e S => ((f e S).bind fun x S => (g e S).bind fun y S => R.of S ((cmpO op S x y).map .bl)).bind fun x S => R.of S (tru S x)) := by
  refine PT.imp (pt_cmpR (cmp_ok (A := A) hu op) ha hb (fine_in hb0)) fun σ H Q ⟨e, S, F, m, sr, er, h⟩ => ?_
  have as1 : ∀ {α β γ : Type} (r : R α) (f : α → Sto → R β) (g : β → Sto → R γ), (r.bind f).bind g = r.bind fun x S => (f x S).bind g := fun r f g => by cases r <;> rfl
  have h' : Out X.K A (rlI Bool) W σ F m S H ((f e S).bind fun x S => (g e S).bind fun y S => (R.of S ((cmpO op S x y).map .bl)).bind fun x S => R.of S (tru S x)) Q := by
    have h2 := h
    simp only [as1] at h2
    exact h2
  exact ⟨e, S, F, m, sr, er, Out.imp (Out.bind h') fun x H1 ⟨dx, S1, F1, m1, _, x1, sr1, rx, h1⟩ => ⟨e, S1, F1, m1, sr1, er.mono x1, Out.imp (Out.bind h1) fun y H2 ⟨dy, S2, F2, m2, _, x2, sr2, ry, h2⟩ =>
    ⟨W, σ, S2, F2, m2, dx, dy, sr2, x2.rv rx, ry, out_test sr2 h2⟩⟩⟩
end
end Mi
/-! Mi: rules for expressions, on. -/
namespace Mi
open PySem PySem.Spec PyProof.Rows L2 TL

section
variable {X : Cx} {A : Nm} {W : WX} {pos : Pos} {T : Tab} {fl : List Nat}
theorem out_ofB {K : PySem.W.Frag} {σ : L2.St} {F : Hp} {m : Nat → Addr} {S : Sto} {H : Hp} {α : Type} {rl : Rl D α} {Q : α → Hp → Prop} {o : Option Bool} {g : Bool → Sto → R D} (h : Out K A rl W σ F m S H ((R.of S o).bind g) Q) : ∃ b, o = some b ∧ Out K A rl W σ F m S H (g b S) Q := by
  cases o with
  | none => exact h.elim
  | some b => exact ⟨b, rfl, h⟩
/-- a test of two, as a value first -/
theorem mi_chn (hu : X.A.units + 64 < cLine) {o1 o2 : COp} {a b c : Expr} {f g k : Mi.Env → Sto → R D} (hb0 : fine b = true) (hc0 : fine c = true) (ha : PE X a (EV X A W f)) (hb : PE X b (EV X A W g)) (hc : PE X c (EV X A W k)) :
    PE X (.Compare a [cOf o1, cOf o2] [b, c] pos) (EV X A W fun e S => (f e S).bind fun x S => (g e S).bind fun y S => (R.of S (cmpO o1 S x y)).bind fun t S =>
      if t then (k e S).bind fun z S => R.of S ((cmpO o2 S y z).map .bl) else .ok (.bl false) S) := by
  refine PE.imp (pe_chain (cmp_ok (A := A) hu o1) (cmp_ok (A := A) hu o2) ha hb hc (fine_last hc0)) fun σ H Q ⟨e, S, F, m, sr, er, h⟩ => ?_
  refine ⟨e, S, F, m, sr, er, Out.imp (Out.bind h) fun x H1 ⟨dx, S1, F1, m1, _, x1, sr1, rx, h1⟩ => ⟨e, S1, F1, m1, sr1, er.mono x1, Out.imp (Out.bind h1) fun y H2 ⟨dy, S2, F2, m2, _, x2, sr2, ry, h2⟩ => ?_⟩⟩
  obtain ⟨t, et, h3⟩ := out_ofB h2
  have er2 := (er.mono x1).mono x2
  refine ⟨W, σ, S2, F2, m2, dx, dy, sr2, x2.rv rx, ry, ?_⟩
  unfold cO
  rw [et]
  refine fun F' m' H' v x3 sr3 rv => ⟨t, rv, ?_⟩
  cases t with
  | false => exact h3 F' m' H' _ x3 sr3 rfl
  | true =>
    have h4 : Out X.K A (rlV X.K A) W σ F2 m2 S2 H2 ((k e S2).bind fun z S => R.of S ((cmpO o2 S dy z).map .bl)) Q := h3
    refine ⟨e, S2, F', m', sr3, er2.mono x3, Out.imp (Out.bind (Out.later h4 x3)) fun z H3 ⟨dz, S4, F4, m4, _, x4, sr4, rz, h5⟩ => ?_⟩
    exact ⟨W, σ, S4, F4, m4, dy, dz, sr4, x4.rv (x3.rv ry), rz, h5⟩
theorem mi_chnT (hu : X.A.units + 64 < cLine) {o1 o2 : COp} {a b c : Expr} {f g k : Mi.Env → Sto → R D} (hb0 : fine b = true) (hc0 : fine c = true) (ha : PE X a (EV X A W f)) (hb : PE X b (EV X A W g)) (hc : PE X c (EV X A W k)) :
    PT X (.Compare a [cOf o1, cOf o2] [b, c] pos) (ET X A W fun e S => ((f e S).bind fun x S => (g e S).bind fun y S => (R.of S (cmpO o1 S x y)).bind fun t S =>
      if t then (k e S).bind fun z S => R.of S ((cmpO o2 S y z).map .bl) else .ok (.bl false) S).bind fun x S => R.of S (tru S x)) := by
  have as1 : ∀ {α β γ : Type} (r : R α) (f : α → Sto → R β) (g : β → Sto → R γ), (r.bind f).bind g = r.bind fun x S => (f x S).bind g := fun r f g => by cases r <;> rfl
  refine PT.imp (pt_chain (cmp_ok (A := A) hu o1) (cmp_ok (A := A) hu o2) ha hb hc (fine_last hc0)) fun σ H Q ⟨e, S, F, m, sr, er, h⟩ => ?_
  have h' : Out X.K A (rlI Bool) W σ F m S H ((f e S).bind fun x S => (g e S).bind fun y S => (R.of S (cmpO o1 S x y)).bind fun t S =>
      (if t then (k e S).bind fun z S => R.of S ((cmpO o2 S y z).map .bl) else .ok (.bl false) S).bind fun x S => R.of S (tru S x)) Q := by
    have h2 := h
    simp only [as1] at h2
    exact h2
  refine ⟨e, S, F, m, sr, er, Out.imp (Out.bind h') fun x H1 ⟨dx, S1, F1, m1, _, x1, sr1, rx, h1⟩ => ⟨e, S1, F1, m1, sr1, er.mono x1, Out.imp (Out.bind h1) fun y H2 ⟨dy, S2, F2, m2, _, x2, sr2, ry, h2⟩ => ?_⟩⟩
  have ⟨t, et, h3⟩ : ∃ t, cmpO o1 S2 dx dy = some t ∧ Out X.K A (rlI Bool) W σ F2 m2 S2 H2 ((if t then (k e S2).bind fun z S => R.of S ((cmpO o2 S dy z).map .bl) else .ok (.bl false) S2).bind fun x S => R.of S (tru S x)) Q := by
    cases q : cmpO o1 S2 dx dy with
    | none => rw [q] at h2; exact h2.elim
    | some t => rw [q] at h2; exact ⟨t, rfl, h2⟩
  have er2 := (er.mono x1).mono x2
  refine ⟨W, σ, S2, F2, m2, dx, dy, sr2, x2.rv rx, ry, ?_⟩
  unfold cO
  rw [et]
  refine fun F' m' H' v x3 sr3 rv => ⟨t, rv, ?_⟩
  cases t with
  | false => exact ⟨false, rfl, h3 F' m' H' _ x3 sr3 rfl⟩
  | true =>
    have h4 : Out X.K A (rlI Bool) W σ F2 m2 S2 H2 ((k e S2).bind fun z S => (R.of S ((cmpO o2 S dy z).map .bl)).bind fun x S => R.of S (tru S x)) Q := by
      have h5 : Out X.K A (rlI Bool) W σ F2 m2 S2 H2 (((k e S2).bind fun z S => R.of S ((cmpO o2 S dy z).map .bl)).bind fun x S => R.of S (tru S x)) Q := h3
      rw [as1] at h5
      exact h5
    refine ⟨e, S2, F', m', sr3, er2.mono x3, Out.imp (Out.bind (Out.later h4 x3)) fun z H3 ⟨dz, S4, F4, m4, _, x4, sr4, rz, h5⟩ => ?_⟩
    exact ⟨W, σ, S4, F4, m4, dy, dz, sr4, x4.rv (x3.rv ry), rz, out_test sr4 h5⟩
theorem mi_att (g : GC X.K A T fl) {n : Nat} (hn : n ∈ fl) {o : Expr} {f : Mi.Env → Sto → R D} (hb : nosup o = true) (ho : PE X o (EV X A W f)) :
    PE X (.Attribute o (A.att n) pos) (EV X A W fun e S => (f e S).bind fun x S => R.of S (attO S x n)) :=
  PE.imp (pe_fld ho (nosup_base hb)) fun σ H Q h => ev1 h fun dx x S F m H1 sr rx h1 => by
    obtain ⟨d, e, h2⟩ := out_of h1
    obtain ⟨a, C, dx', fs, u, ea, hH, hc, hna, hl, hr⟩ := att_ok g hn sr rx e
    exact ⟨a, C, dx', fs, u, ea, hH, hc, hna, hl, Out.here h2 sr hr⟩
theorem mi_idx (hu : X.A.units + 1 < cLine) {o i : Expr} {f g : Mi.Env → Sto → R D} (hi0 : fine i = true) (ho : PE X o (EV X A W f)) (hi : PE X i (EV X A W g)) :
    PE X (.Subscript o i pos) (EV X A W fun e S => (f e S).bind fun x S => (g e S).bind fun y S => R.of S (idxO S x y)) :=
  PE.imp (pe_ix (idx_ok (A := A) hu) ho hi (fine_ix hi0)) fun σ H Q h => ev2 h fun dx dy x y S F m H2 sr rx ry h2 => ⟨W, σ, S, F, m, dx, dy, sr, rx, ry, h2⟩
theorem mi_noPart : PO X none (EO X A W fun _ S => .ok none S) := PO.imp po_none fun σ H Q ⟨e, S, F, m, sr, er, h⟩ => h F m H none Ext.refl sr rfl
theorem mi_part {a : Expr} {f : Mi.Env → Sto → R D} (ha : PE X a (EV X A W f)) : PO X (some a) (EO X A W fun e S => (f e S).bind fun x S => match x with
    | .int i => .ok (some i) S
    | _ => .bad) := by
  refine PO.imp (po_some ha) fun σ H Q ⟨e, S, F, m, sr, er, h⟩ => ⟨e, S, F, m, sr, er, Out.imp (Out.bind h) fun x H1 ⟨dx, S1, F1, m1, _, x1, sr1, rx, h1⟩ => ?_⟩
  cases dx with
  | int i => exact ⟨i, rx, h1 F1 m1 H1 _ Ext.refl sr1 rfl⟩
  | _ => exact h1.elim
theorem mi_slc {o : Expr} {lo hi : Option Expr} {f : Mi.Env → Sto → R D} {l u : Mi.Env → Sto → R (Option Int)} {p2 : Pos} (ho : PE X o (EV X A W f)) (hl : PO X lo (EO X A W l)) (hu : PO X hi (EO X A W u)) :
    PE X (.Subscript o (.Slice lo hi none p2) pos) (EV X A W fun e S => (f e S).bind fun x S => (l e S).bind fun l S => (u e S).bind fun h S => R.of S (slcO S x l h)) :=
  PE.imp (pe_slice (slc_ok (A := A)) ho hl hu) fun σ H Q ⟨e, S, F, m, sr, er, h⟩ => ⟨e, S, F, m, sr, er, Out.imp (Out.bind h) fun x H1 ⟨dx, S1, F1, m1, _, x1, sr1, rx, h1⟩ => ⟨e, S1, F1, m1, sr1, er.mono x1, Out.imp (Out.bind h1) fun y H2 ⟨dy, S2, F2, m2, _, x2, sr2, ry, h2⟩ =>
    ⟨e, S2, F2, m2, sr2, (er.mono x1).mono x2, Out.imp (Out.bind h2) fun z H3 ⟨dz, S3, F3, m3, _, x3, sr3, rz, h3⟩ => by
      have e1 : dy = y := ry
      have e2 : dz = z := rz
      subst e1 e2
      exact ⟨W, σ, S3, F3, m3, dx, sr3, x3.rv (x2.rv rx), h3⟩⟩⟩⟩
theorem mi_rev {o : Expr} {f : Mi.Env → Sto → R D} {k : Nat} {p1 p2 p3 : Pos} (ho : PE X o (EV X A W f)) :
    PE X (.Subscript o (.Slice none none (some (.UnaryOp .USub (.Constant (.int 1) k p1) p2)) p3) pos) (EV X A W fun e S => (f e S).bind fun x S => R.of S (revO S x)) := by
  refine PE.imp (pe_revL ho) fun σ H Q h => ev1 h fun dx x S F m H1 sr rx h1 => ?_
  obtain ⟨d, e, h2⟩ := out_of h1
  have e' : revC (deref S dx) = some d := e
  cases q : deref S dx with
  | none => rw [q] at e'; cases e'
  | some y =>
    rw [q] at e'
    have hr := deref_ok sr rx q
    cases y with
    | lst l =>
      cases e'
      obtain ⟨a, us, ea, hq, hl, rs⟩ := hr
      exact ⟨a, us, ea, hq, fun p hp => Out.lst h2 sr hp (by rw [List.length_reverse]; exact hl) (RVs.reverse rs)⟩
    | _ => cases e'
/-- a value handed on for good -/
theorem mi_frz {a : Expr} {f : Mi.Env → Sto → R D} (ha : PE X a (EV X A W f)) : PE X a (EV X A W fun e S => (f e S).bind fun x S => freeze S x) := by
  refine PE.imp ha fun σ H Q h => ev1 h fun dx x S F m H1 sr rx h1 => ?_
  cases dx with
  | ref n =>
    have h2 : Out X.K A (rlV X.K A) W σ F m S H1 (match getc S.c n with
      | some (.lst l) => .ok (.lst l) (putS S n .dead)
      | some (.dct l) => .ok (.dct l) (putS S n .dead)
      | _ => .bad) Q := h1
    cases q : getc S.c n with
    | none => rw [q] at h2; exact h2.elim
    | some c =>
      rw [q] at h2
      cases c with
      | lst l =>
        obtain ⟨us, g1, g2, g3, _, _⟩ := cell_lst sr q
        obtain ⟨s', x'⟩ := SR.freeze sr q rfl g1
        exact h2 _ m H1 x x' s' ⟨m n, us, rx.2, upd_same, g2, by rw [putS_len]; exact RVs.mono x'.sub (fun _ _ => rfl) (Nat.le_refl _) l us g3⟩
      | dct l =>
        obtain ⟨us, g1, g2, g3⟩ := sr.cel n _ q
        obtain ⟨s', x'⟩ := SR.freeze sr q rfl g1
        exact h2 _ m H1 x x' s' ⟨m n, us, rx.2, upd_same, g2, by rw [putS_len]; exact RVk.mono x'.sub (fun _ _ => rfl) (Nat.le_refl _) l us g3⟩
      | _ => exact h2.elim
  | _ => exact h1.elim

/-! ### built-in functions and methods -/
theorem mi_bf (hc : X.calm = true) {b : Bf} {mu : Bool} {id : String} (hid : bfV b = .builtin id) {p : Pos} {a : Expr} {es : List Expr} {f : Mi.Env → Sto → R (List D)} (hg : Gl X (bfN b)) (hm : X.mg (bfN b) = none) (hv : bootBuiltins (bfN b) = some (bfV b))
    (hf : (a :: es).all fine = true) (ha : PA X (a :: es) (EL X A W f)) (hn : bfN b ≠ "__name__") (hdb : (bfN b == ("__debug__" : Str)) = false) :
    PE X (.Call (.Name (bfN b) p) (a :: es) [] pos) (EV X A W fun e S => (f e S).bind fun ds S => (R.of S (bfO b S ds)).bind fun d S => fresh mu S d) := by
  rw [List.all_cons] at hf
  obtain ⟨hf1, hf2⟩ := Bool.and_eq_true_iff.mp hf
  have hb := bf_ok (X := X) (A := A) hc b mu
  rw [hid] at hb hv
  exact PE.imp (pe_callB hb hg hm hv ha hn hdb (star_plain hf1) (back_plain hf2)) fun σ H Q ⟨e, S, F, m, sr, er, h⟩ => ⟨e, S, F, m, sr, er, Out.imp (Out.bind h) fun xs H1 ⟨ds, S1, F1, m1, _, x1, sr1, rs, h1⟩ => ⟨W, σ, S1, F1, m1, ds, sr1, rs, h1⟩⟩
theorem mi_bfT (hc : X.calm = true) {b : Bf} {mu : Bool} {id : String} (hid : bfV b = .type id) {p : Pos} {a : Expr} {es : List Expr} {f : Mi.Env → Sto → R (List D)} (hg : Gl X (bfN b)) (hm : X.mg (bfN b) = none) (hv : bootBuiltins (bfN b) = some (bfV b))
    (hf : (a :: es).all fine = true) (ha : PA X (a :: es) (EL X A W f)) (hn : bfN b ≠ "__name__") (hdb : (bfN b == ("__debug__" : Str)) = false) :
    PE X (.Call (.Name (bfN b) p) (a :: es) [] pos) (EV X A W fun e S => (f e S).bind fun ds S => (R.of S (bfO b S ds)).bind fun d S => fresh mu S d) := by
  rw [List.all_cons] at hf
  obtain ⟨hf1, hf2⟩ := Bool.and_eq_true_iff.mp hf
  have hb := bf_ok (X := X) (A := A) hc b mu
  rw [hid] at hb hv
  exact PE.imp (pe_callTy hb hg hm hv ha hn hdb (star_plain hf1) (back_plain hf2)) fun σ H Q ⟨e, S, F, m, sr, er, h⟩ => ⟨e, S, F, m, sr, er, Out.imp (Out.bind h) fun xs H1 ⟨ds, S1, F1, m1, _, x1, sr1, rs, h1⟩ => ⟨W, σ, S1, F1, m1, ds, sr1, rs, h1⟩⟩
theorem mi_bm {b : Bm} {o a : Expr} {es : List Expr} {apos : Pos} {f : Mi.Env → Sto → R D} {g : Mi.Env → Sto → R (List D)} (hb : nosup o = true) (hf : (a :: es).all fine = true) (hlen : (a :: es).length < 29) (hline : (apos.endLine == pos.line) = true)
    (ho : PE X o (EV X A W f)) (ha : PA X (a :: es) (EL X A W g)) :
    PE X (.Call (.Attribute o (bmNm b) apos) (a :: es) [] pos) (EV X A W fun e S => (f e S).bind fun x S => if hasM b S x then (g e S).bind fun ds S => bmA b S x ds else .bad) := by
  have hf' := hf
  rw [List.all_cons] at hf
  obtain ⟨hf1, hf2⟩ := Bool.and_eq_true_iff.mp hf
  refine PE.imp (pe_bm (bm_pa b) (bm_slot b) (bm_type b) (bm_ok (A := A) b) ho ha (nosup_base hb) ?_ hline (star_plain hf1) (back_plain hf2)) fun σ H Q ⟨e, S, F, m, sr, er, h⟩ => ?_
  · rw [back_few hf']
    show (true && true && decide ((a :: es).length + 0 + 0 < 30)) = true
    rw [decide_eq_true (by omega)] <;> rfl
  · refine ⟨e, S, F, m, sr, er, Out.imp (Out.bind h) fun x H1 ⟨dx, S1, F1, m1, _, x1, sr1, rx, h1⟩ => ?_⟩
    have h2 : Out X.K A (rlV X.K A) W σ F1 m1 S1 H1 (if hasM b S1 dx = true then (g e S1).bind fun ds S => bmA b S dx ds else .bad) Q := h1
    by_cases c : hasM b S1 dx = true
    · rw [if_pos c] at h2
      exact ⟨bm_ty sr1 rx c, e, S1, F1, m1, sr1, er.mono x1, Out.imp (Out.bind h2) fun xs H2 ⟨ds, S2, F2, m2, _, x2, sr2, rs, h3⟩ => ⟨W, σ, S2, F2, m2, dx, ds, sr2, x2.rv rx, rs, h3⟩⟩
    · rw [if_neg c] at h2
      exact h2.elim
theorem mi_bm0 {b : Bm} {o : Expr} {apos : Pos} {f : Mi.Env → Sto → R D} (hb : nosup o = true) (hline : (apos.endLine == pos.line) = true) (ho : PE X o (EV X A W f)) :
    PE X (.Call (.Attribute o (bmNm b) apos) [] [] pos) (EV X A W fun e S => (f e S).bind fun x S => if hasM b S x then (R.ok [] S : R (List D)).bind fun ds S => bmA b S x ds else .bad) := by
  refine PE.imp (pe_bm0 (bm_pa b) (bm_slot b) (bm_type b) (bm_ok (A := A) b) ho (nosup_base hb) hline) fun σ H Q ⟨e, S, F, m, sr, er, h⟩ => ?_
  refine ⟨e, S, F, m, sr, er, Out.imp (Out.bind h) fun x H1 ⟨dx, S1, F1, m1, _, x1, sr1, rx, h1⟩ => ?_⟩
  have h2 : Out X.K A (rlV X.K A) W σ F1 m1 S1 H1 (if hasM b S1 dx = true then bmA b S1 dx [] else .bad) Q := h1
  by_cases c : hasM b S1 dx = true
  · rw [if_pos c] at h2
    exact ⟨bm_ty sr1 rx c, W, σ, S1, F1, m1, dx, [], sr1, rx, rfl, h2⟩
  · rw [if_neg c] at h2
    exact h2.elim
/-- isinstance(x, c) -/
theorem mi_isi (g : GC X.K A T fl) {t : Ty} (ht : tyOk T t = true) {a c : Expr} {p : Pos} {f : Mi.Env → Sto → R D} {cv : V} (hg : Gl X "isinstance") (hm : X.mg "isinstance" = none) (ha0 : fine a = true) (hc0 : fine c = true) (ha : PE X a (EV X A W f)) (hc : PE X c (tC cv)) (hk : ClsV cv (tyVal A t)) :
    PE X (.Call (.Name "isinstance" p) [a, c] [] pos) (EV X A W fun e S => (f e S).bind fun x S => R.of S ((isTs T S x [t]).map .bl)) := by
  refine PE.imp (pe_callB call_isi hg hm rfl (pa_cons ha (pa_cons hc pa_nil (star_plain hc0)) (star_plain ha0)) (by decide) (by decide) (star_plain ha0) (back_plain (es := [c]) (by rw [List.all_cons, hc0]; rfl))) fun σ H Q h => ev1 h fun dx x S F m H1 sr rx h1 => ?_
  obtain ⟨d, e, h2⟩ := out_of h1
  cases q : isTs T S dx [t] with
  | none => rw [q] at e; cases e
  | some b =>
    rw [q] at e
    cases e
    obtain ⟨w, k1, k2⟩ := isTs_ok g sr rx (ts := [t]) (by rw [List.all_cons, ht]; rfl) (fun z => nomatch z) q
    have k3 : PySem.W.kitOne X.K w (tyVal A t) = some b := by
      have k4 : (match PySem.W.kitOne X.K w (tyVal A t) with
        | some true => some true
        | some false => some false
        | none => none) = some b := k2
      cases z : PySem.W.kitOne X.K w (tyVal A t) with
      | none => rw [z] at k4; cases k4
      | some y => rw [z] at k4; cases y <;> exact k4
    exact ⟨x, cv, w, tyVal A t, b, rfl, hk, k1, k3, Out.here h2 sr rfl⟩
end
end Mi
/-! Mi: calls, new instances, methods. -/
namespace Mi
open PySem PySem.Spec PyProof.Rows L2 TL

/-! ### regions -/
theorem setc_drop : ∀ (C : List Cell) (n : Nat) (y : Cell), n ≤ C.length → (setc C n y).drop (C.length - n) = C.drop (C.length - n)
  | [], _, _, _ => rfl
  | x :: C, n, y, h => by
    rw [List.length_cons] at h ⊢
    unfold setc
    by_cases q : n = C.length
    · rw [if_pos q, q]
      have e : C.length + 1 - C.length = 0 + 1 := by omega
      rw [e, List.drop_succ_cons, List.drop_succ_cons]
    · rw [if_neg q]
      by_cases q2 : n = C.length + 1
      · rw [q2, Nat.sub_self, List.drop_zero, List.drop_zero]
        congr 1
        have : ∀ (C : List Cell) (n : Nat), C.length ≤ n → setc C n y = C := fun C => by
          induction C with
          | nil => intro n _; rfl
          | cons z C ih =>
            intro n hn
            rw [List.length_cons] at hn
            unfold setc
            rw [if_neg (by omega), ih n (by omega)]
        exact this C _ (Nat.le_succ _)
      · have e : C.length + 1 - n = (C.length - n) + 1 := by omega
        rw [e, List.drop_succ_cons, List.drop_succ_cons]
        exact setc_drop C n y (by omega)
section
variable {K : PySem.W.Frag} {A : Nm} {F F' : Hp} {m m' : Nat → Addr} {S S' : Sto} {H H' : Hp}
mutual
theorem RV.lt {n : Nat} : ∀ (d : D) (v : V), RV K A F m n d v → d.lt n = true
  | .non, _, _ => rfl
  | .bl _, _, _ => rfl
  | .int _, _, _ => rfl
  | .str _, _, _ => rfl
  | .scr _, _, _ => rfl
  | .tup l, _, ⟨_, us, _, _, _, h⟩ => RVs.lt l us h
  | .lst l, _, ⟨_, us, _, _, _, h⟩ => RVs.lt l us h
  | .dct l, _, ⟨_, us, _, _, _, h⟩ => RVk.lt l us h
  | .ins _ l, _, ⟨_, _, us, _, _, h⟩ => RVf.lt l us h
  | .ref k, _, h => decide_eq_true h.1
theorem RVs.lt {n : Nat} : ∀ (ds : List D) (vs : List V), RVs K A F m n ds vs → D.ltL n ds = true
  | [], _, _ => rfl
  | d :: r, _, ⟨u, us, _, h1, h2⟩ => Bool.and_eq_true_iff.mpr ⟨RV.lt d u h1, RVs.lt r us h2⟩
theorem RVk.lt {n : Nat} : ∀ (ds : List (Str × D)) (vs : List (Key × V)), RVk K A F m n ds vs → D.ltK n ds = true
  | [], _, _ => rfl
  | (_, d) :: r, _, ⟨u, us, _, h1, h2⟩ => Bool.and_eq_true_iff.mpr ⟨RV.lt d u h1, RVk.lt r us h2⟩
theorem RVf.lt {n : Nat} : ∀ (ds : List (Nat × D)) (vs : List (Str × V)), RVf K A F m n ds vs → D.ltF n ds = true
  | [], _, _ => rfl
  | (_, d) :: r, _, ⟨u, us, _, h1, h2⟩ => Bool.and_eq_true_iff.mpr ⟨RV.lt d u h1, RVf.lt r us h2⟩
end
theorem SR.good (sr : SR K A F m S H) : Good S.c S.c.length := fun l c _ h => by
  have q := sr.cel l c h
  cases c with
  | lst x => obtain ⟨us, _, _, h3⟩ := q; exact RVs.lt x us h3
  | dct x => obtain ⟨us, _, _, h3⟩ := q; exact RVk.lt x us h3
  | ins c x => obtain ⟨_, us, _, _, h3⟩ := q; exact RVf.lt x us h3
  | dead => rfl
/-- a region is entered -/
theorem SR.enter (sr : SR K A F m S H) : SR K A F m ⟨S.c, S.c.length⟩ H := ⟨Nat.le_refl _, sr.sub, sr.sep, sr.inj, sr.trk, sr.cel⟩
/-- .. and left -/
theorem Ext.lower (sr : SR K A F m S H) (x : Ext F m ⟨S.c, S.c.length⟩ H F' m' S' H') : Ext F m S H F' m' ⟨S'.c.drop (S'.c.length - S.c.length), S.fl⟩ H' := by
  have hle : S.c.length ≤ S'.c.length := x.le
  have len : (S'.c.drop (S'.c.length - S.c.length)).length = S.c.length := by rw [List.length_drop]; omega
  refine ⟨x.sub, x.ag, Nat.le_of_eq len.symm, rfl, fun n hn g l c hl e => ?_, x.keep, fun l h1 h2 => ?_, x.dom, x.fnew⟩
  · have hn' : n ≤ S.c.length := Nat.le_trans hn sr.flo
    have e' : getc (S'.c.drop (S'.c.length - S.c.length)) l = some c := e
    rw [getc_drop hle (Nat.lt_of_lt_of_le hl hn')] at e'
    exact x.good n hn' g l c hl e'
  · have h2' : l < (S'.c.drop (S'.c.length - S.c.length)).length := h2
    rw [len] at h2'
    exact absurd (Nat.lt_of_lt_of_le h2' h1) (Nat.lt_irrefl _)
theorem SR.lower (sr : SR K A F m S H) (x : Ext F m ⟨S.c, S.c.length⟩ H F' m' S' H') (sr' : SR K A F' m' S' H') : SR K A F' m' ⟨S'.c.drop (S'.c.length - S.c.length), S.fl⟩ H' :=
  SR.leave sr' x.le sr.flo (x.good _ (Nat.le_refl _) sr.good)
theorem drop_len (x : Ext F m ⟨S.c, S.c.length⟩ H F' m' S' H') : (S'.c.drop (S'.c.length - S.c.length)).length = S.c.length := by
  have hle : S.c.length ≤ S'.c.length := x.le
  rw [List.length_drop]
  omega
/-- what is wanted behind a region is had within it -/
theorem Out.region {W : WX} {σ : L2.St} {r : R D} {Q : VK} (sr : SR K A F m S H) (h : Out K A (rlV K A) W σ F m S H (leaveR S.c.length S.fl r) Q) : Out K A (rlV K A) W σ F m ⟨S.c, S.c.length⟩ H r Q := by
  cases r with
  | bad => exact h.elim
  | ok d S' =>
    have h1 : Out K A (rlV K A) W σ F m S H (if d.lt S.c.length = true then .ok d ⟨S'.c.drop (S'.c.length - S.c.length), S.fl⟩ else .bad) Q := h
    by_cases c : d.lt S.c.length = true
    · rw [if_pos c] at h1
      exact fun F' m' H' b x s rv => h1 F' m' H' b (Ext.lower sr x) (SR.lower sr x s) (by
        show RV K A F' m' _ d b
        rw [drop_len x]
        exact RV.less (fun _ _ => rfl) d b c rv)
    · rw [if_neg c] at h1
      exact h1.elim
  | ex k v S' =>
    have h1 : Out K A (rlV K A) W σ F m S H (if D.ltF S.c.length v = true then .ex k v ⟨S'.c.drop (S'.c.length - S.c.length), S.fl⟩ else .bad) Q := h
    by_cases c : D.ltF S.c.length v = true
    · rw [if_pos c] at h1
      exact fun F' m' H' dd fs x s hd rv => h1 F' m' H' dd fs (Ext.lower sr x) (SR.lower sr x s) hd (by
        rw [drop_len x]
        exact RVf.less (fun _ _ => rfl) v fs c rv)
    · rw [if_neg c] at h1
      exact h1.elim
end

/-! ### calls -/
/-- what a def promises: what the evaluator's own gives -/
def spF (K : PySem.W.Frag) (A : Nm) (cl : List D → Sto → R D) (n : Nat) : Sp := fun vs H Q E => ∃ ds S F m, SR K A F m S H ∧ RVs K A F m S.c.length ds vs ∧ ds.length = n ∧ Out K A (rlV K A) (fun c d _ H => E c d H) [] F m S H (cl ds S) Q
theorem out_nst {K : PySem.W.Frag} {A : Nm} {W : WX} {σ : L2.St} {F : Hp} {m : Nat → Addr} {S : Sto} {H : Hp} {r : R D} {Q : VK} (h : Out K A (rlV K A) W σ F m S H r Q) : Out K A (rlV K A) (fun c d _ H => WE W σ c d H) [] F m S H r Q := by
  cases r <;> exact h
/-- the defs at hand, with k further calls one within the other -/
structure FX (X : Cx) (A : Nm) (T : Tab) (k : Nat) (fa : Nat → Addr) : Prop where
  room : Room (2 * k + 2) X.A
  fn : ∀ f d, T.fns[f]? = some d → ∃ fd ps, FnOk X.prog X.w X.K X.mg X.base (L2.CX X.prog X.w) (2 * k + 1) (fa f) fd ps (spF X.K A (callF T k f) d.np) ∧ Binds X.K fd ps [] ∧ PySem.W.keepIn X.K (.ref (fa f)) = true
theorem Room.le {j k : Nat} {A : Around} (h : j ≤ k) (r : Room k A) : Room j A := r.mono h
section
variable {X : Cx} {A : Nm} {W : WX} {T : Tab} {k : Nat} {fa : Nat → Addr} {pos : Pos}
theorem callF_np {K : PySem.W.Frag} {σ : L2.St} {F : Hp} {m : Nat → Addr} {S : Sto} {H : Hp} {Q : VK} {f : Nat} {ds : List D} (h : Out K A (rlV K A) W σ F m S H (callF T k f ds S) Q) : ∃ d, T.fns[f]? = some d ∧ ds.length = d.np := by
  cases k with
  | zero => exact h.elim
  | succ k =>
    unfold callF at h
    cases q : T.fns[f]? with
    | none => simp only [q] at h; exact h.elim
    | some d =>
      simp only [q] at h
      by_cases c : ds.length = d.np
      · exact ⟨d, rfl, c⟩
      · rw [if_neg c] at h
        exact h.elim
/-- the call itself -/
theorem run_cl (fx : FX X A T k fa) (tk : Takes X W) {f : Nat} {σ : L2.St} {F : Hp} {m : Nat → Addr} {S : Sto} {H : Hp} {Q : VK} {ds : List D} {vs : List V} {us : List Value} {pins : List (Addr × Obj)} {s : Shared}
    (I : Inv X pins σ H s) (rv : Vals vs us) (sr : SR X.K A F m S H) (rs : RVs X.K A F m S.c.length ds vs) (h : Out X.K A (rlV X.K A) W σ F m S H (callF T k f ds S) Q) :
    PySem.W.keepIn X.K (.ref (fa f)) = true ∧ wpAny (model X.prog X.w) X.A (call (.ref (fa f)) us) (EP X pins σ Q) X.xe s := by
  obtain ⟨d, e1, e2⟩ := callF_np h
  obtain ⟨fd, ps, F1, hb, hk⟩ := fx.fn f d e1
  exact ⟨hk, run_fnSD (dvs := []) (ds := []) (E := WE W) F1 (fx.room.mono (Nat.le_succ _)) hb .nil (passAt tk σ) I rv (by rw [List.append_nil]; exact ⟨ds, S, F, m, sr, rs, e2, out_nst h⟩)⟩
theorem mi_call (fx : FX X A T k fa) (tk : Takes X W) {f : Nat} {x : Str} {p : Pos} {a : Expr} {es : List Expr} {g : Mi.Env → Sto → R (List D)} (hg : Gl X x) (hm : X.mg x = some (.ref (fa f))) (hk : PySem.W.keepIn X.K (.ref (fa f)) = true) (hdb : (x == ("__debug__" : Str)) = false)
    (hf : (a :: es).all fine = true) (ha : PA X (a :: es) (EL X A W g)) : PE X (.Call (.Name x p) (a :: es) [] pos) (EV X A W fun e S => (g e S).bind fun ds S => callF T k f ds S) := by
  rw [List.all_cons] at hf
  obtain ⟨hf1, hf2⟩ := Bool.and_eq_true_iff.mp hf
  refine ⟨fun pins s σ H Q I ⟨e, S, F, m, sr, er, h⟩ => ?_⟩
  refine wpAny_Call_Name_kw (ld_glob I hg hm ?_ hdb)
  refine PySem.W.callWith_K (h₀ := X.base) I.ok.mod.kin hk (thn (ha.run pos pins s σ H _ I ⟨e, S, F, m, sr, er, Out.bind h⟩) fun us s1 ⟨vs, H1, I1, r, ds, S1, F1, m1, _, x1, sr1, rs, h1⟩ => ⟨I1.kIn, ?_⟩) (star_plain hf1) (back_plain hf2)
  exact (run_cl fx tk I1 r sr1 rs h1).2
theorem mi_call0 (fx : FX X A T k fa) (tk : Takes X W) {f : Nat} {x : Str} {p : Pos} (hg : Gl X x) (hm : X.mg x = some (.ref (fa f))) (hk : PySem.W.keepIn X.K (.ref (fa f)) = true) (hdb : (x == ("__debug__" : Str)) = false) :
    PE X (.Call (.Name x p) [] [] pos) (EV X A W fun e S => (R.ok [] S : R (List D)).bind fun ds S => callF T k f ds S) := by
  refine ⟨fun pins s σ H Q I ⟨e, S, F, m, sr, er, h⟩ => ?_⟩
  refine wpAny_Call_Name_kw (ld_glob I hg hm ?_ hdb)
  exact PySem.W.callWith_K0 I.kIn hk (run_cl fx tk (ds := []) (us := []) (vs := []) I .nil sr rfl h).2

/-! ### new instances -/
theorem run_mk (fx : FX X A T k fa) (tk : Takes X W) {c f : Nat} {d : ClsD} (hd : T.cls[c]? = some d) (hi : d.init = some f) (M : Mk X.K (A.cls c) (fa f)) {σ : L2.St} {F : Hp} {m : Nat → Addr} {S : Sto} {H : Hp} {Q : VK} {ds : List D} {vs : List V} {us : List Value} {pins : List (Addr × Obj)} {s : Shared}
    (I : Inv X pins σ H s) (rv : Vals vs us) (sr : SR X.K A F m S H) (rs : RVs X.K A F m S.c.length ds vs) (h : Out X.K A (rlV X.K A) W σ F m S H (make T (callF T k) c ds S) Q) :
    wpAny (model X.prog X.w) X.A (call (.ref (A.cls c)) us) (EP X pins σ Q) X.xe s := by
  have fresh1 := I.hok.fresh (Nat.le_succ s.heap.objs.size)
  have fresh0 := I.hok.fresh (Nat.le_refl s.heap.objs.size)
  have I2 := Inv.made (C := A.cls c) I
  have step : ∀ fl, fl ≤ S.c.length → SR X.K A F (mx m S.c.length (s.heap.objs.size + 1)) ⟨.ins c [] :: S.c, fl⟩ (upd (upd H s.heap.objs.size (.own (s.heap.objs.size + 1))) (s.heap.objs.size + 1) (.ins (A.cls c) s.heap.objs.size [])) ∧
      Ext F m ⟨S.c, fl⟩ H F (mx m S.c.length (s.heap.objs.size + 1)) ⟨.ins c [] :: S.c, fl⟩ (upd (upd H s.heap.objs.size (.own (s.heap.objs.size + 1))) (s.heap.objs.size + 1) (.ins (A.cls c) s.heap.objs.size [])) := fun fl hfl => by
    have srf : SR X.K A F m ⟨S.c, fl⟩ H := ⟨hfl, sr.sub, sr.sep, sr.inj, sr.trk, sr.cel⟩
    obtain ⟨s1, x1⟩ := srf.side (o := .own (s.heap.objs.size + 1)) fresh0
    have fr2 : upd H s.heap.objs.size (.own (s.heap.objs.size + 1)) (s.heap.objs.size + 1) = none := by
      rw [upd_ne (Nat.succ_ne_self _)]
      exact fresh1
    obtain ⟨s2, x2⟩ := s1.alloc (o := .ins (A.cls c) s.heap.objs.size []) (c := .ins c []) fr2 ⟨s.heap.objs.size, [], upd_same, Nat.zero_le _, rfl⟩
    exact ⟨s2, x1.trans x2⟩
  -- the call of __init__, whatever is wanted behind it
  have go : ∀ (fl : Nat) (Q2 : VK), fl ≤ S.c.length → Out X.K A (rlV X.K A) W σ F (mx m S.c.length (s.heap.objs.size + 1)) ⟨.ins c [] :: S.c, fl⟩ (upd (upd H s.heap.objs.size (.own (s.heap.objs.size + 1))) (s.heap.objs.size + 1) (.ins (A.cls c) s.heap.objs.size []))
      (callF T k f (.ref S.c.length :: ds) ⟨.ins c [] :: S.c, fl⟩) (fun v H2 => v = .non ∧ Q2 (.ref (s.heap.objs.size + 1)) H2) → wpAny (model X.prog X.w) X.A (call (.ref (A.cls c)) us) (EP X pins σ Q2) X.xe s := fun fl Q2 hfl o => by
    obtain ⟨s2, x2⟩ := step fl hfl
    have rs2 : RVs X.K A F (mx m S.c.length (s.heap.objs.size + 1)) (S.c.length + 1) (.ref S.c.length :: ds) (.ref (s.heap.objs.size + 1) :: vs) :=
      ⟨_, _, rfl, ⟨Nat.lt_succ_self _, by rw [mx_new]⟩, RVs.mono (fun _ _ h => h) (fun l hl => mx_old hl) (Nat.le_succ _) ds vs rs⟩
    obtain ⟨d2, e1, e2⟩ := callF_np o
    obtain ⟨fd, ps, F1, hb, hk⟩ := fx.fn f d2 e1
    have hq : spF X.K A (callF T k f) d2.np (.ref (s.heap.objs.size + 1) :: vs) (upd (upd H s.heap.objs.size (.own (s.heap.objs.size + 1))) (s.heap.objs.size + 1) (.ins (A.cls c) s.heap.objs.size [])) (fun v H2 => v = .non ∧ Q2 (.ref (s.heap.objs.size + 1)) H2) (WE W σ) :=
      ⟨_, _, _, _, s2, rs2, e2, out_nst o⟩
    have r2 : Vals (V.ref (s.heap.objs.size + 1) :: vs) (Value.ref (s.heap.objs.size + 1) :: us) := .cons rfl rv
    have hl : (Value.ref (s.heap.objs.size + 1) :: us ++ []).length = ps.length := by
      have e := r2.length
      rw [F1.len _ _ _ _ hq] at e
      rw [List.append_nil]
      exact e.symm
    have bnd := hb _ (Value.ref (s.heap.objs.size + 1) :: us) I2.kIn hl
    rw [List.append_nil] at bnd
    refine wpAny_call (make_map (f := fa f) I.kIn M.makes M.init (beq_iff_eq.mp M.fn) (codeAny_mono (F1.run _ X.stack _ _ ⟨Value.ref (s.heap.objs.size + 1) :: us, []⟩ (Value.ref (s.heap.objs.size + 1) :: us) _ _ (WE W σ) (fx.room.make (A.cls c) us [])
      (I2.env0.make (A.cls c) us []) bnd r2 hq) fun r s' hq' => ?_))
    cases r with
    | error e => exact passAt tk σ pins _ _ e s' I2 hq'
    | ok fl =>
      cases fl with
      | ret u =>
        obtain ⟨v, H', I3, rv, ev, q3⟩ := I2.after hq'
        subst ev
        exact ⟨rv, ⟨V.ref (s.heap.objs.size + 1), H', I3, rfl, q3⟩⟩
      | next => exact False.elim hq'
      | brk => exact False.elim hq'
      | cont => exact False.elim hq'
  unfold make at h
  simp only [hd, hi] at h
  by_cases fz : d.frozen = true
  · rw [if_pos fz] at h
    obtain ⟨s2, x2⟩ := step S.c.length (Nat.le_refl _)
    refine go S.c.length Q (Nat.le_refl _) ?_
    have hle2 : S.c.length < (Cell.ins c [] :: S.c).length := Nat.lt_succ_self _
    generalize callF T k f (.ref S.c.length :: ds) ⟨.ins c [] :: S.c, S.c.length⟩ = r at h ⊢
    cases r with
    | bad => exact h.elim
    | ex c' v S' =>
      have h1 : Out X.K A (rlV X.K A) W σ F m S H (if D.ltF S.c.length v = true then .ex c' v ⟨S'.c.drop (S'.c.length - S.c.length), S.fl⟩ else .bad) Q := h
      by_cases q : D.ltF S.c.length v = true
      · rw [if_pos q] at h1
        exact fun F' m' H' dd fs x s' hd rv => h1 F' m' H' dd fs (Ext.lower sr (x2.trans x)) (SR.lower sr (x2.trans x) s') hd (by
          rw [drop_len (x2.trans x)]
          exact RVf.less (fun _ _ => rfl) v fs q rv)
      · rw [if_neg q] at h1
        exact h1.elim
    | ok d3 S3 =>
      have h1 : Out X.K A (rlV X.K A) W σ F m S H (if d3.isNon = true then mkC S.c.length S.fl S3 (getc S3.c S.c.length) else .bad) Q := h
      by_cases q : d3.isNon = true
      · rw [if_pos q] at h1
        have e3 : d3 = .non := by cases d3 <;> first | rfl | cases q
        subst e3
        intro F3 m3 H3 b x3 sr3 rb
        have eb : b = .non := rb
        refine ⟨eb, ?_⟩
        cases g : getc S3.c S.c.length with
        | none => rw [g] at h1; exact h1.elim
        | some cell =>
          rw [g] at h1
          cases cell with
          | ins c' l =>
            have h2 : Out X.K A (rlV X.K A) W σ F m S H (if (D.ins c' l).lt S.c.length = true then .ok (.ins c' l) ⟨S3.c.drop (S3.c.length - S.c.length), S.fl⟩ else .bad) Q := h1
            by_cases z : (D.ins c' l).lt S.c.length = true
            · rw [if_pos z] at h2
              obtain ⟨dx, fs, g1, g2, g3⟩ := sr3.cel _ _ g
              have xx := x2.trans x3
              obtain ⟨s4, x4⟩ := SR.freeze sr3 g rfl g1
              have em : m3 S.c.length = s.heap.objs.size + 1 := by
                rw [x3.ag _ hle2, mx_new]
              -- forget the cell: dropping needs no knowledge of the region's cells
              have eqd : (putS S3 S.c.length .dead).c.drop ((putS S3 S.c.length .dead).c.length - S.c.length) = S3.c.drop (S3.c.length - S.c.length) := by
                have hlt : S.c.length < S3.c.length := getc_lt g
                show (setc S3.c S.c.length .dead).drop ((setc S3.c S.c.length .dead).length - S.c.length) = _
                rw [setc_length]
                exact setc_drop _ _ _ (Nat.le_of_lt hlt)
              have s5 := SR.lower sr (xx.trans x4) s4
              have x5 := Ext.lower sr (xx.trans x4)
              rw [eqd] at s5 x5
              refine h2 _ _ _ (.ref (s.heap.objs.size + 1)) x5 s5 ⟨s.heap.objs.size + 1, dx, fs, rfl, ?_, ?_⟩
              · rw [← em]
                exact upd_same
              · rw [drop_len xx]
                have z' : D.ltF S.c.length l = true := z
                exact RVf.less (fun _ _ => rfl) l fs z' (RVf.mono x4.sub (fun _ _ => rfl) (Nat.le_refl _) l fs g3)
            · rw [if_neg z] at h2
              exact h2.elim
          | _ => exact h1.elim
      · rw [if_neg q] at h1
        exact h1.elim
  · rw [if_neg fz] at h
    obtain ⟨s2, x2⟩ := step S.fl sr.flo
    refine go S.fl Q sr.flo ?_
    have x2' : Ext F m S H F (mx m S.c.length (s.heap.objs.size + 1)) ⟨.ins c [] :: S.c, S.fl⟩ _ := x2
    refine Out.imp (Out.bind (Out.later h x2')) fun b H3 ⟨d3, S3, F3, m3, _, x3, sr3, rb, h3⟩ => ?_
    have h1 : Out X.K A (rlV X.K A) W σ F3 m3 S3 H3 (if d3.isNon = true then .ok (.ref S.c.length) S3 else .bad) Q := h3
    by_cases q : d3.isNon = true
    · rw [if_pos q] at h1
      have e3 : d3 = .non := by cases d3 <;> first | rfl | cases q
      subst e3
      refine ⟨rb, Out.here h1 sr3 ⟨Nat.lt_of_lt_of_le (Nat.lt_succ_self S.c.length) x3.le, ?_⟩⟩
      rw [x3.ag _ (Nat.lt_succ_self S.c.length), mx_new]
    · rw [if_neg q] at h1
      exact h1.elim
theorem mi_mk (fx : FX X A T k fa) (tk : Takes X W) {c f : Nat} {d : ClsD} (hd : T.cls[c]? = some d) (hi : d.init = some f) (M : Mk X.K (A.cls c) (fa f)) {x : Str} {p : Pos} {a : Expr} {es : List Expr} {g : Mi.Env → Sto → R (List D)} (hg : Gl X x) (hm : X.mg x = some (.ref (A.cls c)))
    (hdb : (x == ("__debug__" : Str)) = false) (hf : (a :: es).all fine = true) (ha : PA X (a :: es) (EL X A W g)) : PE X (.Call (.Name x p) (a :: es) [] pos) (EV X A W fun e S => (g e S).bind fun ds S => make T (callF T k) c ds S) := by
  rw [List.all_cons] at hf
  obtain ⟨hf1, hf2⟩ := Bool.and_eq_true_iff.mp hf
  refine ⟨fun pins s σ H Q I ⟨e, S, F, m, sr, er, h⟩ => ?_⟩
  refine wpAny_Call_Name_kw (ld_glob I hg hm ?_ hdb)
  refine PySem.W.callWith_K (h₀ := X.base) I.ok.mod.kin M.kp (thn (ha.run pos pins s σ H _ I ⟨e, S, F, m, sr, er, Out.bind h⟩) fun us s1 ⟨vs, H1, I1, r, ds, S1, F1, m1, _, x1, sr1, rs, h1⟩ => ⟨I1.kIn, ?_⟩) (star_plain hf1) (back_plain hf2)
  exact run_mk fx tk hd hi M I1 r sr1 rs h1
theorem mi_mk0 (fx : FX X A T k fa) (tk : Takes X W) {c f : Nat} {d : ClsD} (hd : T.cls[c]? = some d) (hi : d.init = some f) (M : Mk X.K (A.cls c) (fa f)) {x : Str} {p : Pos} (hg : Gl X x) (hm : X.mg x = some (.ref (A.cls c)))
    (hdb : (x == ("__debug__" : Str)) = false) : PE X (.Call (.Name x p) [] [] pos) (EV X A W fun e S => (R.ok [] S : R (List D)).bind fun ds S => make T (callF T k) c ds S) := by
  refine ⟨fun pins s σ H Q I ⟨e, S, F, m, sr, er, h⟩ => ?_⟩
  refine wpAny_Call_Name_kw (ld_glob I hg hm ?_ hdb)
  exact PySem.W.callWith_K0 I.kIn M.kp (run_mk fx tk hd hi M (ds := []) (us := []) (vs := []) I .nil sr rfl h)
/-! ### methods -/
theorem mth_eval {o : Expr} {m : Str} {apos pos : Pos} {env : PySem.Env} {args : List Expr} (hb : nosup o = true) (hl : (apos.endLine == pos.line) = true) (hf : args.all fine = true) (hn : args.length < 29) :
    eval (.Call (.Attribute o m apos) args [] pos) env = (do
      let ov ← eval o env
      standAt apos.atName
      let (f, first) ← holding [ov] (getMethod ov m (do return (← importBound o env).getD true))
      callWith pos f first (backTo pos (starEach args env)) (backToKw pos (keywordEach [] env))) := by
  have form : methodCallForm (args.length + ([] : List Keyword).length) (backTo pos (starEach args env)) (backToKw pos (keywordEach [] env)) = true := by
    show ((backTo pos (starEach args env)).all (fun x => !x.1) && true && decide (args.length + 0 + 0 < 30)) = true
    rw [back_few hf, decide_eq_true (by omega)] <;> rfl
  show (do
    let ov ← attributeBase o m env (eval o env)
    standAt apos.atName
    methodCall o m apos pos env ov (args.length + ([] : List Keyword).length) (backTo pos (starEach args env)) (backToKw pos (keywordEach [] env))) = _
  rw [nosup_base hb]
  unfold methodCall
  rw [form]
  unfold methodCallPos
  rw [hl]
  rfl
structure GM (K : PySem.W.Frag) (A : Nm) (T : Tab) (fa : Nat → Addr) : Prop where
  inj : ∀ i j, A.att i = A.att j → i = j
  mth : ∀ c m f, findM T DEEP c m = some f → Cls K (A.cls c) ∧ Meth K (A.cls c) (A.att m) (fa f)
theorem mth_ok {K F m S H} (g : GM K A T fa) {n f : Nat} {x : D} {v : V} (sr : SR K A F m S H) (hv : RV K A F m S.c.length x v) (e : ((clsOf S x n).bind fun c => findM T DEEP c n) = some f) :
    ∃ a C dx fs, v = .ref a ∧ H a = some (.ins C dx fs) ∧ Cls K C ∧ Meth K C (A.att n) (fa f) ∧ fs.lookup (A.att n) = none := by
  unfold clsOf at e
  cases q : deref S x with
  | none => rw [q] at e; cases e
  | some y =>
    rw [q] at e
    have h := deref_ok sr hv q
    cases y with
    | ins c l =>
      obtain ⟨a, dx, fs, ea, hH, hr⟩ := h
      have e' : ((if (l.lookup n).isNone = true then some c else none).bind fun c => findM T DEEP c n) = some f := e
      by_cases z : (l.lookup n).isNone = true
      · rw [if_pos z] at e'
        obtain ⟨g1, g2⟩ := g.mth c n f e'
        exact ⟨a, _, dx, fs, ea, hH, g1, g2, RVf.none g.inj hr (Option.isNone_iff_eq_none.mp z)⟩
      · rw [if_neg z] at e'
        cases e'
    | _ => cases e
theorem mi_mth (fx : FX X A T k fa) (tk : Takes X W) (gm : GM X.K A T fa) {n : Nat} {o a : Expr} {es : List Expr} {apos : Pos} {f : Mi.Env → Sto → R D} {g : Mi.Env → Sto → R (List D)} (hf : (a :: es).all fine = true) (ho : PE X o (EV X A W f)) (ha : PA X (a :: es) (EL X A W g))
    {pl : Sem Bool} (ht : eval (.Call (.Attribute o (A.att n) apos) (a :: es) [] pos) X.env = (do
      let ov ← eval o X.env
      standAt apos.atName
      let (f, first) ← holding [ov] (getMethod ov (A.att n) pl)
      callWith pos f first (backTo pos (starEach (a :: es) X.env)) (backToKw pos (keywordEach [] X.env)))) :
    PE X (.Call (.Attribute o (A.att n) apos) (a :: es) [] pos) (EV X A W fun e S => (f e S).bind fun x S => (R.of S ((clsOf S x n).bind fun c => findM T DEEP c n)).bind fun j S => (g e S).bind fun ds S => callF T k j (x :: ds) S) := by
  rw [List.all_cons] at hf
  obtain ⟨hf1, hf2⟩ := Bool.and_eq_true_iff.mp hf
  refine ⟨fun pins s σ H Q I ⟨e, S, F, m, sr, er, h⟩ => ?_⟩
  refine PySem.W.methodCall_KW (pl := pl) (thn (ho.run pins s σ H _ I ⟨e, S, F, m, sr, er, Out.bind h⟩) fun u s1 ⟨x, H1, I1, rx, dx, S1, F1, m1, _, x1, sr1, rv, h1⟩ => ?_) ht
  cases q : (clsOf S1 dx n).bind fun c => findM T DEEP c n with
  | none => rw [q] at h1; exact h1.elim
  | some j =>
    rw [q] at h1
    obtain ⟨a', C, dx', fs, ea, hH, hc, hm, hl⟩ := mth_ok gm sr1 rv q
    subst ea
    obtain rfl : u = Value.ref a' := rx
    have h2 : Out X.K A (rlV X.K A) W σ F1 m1 S1 H1 ((g e S1).bind fun ds S => callF T k j (dx :: ds) S) Q := h1
    refine getmeth_ok I1 hH hc hm hl ?_
    refine PySem.W.callWith_K (first := [.ref a']) (h₀ := X.base) I.ok.mod.kin hm.kp (thn (ha.run pos pins s1 σ H1 _ I1 ⟨e, S1, F1, m1, sr1, er.mono x1, Out.bind h2⟩) fun us s2 ⟨vs, H2, I2, r, ds, S2, F2, m2, _, x2, sr2, rs, h3⟩ => ⟨I2.kIn, ?_⟩) (star_plain hf1) (back_plain hf2)
    exact (run_cl fx tk (us := .ref a' :: us) (vs := .ref a' :: vs) (ds := dx :: ds) I2 (.cons rfl r) sr2 ⟨_, _, rfl, x2.rv rv, rs⟩ h3).2
theorem mi_mth0 (fx : FX X A T k fa) (tk : Takes X W) (gm : GM X.K A T fa) {n : Nat} {o : Expr} {apos : Pos} {f : Mi.Env → Sto → R D} (ho : PE X o (EV X A W f))
    {pl : Sem Bool} (ht : eval (.Call (.Attribute o (A.att n) apos) [] [] pos) X.env = (do
      let ov ← eval o X.env
      standAt apos.atName
      let (f, first) ← holding [ov] (getMethod ov (A.att n) pl)
      callWith pos f first (backTo pos (starEach [] X.env)) (backToKw pos (keywordEach [] X.env)))) :
    PE X (.Call (.Attribute o (A.att n) apos) [] [] pos) (EV X A W fun e S => (f e S).bind fun x S => (R.of S ((clsOf S x n).bind fun c => findM T DEEP c n)).bind fun j S => (R.ok [] S : R (List D)).bind fun ds S => callF T k j (x :: ds) S) := by
  refine ⟨fun pins s σ H Q I ⟨e, S, F, m, sr, er, h⟩ => ?_⟩
  refine PySem.W.methodCall_KW (pl := pl) (thn (ho.run pins s σ H _ I ⟨e, S, F, m, sr, er, Out.bind h⟩) fun u s1 ⟨x, H1, I1, rx, dx, S1, F1, m1, _, x1, sr1, rv, h1⟩ => ?_) ht
  cases q : (clsOf S1 dx n).bind fun c => findM T DEEP c n with
  | none => rw [q] at h1; exact h1.elim
  | some j =>
    rw [q] at h1
    obtain ⟨a', C, dx', fs, ea, hH, hc, hm, hl⟩ := mth_ok gm sr1 rv q
    subst ea
    obtain rfl : u = Value.ref a' := rx
    have h2 : Out X.K A (rlV X.K A) W σ F1 m1 S1 H1 (callF T k j [dx] S1) Q := h1
    refine getmeth_ok I1 hH hc hm hl ?_
    exact PySem.W.callWith_K0 (first := [.ref a']) I1.kIn hm.kp (run_cl fx tk (us := [.ref a']) (vs := [.ref a']) (ds := [dx]) I1 (.cons rfl .nil) sr1 ⟨_, _, rfl, rv, rfl⟩ h2).2
end
end Mi
/-! Mi: targets, iterables. -/
namespace Mi
open PySem PySem.Spec PyProof.Rows L2 TL

section
variable {K : PySem.W.Frag} {A : Nm} {F : Hp} {m : Nat → Addr} {n : Nat}
theorem ER.set {e : Mi.Env} {σ : L2.St} (er : ER K A F m n e σ) (i : Nat) {d : D} {v : V} (r : RV K A F m n d v) : ER K A F m n (e.set i (some d)) (σ.set i (some v)) := by
  refine ⟨by rw [List.length_set, List.length_set]; exact er.len, fun j d' h => ?_⟩
  by_cases q : i = j
  · subst q
    by_cases l : i < e.length
    · rw [List.getElem?_set_self l] at h
      cases h
      exact ⟨v, List.getElem?_set_self (by rw [← er.len]; exact l), r⟩
    · rw [List.getElem?_eq_none (by rw [List.length_set]; omega)] at h
      cases h
  · rw [List.getElem?_set_ne q] at h
    rw [List.getElem?_set_ne q]
    exact er.get j d' h
theorem ER.gone {e : Mi.Env} {σ : L2.St} (er : ER K A F m n e σ) (i : Nat) : ER K A F m n (e.set i none) (σ.set i none) := by
  refine ⟨by rw [List.length_set, List.length_set]; exact er.len, fun j d' h => ?_⟩
  by_cases q : i = j
  · subst q
    by_cases l : i < e.length
    · rw [List.getElem?_set_self l] at h
      cases h
    · rw [List.getElem?_eq_none (by rw [List.length_set]; omega)] at h
      cases h
  · rw [List.getElem?_set_ne q] at h
    rw [List.getElem?_set_ne q]
    exact er.get j d' h
theorem ER.wipe {e : Mi.Env} {σ : L2.St} (er : ER K A F m n e σ) : ∀ vs : List Nat, ER K A F m n (wipeL e vs) (L2.wipe σ vs)
  | [] => er
  | v :: vs => (ER.wipe er vs).gone v
/-- the values of several names -/
def setV (σ : L2.St) : List Nat → List V → L2.St
  | i :: is, v :: vs => setV (σ.set i (some v)) is vs
  | _, _ => σ
theorem ER.setN : ∀ (is : List Nat) {e : Mi.Env} {σ : L2.St} {ds : List D} {vs : List V}, ER K A F m n e σ → RVs K A F m n ds vs → ER K A F m n (Mi.setN e is ds) (setV σ is vs)
  | [], _, _, ds, vs, er, _ => by cases vs <;> exact er
  | i :: is, _, _, [], vs, er, h => by cases (show vs = [] from h); exact er
  | i :: is, _, _, d :: ds, _, er, ⟨v, vs, e, h1, h2⟩ => by
    rw [e]
    exact ER.setN is (er.set i h1) h2
theorem wipe_set {σ : L2.St} {o : Option V} : ∀ {vs : List Nat} {i : Nat}, i ∈ vs → L2.wipe (σ.set i o) vs = L2.wipe σ vs := by
  have key : ∀ (vs : List Nat) (i : Nat) (σ : L2.St) (o : Option V), L2.wipe (σ.set i o) vs = if i ∈ vs then L2.wipe σ vs else (L2.wipe σ vs).set i o := fun vs => by
    induction vs with
    | nil => intro i σ o; rfl
    | cons v vs ih =>
      intro i σ o
      show (L2.wipe (σ.set i o) vs).set v none = _
      rw [ih]
      by_cases q : i ∈ vs
      · rw [if_pos q, if_pos (List.mem_cons_of_mem _ q)]
        rfl
      · rw [if_neg q]
        by_cases z : i = v
        · subst z
          rw [if_pos List.mem_cons_self, List.set_set]
          rfl
        · rw [if_neg (fun h => by rcases List.mem_cons.mp h with h | h; exact z h; exact q h), List.set_comm _ _ (Ne.symm (Ne.symm z))]
          rfl
  intro vs i h
  rw [key, if_pos h]
theorem wipe_setV : ∀ (is : List Nat) {σ : L2.St} {ws : List V} {vs : List Nat}, (∀ i ∈ is, i ∈ vs) → L2.wipe (setV σ is ws) vs = L2.wipe σ vs
  | [], _, ws, _, _ => by cases ws <;> rfl
  | i :: is, _, [], _, _ => rfl
  | i :: is, _, w :: ws, vs, h => by
    show L2.wipe (setV _ is ws) vs = _
    rw [wipe_setV is fun j hj => h j (List.mem_cons_of_mem _ hj)]
    exact wipe_set (h i List.mem_cons_self)
theorem wipe_wipe (σ : L2.St) (vs : List Nat) : L2.wipe (L2.wipe σ vs) vs = L2.wipe σ vs := by
  have key : ∀ (us : List Nat), (∀ i ∈ us, i ∈ vs) → L2.wipe (L2.wipe σ us) vs = L2.wipe σ vs := fun us => by
    induction us with
    | nil => intro _; rfl
    | cons v us ih =>
      intro h
      show L2.wipe ((L2.wipe σ us).set v none) vs = _
      rw [wipe_set (h v List.mem_cons_self)]
      exact ih fun i hi => h i (List.mem_cons_of_mem _ hi)
  exact key vs fun i hi => hi
end

/-! ### targets -/
/-- a name that may be stored at its slot -/
def TgN (X : Cx) (i : Nat) (x : Str) : Prop := X.N[i]? = some x ∧ Loc X.env.scope x ∧ (X.fn x = true ∨ X.env.scope.names.lookup x = some .local)
def nameOf : Expr → Option Str
  | .Name x _ => some x
  | _ => none
section
variable {X : Cx} {A : Nm} {W : WX} {pos : Pos}
def gNames (is : List Nat) : TGs := fun vs σ H Q => vs.length = is.length ∧ Q (setV σ is vs) H
theorem pgs_names (hN : X.N.Nodup) : ∀ {is : List Nat} {es : List Expr}, Paired (fun i e => ∃ x p, e = .Name x p ∧ TgN X i x) is es → PGs X es (gNames is)
  | _, _, .nil => by
    refine ⟨fun pins s σ H vs us Q I r h => ?_⟩
    cases vs with
    | nil => exact pgs_nil.run pins s σ H [] us Q I r ⟨rfl, h.2⟩
    | cons v vs => exact nomatch h.1
  | i :: is, e :: es, .cons h r => by
    obtain ⟨x, p, rfl, h1, h2, h3⟩ := h
    have ih := pgs_names hN r
    refine ⟨fun pins s σ H vs us Q I rv hq => ?_⟩
    refine (pgs_cons (pg_name hN h1 h2 h3) ih rfl).run pins s σ H vs us Q I rv ?_
    cases vs with
    | nil => exact nomatch hq.1
    | cons v vs => exact ⟨v, vs, rfl, Nat.succ.inj hq.1, hq.2⟩
/-- a target's tree -/
def TgE (X : Cx) : Tg → Expr → Prop
  | .one i, e => ∃ x p, e = .Name x p ∧ TgN X i x
  | .many is, e => ∃ es k p, e = .Tuple es k p ∧ Paired (fun i e => ∃ x p, e = .Name x p ∧ TgN X i x) is es
def gT (K : PySem.W.Frag) (A : Nm) (tg : Tg) : TG := fun v σ H Q => ∃ e d S F m e', SR K A F m S H ∧ ER K A F m S.c.length e σ ∧ RV K A F m S.c.length d v ∧ bindT tg e d = some e' ∧ ∀ σ', ER K A F m S.c.length e' σ' → (∀ vs, (∀ i ∈ tg.slots, i ∈ vs) → L2.wipe σ' vs = L2.wipe σ vs) → Q σ' H
theorem assignEach_names : ∀ {is : List Nat} {es : List Expr} {env : PySem.Env}, Paired (fun i e => ∃ x p, e = .Name x p ∧ TgN X i x) is es → (assignEach es env).length = is.length ∧ (assignEach es env).findIdx? (·.1) = none
  | _, _, _, .nil => ⟨rfl, rfl⟩
  | i :: is, e :: es, env, .cons h r => by
    obtain ⟨x, p, rfl, _⟩ := h
    obtain ⟨h1, h2⟩ := assignEach_names (env := env) r
    refine ⟨?_, ?_⟩
    · show (assignEach es env).length + 1 = is.length + 1
      rw [h1]
    · show ((false, assign (.Name x p) env) :: assignEach es env).findIdx? (·.1) = none
      rw [List.findIdx?_cons, h2] <;> rfl
theorem pg_tg (hc : X.calm = true) (hN : X.N.Nodup) {tg : Tg} {e : Expr} (h : TgE X tg e) : PG X e (gT X.K A tg) := by
  cases tg with
  | one i =>
    obtain ⟨x, p, rfl, h1, h2, h3⟩ := h
    refine ⟨fun pins s σ H v u Q I r ⟨e, d, S, F, m, e', sr, er, rv, eb, hq⟩ => (pg_name hN h1 h2 h3).run pins s σ H v u Q I r ?_⟩
    have e1 : some (e.set i (some d)) = some e' := eb
    cases e1
    exact hq _ (er.set i rv) fun vs hv => wipe_set (hv i (List.mem_singleton.mpr rfl))
  | many is =>
    obtain ⟨es, k, p, rfl, hp⟩ := h
    obtain ⟨l1, l2⟩ := assignEach_names (env := X.env) hp
    refine ⟨fun pins s σ H v u Q I r ⟨e, d, S, F, m, e', sr, er, rv, eb, hq⟩ => (pg_tup (n := is.length) hc (pgs_names hN hp) l1 l2).run pins s σ H v u Q I r ?_⟩
    cases d with
    | tup l =>
      have e1 : (if l.length = is.length then some (Mi.setN e is l) else none) = some e' := eb
      by_cases q : l.length = is.length
      · rw [if_pos q] at e1
        cases e1
        obtain ⟨a, us, ea, hs, hl, rs⟩ := rv
        have hus : us.length = is.length := (RVs.length rs).trans q
        exact ⟨a, us, ea, same_sqT sr.sub hs, hus, hus, hq _ (ER.setN is er rs) fun vs hv => wipe_setV is hv⟩
      · rw [if_neg q] at e1
        cases e1
    | _ => exact nomatch (show none = some e' from eb)
end

/-! ### iterables -/
/-- what values need of a later state -/
structure Exw (F : Hp) (m : Nat → Addr) (S : Sto) (F' : Hp) (m' : Nat → Addr) (S' : Sto) : Prop where
  sub : Same F F'
  ag : ∀ l, l < S.c.length → m' l = m l
  le : S.c.length ≤ S'.c.length
theorem Ext.w {F m S H F' m' S' H'} (x : Ext F m S H F' m' S' H') : Exw F m S F' m' S' := ⟨x.sub, x.ag, x.le⟩
theorem Exw.trans {F m S F1 m1 S1 F2 m2 S2} (a : Exw F m S F1 m1 S1) (b : Exw F1 m1 S1 F2 m2 S2) : Exw F m S F2 m2 S2 := ⟨a.sub.trans b.sub, fun l h => (b.ag l (Nat.lt_of_lt_of_le h a.le)).trans (a.ag l h), Nat.le_trans a.le b.le⟩
theorem Exw.rv {K A F m S F' m' S' d v} (x : Exw F m S F' m' S') (h : RV K A F m S.c.length d v) : RV K A F' m' S'.c.length d v := RV.mono x.sub x.ag x.le d v h
theorem Exw.rvs {K A F m S F' m' S' d v} (x : Exw F m S F' m' S') (h : RVs K A F m S.c.length d v) : RVs K A F' m' S'.c.length d v := RVs.mono x.sub x.ag x.le d v h
theorem ER.monow {K A F m S F' m' S' e σ} (er : ER K A F m S.c.length e σ) (x : Exw F m S F' m' S') : ER K A F' m' S'.c.length e σ :=
  ⟨er.len, fun i d h => by
    obtain ⟨v, h1, h2⟩ := er.get i d h
    exact ⟨v, h1, x.rv h2⟩⟩
/-- the iterator gives what the evaluator walks -/
def Wk (K : PySem.W.Frag) (A : Nm) (J : It) (it : Itd) (F : Hp) (m : Nat → Addr) (S : Sto) : Prop := ∀ F' m' S' H', Exw F m S F' m' S' → SR K A F' m' S' H' → ∀ i, match itAt it S' i with
  | none => True
  | some none => J.stop i H'
  | some (some d) => J.go i H' ∧ ∀ x H'', J.yld i H' x H'' → ∃ F'', SR K A F'' m' S' H'' ∧ Ext F' m' S' H' F'' m' S' H'' ∧ RV K A F'' m' S'.c.length d x
theorem Wk.later {K A J it F m S F1 m1 S1} (w : Wk K A J it F m S) (x : Exw F m S F1 m1 S1) : Wk K A J it F1 m1 S1 := fun F' m' S' H' x' sr i => w F' m' S' H' (x.trans x') sr i
def OutI (K : PySem.W.Frag) (A : Nm) (W : WX) (σ : L2.St) (F : Hp) (m : Nat → Addr) (S : Sto) (H : Hp) (r : R Itd) (Q : It → Hp → Prop) : Prop := match r with
  | .ok it S' => ∀ F' m' H' J, Ext F m S H F' m' S' H' → SR K A F' m' S' H' → Wk K A J it F' m' S' → Q J H'
  | .ex c v S' => ∀ F' m' H' dd fs, Ext F m S H F' m' S' H' → SR K A F' m' S' H' → F' dd = some (.xd fs) → RVf K A F' m' S'.c.length v fs → W (.ref (A.exc c)) (some dd) σ H'
  | .bad => False
theorem OutI.imp {K A W σ F m S H r} {Q Q' : It → Hp → Prop} (h : OutI K A W σ F m S H r Q) (q : ∀ b H1, Q b H1 → Q' b H1) : OutI K A W σ F m S H r Q' := by
  cases r with
  | ok a S' => exact fun F' m' H' b e s z => q b H' (h F' m' H' b e s z)
  | ex c v S' => exact h
  | bad => exact h
theorem OutI.later {K A W σ F m S H F' m' S' H' r} {Q : It → Hp → Prop} (h : OutI K A W σ F m S H r Q) (e0 : Ext F m S H F' m' S' H') : OutI K A W σ F' m' S' H' r Q := by
  cases r with
  | ok a S' => exact fun F' m' H' b e s z => h F' m' H' b (e0.trans e) s z
  | ex c v S' => exact fun F' m' H' dd fs e s z => h F' m' H' dd fs (e0.trans e) s z
  | bad => exact h
/-- a value first, then the iterable made of it -/
theorem OutI.bind {β : Type} {K : PySem.W.Frag} {A : Nm} {W : WX} {σ : L2.St} {F : Hp} {m : Nat → Addr} {S : Sto} {H : Hp} {α : Type} {rl : Rl α β} {r : R α} {f : α → Sto → R Itd} {Q : It → Hp → Prop} (h : OutI K A W σ F m S H (r.bind f) Q) :
    Out K A rl W σ F m S H r fun b H1 => ∃ a S1 F1 m1, r = .ok a S1 ∧ Ext F m S H F1 m1 S1 H1 ∧ SR K A F1 m1 S1 H1 ∧ rl F1 m1 S1.c.length a b ∧ OutI K A W σ F1 m1 S1 H1 (f a S1) Q := by
  cases r with
  | ok a S1 => exact fun F1 m1 H1 b e s z => ⟨a, S1, F1, m1, rfl, e, s, z, OutI.later h e⟩
  | ex c v S' => exact h
  | bad => exact h
/-- an iterable first, then what is done with it -/
theorem Out.bindI {K A W σ F m S H} {γ δ : Type} {rl : Rl γ δ} {r : R Itd} {f : Itd → Sto → R γ} {Q : δ → Hp → Prop} (h : Out K A rl W σ F m S H (r.bind f) Q) :
    OutI K A W σ F m S H r fun J H1 => ∃ it S1 F1 m1, r = .ok it S1 ∧ Ext F m S H F1 m1 S1 H1 ∧ SR K A F1 m1 S1 H1 ∧ Wk K A J it F1 m1 S1 ∧ Out K A rl W σ F1 m1 S1 H1 (f it S1) Q := by
  cases r with
  | ok a S1 => exact fun F1 m1 H1 b e s z => ⟨a, S1, F1, m1, rfl, e, s, z, Out.later h e⟩
  | ex c v S' => exact h
  | bad => exact h
def EI (X : Cx) (A : Nm) (W : WX) (f : Mi.Env → Sto → R Itd) : TI := fun σ H R => ∃ e S F m, SR X.K A F m S H ∧ ER X.K A F m S.c.length e σ ∧ OutI X.K A W σ F m S H (f e S) R
theorem PI.imp {X : Cx} {tg e : Expr} {t t' : TI} (h : PI X tg e t) (hi : ∀ σ H R, t' σ H R → t σ H R) : PI X tg e t' := ⟨fun pins s σ H R I w => h.run pins s σ H R I (hi _ _ _ w)⟩
section
variable {K : PySem.W.Frag} {A : Nm} {F : Hp} {m : Nat → Addr} {S : Sto} {H : Hp}
theorem wk_same {J : It} {l : List D} {us : List V} (rs : RVs K A F m S.c.length l us) (hst : ∀ H', Same F H' → J.stop us.length H' ∧ (∀ i, us.length ≤ i → J.stop i H'))
    (hgo : ∀ H' i v, Same F H' → us[i]? = some v → J.go i H' ∧ ∀ x H'', J.yld i H' x H'' → H'' = H' ∧ x = v) : Wk K A J (.fix l) F m S := fun F' m' S' H' x sr i => by
  show match some l[i]? with
    | none => True
    | some none => J.stop i H'
    | some (some d) => _
  have sF : Same F H' := x.sub.trans sr.sub
  cases q : l[i]? with
  | none =>
    refine (hst H' sF).2 i ?_
    rw [RVs.length rs]
    exact List.getElem?_eq_none_iff.mp q
  | some d =>
    obtain ⟨v, h1, h2⟩ := RVs.get rs q
    obtain ⟨g1, g2⟩ := hgo H' i v sF h1
    refine ⟨g1, fun y H'' hy => ?_⟩
    obtain ⟨e1, e2⟩ := g2 y H'' hy
    subst e1 e2
    exact ⟨F', sr, Ext.refl, x.rv h2⟩
theorem wk_list {a : Addr} {l : List D} {us : List V} (hs : SqL K F a us) (rs : RVs K A F m S.c.length l us) : Wk K A (Itl K a) (.fix l) F m S :=
  wk_same rs (fun H' sF => ⟨⟨us, same_sqL sF hs, Nat.le_refl _⟩, fun i hi => ⟨us, same_sqL sF hs, hi⟩⟩) fun H' i v sF hv => ⟨⟨us, v, same_sqL sF hs, hv⟩, fun x H'' ⟨e1, e2⟩ => ⟨e1, by
    have := e2 us (same_sqL sF hs)
    rw [hv] at this
    exact (Option.some.inj this).symm⟩⟩
theorem wk_tup {a : Addr} {l : List D} {us : List V} (hs : SqT K F a us) (rs : RVs K A F m S.c.length l us) : Wk K A (Itt K a) (.fix l) F m S :=
  wk_same rs (fun H' sF => ⟨⟨us, same_sqT sF hs, Nat.le_refl _⟩, fun i hi => ⟨us, same_sqT sF hs, hi⟩⟩) fun H' i v sF hv => ⟨⟨us, v, same_sqT sF hs, hv⟩, fun x H'' ⟨e1, e2⟩ => ⟨e1, by
    have := e2 us (same_sqT sF hs)
    rw [hv] at this
    exact (Option.some.inj this).symm⟩⟩
theorem wk_live {n : Nat} (hn : n < S.c.length) : Wk K A (Itl K (m n)) (.live n) F m S := fun F' m' S' H' x sr i => by
  have em : m' n = m n := x.ag n hn
  show match (match getc S'.c n with
      | some (.lst l) => some l[i]?
      | _ => none) with
    | none => True
    | some none => _
    | some (some d) => _
  cases q : getc S'.c n with
  | none => exact True.intro
  | some c =>
    cases c with
    | lst l =>
      obtain ⟨us, h1, h2, h3, _, _⟩ := cell_lst sr q
      rw [em] at h1
      show match some l[i]? with
        | none => True
        | some none => _
        | some (some d) => _
      cases z : l[i]? with
      | none =>
        refine ⟨us, SqL.of h1, ?_⟩
        rw [RVs.length h3]
        exact List.getElem?_eq_none_iff.mp z
      | some d =>
        obtain ⟨v, g1, g2⟩ := RVs.get h3 z
        refine ⟨⟨us, v, SqL.of h1, g1⟩, fun y H'' ⟨e1, e2⟩ => ?_⟩
        have := e2 us (SqL.of h1)
        rw [g1] at this
        cases this
        subst e1
        exact ⟨F', sr, Ext.refl, g2⟩
    | _ => exact True.intro
theorem wk_str {x : Str} (hx : sOk x) : Wk K A (Its x) (.fix (x.cps.toList.map fun c => .str ⟨#[c]⟩)) F m S := fun F' m' S' H' ext sr i => by
  show match some (x.cps.toList.map fun c => D.str ⟨#[c]⟩)[i]? with
    | none => True
    | some none => _
    | some (some d) => _
  rw [List.getElem?_map]
  cases q : x.cps.toList[i]? with
  | none =>
    have := List.getElem?_eq_none_iff.mp q
    rw [Array.length_toList] at this
    exact this
  | some c =>
    have q' : x.cps[i]? = some c := by rw [← q, Array.getElem?_toList]
    have hi : i < x.cps.size := (Array.getElem?_eq_some_iff.mp q').1
    refine ⟨hi, fun y H'' ⟨e1, c', e2, e3⟩ => ?_⟩
    rw [q'] at e2
    cases e2
    subst e1 e3
    exact ⟨F', sr, Ext.refl, rfl, str_sign hx q⟩
theorem wk_range {lo : Int} {n : Nat} : Wk K A (Itr lo n) (.fix (rangeL lo n)) F m S := fun F' m' S' H' ext sr i => by
  show match some (rangeL lo n)[i]? with
    | none => True
    | some none => _
    | some (some d) => _
  unfold rangeL
  rw [List.getElem?_map]
  by_cases h : i < n
  · rw [List.getElem?_range h]
    refine ⟨h, fun y H'' ⟨e1, e2⟩ => ?_⟩
    subst e1 e2
    exact ⟨F', sr, Ext.refl, rfl⟩
  · rw [List.getElem?_eq_none (by rw [List.length_range]; omega)]
    exact Nat.le_of_not_lt h
theorem wk_enum {a : Addr} {l : List D} {us : List V} (hs : SqL K F a us) (rs : RVs K A F m S.c.length l us) : Wk K A (Ite K a) (.fix (enumL l)) F m S := fun F' m' S' H' x sr i => by
  have sF : Same F H' := x.sub.trans sr.sub
  show match some (enumL l)[i]? with
    | none => True
    | some none => _
    | some (some d) => _
  have hz : (enumL l)[i]? = (l[i]?).map fun d => .tup [.int i, d] := by
    unfold enumL
    rw [List.getElem?_map]
    cases q : l[i]? with
    | none =>
      rw [List.getElem?_eq_none (by
        rw [List.length_zip, List.length_range]
        have := List.getElem?_eq_none_iff.mp q
        omega)] <;> rfl
    | some d =>
      have hi := (List.getElem?_eq_some_iff.mp q).1
      rw [List.getElem?_zip_eq_some (z := (i, d)) |>.mpr ⟨List.getElem?_range hi, q⟩] <;> rfl
  rw [hz]
  cases q : l[i]? with
  | none =>
    refine ⟨us, same_sqL sF hs, ?_⟩
    rw [RVs.length rs]
    exact List.getElem?_eq_none_iff.mp q
  | some d =>
    obtain ⟨v, h1, h2⟩ := RVs.get rs q
    refine ⟨⟨us, v, same_sqL sF hs, h1⟩, fun y H'' ⟨T, w, e1, e2, e3, e4⟩ => ?_⟩
    have := e4 us (same_sqL sF hs)
    rw [h1] at this
    cases this
    subst e1 e3
    obtain ⟨s2, x2⟩ := sr.new (o := .tup [.int (i : Nat), v]) e2
    exact ⟨_, s2, x2, T, _, rfl, .inl (.inl upd_same), by show 2 ≤ LL; decide, _, _, rfl, rfl, _, _, rfl, x2.rv (x.rv h2), rfl⟩
end
section
variable {X : Cx} {A : Nm} {W : WX} {pos : Pos} {tg : Expr}
/-- a list, a tuple, a text walked -/
def iSeq (K : PySem.W.Frag) (te : TE) : TI := fun σ H R => te σ H fun v H1 => (∃ a, v = .ref a ∧ (∃ xs, SqL K H1 a xs) ∧ R (Itl K a) H1) ∨ (∃ a, v = .ref a ∧ (∃ xs, SqT K H1 a xs) ∧ R (Itt K a) H1) ∨ ∃ x, v = .str x ∧ R (Its x) H1
theorem pi_seq {l : Expr} {tl : TE} (hl : PE X l tl) : PI X tg l (iSeq X.K tl) := by
  refine ⟨fun pins s σ H R I h => ?_⟩
  refine thn (hl.run pins s σ H _ I h) fun v s1 ⟨x, H1, I1, r1, q1⟩ => ?_
  rcases q1 with ⟨a, e, ⟨xs, hq⟩, q⟩ | ⟨a, e, ⟨xs, hq⟩, q⟩ | ⟨x, ex, q⟩
  · subst e
    cases r1
    obtain ⟨its, rv, p, hz⟩ := I1.list hq
    refine wpAny_pyIter_list p.isList ?_
    refine ⟨s1.heap.objs.size, [s1.heap.objs.size], _, _, H1, rfl, I1.kept (t' := s1.toks) fun b o e => Heap.get?_push_of_some _ e, turn_list a _, ⟨_, Heap.get?_push_size _ rfl, rfl, rfl⟩, fun b hb => ?_, q⟩
    have e : b = s1.heap.objs.size := by simpa using hb
    subst e
    exact I1.fpOk (Nat.le_refl _) (I1.hok.fresh (Nat.le_refl _))
  · subst e
    cases r1
    obtain ⟨its, rv, p, hz⟩ := I1.tuple hq
    refine wpAny_pyIter_tuple (show s1.heap.IsTuple a its.toArray from p) ?_
    refine ⟨s1.heap.objs.size, [s1.heap.objs.size], _, _, H1, rfl, I1.kept (t' := s1.toks) fun b o e => Heap.get?_push_of_some _ e, turn_tuple a _, ⟨_, Heap.get?_push_size _ rfl, rfl, rfl⟩, fun b hb => ?_, q⟩
    have e : b = s1.heap.objs.size := by simpa using hb
    subst e
    exact I1.fpOk (Nat.le_refl _) (I1.hok.fresh (Nat.le_refl _))
  · subst ex
    obtain ⟨t, rfl⟩ := r1
    cases ha : x.cps.all (· < 128)
    · exact wpAny_pyIter_wide ha (pi_one (tk := s1.toks) I1 _ (turn_str _ x t "str_iterator" (.inr rfl)) ⟨_, Heap.get?_push_size _ rfl, rfl, rfl⟩ q)
    · exact wpAny_pyIter_ascii ha (pi_one (tk := s1.toks) I1 _ (turn_str _ x t "str_ascii_iterator" (.inl rfl)) ⟨_, Heap.get?_push_size _ rfl, rfl, rfl⟩ q)
theorem it_here {K : PySem.W.Frag} {σ : L2.St} {F : Hp} {m : Nat → Addr} {S : Sto} {H : Hp} {it : Itd} {J : It} {R : It → Hp → Prop} (h : OutI K A W σ F m S H (.ok it S) R) (sr : SR K A F m S H) (w : Wk K A J it F m S) : R J H := h F m H J Ext.refl sr w
theorem ii_of {a : Expr} {f : Mi.Env → Sto → R D} (ha : PE X a (EV X A W f)) : PI X tg a (EI X A W fun e S => (f e S).bind fun x S => R.of S (iterO S x)) := by
  refine PI.imp (pi_seq ha) fun σ H Rj ⟨e, S, F, m, sr, er, h⟩ => ⟨e, S, F, m, sr, er, Out.imp (OutI.bind h) fun v H1 ⟨d, S1, F1, m1, _, x1, sr1, rv, h1⟩ => ?_⟩
  have h2 : OutI X.K A W σ F1 m1 S1 H1 (R.of S1 (itC d (deref S1 d))) Rj := h1
  cases q : deref S1 d with
  | none => rw [q] at h2; exact h2.elim
  | some y =>
    rw [q] at h2
    have g := deref_ok sr1 rv q
    cases y with
    | lst l =>
      obtain ⟨a, us, ea, hs, hl, rs⟩ := g
      left
      refine ⟨a, ea, ⟨us, hs⟩, ?_⟩
      cases d with
      | ref n =>
        have ea' : V.ref (m1 n) = V.ref a := rv.2.symm.trans ea
        cases ea'
        exact it_here (it := .live n) h2 sr1 (wk_live rv.1)
      | lst l' =>
        obtain ⟨a', us', ea', hF, hl', rs'⟩ := rv
        rw [ea] at ea'
        cases ea'
        have el : l' = l := by cases q; rfl
        subst el
        exact it_here (it := .fix l') h2 sr1 (wk_list (SqL.of hF) rs')
      | scr l' =>
        obtain ⟨a', ea', hF, hl'⟩ := rv
        rw [ea] at ea'
        cases ea'
        have el : l'.map D.int = l := by cases q; rfl
        subst el
        exact it_here (it := .fix (l'.map D.int)) h2 sr1 (wk_list hF (rvs_ints l'))
      | _ => cases q
    | tup l =>
      cases d with
      | tup l' =>
        obtain ⟨a', us', ea', hF, hl', rs'⟩ := rv
        have el : l' = l := by cases q; rfl
        subst el
        exact .inr (.inl ⟨a', ea', ⟨us', same_sqT sr1.sub hF⟩, it_here (it := .fix l') h2 sr1 (wk_tup hF rs')⟩)
      | ref n =>
        exfalso
        have e2 : (match getc S1.c n with
          | some c => derefC c
          | none => none) = some (.tup l) := q
        cases z : getc S1.c n with
        | none => rw [z] at e2; cases e2
        | some c => rw [z] at e2; cases c <;> cases e2
      | _ => cases q
    | str x =>
      obtain ⟨ev, hx⟩ := g
      exact .inr (.inr ⟨x, ev, it_here h2 sr1 (wk_str hx)⟩)
    | _ => exact h2.elim
end
end Mi
/-! Mi: comprehensions. -/
namespace Mi
open PySem PySem.Spec PyProof.Rows L2 TL

section
variable {X : Cx} {A : Nm} {W : WX} {pos : Pos} {tg : Expr}
theorem rOk_ok {i : Int} (h : rOk i = true) : -(2 ^ 62) ≤ i ∧ i < 2 ^ 62 := by
  obtain ⟨h1, h2⟩ := Bool.and_eq_true_iff.mp h
  exact ⟨of_decide_eq_true h1, of_decide_eq_true h2⟩
theorem ii_range1 {a : Expr} {p : Pos} {f : Mi.Env → Sto → R D} (hg : Gl X "range") (hm : X.mg "range" = none) (ha0 : fine a = true) (ha : PE X a (EV X A W f)) : PI X tg (.Call (.Name "range" p) [a] [] pos) (EI X A W fun e S => (f e S).bind fun x S => match x with
    | .int i => if rOk i then .ok (.fix (rangeL 0 i.toNat)) S else .bad
    | _ => .bad) := by
  refine PI.imp (pi_range1 hg hm (pa_cons ha pa_nil (star_plain ha0)) (star_plain ha0)) fun σ H Rj ⟨e, S, F, m, sr, er, h⟩ => ⟨e, S, F, m, sr, er, Out.imp (OutI.bind h) fun v H1 ⟨d, S1, F1, m1, _, x1, sr1, rv, h1⟩ => ?_⟩
  cases d with
  | int i =>
    have h2 : OutI X.K A W σ F1 m1 S1 H1 (if rOk i = true then .ok (.fix (rangeL 0 i.toNat)) S1 else .bad) Rj := h1
    by_cases c : rOk i = true
    · rw [if_pos c] at h2
      obtain ⟨c1, c2⟩ := rOk_ok c
      have ev : v = .int i := rv
      exact ⟨i, by rw [ev], c1, c2, it_here h2 sr1 wk_range⟩
    · rw [if_neg c] at h2
      exact h2.elim
  | _ => exact h1.elim
theorem ii_range2 {a b : Expr} {p : Pos} {f g : Mi.Env → Sto → R D} (hg : Gl X "range") (hm : X.mg "range" = none) (ha0 : fine a = true) (hb0 : fine b = true) (ha : PE X a (EV X A W f)) (hb : PE X b (EV X A W g)) : PI X tg (.Call (.Name "range" p) [a, b] [] pos) (EI X A W fun e S => (f e S).bind fun x S => (g e S).bind fun y S => match x, y with
    | .int i, .int j => if rOk i && rOk j then .ok (.fix (rangeL i (j - i).toNat)) S else .bad
    | _, _ => .bad) := by
  refine PI.imp (pi_range2 hg hm (pa_cons ha (pa_cons hb pa_nil (star_plain hb0)) (star_plain ha0)) (by rw [star_plain ha0, star_plain hb0]; rfl) (star_plain hb0)) fun σ H Rj ⟨e, S, F, m, sr, er, h⟩ => ⟨e, S, F, m, sr, er, Out.imp (OutI.bind h) fun v H1 ⟨d, S1, F1, m1, _, x1, sr1, rv, h1⟩ => ⟨e, S1, F1, m1, sr1, er.mono x1, Out.imp (OutI.bind h1) fun u H2 ⟨d2, S2, F2, m2, _, x2, sr2, ru, h2⟩ => ?_⟩⟩
  cases d with
  | int i =>
    cases d2 with
    | int j =>
      have h3 : OutI X.K A W σ F2 m2 S2 H2 (if (rOk i && rOk j) = true then .ok (.fix (rangeL i (j - i).toNat)) S2 else .bad) Rj := h2
      by_cases c : (rOk i && rOk j) = true
      · rw [if_pos c] at h3
        obtain ⟨c1, c2⟩ := Bool.and_eq_true_iff.mp c
        obtain ⟨k1, k2⟩ := rOk_ok c1
        obtain ⟨k3, k4⟩ := rOk_ok c2
        have ev : v = .int i := rv
        have eu : u = .int j := ru
        exact ⟨i, j, by rw [ev, eu], ⟨k1, k2, k3, k4⟩, it_here h3 sr2 wk_range⟩
      · rw [if_neg c] at h3
        exact h3.elim
    | _ => exact h2.elim
  | _ => exact h2.elim
theorem ii_enum {a : Expr} {p tpos : Pos} {elts : List Expr} {kk : Nat} {f : Mi.Env → Sto → R D} (hg : Gl X "enumerate") (hm : X.mg "enumerate" = none) (ha0 : fine a = true) (ha : PE X a (EV X A W f)) : PI X (.Tuple elts kk tpos) (.Call (.Name "enumerate" p) [a] [] pos) (EI X A W fun e S => (f e S).bind fun x S => match x with
    | .lst l => .ok (.fix (enumL l)) S
    | .scr l => .ok (.fix (enumL (l.map .int))) S
    | _ => .bad) := by
  refine PI.imp (pi_enum hg hm (pa_cons ha pa_nil (star_plain ha0)) (star_plain ha0)) fun σ H Rj ⟨e, S, F, m, sr, er, h⟩ => ⟨e, S, F, m, sr, er, Out.imp (OutI.bind h) fun v H1 ⟨d, S1, F1, m1, _, x1, sr1, rv, h1⟩ => ?_⟩
  cases d with
  | lst l =>
    obtain ⟨b, us, ea, hF, hl, rs⟩ := rv
    exact ⟨b, us, by rw [ea], SqL.of (sr1.sub _ _ hF), it_here (it := .fix (enumL l)) h1 sr1 (wk_enum (SqL.of hF) rs)⟩
  | scr l =>
    obtain ⟨b, ea, hF, hl⟩ := rv
    exact ⟨b, _, by rw [ea], same_sqL sr1.sub hF, it_here (it := .fix (enumL (l.map .int))) h1 sr1 (wk_enum hF (rvs_ints l))⟩
  | _ => exact h1.elim
end

/-! ### an object beside the store -/
structure Side (D : Addr) (o : HO) (F : Hp) (m : Nat → Addr) (S : Sto) (H : Hp) : Prop where
  at_ : H D = some o
  nF : F D = none
  nm : ∀ l, l < S.c.length → m l ≠ D
section
variable {K : PySem.W.Frag} {A : Nm} {F F' F1 : Hp} {m m' m1 : Nat → Addr} {S S' S1 : Sto} {H H' H1 : Hp} {p D : Addr} {o u : HO}
theorem Side.later (sd : Side D o F m S H) (x : Ext F m S H F' m' S' H') : Side D o F' m' S' H' := by
  refine ⟨x.keep D o sd.at_ sd.nm, ?_, fun l hl e => ?_⟩
  · cases q : F' D with
    | none => rfl
    | some z =>
      rcases x.fnew D (by rw [q]; exact fun z => nomatch z) with h | h | ⟨l, hl, h⟩
      · exact absurd sd.nF h
      · rw [sd.at_] at h; cases h
      · exact absurd h (sd.nm l hl)
  · by_cases q : l < S.c.length
    · rw [x.ag l q] at e
      exact sd.nm l q e
    · have := x.new l (Nat.le_of_not_lt q) hl
      rw [e, sd.at_] at this
      cases this
theorem Side.upd (sd : Side D o F m S H) : Side D u F m S (L2.upd H D u) := ⟨upd_same, sd.nF, sd.nm⟩
theorem SR.turn (sr : SR K A F m S H) (sd : Side D o F m S H) : SR K A F m S (L2.upd H D u) := by
  refine ⟨sr.flo, fun a z h => ?_, sr.sep, sr.inj, fun l hl => ?_, fun l c h => ?_⟩
  · rw [upd_ne (fun e => by rw [e, sd.nF] at h; cases h)]; exact sr.sub _ _ h
  · rw [upd_ne (sd.nm l hl)]; exact sr.trk l hl
  · exact (sr.cel l c h).keep (upd_ne (sd.nm l (getc_lt h))) (fun _ _ h => h) (fun _ _ => rfl) (Nat.le_refl _)
theorem Ext.turn (x : Ext F m S H F' m' S' H') (hp : H D = none) : Ext F m S H F' m' S' (L2.upd H' D u) := by
  refine ⟨x.sub, x.ag, x.le, x.fl, x.good, fun a z h nx => ?_, x.new, fun a h => ?_, x.fnew⟩
  · rw [upd_ne (fun e => by rw [e, hp] at h; cases h)]; exact x.keep a z h nx
  · by_cases q : a = D
    · rw [q, upd_same]; exact fun z => nomatch z
    · rw [upd_ne q]; exact x.dom a h
/-- it never changes from now on -/
theorem SR.adopt (sr : SR K A F m S H) (sd : Side D o F m S H) : SR K A (L2.upd F D o) m S H := by
  refine ⟨sr.flo, fun a z h => ?_, fun l c h1 h2 => ?_, sr.inj, sr.trk, fun l c h => (sr.cel l c h).keep rfl (same_new2 sd.nF) (fun _ _ => rfl) (Nat.le_refl _)⟩
  · by_cases q : a = D
    · rw [q, upd_same] at h
      cases h
      rw [q]; exact sd.at_
    · rw [upd_ne q] at h; exact sr.sub _ _ h
  · rw [upd_ne (sd.nm l (getc_lt h1))]; exact sr.sep l c h1 h2
theorem Ext.adopt (x : Ext F m S H F' m' S' H') (hp : H D = none) (sd : Side D o F' m' S' H') : Ext F m S H (L2.upd F' D o) m' S' H' := by
  refine ⟨x.sub.trans (same_new2 sd.nF), x.ag, x.le, x.fl, x.good, x.keep, x.new, x.dom, fun a h => ?_⟩
  by_cases q : a = D
  · exact .inr (.inl (by rw [q]; exact hp))
  · rw [upd_ne q] at h
    exact x.fnew a h
/-- it becomes an object of the store -/
theorem SR.adoptC (sr : SR K A F m S H) (sd : Side D o F m S H) {c : Cell} (hc : CR K A F (mx m S.c.length D) (S.c.length + 1) H D c) : SR K A F (mx m S.c.length D) ⟨c :: S.c, S.fl⟩ H := by
  refine ⟨Nat.le_succ_of_le sr.flo, sr.sub, fun l c' h1 h2 => ?_, fun l l' h1 h2 e => ?_, fun l hl => ?_, fun l c' h => ?_⟩
  · have hl := getc_lt h1
    by_cases q : l = S.c.length
    · rw [q, mx_new]; exact sd.nF
    · have q2 : l < S.c.length := Nat.lt_of_le_of_ne (Nat.le_of_lt_succ hl) q
      rw [mx_old q2]
      rw [getc_cons_old q2] at h1
      exact sr.sep l c' h1 h2
  · have g1 : l < S.c.length + 1 := h1
    have g2 : l' < S.c.length + 1 := h2
    by_cases q : l = S.c.length
    · by_cases q' : l' = S.c.length
      · exact q.trans q'.symm
      · have q2 : l' < S.c.length := by omega
        rw [q, mx_new, mx_old q2] at e
        exact absurd e.symm (sd.nm l' q2)
    · have q2 : l < S.c.length := by omega
      by_cases q' : l' = S.c.length
      · rw [q', mx_new, mx_old q2] at e
        exact absurd e (sd.nm l q2)
      · have q3 : l' < S.c.length := by omega
        rw [mx_old q2, mx_old q3] at e
        exact sr.inj l l' q2 q3 e
  · have g1 : l < S.c.length + 1 := hl
    by_cases q : l = S.c.length
    · rw [q, mx_new, sd.at_]; exact fun z => nomatch z
    · have q2 : l < S.c.length := by omega
      rw [mx_old q2]
      exact sr.trk l q2
  · have hl := getc_lt h
    by_cases q : l = S.c.length
    · rw [q, getc_cons_new] at h
      cases h
      rw [q, mx_new]
      exact hc
    · have q2 : l < S.c.length := Nat.lt_of_le_of_ne (Nat.le_of_lt_succ hl) q
      rw [getc_cons_old q2] at h
      rw [mx_old q2]
      exact (sr.cel l c' h).keep rfl (fun _ _ h => h) (fun _ h => mx_old h) (Nat.le_succ _)
theorem Ext.adoptC (sr' : SR K A F' m' S' H') (x : Ext F m S H F' m' S' H') (hp : H D = none) {c : Cell} : Ext F m S H F' (mx m' S'.c.length D) ⟨c :: S'.c, S'.fl⟩ H' := by
  refine ⟨x.sub, fun l hl => ?_, Nat.le_succ_of_le x.le, x.fl, fun n hn g l c' h1 h2 => ?_, x.keep, fun l h1 h2 => ?_, x.dom, x.fnew⟩
  · rw [mx_old (Nat.lt_of_lt_of_le hl x.le)]; exact x.ag l hl
  · have hn' : n ≤ S'.c.length := Nat.le_trans (by rw [← x.fl] at hn; exact hn) sr'.flo
    have hl := Nat.lt_of_lt_of_le h1 hn'
    rw [getc_cons_old hl] at h2
    exact x.good n hn g l c' h1 h2
  · have g2 : l < S'.c.length + 1 := h2
    by_cases q : l = S'.c.length
    · rw [q, mx_new]; exact hp
    · have q2 : l < S'.c.length := by omega
      rw [mx_old q2]
      exact x.new l h1 q2
/-- a list that was put together beside the store -/
theorem Out.side {W : WX} {σ : L2.St} {mu : Bool} {ds : List Mi.D} {acc : List V} {Q : VK} (h : Out K A (rlV K A) W σ F1 m1 S1 H1 (fresh mu S (.lst ds)) Q) (x : Ext F1 m1 S1 H1 F m S H) (hp : H1 D = none) (sr : SR K A F m S H) (sd : Side D (.lst acc) F m S H)
    (hl : ds.length ≤ LL) (rs : RVs K A F m S.c.length ds acc) : Q (.ref D) H := by
  cases mu with
  | false =>
    exact h _ m H _ (Ext.adopt x hp sd) (SR.adopt sr sd) ⟨D, acc, rfl, upd_same, hl, RVs.mono (same_new2 sd.nF) (fun _ _ => rfl) (Nat.le_refl _) ds acc rs⟩
  | true =>
    have r2 : RVs K A F (mx m S.c.length D) (S.c.length + 1) ds acc := RVs.mono (fun _ _ h => h) (fun _ h => mx_old h) (Nat.le_succ _) ds acc rs
    exact h F _ H _ (Ext.adoptC sr x hp) (SR.adoptC sr sd ⟨acc, sd.at_, hl, r2⟩) ⟨Nat.lt_succ_self _, by rw [mx_new]⟩
end

/-! ### the loop of a comprehension -/
abbrev W0 : WX := fun _ _ _ _ => False
def LcG (J : It) (st : Hp → Prop) (σw : L2.St) (vs : List Nat) (g : TG) (tt : TT) (te : TE) (D : Addr) (H0 : Hp) : Prop := ∃ W : Nat → Nat → Hp → Prop, (∃ m, W 0 m H0) ∧ ∀ i m H, W i m H →
  (J.stop i H ∧ st H) ∨ (J.go i H ∧ ∃ Nx : Hp → Prop, (∀ H', Nx H' → ∃ m', m' < m ∧ W (i + 1) m' H') ∧ ∀ x H', J.yld i H x H' → g x σw H' fun σ2 H2 => L2.wipe σ2 vs = σw ∧ tt σ2 H2 fun b H3 =>
    if b = true then te σ2 H3 fun y H4 => ∃ acc, H4 D = some (.lst acc) ∧ acc.length < sizeLine ∧ Nx (upd H4 D (.lst (acc ++ [y]))) else Nx H3)
section
variable {X : Cx} {A : Nm} {K : PySem.W.Frag}
/-- a result that is there -/
theorem out_ok {α β : Type} {rl : Rl α β} {W : WX} {σ : L2.St} {F : Hp} {m : Nat → Addr} {S S' : Sto} {H : Hp} {r : R α} {a : α} {Q : β → Hp → Prop} (e : r = .ok a S')
    (h : ∀ F' m' H' b, Ext F m S H F' m' S' H' → SR K A F' m' S' H' → rl F' m' S'.c.length a b → Q b H') : Out K A rl W σ F m S H r Q := by
  rw [e]; exact h
theorem bind_ok {α β : Type} {r : R α} {g : α → Sto → R β} {b : β} {S' : Sto} (e : r.bind g = .ok b S') : ∃ a S1, r = .ok a S1 ∧ g a S1 = .ok b S' := by
  cases r with
  | ok a S1 => exact ⟨a, S1, rfl, e⟩
  | ex c v S1 => cases e
  | bad => cases e
abbrev lcB (T : Tab) (cl : Nat → List D → Sto → R D) (el : CE) (tg : Tg) (co : CO) (e : Mi.Env) : D → Sto → R (Option D) := fun x S => match bindT tg e x with
  | some e' => (evC T cl co e' S).bind fun c S => if c then ((ev T cl el).1 e' S).bind fun d S => .ok (some d) S else .ok none S
  | none => .bad
theorem lc_go {T : Tab} {cl : Nat → List D → Sto → R D} {el : CE} {tg : Tg} {co : CO} {it : Itd} {J : It} {st : Hp → Prop} {σw : L2.St} {vs : List Nat} {D : Addr} {F1 : Hp} {m1 : Nat → Addr} {S1 : Sto} {H1 : Hp} (hD : H1 D = none) (htg : ∀ i ∈ tg.slots, i ∈ vs) (hw : L2.wipe σw vs = σw) {dsN : List Mi.D} {SN : Sto}
    (hfin : ∀ F m H acc, Ext F1 m1 S1 H1 F m SN H → SR K A F m SN H → Side D (.lst acc) F m SN H → dsN.length ≤ LL → RVs K A F m SN.c.length dsN acc → st H) {e0 : Mi.Env}
    {k0 : Nat} {ds0 : List Mi.D} {acc0 : List V} {F0 : Hp} {m0 : Nat → Addr} {S0 : Sto} {H0 : Hp} (x0 : Ext F1 m1 S1 H1 F0 m0 S0 H0) (sr0 : SR K A F0 m0 S0 H0) (sd0 : Side D (.lst acc0) F0 m0 S0 H0) (hl0 : ds0.length ≤ LL) (rs0 : RVs K A F0 m0 S0.c.length ds0 acc0)
    (er0 : ER K A F0 m0 S0.c.length e0 σw) (wk0 : Wk K A J it F0 m0 S0) (hr : lcI (lcB T cl el tg co e0) it k0 0 ds0 S0 = .ok dsN SN) :
    LcG J st σw vs (gT K A tg) (tG K A (rlI Bool) W0 (evC T cl co)) (tG K A (rlV K A) W0 (ev T cl el).1) D H0 := by
  refine ⟨fun i k H => ∃ S F m acc ds, Ext F1 m1 S1 H1 F m S H ∧ SR K A F m S H ∧ Side D (.lst acc) F m S H ∧ ds.length ≤ LL ∧ RVs K A F m S.c.length ds acc ∧ Exw F0 m0 S0 F m S ∧ lcI (lcB T cl el tg co e0) it k i ds S = .ok dsN SN,
    ⟨k0, S0, F0, m0, acc0, ds0, x0, sr0, sd0, hl0, rs0, ⟨fun _ _ h => h, fun _ _ => rfl, Nat.le_refl _⟩, hr⟩, fun i k H ⟨S, F, m, acc, ds, x, sr, sd, hl, rs, xw, e⟩ => ?_⟩
  cases k with
  | zero => exact nomatch (show R.bad = .ok dsN SN from e)
  | succ k =>
    have wk := (wk0.later xw) F m S H ⟨fun _ _ h => h, fun _ _ => rfl, Nat.le_refl _⟩ sr i
    have e' : (match itAt it S i with
      | none => .bad
      | some none => .ok ds S
      | some (some x) => (lcB T cl el tg co e0 x S).bind fun o S => match o with
        | none => lcI (lcB T cl el tg co e0) it k (i + 1) ds S
        | some d => if ds.length < LL then lcI (lcB T cl el tg co e0) it k (i + 1) (ds ++ [d]) S else .bad) = R.ok dsN SN := e
    cases q : itAt it S i with
    | none => rw [q] at e'; cases e'
    | some oo =>
      rw [q] at e' wk
      cases oo with
      | none =>
        cases e'
        exact .inl ⟨wk, hfin F m H acc x sr sd hl rs⟩
      | some d =>
        obtain ⟨g1, g2⟩ := wk
        refine .inr ⟨g1, _, fun H' h => ⟨k, Nat.lt_succ_self _, h⟩, fun y H' hy => ?_⟩
        obtain ⟨F'', sr2, x2, rv⟩ := g2 y H' hy
        obtain ⟨o, S3, e3, e4⟩ := bind_ok (show (lcB T cl el tg co e0 d S).bind _ = _ from e')
        have e3' : (match bindT tg e0 d with
          | some e' => (evC T cl co e' S).bind fun c S => if c then ((ev T cl el).1 e' S).bind fun d S => .ok (some d) S else .ok none S
          | none => .bad) = R.ok o S3 := e3
        cases qb : bindT tg e0 d with
        | none => rw [qb] at e3'; cases e3'
        | some e1 =>
          rw [qb] at e3'
          obtain ⟨c, S4, e5, e6⟩ := bind_ok (show (evC T cl co e1 S).bind _ = _ from e3')
          have xw2 := xw.trans x2.w
          refine ⟨e0, d, S, F'', m, e1, sr2, er0.monow xw2, rv, qb, fun σ2 er2 hwp => ⟨by rw [hwp vs htg, hw], e1, S, F'', m, sr2, er2, out_ok e5 fun F5 m5 H5 b x5 sr5 eb => ?_⟩⟩
          have eb : c = b := eb
          subst eb
          have x15 := x.trans (x2.trans x5)
          have sd5 := (sd.later x2).later x5
          have xw5 := xw2.trans x5.w
          cases c with
          | false =>
            have e7 : R.ok none S4 = R.ok o S3 := e6
            cases e7
            rw [if_neg Bool.false_ne_true]
            exact ⟨_, F5, m5, acc, ds, x15, sr5, sd5, hl, x5.rvs (x2.rvs rs), xw5, e4⟩
          | true =>
            rw [if_pos rfl]
            obtain ⟨z, S6, e7, e8⟩ := bind_ok (show ((ev T cl el).1 e1 S4).bind _ = _ from e6)
            have e8' : R.ok (some z) S6 = R.ok o S3 := e8
            cases e8'
            refine ⟨e1, S4, F5, m5, sr5, er2.mono x5, out_ok e7 fun F6 m6 H6 v x6 sr6 rv6 => ?_⟩
            have sd6 := sd5.later x6
            have e9 : (if ds.length < LL then lcI (lcB T cl el tg co e0) it k (i + 1) (ds ++ [z]) S3 else .bad) = R.ok dsN SN := e4
            have rs6 := x6.rvs (x5.rvs (x2.rvs rs))
            by_cases hlt : ds.length < LL
            · rw [if_pos hlt] at e9
              exact ⟨acc, sd6.at_, by rw [RVs.length rs]; exact Nat.lt_of_lt_of_le hlt LL_line, _, F6, m6, acc ++ [v], ds ++ [z], Ext.turn (x15.trans x6) hD, SR.turn sr6 sd6, sd6.upd, by rw [List.length_append]; exact hlt,
                RVs.append rs6 ⟨v, [], rfl, rv6, rfl⟩, xw5.trans x6.w, e9⟩
            · rw [if_neg hlt] at e9
              cases e9
end
end Mi
/-! Mi: comprehensions, on. -/
namespace Mi
open PySem PySem.Spec PyProof.Rows L2 TL

section
variable {X : Cx} {A : Nm} {W : WX} {T : Tab} {cl : Nat → List D → Sto → R D} {el : CE} {tg tg2 : Tg} {ci ci2 : CI} {co co2 : CO} {mu : Bool}
theorem side_new {K : PySem.W.Frag} {F : Hp} {m : Nat → Addr} {S : Sto} {H : Hp} {p : Addr} {o : HO} (sr : SR K A F m S H) (hp : H p = none) : Side p o F m S (upd H p o) := ⟨upd_same, sr.sub.free hp, fun l hl => ne_new sr hp hl⟩
theorem noEx_ok {α γ δ : Type} {K : PySem.W.Frag} {σ : L2.St} {F : Hp} {m : Nat → Addr} {S : Sto} {H : Hp} {rl : Rl γ δ} {r : R α} {g : α → Sto → R γ} {Q : δ → Hp → Prop} (h : Out K A rl W σ F m S H ((noEx r).bind g) Q) : ∃ a S', r = .ok a S' ∧ Out K A rl W σ F m S H (g a S') Q := by
  cases r with
  | ok a S' => exact ⟨a, S', rfl, h⟩
  | ex c v S' => exact h.elim
  | bad => exact h.elim
abbrev vLc (T : Tab) (cl : Nat → List D → Sto → R D) (mu : Bool) (el : CE) (tg : Tg) (ci : CI) (co : CO) : Mi.Env → Sto → R D := fun e S => (evI T cl ci e S).bind fun xs S => (noEx (lcI (lcB T cl el tg co (wipeL e tg.slots)) xs FL 0 [] S)).bind fun ds S => fresh mu S (.lst ds)
theorem t_lc {vs : List Nat} (hvs : vs = tg.slots) {σ : L2.St} {H : Hp} {Q : VK} (h : EV X A W (vLc T cl mu el tg ci co) σ H Q) :
    tLc (EI X A W (evI T cl ci)) (gT X.K A tg) (tG X.K A (rlI Bool) W0 (evC T cl co)) (tG X.K A (rlV X.K A) W0 (ev T cl el).1) vs σ H Q := by
  subst hvs
  obtain ⟨e, S, F, m, sr, er, h⟩ := h
  refine ⟨e, S, F, m, sr, er, OutI.imp (Out.bindI h) fun J H1 ⟨it, S1, F1, m1, _, x1, sr1, wk, h1⟩ => fun Da hD => ?_⟩
  obtain ⟨ds, SN, e1, h2⟩ := noEx_ok h1
  exact lc_go (T := T) (cl := cl) (el := el) (tg := tg) (co := co) (e0 := wipeL e tg.slots) (ds0 := []) (acc0 := []) hD (fun i hi => hi) (wipe_wipe σ _) (fun F' m' H' acc x sr' sd hl rs => Out.side h2 x hD sr' sd hl rs) (Ext.turn Ext.refl hD) (SR.side sr1 hD).1 (side_new sr1 hD) (Nat.zero_le _) rfl ((er.mono x1).wipe _) wk e1
theorem mi_lc {elt tgE iter : Expr} {ifs : List Expr} {scope : Scope} {own : List (Str × Nat)} {pos : Pos} (hc : X.calm = true) (hN : X.N.Nodup) (hi : PI X tgE iter (EI X A W (evI T cl ci))) (ok : BlkOk X.N X.env.scope scope own) (hvs : own.map (·.2) = tg.slots)
    (hg : ∀ (s : Shared) (H : Hp) (C : Addr) (cl : List (Str × Addr)) (fp : List Addr), PG (X.blk s H scope (compEnvC scope cl C X.env) fp) tgE (gT X.K A tg))
    (ht : ∀ (s : Shared) (H : Hp) (C : Addr) (cl' : List (Str × Addr)) (fp : List Addr), PTs (X.blk s H scope (compEnvC scope cl' C X.env) fp) ifs (tG X.K A (rlI Bool) W0 (evC T cl co)))
    (he : ∀ (s : Shared) (H : Hp) (C : Addr) (cl' : List (Str × Addr)) (fp : List Addr), PE (X.blk s H scope (compEnvC scope cl' C X.env) fp) elt (tG X.K A (rlV X.K A) W0 (ev T cl el).1))
    (hs : ∀ x, foldedSetIterable iter X.env x = pure x) : PE X (.ListComp elt [⟨tgE, iter, ifs, 0⟩] scope pos) (EV X A W (vLc T cl mu el tg ci co)) :=
  PE.imp (pe_lc hc hN hi ok hg ht he hs) fun σ H Q h => t_lc hvs h
/-- two generators -/
abbrev lcB2 (T : Tab) (cl : Nat → List D → Sto → R D) (el : CE) (tg : Tg) (co : CO) (tg2 : Tg) (ci2 : CI) (co2 : CO) (e : Mi.Env) : D → List D → Sto → R (List D) := fun x acc S => match bindT tg e x with
  | some e' => (evC T cl co e' S).bind fun c S => if c then (evI T cl ci2 e' S).bind fun ys S => lcI (lcB T cl el tg2 co2 (wipeL e' tg2.slots)) ys FL 0 acc S else .ok acc S
  | none => .bad
abbrev vLc2 (T : Tab) (cl : Nat → List D → Sto → R D) (mu : Bool) (el : CE) (tg : Tg) (ci : CI) (co : CO) (tg2 : Tg) (ci2 : CI) (co2 : CO) : Mi.Env → Sto → R D := fun e S => (evI T cl ci e S).bind fun xs S =>
  (noEx (lcJ (lcB2 T cl el tg co tg2 ci2 co2 (wipeL e (tg.slots ++ tg2.slots))) xs FL 0 [] S)).bind fun ds S => fresh mu S (.lst ds)
theorem outI_ok {K : PySem.W.Frag} {σ : L2.St} {F : Hp} {m : Nat → Addr} {S S' : Sto} {H : Hp} {r : R Itd} {a : Itd} {Q : It → Hp → Prop} (e : r = .ok a S')
    (h : ∀ F' m' H' J, Ext F m S H F' m' S' H' → SR K A F' m' S' H' → Wk K A J a F' m' S' → Q J H') : OutI K A W σ F m S H r Q := by
  rw [e]; exact h
theorem t_lc2 {vs vs1 : List Nat} (hvs : vs = tg.slots ++ tg2.slots) (hvs1 : vs1 = tg2.slots) {σ : L2.St} {H : Hp} {Q : VK} (h : EV X A W (vLc2 T cl mu el tg ci co tg2 ci2 co2) σ H Q) :
    tLc2 (EI X A W (evI T cl ci)) (gT X.K A tg) (tG X.K A (rlI Bool) W0 (evC T cl co)) (EI X A W0 (evI T cl ci2)) (gT X.K A tg2) (tG X.K A (rlI Bool) W0 (evC T cl co2)) (tG X.K A (rlV X.K A) W0 (ev T cl el).1) vs vs1 σ H Q := by
  subst hvs hvs1
  obtain ⟨e, S, F, m, sr, er, h⟩ := h
  refine ⟨e, S, F, m, sr, er, OutI.imp (Out.bindI h) fun J H1 ⟨it, S1, F1, m1, _, x1, sr1, wk0, h1⟩ => fun Da hD => ?_⟩
  obtain ⟨dsN, SN, e1, h2⟩ := noEx_ok h1
  generalize he0 : wipeL e (tg.slots ++ tg2.slots) = e0 at e1
  have er0 : ER X.K A F1 m1 S1.c.length e0 (L2.wipe σ (tg.slots ++ tg2.slots)) := by
    rw [← he0]
    exact (er.mono x1).wipe _
  have hw : L2.wipe (L2.wipe σ (tg.slots ++ tg2.slots)) (tg.slots ++ tg2.slots) = L2.wipe σ (tg.slots ++ tg2.slots) := wipe_wipe σ _
  refine ⟨fun i k H => ∃ S F m acc ds, Ext F1 m1 S1 H1 F m S H ∧ SR X.K A F m S H ∧ Side Da (.lst acc) F m S H ∧ ds.length ≤ LL ∧ RVs X.K A F m S.c.length ds acc ∧ lcJ (lcB2 T cl el tg co tg2 ci2 co2 e0) it k i ds S = .ok dsN SN,
    ⟨FL, S1, F1, m1, [], [], Ext.turn Ext.refl hD, (SR.side sr1 hD).1, side_new sr1 hD, Nat.zero_le _, rfl, e1⟩, fun i k H ⟨S, F, m, acc, ds, x, sr, sd, hl, rs, e⟩ => ?_⟩
  cases k with
  | zero => exact nomatch (show R.bad = .ok dsN SN from e)
  | succ k =>
    have wk := (wk0.later x.w) F m S H ⟨fun _ _ h => h, fun _ _ => rfl, Nat.le_refl _⟩ sr i
    have e' : (match itAt it S i with
      | none => .bad
      | some none => .ok ds S
      | some (some x) => (lcB2 T cl el tg co tg2 ci2 co2 e0 x ds S).bind fun acc S => lcJ (lcB2 T cl el tg co tg2 ci2 co2 e0) it k (i + 1) acc S) = R.ok dsN SN := e
    cases q : itAt it S i with
    | none => rw [q] at e'; cases e'
    | some oo =>
      rw [q] at e' wk
      cases oo with
      | none =>
        cases e'
        exact .inl ⟨wk, Out.side h2 x hD sr sd hl rs⟩
      | some d =>
        obtain ⟨g1, g2⟩ := wk
        refine .inr ⟨g1, _, fun H' h => ⟨k, Nat.lt_succ_self _, h⟩, fun y H' hy => ?_⟩
        obtain ⟨F'', sr2, x2, rv⟩ := g2 y H' hy
        obtain ⟨ds3, S3, e3, e4⟩ := bind_ok (show (lcB2 T cl el tg co tg2 ci2 co2 e0 d ds S).bind _ = _ from e')
        have e3' : (match bindT tg e0 d with
          | some e' => (evC T cl co e' S).bind fun c S => if c then (evI T cl ci2 e' S).bind fun ys S => lcI (lcB T cl el tg2 co2 (wipeL e' tg2.slots)) ys FL 0 ds S else .ok ds S
          | none => .bad) = R.ok ds3 S3 := e3
        cases qb : bindT tg e0 d with
        | none => rw [qb] at e3'; cases e3'
        | some e1 =>
          rw [qb] at e3'
          obtain ⟨c, S4, e5, e6⟩ := bind_ok (show (evC T cl co e1 S).bind _ = _ from e3')
          have er0' := er0.mono (x.trans x2)
          refine ⟨e0, d, S, F'', m, e1, sr2, er0', rv, qb, fun σ2 er2 hwp => ⟨by rw [hwp _ (fun i hi => List.mem_append_left _ hi), hw], e1, S, F'', m, sr2, er2, out_ok e5 fun F5 m5 H5 b x5 sr5 eb => ?_⟩⟩
          have eb : c = b := eb
          subst eb
          have x15 := x.trans (x2.trans x5)
          have sd5 := (sd.later x2).later x5
          cases c with
          | false =>
            have e7 : R.ok ds S4 = R.ok ds3 S3 := e6
            cases e7
            rw [if_neg Bool.false_ne_true]
            exact ⟨_, F5, m5, acc, _, x15, sr5, sd5, hl, x5.rvs (x2.rvs rs), e4⟩
          | true =>
            rw [if_pos rfl]
            obtain ⟨ys, S6, e7, e8⟩ := bind_ok (show (evI T cl ci2 e1 S4).bind _ = _ from e6)
            refine ⟨e1, S4, F5, m5, sr5, er2.mono x5, outI_ok e7 fun F6 m6 H6 J1 x6 sr6 wk6 => ?_⟩
            have sd6 := sd5.later x6
            have rs6 := x6.rvs (x5.rvs (x2.rvs rs))
            exact lc_go (T := T) (cl := cl) (el := el) (tg := tg2) (co := co2) (e0 := wipeL e1 tg2.slots) hD (fun i hi => hi) (wipe_wipe σ2 _) (fun F' m' H' acc' x' sr' sd' hl' rs' => ⟨_, F', m', acc', _, x', sr', sd', hl', rs', e4⟩) (x15.trans x6) sr6 sd6 hl rs6 (((er2.mono x5).mono x6).wipe _) wk6 e8
theorem mi_lc2 {elt tgE iter tgE1 iter1 : Expr} {ifs ifs1 : List Expr} {scope : Scope} {own : List (Str × Nat)} {pos : Pos} (hc : X.calm = true) (hN : X.N.Nodup) (hi : PI X tgE iter (EI X A W (evI T cl ci))) (ok : BlkOk X.N X.env.scope scope own) (hvs : own.map (·.2) = tg.slots ++ tg2.slots)
    (hg : ∀ (s : Shared) (H : Hp) (C : Addr) (cl : List (Str × Addr)) (fp : List Addr), PG (X.blk s H scope (compEnvC scope cl C X.env) fp) tgE (gT X.K A tg))
    (ht : ∀ (s : Shared) (H : Hp) (C : Addr) (cl' : List (Str × Addr)) (fp : List Addr), PTs (X.blk s H scope (compEnvC scope cl' C X.env) fp) ifs (tG X.K A (rlI Bool) W0 (evC T cl co)))
    (hi1 : ∀ (s : Shared) (H : Hp) (C : Addr) (cl' : List (Str × Addr)) (fp : List Addr), PI (X.blk s H scope (compEnvC scope cl' C X.env) fp) tgE1 iter1 (EI X A W0 (evI T cl ci2)))
    (hg1 : ∀ (s : Shared) (H : Hp) (C : Addr) (cl : List (Str × Addr)) (fp : List Addr), PG (X.blk s H scope (compEnvC scope cl C X.env) fp) tgE1 (gT X.K A tg2))
    (ht1 : ∀ (s : Shared) (H : Hp) (C : Addr) (cl' : List (Str × Addr)) (fp : List Addr), PTs (X.blk s H scope (compEnvC scope cl' C X.env) fp) ifs1 (tG X.K A (rlI Bool) W0 (evC T cl co2)))
    (he : ∀ (s : Shared) (H : Hp) (C : Addr) (cl' : List (Str × Addr)) (fp : List Addr), PE (X.blk s H scope (compEnvC scope cl' C X.env) fp) elt (tG X.K A (rlV X.K A) W0 (ev T cl el).1))
    (hs : ∀ x, foldedSetIterable iter X.env x = pure x) (hs1 : ∀ env x, foldedSetIterable iter1 env x = pure x) : PE X (.ListComp elt [⟨tgE, iter, ifs, 0⟩, ⟨tgE1, iter1, ifs1, 0⟩] scope pos) (EV X A W (vLc2 T cl mu el tg ci co tg2 ci2 co2)) :=
  PE.imp (pe_lc2 (vs1 := tg2.slots) hc hN hi ok (fun i hi => by rw [hvs]; exact List.mem_append_right _ hi) hg ht hi1 hg1 ht1 he hs hs1) fun σ H Q h => t_lc2 hvs rfl h
end
end Mi
/-! Mi: rules for statements. -/
namespace Mi
open PySem PySem.Spec PyProof.Rows L2 TL

def OutS (K : PySem.W.Frag) (A : Nm) (W : WX) (D : Ends) (F : Hp) (m : Nat → Addr) (S : Sto) (H : Hp) (r : RS) : Prop := match r with
  | .nx e S' => ∀ σ' F' m' H', Ext F m S H F' m' S' H' → SR K A F' m' S' H' → ER K A F' m' S'.c.length e σ' → D.nx σ' H'
  | .bk e S' => ∀ σ' F' m' H', Ext F m S H F' m' S' H' → SR K A F' m' S' H' → ER K A F' m' S'.c.length e σ' → D.bk σ' H'
  | .ct e S' => ∀ σ' F' m' H', Ext F m S H F' m' S' H' → SR K A F' m' S' H' → ER K A F' m' S'.c.length e σ' → D.ct σ' H'
  | .rt d S' => ∀ F' m' H' v, Ext F m S H F' m' S' H' → SR K A F' m' S' H' → RV K A F' m' S'.c.length d v → D.rt v H'
  | .ex c v e S' => ∀ σ' F' m' H' dd fs, Ext F m S H F' m' S' H' → SR K A F' m' S' H' → ER K A F' m' S'.c.length e σ' → F' dd = some (.xd fs) → RVf K A F' m' S'.c.length v fs → W (.ref (A.exc c)) (some dd) σ' H'
  | .bad => False
def tS (K : PySem.W.Frag) (A : Nm) (W : WX) (f : Mi.Env → Sto → RS) : TS := fun D σ H => ∃ e S F m, SR K A F m S H ∧ ER K A F m S.c.length e σ ∧ OutS K A W D F m S H (f e S)
theorem PS.imp {X : Cx} {st : Stmt} {t t' : TS} (h : PS X st t) (hi : ∀ D σ H, t' D σ H → t D σ H) : PS X st t' := ⟨fun pins s σ H D I w => h.run pins s σ H D I (hi _ _ _ w)⟩
theorem PSs.imp {X : Cx} {st : List Stmt} {t t' : TS} (h : PSs X st t) (hi : ∀ D σ H, t' D σ H → t D σ H) : PSs X st t' := ⟨fun pins s σ H D I w => h.run pins s σ H D I (hi _ _ _ w)⟩
section
variable {K : PySem.W.Frag} {A : Nm} {W : WX} {D : Ends} {F F' : Hp} {m m' : Nat → Addr} {S S' : Sto} {H H' : Hp} {σ : L2.St} {e : Mi.Env}
theorem OutS.later {r : RS} (h : OutS K A W D F m S H r) (e0 : Ext F m S H F' m' S' H') : OutS K A W D F' m' S' H' r := by
  cases r with
  | nx a S1 => exact fun σ' F1 m1 H1 x s z => h σ' F1 m1 H1 (e0.trans x) s z
  | bk a S1 => exact fun σ' F1 m1 H1 x s z => h σ' F1 m1 H1 (e0.trans x) s z
  | ct a S1 => exact fun σ' F1 m1 H1 x s z => h σ' F1 m1 H1 (e0.trans x) s z
  | rt a S1 => exact fun F1 m1 H1 v x s z => h F1 m1 H1 v (e0.trans x) s z
  | ex c v a S1 => exact fun σ' F1 m1 H1 dd fs x s z => h σ' F1 m1 H1 dd fs (e0.trans x) s z
  | bad => exact h
theorem OutS.then {α β : Type} {rl : Rl α β} {r : R α} {f : α → Sto → RS} (er : ER K A F m S.c.length e σ) (h : OutS K A W D F m S H (r.then e f)) :
    Out K A rl W σ F m S H r fun b H1 => ∃ a S1 F1 m1, r = .ok a S1 ∧ Ext F m S H F1 m1 S1 H1 ∧ SR K A F1 m1 S1 H1 ∧ rl F1 m1 S1.c.length a b ∧ OutS K A W D F1 m1 S1 H1 (f a S1) := by
  cases r with
  | ok a S1 => exact fun F1 m1 H1 b x s z => ⟨a, S1, F1, m1, rfl, x, s, z, OutS.later h x⟩
  | ex c v S1 => exact fun F1 m1 H1 dd fs x s hd rv => h σ F1 m1 H1 dd fs x s (er.mono x) hd rv
  | bad => exact h
theorem OutS.thenI {r : R Itd} {f : Itd → Sto → RS} (er : ER K A F m S.c.length e σ) (h : OutS K A W D F m S H (r.then e f)) :
    OutI K A W σ F m S H r fun J H1 => ∃ it S1 F1 m1, r = .ok it S1 ∧ Ext F m S H F1 m1 S1 H1 ∧ SR K A F1 m1 S1 H1 ∧ Wk K A J it F1 m1 S1 ∧ OutS K A W D F1 m1 S1 H1 (f it S1) := by
  cases r with
  | ok a S1 => exact fun F1 m1 H1 b x s z => ⟨a, S1, F1, m1, rfl, x, s, z, OutS.later h x⟩
  | ex c v S1 => exact fun F1 m1 H1 dd fs x s hd rv => h σ F1 m1 H1 dd fs x s (er.mono x) hd rv
  | bad => exact h
theorem OutS.nx (h : OutS K A W D F m S H (.nx e S)) (sr : SR K A F m S H) (er : ER K A F m S.c.length e σ) : D.nx σ H := h σ F m H Ext.refl sr er
end

/-! ### what stands behind = -/
def nocomp : Expr → Bool
  | .ListComp _ _ _ _ => false
  | .SetComp _ _ _ _ => false
  | .DictComp _ _ _ _ _ => false
  | _ => true
theorem nocomp_swap {e : Expr} {t : Option Expr} {l : Nat} {env : PySem.Env} (h : nocomp e = true) : swapsWith e t l env = pure false := by
  cases e <;> first | rfl | cases h
def notup : Expr → Bool
  | .Tuple _ _ _ => false
  | _ => true
theorem notup_swap {es : List Expr} {k : Nat} {p : Pos} {e : Expr} {env : PySem.Env} (h : notup e = true) : swappedStores [.Tuple es k p] e env = pure none := by
  cases e <;> first | rfl | cases h
/-- a tuple of constants -/
theorem const_swap {x y : Expr} {k k2 : Nat} {p p2 : Pos} {es : List Expr} {env : PySem.Env} (h : es.all (foldedForSure 8) = true) : swappedStores [.Tuple [x, y] k p] (.Tuple es k2 p2) env = pure none := by
  unfold swappedStores
  simp only [h]
  repeat' (first | rfl | split)
theorem star_any2 {a b : Expr} (ha : fine a = true) (hb : fine b = true) : ([a, b].any fun | .Starred .. => true | _ => false) = false := by
  cases a <;> first
    | (cases b <;> first | rfl | (cases hb; done))
    | (cases ha; done)
/-- two names at once -/
theorem par_swap {x y : Str} {px py pt p2 : Pos} {kt k2 : Nat} {a b : Expr} {env : PySem.Env} (hk : env.scope.kind = .function) (hx : env.scope.names.lookup x = some .local) (hy : env.scope.names.lookup y = some .local) (hl : (py.line == px.line) = true) (hne : x ≠ y) (ha : fine a = true) (hb : fine b = true)
    (h1 : ([a, b].all (foldedForSure 8)) = false) (h2 : ([a, b].all (constantsAlone 8)) = false) : swappedStores [.Tuple [.Name x px, .Name y py] kt pt] (.Tuple [a, b] k2 p2) env = pure (some [x, y]) := by
  have kx : env.kindOf x = some .local := hx
  have ky : env.kindOf y = some .local := hy
  have hb0 : env.blockKind = .function := by unfold Env.blockKind; rw [hk]; rfl
  have ne : (y == x) = false := by simpa using Ne.symm hne
  have er : [x, y].eraseDups = [x, y] := by
    simp [List.eraseDups_cons, List.filter, ne]
  have st := star_any2 ha hb
  unfold swappedStores
  simp only [hb0, st, h1, h2, List.filterMap_cons, List.filterMap_nil, kx, ky, List.head?_cons, Option.map_some, Option.getD_some, Expr.pos, hl]
  simp [er]
  intro h
  exfalso
  rcases h with h | h
  · cases a <;> first | (cases h; done) | (cases ha; done)
  · cases b <;> first | (cases h; done) | (cases hb; done)
theorem sole_swap {t e : Expr} {l : Nat} {env : PySem.Env} (h : nocomp e = true) : swapsWithSole [t] e l env = pure false := by
  cases e <;> first | rfl | cases h
section
variable {X : Cx} {A : Nm} {W : WX} {pos : Pos}
/-! ### statements -/
theorem ms_pass : PS X (.Pass pos) (tS X.K A W fun e S => .nx e S) := PS.imp ps_pass fun D σ H ⟨e, S, F, m, sr, er, h⟩ => h.nx sr er
theorem ms_break : PS X (.Break pos) (tS X.K A W fun e S => .bk e S) := PS.imp ps_break fun D σ H ⟨e, S, F, m, sr, er, h⟩ => h σ F m H Ext.refl sr er
theorem ms_continue : PS X (.Continue pos) (tS X.K A W fun e S => .ct e S) := PS.imp ps_continue fun D σ H ⟨e, S, F, m, sr, er, h⟩ => h σ F m H Ext.refl sr er
theorem ms_retN : PS X (.Return none pos) (tS X.K A W fun _ S => .rt .non S) := PS.imp ps_retN fun D σ H ⟨e, S, F, m, sr, er, h⟩ => h F m H .non Ext.refl sr rfl
theorem ms_ret {a : Expr} {f : Mi.Env → Sto → R D} (ha : PE X a (EV X A W f)) : PS X (.Return (some a) pos) (tS X.K A W fun e S => (f e S).then e fun d S => .rt d S) :=
  PS.imp (ps_ret ha) fun D σ H ⟨e, S, F, m, sr, er, h⟩ => ⟨e, S, F, m, sr, er, Out.imp (OutS.then er h) fun v H1 ⟨d, S1, F1, m1, _, x1, sr1, rv, h1⟩ => h1 F1 m1 H1 v Ext.refl sr1 rv⟩
theorem ms_exp {a : Expr} {f : Mi.Env → Sto → R D} (hn : nocomp a = true) (ha : PE X a (EV X A W f)) : PS X (.Expr a pos) (tS X.K A W fun e S => (f e S).then e fun _ S => .nx e S) :=
  PS.imp (ps_expr ha (nocomp_swap hn)) fun D σ H ⟨e, S, F, m, sr, er, h⟩ => ⟨e, S, F, m, sr, er, Out.imp (OutS.then er h) fun v H1 ⟨d, S1, F1, m1, _, x1, sr1, rv, h1⟩ => h1.nx sr1 (er.mono x1)⟩
theorem ms_set (hN : X.N.Nodup) {i : Nat} {x : Str} {p : Pos} (ht : TgN X i x) {a : Expr} {f : Mi.Env → Sto → R D} (hn : nocomp a = true) (ha : PE X a (EV X A W f)) : PS X (.Assign [.Name x p] a pos) (tS X.K A W fun e S => (f e S).then e fun d S => .nx (e.set i (some d)) S) :=
  PS.imp (ps_set hN ht.1 ht.2.1 ha (nocomp_swap hn) ht.2.2) fun D σ H ⟨e, S, F, m, sr, er, h⟩ => ⟨e, S, F, m, sr, er, Out.imp (OutS.then er h) fun v H1 ⟨d, S1, F1, m1, _, x1, sr1, rv, h1⟩ => h1.nx sr1 ((er.mono x1).set i rv)⟩
theorem ms_unp (hc : X.calm = true) (hN : X.N.Nodup) {tg : Tg} {es : List Expr} {k : Nat} {p : Pos} (ht : TgE X tg (.Tuple es k p)) {a : Expr} {f : Mi.Env → Sto → R D} (hn : nocomp a = true) (hw : swappedStores [.Tuple es k p] a X.env = pure none) (ha : PE X a (EV X A W f)) :
    PS X (.Assign [.Tuple es k p] a pos) (tS X.K A W fun e S => (f e S).then e fun x S => match bindT tg e x with
      | some e => .nx e S
      | none => .bad) := by
  refine PS.imp (ps_asg ha (pg_tg (A := A) hc hN ht) (sole_swap hn) hw rfl) fun D σ H ⟨e, S, F, m, sr, er, h⟩ => ⟨e, S, F, m, sr, er, Out.imp (OutS.then er h) fun v H1 ⟨d, S1, F1, m1, _, x1, sr1, rv, h1⟩ => ?_⟩
  cases q : bindT tg e d with
  | none => simp only [q] at h1; exact h1.elim
  | some e' =>
    simp only [q] at h1
    exact ⟨e, d, S1, F1, m1, e', sr1, er.mono x1, rv, q, fun σ' er' _ => h1.nx sr1 er'⟩
theorem ms_par (hc : X.calm = true) (hN : X.N.Nodup) {i j : Nat} {x y : Str} {a b : Expr} {px py pt p2 : Pos} {kt k2 : Nat} {f g : Mi.Env → Sto → R D} (hi : X.N[i]? = some x) (hj : X.N[j]? = some y) (hij : i ≠ j) (hx : X.env.scope.names.lookup x = some .local) (hy : X.env.scope.names.lookup y = some .local)
    (hw : swappedStores [.Tuple [.Name x px, .Name y py] kt pt] (.Tuple [a, b] k2 p2) X.env = pure (some [x, y])) (ha0 : fine a = true) (hb0 : fine b = true) (ha : PE X a (EV X A W f)) (hb : PE X b (EV X A W g)) :
    PS X (.Assign [.Tuple [.Name x px, .Name y py] kt pt] (.Tuple [a, b] k2 p2) pos) (tS X.K A W fun e S => (f e S).then e fun x S => (g e S).then e fun y S => .nx ((e.set i (some x)).set j (some y)) S) :=
  PS.imp (ps_par hc hN hi hj hij hx hy (pa_cons ha (pa_cons hb pa_nil (star_plain hb0)) (star_plain ha0)) hw) fun D σ H ⟨e, S, F, m, sr, er, h⟩ => ⟨e, S, F, m, sr, er, Out.imp (OutS.then er h) fun v H1 ⟨d, S1, F1, m1, _, x1, sr1, rv, h1⟩ =>
    ⟨e, S1, F1, m1, sr1, er.mono x1, Out.imp (OutS.then (er.mono x1) h1) fun w H2 ⟨d2, S2, F2, m2, _, x2, sr2, rw_, h2⟩ => ⟨v, w, rfl, h2.nx sr2 ((((er.mono x1).mono x2).set i (x2.rv rv)).set j rw_)⟩⟩⟩
theorem ms_attS {T : Tab} {fl : List Nat} (g : GC X.K A T fl) {n : Nat} (hf : n ∈ fl) {o a : Expr} {p : Pos} {f k : Mi.Env → Sto → R D} (hn : nocomp a = true) (ha : PE X a (EV X A W f)) (ho : PE X o (EV X A W k)) :
    PS X (.Assign [.Attribute o (A.att n) p] a pos) (tS X.K A W fun e S => (f e S).then e fun d S => (k e S).then e fun x S => match attS S x n d with
      | some S => .nx e S
      | none => .bad) := by
  refine PS.imp (ps_fld ho ha (nocomp_swap hn)) fun D σ H ⟨e, S, F, m, sr, er, h⟩ => ⟨e, S, F, m, sr, er, Out.imp (OutS.then er h) fun v H1 ⟨d, S1, F1, m1, _, x1, sr1, rv, h1⟩ => ⟨e, S1, F1, m1, sr1, er.mono x1, Out.imp (OutS.then (er.mono x1) h1) fun w H2 ⟨d2, S2, F2, m2, _, x2, sr2, rw_, h2⟩ => ?_⟩⟩
  cases q : attS S2 d2 n d with
  | none => simp only [q] at h2; exact h2.elim
  | some S3 =>
    simp only [q] at h2
    obtain ⟨b, C, dx, fs, ea, hH, hcl, hna, hlen, sr3, x3⟩ := attS_ok g hf sr2 rw_ (x2.rv rv) q
    exact ⟨b, C, dx, fs, ea, hH, hcl, hna, hlen, h2 σ F2 m2 _ x3 sr3 (((er.mono x1).mono x2).mono x3)⟩
theorem assign_sub {o i : Expr} {p : Pos} {env : PySem.Env} (hi : fine i = true) (v : Value) : assign (.Subscript o i p) env v = (do
      let ov ← holding [v] (eval o env)
      let iv ← holding [v, ov] (eval i env)
      standAt p
      holding [v, ov, iv] (setItem ov iv v)
      release [v, ov, iv] []) := by
  cases i <;> first | rfl | cases hi
theorem ms_idxS (hu : X.A.units + 1 < cLine) {o i a : Expr} {p : Pos} {f k j : Mi.Env → Sto → R D} (hn : nocomp a = true) (hi0 : fine i = true) (ha : PE X a (EV X A W f)) (ho : PE X o (EV X A W k)) (hi : PE X i (EV X A W j)) :
    PS X (.Assign [.Subscript o i p] a pos) (tS X.K A W fun e S => (f e S).then e fun d S => (k e S).then e fun x S => (j e S).then e fun y S => match idxS S x y d with
      | some S => .nx e S
      | none => .bad) := by
  refine PS.imp (ps_asg ha (pg_sub ho hi (set_ok (A := A) hu) (assign_sub hi0)) (sole_swap hn) rfl rfl) fun D σ H ⟨e, S, F, m, sr, er, h⟩ => ⟨e, S, F, m, sr, er, Out.imp (OutS.then er h) fun v H1 ⟨d, S1, F1, m1, _, x1, sr1, rv, h1⟩ =>
    ⟨e, S1, F1, m1, sr1, er.mono x1, Out.imp (OutS.then (er.mono x1) h1) fun w H2 ⟨d2, S2, F2, m2, _, x2, sr2, rw_, h2⟩ => ⟨e, S2, F2, m2, sr2, (er.mono x1).mono x2, Out.imp (OutS.then ((er.mono x1).mono x2) h2) fun z H3 ⟨d3, S3, F3, m3, _, x3, sr3, rz, h3⟩ => ?_⟩⟩⟩
  cases q : idxS S3 d2 d3 d with
  | none => simp only [q] at h3; exact h3.elim
  | some S4 =>
    simp only [q] at h3
    exact ⟨S3, F3, m3, d2, d3, d, S4, sr3, x3.rv rw_, rz, x3.rv (x2.rv rv), q, fun H' x4 sr4 => h3 σ F3 m3 H' x4 sr4 ((((er.mono x1).mono x2).mono x3).mono x4)⟩
theorem ms_iff {t : Expr} {b c : List Stmt} {f : Mi.Env → Sto → R Bool} {g k : Mi.Env → Sto → RS} (ht : PT X t (ET X A W f)) (hb : PSs X b (tS X.K A W g)) (hc : PSs X c (tS X.K A W k)) : PS X (.If t b c pos) (tS X.K A W fun e S => (f e S).then e fun c S => if c then g e S else k e S) := by
  refine PS.imp (ps_if ht hb hc) fun D σ H ⟨e, S, F, m, sr, er, h⟩ => ⟨e, S, F, m, sr, er, Out.imp (OutS.then er h) fun v H1 ⟨d, S1, F1, m1, _, x1, sr1, rv, h1⟩ => ?_⟩
  have ev : d = v := rv
  subst ev
  cases d with
  | true => exact ⟨e, S1, F1, m1, sr1, er.mono x1, h1⟩
  | false => exact ⟨e, S1, F1, m1, sr1, er.mono x1, h1⟩
theorem mss_nil : PSs X [] (tS X.K A W fun e S => .nx e S) := PSs.imp pss_nil fun D σ H ⟨e, S, F, m, sr, er, h⟩ => h.nx sr er
theorem mss_cons {s : Stmt} {r : List Stmt} {f g : Mi.Env → Sto → RS} (hs : PS X s (tS X.K A W f)) (hr : PSs X r (tS X.K A W g)) : PSs X (s :: r) (tS X.K A W fun e S => (f e S).seq g) := by
  refine PSs.imp (pss_cons hs hr) fun D σ H ⟨e, S, F, m, sr, er, h⟩ => ⟨e, S, F, m, sr, er, ?_⟩
  have h' : OutS X.K A W D F m S H ((f e S).seq g) := h
  cases q : f e S with
  | nx e1 S1 =>
    rw [q] at h'
    exact fun σ' F' m' H' x s r => ⟨e1, S1, F', m', s, r, OutS.later h' x⟩
  | rt d S1 => rw [q] at h'; exact h'
  | bk e1 S1 => rw [q] at h'; exact h'
  | ct e1 S1 => rw [q] at h'; exact h'
  | ex c v e1 S1 => rw [q] at h'; exact h'
  | bad => rw [q] at h'; exact h'
/-- one statement more, behind which nothing is -/
theorem mss_one {s : Stmt} {f : Mi.Env → Sto → RS} (hs : PS X s (tS X.K A W f)) : PSs X [s] (tS X.K A W fun e S => (f e S).seq fun e S => .nx e S) := mss_cons hs mss_nil
end
end Mi
/-! Mi: loops, stores of comprehensions, += . -/
namespace Mi
open PySem PySem.Spec PyProof.Rows L2 TL

section
variable {X : Cx} {A : Nm} {W : WX} {pos : Pos} {T : Tab} {cl : Nat → List D → Sto → R D}
abbrev Fk (tg : Tg) (g : Mi.Env → Sto → RS) : D → Mi.Env → Sto → RS := fun x e S => match bindT tg e x with
  | some e => g e S
  | none => .bad
theorem ms_for (hp : PassesOwn (model X.prog X.w) X.A X.env X.xe) (hc : X.calm = true) (hN : X.N.Nodup) {tg : Tg} {tgE iter : Expr} {body : List Stmt} {f : Mi.Env → Sto → R Itd} {g : Mi.Env → Sto → RS} (ht : TgE X tg tgE) (hi : PI X tgE iter (EI X A W f)) (hb : PSs X body (tS X.K A W g))
    (hs : ∀ x, foldedSetIterable iter X.env x = pure x) : PS X (.For tgE iter body [] pos) (tS X.K A W fun e S => (f e S).then e fun xs S => forI (Fk tg g) xs FL 0 e S) := by
  refine PS.imp (ps_for hp hc hi (pg_tg (A := A) hc hN ht) hb hs) fun D σ H ⟨e, S, F, m, sr, er, h⟩ => ⟨e, S, F, m, sr, er, OutI.imp (OutS.thenI er h) fun J H1 ⟨it, S1, F1, m1, _, x1, sr1, wk1, h1⟩ => ?_⟩
  refine ⟨fun i k σ H => ∃ e S F m, SR X.K A F m S H ∧ ER X.K A F m S.c.length e σ ∧ Wk X.K A J it F m S ∧ OutS X.K A W D F m S H (forI (Fk tg g) it k i e S), ⟨FL, e, S1, F1, m1, sr1, er.mono x1, wk1, h1⟩, fun i k σ H ⟨e, S, F, m, sr, er, wk, h⟩ => ?_⟩
  cases k with
  | zero => exact (show False from h).elim
  | succ k =>
    have w := wk F m S H ⟨fun _ _ h => h, fun _ _ => rfl, Nat.le_refl _⟩ sr i
    have h' : OutS X.K A W D F m S H (match itAt it S i with
      | none => .bad
      | some none => .nx e S
      | some (some x) => match Fk tg g x e S with
        | .nx e S => forI (Fk tg g) it k (i + 1) e S
        | .ct e S => forI (Fk tg g) it k (i + 1) e S
        | .bk e S => .nx e S
        | z => z) := h
    cases q : itAt it S i with
    | none => rw [q] at h'; exact h'.elim
    | some oo =>
      rw [q] at h' w
      cases oo with
      | none => exact .inl ⟨w, OutS.nx h' sr er⟩
      | some d =>
        obtain ⟨g1, g2⟩ := w
        refine .inr ⟨g1, _, fun σ' H' h => ⟨k, Nat.lt_succ_self _, h⟩, fun y H' hy => ?_⟩
        obtain ⟨F2, sr2, x2, rv⟩ := g2 y H' hy
        have h2 : OutS X.K A W D F m S H (match Fk tg g d e S with
          | .nx e S => forI (Fk tg g) it k (i + 1) e S
          | .ct e S => forI (Fk tg g) it k (i + 1) e S
          | .bk e S => .nx e S
          | z => z) := h'
        have h3 := OutS.later h2 x2
        cases qb : bindT tg e d with
        | none => simp only [Fk, qb] at h3; exact h3.elim
        | some e1 =>
          refine ⟨e, d, S, F2, m, e1, sr2, er.mono x2, rv, qb, fun σ2 er2 _ => ⟨e1, S, F2, m, sr2, er2, ?_⟩⟩
          simp only [Fk, qb] at h3
          cases qg : g e1 S with
          | nx e3 S3 =>
            rw [qg] at h3
            exact fun σ' F' m' H' x s r => ⟨e3, S3, F', m', s, r, wk.later (x2.trans x).w, OutS.later h3 x⟩
          | ct e3 S3 =>
            rw [qg] at h3
            exact fun σ' F' m' H' x s r => ⟨e3, S3, F', m', s, r, wk.later (x2.trans x).w, OutS.later h3 x⟩
          | bk e3 S3 => rw [qg] at h3; exact h3
          | rt d3 S3 => rw [qg] at h3; exact h3
          | ex c v e3 S3 => rw [qg] at h3; exact h3
          | bad => rw [qg] at h3; exact h3
theorem ms_whil (hp : PassesOwn (model X.prog X.w) X.A X.env X.xe) {t : Expr} {body : List Stmt} {f : Mi.Env → Sto → R Bool} {g : Mi.Env → Sto → RS} (ht : PT X t (ET X A W f)) (hb : PSs X body (tS X.K A W g)) : PS X (.While t body [] pos) (tS X.K A W fun e S => whileL f g FUEL e S) := by
  refine PS.imp (ps_while hp ht hb) fun D σ H ⟨e, S, F, m, sr, er, h⟩ => ?_
  refine ⟨fun k σ H => ∃ e S F m, SR X.K A F m S H ∧ ER X.K A F m S.c.length e σ ∧ OutS X.K A W D F m S H (whileL f g k e S), ⟨FUEL, e, S, F, m, sr, er, h⟩, fun k σ H ⟨e, S, F, m, sr, er, h⟩ => ?_⟩
  cases k with
  | zero => exact (show False from h).elim
  | succ k =>
    have h' : OutS X.K A W D F m S H ((f e S).then e fun c S => if c then (match g e S with
      | .nx e S => whileL f g k e S
      | .ct e S => whileL f g k e S
      | .bk e S => .nx e S
      | z => z) else .nx e S) := h
    refine ⟨e, S, F, m, sr, er, Out.imp (OutS.then er h') fun b H1 ⟨c, S1, F1, m1, _, x1, sr1, eb, h1⟩ => ?_⟩
    have eb : c = b := eb
    subst eb
    cases c with
    | false =>
      rw [if_neg Bool.false_ne_true]
      exact OutS.nx h1 sr1 (er.mono x1)
    | true =>
      rw [if_pos rfl]
      refine ⟨_, fun σ' H' h => ⟨k, Nat.lt_succ_self _, h⟩, e, S1, F1, m1, sr1, er.mono x1, ?_⟩
      have h2 : OutS X.K A W D F1 m1 S1 H1 (match g e S1 with
        | .nx e S => whileL f g k e S
        | .ct e S => whileL f g k e S
        | .bk e S => .nx e S
        | z => z) := h1
      cases qg : g e S1 with
      | nx e3 S3 =>
        rw [qg] at h2
        exact fun σ' F' m' H' x s r => ⟨e3, S3, F', m', s, r, OutS.later h2 x⟩
      | ct e3 S3 =>
        rw [qg] at h2
        exact fun σ' F' m' H' x s r => ⟨e3, S3, F', m', s, r, OutS.later h2 x⟩
      | bk e3 S3 => rw [qg] at h2; exact h2
      | rt d3 S3 => rw [qg] at h2; exact h2
      | ex c v e3 S3 => rw [qg] at h2; exact h2
      | bad => rw [qg] at h2; exact h2

/-! ### x = [.. for ..] -/
theorem ms_setLc {el : CE} {tg : Tg} {ci : CI} {co : CO} {mu : Bool} {i : Nat} {y : Str} {py : Pos} {elt tgE iter : Expr} {ifs : List Expr} {scope : Scope} {own : List (Str × Nat)} {pos spos : Pos} (hc : X.calm = true) (hN : X.N.Nodup) (hy : X.N[i]? = some y) (hyl : X.env.scope.names.lookup y = some .local)
    (hsw : swapsWith (.ListComp elt [⟨tgE, iter, ifs, 0⟩] scope pos) (some (.Name y py)) spos.line X.env = pure true) (hi : PI X tgE iter (EI X A W (evI T cl ci))) (ok : BlkOk X.N X.env.scope scope own) (hvs : own.map (·.2) = tg.slots)
    (hg : ∀ (s : Shared) (H : Hp) (C : Addr) (cl : List (Str × Addr)) (fp : List Addr), PG (X.blk s H scope (compEnvC scope cl C X.env) fp) tgE (gT X.K A tg))
    (ht : ∀ (s : Shared) (H : Hp) (C : Addr) (cl' : List (Str × Addr)) (fp : List Addr), PTs (X.blk s H scope (compEnvC scope cl' C X.env) fp) ifs (tG X.K A (rlI Bool) W0 (evC T cl co)))
    (he : ∀ (s : Shared) (H : Hp) (C : Addr) (cl' : List (Str × Addr)) (fp : List Addr), PE (X.blk s H scope (compEnvC scope cl' C X.env) fp) elt (tG X.K A (rlV X.K A) W0 (ev T cl el).1))
    (hs : ∀ x, foldedSetIterable iter X.env x = pure x) : PS X (.Assign [.Name y py] (.ListComp elt [⟨tgE, iter, ifs, 0⟩] scope pos) spos) (tS X.K A W fun e S => (vLc T cl mu el tg ci co e S).then e fun d S => .nx (e.set i (some d)) S) := by
  refine PS.imp (ps_setLc hc hN hy hyl hsw hi ok hg ht he hs) fun D σ H ⟨e, S, F, m, sr, er, h⟩ => ?_
  refine t_lc (T := T) (cl := cl) (W := W) (mu := mu) (el := el) (tg := tg) (ci := ci) (co := co) hvs ⟨e, S, F, m, sr, er, Out.imp (OutS.then er h) fun v H1 ⟨d, S1, F1, m1, _, x1, sr1, rv, h1⟩ => ?_⟩
  exact h1.nx sr1 ((er.mono x1).set i rv)
theorem ms_setLc2 {el : CE} {tg tg2 : Tg} {ci ci2 : CI} {co co2 : CO} {mu : Bool} {i : Nat} {y : Str} {py : Pos} {elt tgE iter tgE1 iter1 : Expr} {ifs ifs1 : List Expr} {scope : Scope} {own : List (Str × Nat)} {pos spos : Pos} (hc : X.calm = true) (hN : X.N.Nodup) (hy : X.N[i]? = some y) (hyl : X.env.scope.names.lookup y = some .local)
    (hsw : swapsWith (.ListComp elt [⟨tgE, iter, ifs, 0⟩, ⟨tgE1, iter1, ifs1, 0⟩] scope pos) (some (.Name y py)) spos.line X.env = pure true) (hi : PI X tgE iter (EI X A W (evI T cl ci))) (ok : BlkOk X.N X.env.scope scope own) (hvs : own.map (·.2) = tg.slots ++ tg2.slots)
    (hg : ∀ (s : Shared) (H : Hp) (C : Addr) (cl : List (Str × Addr)) (fp : List Addr), PG (X.blk s H scope (compEnvC scope cl C X.env) fp) tgE (gT X.K A tg))
    (ht : ∀ (s : Shared) (H : Hp) (C : Addr) (cl' : List (Str × Addr)) (fp : List Addr), PTs (X.blk s H scope (compEnvC scope cl' C X.env) fp) ifs (tG X.K A (rlI Bool) W0 (evC T cl co)))
    (hi1 : ∀ (s : Shared) (H : Hp) (C : Addr) (cl' : List (Str × Addr)) (fp : List Addr), PI (X.blk s H scope (compEnvC scope cl' C X.env) fp) tgE1 iter1 (EI X A W0 (evI T cl ci2)))
    (hg1 : ∀ (s : Shared) (H : Hp) (C : Addr) (cl : List (Str × Addr)) (fp : List Addr), PG (X.blk s H scope (compEnvC scope cl C X.env) fp) tgE1 (gT X.K A tg2))
    (ht1 : ∀ (s : Shared) (H : Hp) (C : Addr) (cl' : List (Str × Addr)) (fp : List Addr), PTs (X.blk s H scope (compEnvC scope cl' C X.env) fp) ifs1 (tG X.K A (rlI Bool) W0 (evC T cl co2)))
    (he : ∀ (s : Shared) (H : Hp) (C : Addr) (cl' : List (Str × Addr)) (fp : List Addr), PE (X.blk s H scope (compEnvC scope cl' C X.env) fp) elt (tG X.K A (rlV X.K A) W0 (ev T cl el).1))
    (hs : ∀ x, foldedSetIterable iter X.env x = pure x) (hs1 : ∀ env x, foldedSetIterable iter1 env x = pure x) :
    PS X (.Assign [.Name y py] (.ListComp elt [⟨tgE, iter, ifs, 0⟩, ⟨tgE1, iter1, ifs1, 0⟩] scope pos) spos) (tS X.K A W fun e S => (vLc2 T cl mu el tg ci co tg2 ci2 co2 e S).then e fun d S => .nx (e.set i (some d)) S) := by
  refine PS.imp (ps_setLc2 (vs1 := tg2.slots) hc hN hy hyl hsw hi ok (fun i hi => by rw [hvs]; exact List.mem_append_right _ hi) hg ht hi1 hg1 ht1 he hs hs1) fun D σ H ⟨e, S, F, m, sr, er, h⟩ => ?_
  refine t_lc2 (T := T) (cl := cl) (W := W) (mu := mu) (el := el) (tg := tg) (ci := ci) (co := co) (tg2 := tg2) (ci2 := ci2) (co2 := co2) hvs rfl ⟨e, S, F, m, sr, er, Out.imp (OutS.then er h) fun v H1 ⟨d, S1, F1, m1, _, x1, sr1, rv, h1⟩ => ?_⟩
  exact h1.nx sr1 ((er.mono x1).set i rv)

/-! ### x += e -/
def ipOk : BOp → Bool
  | .pow => false
  | _ => true
theorem ip_ok {op : BOp} (ho : ipOk op = true) {i j : Int} {z : D} (e : binO op (.int i) (.int j) = some z) : ∃ n : Int, z = .int n ∧ OpR X (inplaceOp (opOf op)) (fun x y H Q => x = .int i ∧ y = .int j ∧ Q (.int n) H) := by
  cases op with
  | add => cases e; exact ⟨_, rfl, fun pins s σ H x y v u Q I rx ry ⟨e1, e2, q⟩ => iop_add pins s σ H x y v u Q I rx ry ⟨i, j, e1, e2, q⟩⟩
  | sub => cases e; exact ⟨_, rfl, fun pins s σ H x y v u Q I rx ry ⟨e1, e2, q⟩ => iop_sub pins s σ H x y v u Q I rx ry ⟨i, j, e1, e2, q⟩⟩
  | mul =>
    have e' : (if (small i || small j) = true then some (D.int (i * j)) else none) = some z := e
    by_cases c : (small i || small j) = true
    · rw [if_pos c] at e'
      cases e'
      exact ⟨_, rfl, fun pins s σ H x y v u Q I rx ry ⟨e1, e2, q⟩ => iop_mul pins s σ H x y v u Q I rx ry ⟨i, j, e1, e2, (Bool.or_eq_true_iff.mp c).elim (fun h => .inl (small_ok h)) (fun h => .inr (small_ok h)), q⟩⟩
    · rw [if_neg c] at e'
      cases e'
  | fdiv =>
    have e' : (if 0 < j ∧ j < 1073741824 then some (D.int (i / j)) else none) = some z := e
    by_cases c : 0 < j ∧ j < 1073741824
    · rw [if_pos c] at e'
      cases e'
      exact ⟨_, rfl, fun pins s σ H x y v u Q I rx ry ⟨e1, e2, q⟩ => iop_fdiv pins s σ H x y v u Q I rx ry ⟨i, j, e1, e2, c, q⟩⟩
    · rw [if_neg c] at e'
      cases e'
  | mod =>
    have e' : (if 0 < j then some (D.int (i % j)) else none) = some z := e
    by_cases c : 0 < j
    · rw [if_pos c] at e'
      cases e'
      exact ⟨_, rfl, fun pins s σ H x y v u Q I rx ry ⟨e1, e2, q⟩ => iop_mod pins s σ H x y v u Q I rx ry ⟨i, j, e1, e2, c, q⟩⟩
    · rw [if_neg c] at e'
      cases e'
  | pow => cases ho
def rIp (K : PySem.W.Frag) (A : Nm) (op : BOp) : R2 := fun x y H Q => ∃ (i j : Int) (z : D), x = .int i ∧ y = .int j ∧ binO op (.int i) (.int j) = some z ∧ ∀ n : Int, z = .int n → Q (.int n) H
theorem ip_rel {op : BOp} (ho : ipOk op = true) : PIp X (opOf op) (rIp X.K A op) := fun pins s σ H x y v u Q I rx ry ⟨i, j, z, e1, e2, e3, q⟩ => by
  obtain ⟨n, ez, r⟩ := ip_ok (X := X) ho e3
  exact r pins s σ H x y v u Q I rx ry ⟨e1, e2, q n ez⟩
theorem ms_aug (hN : X.N.Nodup) {i : Nat} {x : Str} {p : Pos} {op : BOp} (ho : ipOk op = true) (ht : TgN X i x) {a : Expr} {f : Mi.Env → Sto → R D} (ha : PE X a (EV X A W f)) : PS X (.AugAssign (.Name x p) (opOf op) a pos) (tS X.K A W fun e S => match e[i]? with
    | some (some x) => (f e S).then e fun y S => match x, y with
      | .int _, .int _ => match binO op x y with
        | some z => .nx (e.set i (some z)) S
        | none => .bad
      | _, _ => .bad
    | _ => .bad) := by
  refine PS.imp (ps_aug hN ht.1 ht.2.1 ha (ip_rel (A := A) ho) ht.2.2) fun D σ H ⟨e, S, F, m, sr, er, h⟩ => ?_
  dsimp only at h
  cases q : e[i]? with
  | none => simp only [q] at h; exact h.elim
  | some o =>
    cases o with
    | none => simp only [q] at h; exact h.elim
    | some d =>
      simp only [q] at h
      obtain ⟨v, h1, h2⟩ := er.get i d q
      refine ⟨v, h1, e, S, F, m, sr, er, Out.imp (OutS.then er h) fun w H1 ⟨d2, S1, F1, m1, _, x1, sr1, rw_, h3⟩ => ?_⟩
      cases d with
      | int j =>
        cases d2 with
        | int k =>
          simp only at h3
          cases qz : binO op (.int j) (.int k) with
          | none => simp only [qz] at h3; exact h3.elim
          | some z =>
            simp only [qz] at h3
            exact ⟨j, k, z, h2, rw_, qz, fun n en => h3.nx sr1 ((er.mono x1).set i (by rw [en]; rfl))⟩
        | _ => exact h3.elim
      | _ => exact h3.elim
end
end Mi
/-! Mi: exceptions. -/
namespace Mi
open PySem PySem.Spec PyProof.Rows L2 TL

/-! ### the __init__ of an own exception -/
def tOI (K : PySem.W.Frag) (ta : TA) : TE := tVeI K ta
theorem pe_oinit {X : Cx} {B : Addr} {mc : Value} {x : Str} {e : Expr} {es : List Expr} {ta : TA} {p1 p2 pos : Pos} (hg : Gl X x) (hm : X.mg x = some (.ref B)) (hdb : (x == ("__debug__" : Str)) = false) (r : ClX.CRead X.K B mc)
    (vV : PySem.W.findCls X.K (.ref B) mc "__init__" = some (.val (.builtin "ValueError.__init__"))) (hf : (e :: es).all fine = true) (hn : (e :: es).length < 29) (hl : (p2.endLine == pos.line) = true) (ha : PA X (e :: es) ta) :
    PE X (.Call (.Attribute (.Name x p1) "__init__" p2) (e :: es) [] pos) (tVeI X.K ta) := by
  have hf' := hf
  rw [List.all_cons] at hf'
  obtain ⟨hf1, hf2⟩ := Bool.and_eq_true_iff.mp hf'
  refine ⟨fun pins s σ H Q I h => ?_⟩
  refine PySem.W.methodCall_KW (ld_glob I hg hm ?_ hdb) (mth_eval rfl hl hf hn)
  refine PySem.W.method_cls I.kIn r.ga (PySem.W.cls_value I.kIn r.rd vV rfl ?_)
  show wpAny _ _ (callWith pos (Value.builtin "ValueError.__init__") [] (backTo pos (starEach (e :: es) X.env)) []) _ _ _
  refine PyProof.Rows.callWith_method1 (thn (ha.run pos pins _ σ H _ (I.tok _) h) fun us s1 ⟨vs, H1, I1, r1, a, C, ws, ev, hl, T, ea, q⟩ => ?_) (star_plain hf1) (back_plain hf2)
  subst ev
  cases r1 with
  | @cons _ u0 _ ur ra rw' =>
    obtain rfl : u0 = Value.ref a := ra
    have hlen : ur.length ≤ sizeLine := by
      rw [← Paired.length rw', sizeLine_eq]
      omega
    exact oinit_ok T I1 ea hlen fun s' J => ⟨.non, H1, J, rfl, q⟩
/-- ValueError.__init__(self, ..) by the name of the built-in class -/
theorem pe_binit {X : Cx} {e : Expr} {es : List Expr} {ta : TA} {p1 p2 pos : Pos} (hg : Gl X "ValueError") (hm : X.mg "ValueError" = none) (vV : PySem.W.findCls X.K (.type "ValueError") (.type "type") "__init__" = some (.val (.builtin "ValueError.__init__")))
    (hf : (e :: es).all fine = true) (hn : (e :: es).length < 29) (hl : (p2.endLine == pos.line) = true) (ha : PA X (e :: es) ta) : PE X (.Call (.Attribute (.Name "ValueError" p1) "__init__" p2) (e :: es) [] pos) (tVeI X.K ta) := by
  have hf' := hf
  rw [List.all_cons] at hf'
  obtain ⟨hf1, hf2⟩ := Bool.and_eq_true_iff.mp hf'
  exact pe_veinit hg hm vV ha (mth_eval rfl hl hf hn) (star_plain hf1) (back_plain hf2)
/-- what it promises -/
def spX (K : PySem.W.Frag) (f : Str) : Sp := fun vs H Q _ => ∃ a C y, vs = [.ref a, y] ∧ OexC K C ∧ PySem.W.findIn K (.ref C) f = some none ∧ H a = some (exo a C none) ∧ ∀ dx, H dx = none → dx ≠ a → Q .non (upd (upd H dx (exd dx [(f, y)])) a (exo a C (some dx)))
def tXI (K : PySem.W.Frag) (f : Str) : TS := fun D σ H => ∃ a C y, σ = [some (.ref a), some y] ∧ OexC K C ∧ PySem.W.findIn K (.ref C) f = some none ∧ H a = some (exo a C none) ∧ ∀ dx, H dx = none → dx ≠ a → D.nx σ (upd (upd H dx (exd dx [(f, y)])) a (exo a C (some dx)))
theorem mss_init {X : Cx} {b : Expr} {s v f : Str} {t : Str} {kc : Nat} {p1 p2 p3 p4 p5 p6 p7 p8 p9 p10 : Pos} (h0 : X.N[0]? = some s) (h1 : X.N[1]? = some v) (v0 : Vis X.env.scope s) (v1 : Vis X.env.scope v)
    (d0 : (s == ("__debug__" : Str)) = false) (c0 : (s == ("__classdict__" : Str)) = false) (d1 : (v == ("__debug__" : Str)) = false) (c1 : (v == ("__classdict__" : Str)) = false)
    (hb : ∀ ta, PA X [.Name s p3, .Constant (.str t) kc p4] ta → PE X (.Call (.Attribute b "__init__" p2) [.Name s p3, .Constant (.str t) kc p4] [] p5) (tVeI X.K ta)) :
    PSs X [.Expr (.Call (.Attribute b "__init__" p2) [.Name s p3, .Constant (.str t) kc p4] [] p5) p6, .Assign [.Attribute (.Name s p7) f p8] (.Name v p9) p10] (tXI X.K f) := by
  refine PSs.imp (pss_cons (ps_expr (hb _ (pa_cons (pe_var h0 v0 d0 c0) (pa_cons pe_str pa_nil)))) (pss_one (ps_ost (pe_var h0 v0 d0 c0) (pe_var h1 v1 d1 c1)))) fun D σ H ⟨a, C, y, e, T, hno, hH, q⟩ => ?_
  subst e
  refine ⟨.ref a, rfl, ⟨a, C, [_], rfl, by show 1 ≤ 1000; decide, T, hH, ?_⟩⟩
  exact ⟨y, rfl, .ref a, rfl, a, C, rfl, T, hno, .inl ⟨hH, fun dx n ne => q dx n ne⟩⟩

/-! ### raise C(e) -/
/-- the classes of exceptions that are raised -/
structure FE (X : Cx) (A : Nm) (T : Tab) (xl : List Nat) : Prop where
  inj : ∀ i j, A.att i = A.att j → i = j
  mak : ∀ c d f, T.cls[c]? = some d → d.exc = some f → OexC X.K (A.exc c) ∧ PySem.W.findIn X.K (.ref (A.exc c)) (A.att f) = some none ∧ ∃ fI fd ps, PySem.W.findIn X.K (.ref (A.exc c)) "__init__" = some (some (.ref fI)) ∧ PySem.W.typeIn X.K (.ref fI) = some (.type "function") ∧
    FnOk X.prog X.w X.K X.mg X.base (L2.CX X.prog X.w) 1 fI fd ps (spX X.K (A.att f)) ∧ Binds X.K fd ps []
  xf : ∀ c, XfC X.K (A.exc c)
  no : ∀ c f, f ∈ xl → PySem.W.findIn X.K (.ref (A.exc c)) (A.att f) = some none
  ex : ∀ c b, excT T c = true → b < T.cls.length → nrm T b = false → PySem.W.exmOne X.K (.ref (A.exc c)) (.ref (A.exc b)) = some (isSub T DEEP c b)
section
variable {X : Cx} {A : Nm} {W : WX} {pos : Pos} {T : Tab} {xl : List Nat} {k : Nat} {fa : Nat → Addr}
theorem del_upd {H : Hp} {a d : Addr} {o1 o2 : HO} {u : HO} (ha : H a = none) (hd : d ≠ a) : upd (del (upd (upd (upd H a o1) d o2) a u) a) d o2 = upd H d o2 := by
  funext b
  by_cases h1 : b = d
  · rw [h1, upd_same, upd_same]
  · rw [upd_ne h1, upd_ne h1]
    by_cases h2 : b = a
    · rw [h2, del_same, ha]
    · rw [del_ne h2, upd_ne h2, upd_ne h1, upd_ne h2]
theorem ms_rais (fx : FX X A T k fa) (fe : FE X A T xl) (hc : X.calm = true) (tk : Takes X W) {c : Nat} {d : ClsD} {f : Nat} (hd : T.cls[c]? = some d) (hf : d.exc = some f) {x : Str} {p pc : Pos} {a : Expr} {g : Mi.Env → Sto → R (List D)} (hg : Gl X x) (hm : X.mg x = some (.ref (A.exc c)))
    (hdb : (x == ("__debug__" : Str)) = false) (ha0 : fine a = true) (ha : PA X [a] (EL X A W g)) : PS X (.Raise (some (.Call (.Name x p) [a] [] pc)) none pos) (tS X.K A W fun e S => (g e S).then e fun ds S => match excOf T c ds with
      | some v => .ex c v e S
      | none => .bad) := by
  obtain ⟨ox, hno, fI, fd, ps, hi, ht, hF, hb⟩ := fe.mak c d f hd hf
  have mk := pmk_oex (dvs := []) (pos := pc) (p := p) ox hi ht (hF.mono (j := 1) (k := 2 * k + 1) (by omega)) (fx.room) hb .nil (fun pins σ H s e s' I c => (by obtain ⟨_, _, _, _, _, _, _, _, _, _, _, _, z⟩ := c; exact z.elim)) hg hm ha hdb (star_plain ha0) (back_plain (es := []) rfl)
  refine PS.imp (ps_raise hc tk mk) fun D σ H ⟨e, S, F, m, sr, er, h⟩ => ⟨e, S, F, m, sr, er, Out.imp (OutS.then er h) fun vs H1 ⟨ds, S1, F1, m1, _, x1, sr1, rs, h1⟩ => ?_⟩
  have ee : excOf T c ds = match ds with
      | [x] => some [(f, x)]
      | _ => none := by
    unfold excOf
    simp only [hd, hf]
    cases ds with
    | nil => rfl
    | cons y r => cases r <;> rfl
  match ds, rs with
  | [dx], rs =>
    obtain ⟨v, ev, hv⟩ := rvs1 rs
    subst ev
    have h2 : OutS X.K A W D F1 m1 S1 H1 (.ex c [(f, dx)] e S1) := by
      simp only [ee] at h1
      exact h1
    refine ⟨by show 1 ≤ 1000; decide, fun a na => ⟨a, A.exc c, v, rfl, ox, hno, upd_same, fun d2 hd2 hne => ⟨rfl, d2, [(A.att f, v)], upd_same, ?_, ?_, ?_⟩⟩⟩
    · rw [upd_ne hne, upd_same]
    · rw [upd_ne hne] at hd2
      exact hd2
    · rw [upd_ne hne] at hd2
      have e1 : upd (del (upd (upd (upd H1 a (exo a (A.exc c) none)) d2 (exd d2 [(A.att f, v)])) a (exo a (A.exc c) (some d2))) a) d2 (.xd [(A.att f, v)]) = upd H1 d2 (.xd [(A.att f, v)]) := by
        funext b
        by_cases q1 : b = d2
        · rw [q1, upd_same, upd_same]
        · rw [upd_ne q1, upd_ne q1]
          by_cases q2 : b = a
          · rw [q2, del_same, na]
          · rw [del_ne q2, upd_ne q2, upd_ne q1, upd_ne q2]
      rw [e1]
      obtain ⟨s2, x2⟩ := sr1.new (o := .xd [(A.att f, v)]) hd2
      exact h2 σ _ m1 _ d2 _ x2 s2 ((er.mono x1).mono x2) upd_same ⟨v, [], rfl, x2.rv hv, rfl⟩
  | [], rs => simp only [ee] at h1; exact h1.elim
  | _ :: _ :: _, rs => simp only [ee] at h1; exact h1.elim

/-! ### except suites -/
/-- what is known within: a the exception, i its name's slot -/
structure Hn (K : PySem.W.Frag) (A : Nm) (F : Hp) (m : Nat → Addr) (n : Nat) (a : Addr) (i : Option Nat) (cls : Value) (d : Option Addr) (σ : L2.St) (c : Nat) (v : List (Nat × D)) : Prop where
  ec : cls = .ref (A.exc c)
  fld : ∃ dd fs, d = some dd ∧ F dd = some (.xd fs) ∧ RVf K A F m n v fs
  at_ : ∀ j, i = some j → σ[j]? = some (some (.ref a))
theorem Hn.mono {K : PySem.W.Frag} {F m S H F' m' S' H' a i cls d σ c v} (h : Hn K A F m S.c.length a i cls d σ c v) (x : Ext F m S H F' m' S' H') : Hn K A F' m' S'.c.length a i cls d σ c v := by
  obtain ⟨dd, fs, e1, e2, e3⟩ := h.fld
  exact ⟨h.ec, ⟨dd, fs, e1, x.sub _ _ e2, RVf.mono x.sub x.ag x.le v fs e3⟩, h.at_⟩
def tH {α β : Type} (K : PySem.W.Frag) (A : Nm) (rl : Rl α β) (a : Addr) (i : Option Nat) (cls : Value) (d : Option Addr) (f : List (Nat × D) → Mi.Env → Sto → R α) : L2.St → Hp → (β → Hp → Prop) → Prop := fun σ H Q => ∃ e S F m c v, SR K A F m S H ∧ ER K A F m S.c.length e σ ∧ Hn K A F m S.c.length a i cls d σ c v ∧ Out K A rl W0 σ F m S H (f v e S) Q
def tHS (K : PySem.W.Frag) (A : Nm) (a : Addr) (i : Option Nat) (cls : Value) (d : Option Addr) (f : List (Nat × D) → Mi.Env → Sto → RS) : TS := fun D σ H => ∃ e S F m c v, SR K A F m S H ∧ ER K A F m S.c.length e σ ∧ Hn K A F m S.c.length a i cls d σ c v ∧ OutS K A W0 D F m S H (f v e S)
section
variable {a : Addr} {oe : Obj} {cls : Value} {d : Option Addr} {pn : List (Addr × Obj)} {i : Option Nat}
theorem mh_cst {Y : Cx} {K : PySem.W.Frag} {co : Const} {kk : Nat} {dt : D} {v : V} (hp : PE Y (.Constant co kk pos) (tC v)) (hd : ∀ F m n, RV K A F m n dt v) : PE Y (.Constant co kk pos) (tH K A (rlV K A) a i cls d fun _ _ S => .ok dt S) :=
  PE.imp hp fun σ H Q ⟨e, S, F, m, c, w, sr, er, hn, h⟩ => Out.here h sr (hd F m _)
theorem mh_att (fe : FE X A T xl) {f j : Nat} (hf : f ∈ xl) {x : Str} {p : Pos} (hz : Zc cls d oe) (hfl : ∃ vs, oe.data = .fields vs) (hj : X.N[j]? = some x) (hv : Vis X.env.scope x) (hd : (x == ("__debug__" : Str)) = false) (hcd : (x == ("__classdict__" : Str)) = false) :
    PE (X.suite a ((a, oe) :: pn)) (.Attribute (.Name x p) (A.att f) pos) (tH X.K A (rlV X.K A) a (some j) cls d fun v _ S => if some j = some j then R.of S (v.lookup f) else .bad) := by
  refine ⟨fun pins s σ H Q I ⟨e, S, F, m, c, v, sr, er, hn, h⟩ => ?_⟩
  have h' : Out X.K A (rlV X.K A) W0 σ F m S H (R.of S (v.lookup f)) Q := by
    have h2 : Out X.K A (rlV X.K A) W0 σ F m S H (if some j = some j then R.of S (v.lookup f) else .bad) Q := h
    rw [if_pos rfl] at h2
    exact h2
  obtain ⟨u, eu, h3⟩ := out_of h'
  obtain ⟨dd, fs, e1, e2, e3⟩ := hn.fld
  obtain ⟨w, l1, l2⟩ := RVf.look fe.inj e3 eu
  exact (pe_xf (C := A.exc c) (fe.xf c) (fe.no c f hf) hz hfl (pe_var (X := X.suite a ((a, oe) :: pn)) hj hv hd hcd) (by rfl)).run pins s σ H Q I ⟨.ref a, hn.at_ j rfl, rfl, hn.ec, dd, fs, w, e1, sr.sub _ _ e2, l1, Out.here h3 sr l2⟩
theorem mh_nil {Y : Cx} {K : PySem.W.Frag} : PA Y [] (tH K A (rlVs K A) a i cls d fun _ _ S => .ok [] S) := PA.imp pa_nil fun σ H Q ⟨e, S, F, m, c, v, sr, er, hn, h⟩ => h F m H [] Ext.refl sr rfl
theorem mh_cons {Y : Cx} {K : PySem.W.Frag} {x : Expr} {es : List Expr} {f : List (Nat × D) → Mi.Env → Sto → R D} {g : List (Nat × D) → Mi.Env → Sto → R (List D)} (hf : fine x = true) (ha : PE Y x (tH K A (rlV K A) a i cls d f)) (hr : PA Y es (tH K A (rlVs K A) a i cls d g)) :
    PA Y (x :: es) (tH K A (rlVs K A) a i cls d fun v e S => (f v e S).bind fun d S => (g v e S).bind fun ds S => .ok (d :: ds) S) :=
  PA.imp (pa_cons ha hr (star_plain hf)) fun σ H Q ⟨e, S, F, m, c, v, sr, er, hn, h⟩ =>
    ⟨e, S, F, m, c, v, sr, er, hn, Out.imp (Out.bind h) fun x H1 ⟨dx, S1, F1, m1, _, x1, sr1, rx, h1⟩ => ⟨e, S1, F1, m1, c, v, sr1, er.mono x1, hn.mono x1, Out.imp (Out.bind h1) fun xs H2 ⟨ds, S2, F2, m2, _, x2, sr2, rs, h2⟩ =>
      h2 F2 m2 H2 (x :: xs) Ext.refl sr2 ⟨x, xs, rfl, x2.rv rx, rs⟩⟩⟩
theorem mh_tup {Y : Cx} {K : PySem.W.Frag} {es : List Expr} {kk : Nat} {f : List (Nat × D) → Mi.Env → Sto → R (List D)} (h : PA Y es (tH K A (rlVs K A) a i cls d f)) : PE Y (.Tuple es kk pos) (tH K A (rlV K A) a i cls d fun v e S => (f v e S).bind fun ds S => if ds.length ≤ LL then .ok (.tup ds) S else .bad) := by
  refine PE.imp (pe_tup h) fun σ H Q ⟨e, S, F, m, c, v, sr, er, hn, h⟩ => ⟨e, S, F, m, c, v, sr, er, hn, Out.imp (Out.bind h) fun xs H1 ⟨ds, S1, F1, m1, _, x1, sr1, rs, h1⟩ => ?_⟩
  have h2 : Out K A (rlV K A) W0 σ F1 m1 S1 H1 (if ds.length ≤ LL then .ok (.tup ds) S1 else .bad) Q := h1
  by_cases c : ds.length ≤ LL
  · rw [if_pos c] at h2
    exact ⟨by rw [RVs.length rs]; exact Nat.le_trans c LL_line, fun p hp => Out.tup h2 sr1 hp c rs⟩
  · rw [if_neg c] at h2
    exact h2.elim
theorem mh_lst {Y : Cx} {K : PySem.W.Frag} {es : List Expr} {f : List (Nat × D) → Mi.Env → Sto → R (List D)} (h : PA Y es (tH K A (rlVs K A) a i cls d f)) : PE Y (.List es pos) (tH K A (rlV K A) a i cls d fun v e S => (f v e S).bind fun ds S => if ds.length ≤ LL then .ok (.lst ds) S else .bad) := by
  refine PE.imp (pe_lst h) fun σ H Q ⟨e, S, F, m, c, v, sr, er, hn, h⟩ => ⟨e, S, F, m, c, v, sr, er, hn, Out.imp (Out.bind h) fun xs H1 ⟨ds, S1, F1, m1, _, x1, sr1, rs, h1⟩ => ?_⟩
  have h2 : Out K A (rlV K A) W0 σ F1 m1 S1 H1 (if ds.length ≤ LL then .ok (.lst ds) S1 else .bad) Q := h1
  by_cases c : ds.length ≤ LL
  · rw [if_pos c] at h2
    exact ⟨by rw [RVs.length rs]; exact Nat.le_trans c LL_line, fun p hp => Out.lst h2 sr1 hp c rs⟩
  · rw [if_neg c] at h2
    exact h2.elim
theorem noEx_then {α β : Type} {rl : Rl α β} {K : PySem.W.Frag} {F : Hp} {m : Nat → Addr} {S : Sto} {H : Hp} {σ : L2.St} {e : Mi.Env} {D : Ends} {r : R α} {f : α → Sto → RS} (er : ER K A F m S.c.length e σ) (h : OutS K A W0 D F m S H ((noEx r).then e f)) :
    Out K A rl W0 σ F m S H r fun b H1 => ∃ a S1 F1 m1, Ext F m S H F1 m1 S1 H1 ∧ SR K A F1 m1 S1 H1 ∧ rl F1 m1 S1.c.length a b ∧ OutS K A W0 D F1 m1 S1 H1 (f a S1) := by
  cases r with
  | ok a S1 => exact fun F1 m1 H1 b x s z => ⟨a, S1, F1, m1, x, s, z, OutS.later h x⟩
  | ex c v S1 => exact h.elim
  | bad => exact h
theorem mhs_ret {Y : Cx} {K : PySem.W.Frag} {x : Expr} {f : List (Nat × D) → Mi.Env → Sto → R D} (ha : PE Y x (tH K A (rlV K A) a i cls d f)) : PSs Y [.Return (some x) pos] (tHS K A a i cls d fun v e S => (noEx (f v e S)).then e fun d S => .rt d S) :=
  PSs.imp (pss_one (ps_ret ha)) fun D σ H ⟨e, S, F, m, c, v, sr, er, hn, h⟩ => ⟨e, S, F, m, c, v, sr, er, hn, Out.imp (noEx_then er h) fun v H1 ⟨d, S1, F1, m1, x1, sr1, rv, h1⟩ => h1 F1 m1 H1 v Ext.refl sr1 rv⟩
theorem mhs_set {Y : Cx} {K : PySem.W.Frag} (hN : Y.N.Nodup) {j : Nat} {y : Str} {p : Pos} (ht : TgN Y j y) {x : Expr} {f : List (Nat × D) → Mi.Env → Sto → R D} (hn : nocomp x = true) (ha : PE Y x (tH K A (rlV K A) a i cls d f)) : PSs Y [.Assign [.Name y p] x pos] (tHS K A a i cls d fun v e S => (noEx (f v e S)).then e fun d S => .nx (e.set j (some d)) S) :=
  PSs.imp (pss_one (ps_set hN ht.1 ht.2.1 ha (nocomp_swap hn) ht.2.2)) fun D σ H ⟨e, S, F, m, c, v, sr, er, hn, h⟩ => ⟨e, S, F, m, c, v, sr, er, hn, Out.imp (noEx_then er h) fun v H1 ⟨d, S1, F1, m1, x1, sr1, rv, h1⟩ => h1.nx sr1 ((er.mono x1).set j rv)⟩
end
theorem then_noex {α : Type} {r : R α} {e : Mi.Env} {f : α → Sto → RS} (hf : ∀ a S c v e' S', f a S ≠ .ex c v e' S') {c : Nat} {v : List (Nat × D)} {e' : Mi.Env} {S' : Sto} (h : (noEx r).then e f = .ex c v e' S') : False := by
  cases r with
  | ok a S => exact hf a S c v e' S' h
  | ex _ _ _ => cases h
  | bad => cases h
theorem evHS_noex {i : Option Nat} {v : List (Nat × D)} {h : HS} {e : Mi.Env} {S : Sto} {c : Nat} {w : List (Nat × D)} {e' : Mi.Env} {S' : Sto} (q : evHS i v h e S = .ex c w e' S') : False := by
  cases h with
  | ret h => exact then_noex (fun _ _ _ _ _ _ => by intro z; cases z) q
  | set j h => exact then_noex (fun _ _ _ _ _ _ => by intro z; cases z) q
/-! ### try -/
theorem excT_lt {c : Nat} (h : excT T c = true) : c < T.cls.length := by
  unfold excT at h
  cases q : T.cls[c]? with
  | none => rw [q] at h; cases h
  | some d => exact (List.getElem?_eq_some_iff.mp q).1
/-- one clause, with a name -/
theorem ms_tryAs (fe : FE X A T xl) (hs : X.stack = X.env :: X.outer) (hf : X.env.frame = some X.env.locals) (hN : X.N.Nodup) (tk : Takes X W) {i : Nat} {n x : Str} {b : Nat} {np pos' : Pos} {body : List Stmt} {b₀ : Stmt} {hsx : HS} {g : Mi.Env → Sto → RS} (hi : X.N[i]? = some n) (hln : X.env.kindOf n = some .local)
    (hb : b < T.cls.length) (hbn : nrm T b = false) (hc : Names X x (.ref (A.exc b)))
    (hbody : ∀ (W : WX) (pn : List (Addr × Obj)) (xe : Value → Shared → Prop), Takes (X.tr pn xe) W → PassesOwn (model X.prog X.w) X.A X.env xe → PSs (X.tr pn xe) body (tS X.K A W g))
    (hsu : ∀ (a : Addr) (oe : Obj) (cls : Value) (d : Option Addr) (pn : List (Addr × Obj)), Zc cls d oe → (∃ vs, oe.data = .fields vs) → PSs (X.suite a ((a, oe) :: pn)) [b₀] (tHS X.K A a (some i) cls d fun v e S => evHS (some i) v hsx e S)) :
    PS X (.Try body [.ExceptHandler (some (.Name x np)) (some n) [b₀] pos'] [] [] pos) (tS X.K A W fun e S => match g e S with
      | .ex c v e S => if excT T c then handle T c v (.cons b (some i) hsx .nil) e S else .bad
      | r => r) := by
  refine PS.imp (ps_try_as hs hf hN hi hln hc tk hbody hsu) fun D σ H ⟨e, S, F, m, sr, er, h⟩ => ⟨e, S, F, m, sr, er, ?_⟩
  dsimp only at h
  cases q : g e S with
  | nx e1 S1 => rw [q] at h; exact h
  | rt d S1 => rw [q] at h; exact h
  | bk e1 S1 => rw [q] at h; exact h
  | ct e1 S1 => rw [q] at h; exact h
  | bad => rw [q] at h; exact h
  | ex c v e1 S1 =>
    rw [q] at h
    have h0 : OutS X.K A W D F m S H (if excT T c = true then handle T c v (.cons b (some i) hsx .nil) e1 S1 else .bad) := h
    by_cases cx : excT T c = true
    · rw [if_pos cx] at h0
      have h1 : OutS X.K A W D F m S H (if isSub T DEEP c b = true then (if slotOk e1 (some i) = true then (evHS (some i) v hsx (Mi.wipe e1 (some i)) S1).wipe (some i) else .bad) else .ex c v e1 S1) := h0
      refine fun σ' F' m' H' dd fs x s er' hdd rv => ⟨isSub T DEEP c b, fe.ex c b cx hb hbn, fun hy a na => ?_, fun hno => ?_⟩
      · rw [if_pos hy] at h1
        by_cases hso : slotOk e1 (some i) = true
        case neg => rw [if_neg hso] at h1; exact h1.elim
        rw [if_pos hso] at h1
        have hl : i < σ'.length := by
          rw [← er'.len]
          exact of_decide_eq_true hso
        refine ⟨Mi.wipe e1 (some i), S1, F', m', c, v, s, ?_, ⟨rfl, ⟨dd, fs, rfl, hdd, rv⟩, fun j ej => ?_⟩, ?_⟩
        · refine ⟨by show (e1.set i none).length = _; rw [List.length_set, List.length_set]; exact er'.len, fun j d' hj => ?_⟩
          have hj' : (e1.set i none)[j]? = some (some d') := hj
          by_cases z : i = j
          · subst z
            by_cases l : i < e1.length
            · rw [List.getElem?_set_self l] at hj'; cases hj'
            · rw [List.getElem?_eq_none (by rw [List.length_set]; omega)] at hj'; cases hj'
          · rw [List.getElem?_set_ne z] at hj'
            rw [List.getElem?_set_ne z]
            exact er'.get j d' hj'
        · cases ej
          exact List.getElem?_set_self hl
        · have h2 := OutS.later h1 x
          show OutS X.K A W0 _ F' m' S1 H' (evHS (some i) v hsx (Mi.wipe e1 (some i)) S1)
          cases qh : evHS (some i) v hsx (Mi.wipe e1 (some i)) S1 with
          | nx e3 S3 =>
            rw [qh] at h2
            exact fun σ2 F2 m2 H2 x2 s2 er2 => h2 (σ2.set i none) F2 m2 H2 x2 s2 (er2.gone i)
          | bk e3 S3 =>
            rw [qh] at h2
            exact fun σ2 F2 m2 H2 x2 s2 er2 => h2 (σ2.set i none) F2 m2 H2 x2 s2 (er2.gone i)
          | ct e3 S3 =>
            rw [qh] at h2
            exact fun σ2 F2 m2 H2 x2 s2 er2 => h2 (σ2.set i none) F2 m2 H2 x2 s2 (er2.gone i)
          | rt d3 S3 => rw [qh] at h2; exact h2
          | ex c3 v3 e3 S3 => exact (evHS_noex qh).elim
          | bad => rw [qh] at h2; exact h2
      · rw [if_neg (by rw [hno]; exact Bool.false_ne_true)] at h1
        exact h1 σ' F' m' H' dd fs x s er' hdd rv
    · rw [if_neg cx] at h0
      exact h0.elim
end
end Mi
/-! Mi: the tree of a text against the core. -/
namespace Mi
open PySem PySem.Spec PyProof.Rows L2 TL

/-- where a tree stands -/
structure MX where
  N : List Str
  sc : Scope
  fn : Str → Bool
/-- the whole text -/
structure MM where
  T : Tab
  att : List Str
  fnN : List (Option Str)
  clN : List Str
  cons : List (Str × D)
  blt : List Str
  fl : List Nat
  xl : List Nat
def visB (sc : Scope) (y : Str) : Bool := match sc.names.lookup y with
  | some .local => true
  | some .cell => true
  | some .free => true
  | _ => false
def gloB (sc : Scope) (y : Str) : Bool := match sc.names.lookup y with
  | some .globalImplicit => true
  | _ => false
def tgB (x : MX) (i : Nat) (y : Str) : Bool := decide (x.N[i]? = some y) && (match x.sc.names.lookup y with
  | some .local => true
  | some .cell => x.fn y
  | _ => false)
def bltB (M : MM) (x : MX) (y : Str) : Bool := gloB x.sc y && decide (y ∈ M.blt)
def mNames (x : MX) : List Nat → List Expr → Bool
  | [], [] => true
  | i :: is, .Name y _ :: es => tgB x i y && mNames x is es
  | _, _ => false
def mTg (x : MX) : Tg → Expr → Bool
  | .one i, .Name y _ => tgB x i y
  | .many is, .Tuple es _ _ => mNames x is es
  | _, _ => false
def tgOwn : Tg → Expr → List (Str × Nat)
  | .one i, .Name y _ => [(y, i)]
  | .many is, .Tuple es _ _ => (es.filterMap nameOf).zip is
  | _, _ => []
mutual
def D.same : D → D → Bool
  | .non, .non => true
  | .bl a, .bl b => a == b
  | .int i, .int j => decide (i = j)
  | .str x, .str y => decide (x = y)
  | .tup a, .tup b => D.sameL a b
  | _, _ => false
def D.sameL : List D → List D → Bool
  | [], [] => true
  | x :: a, y :: b => D.same x y && D.sameL a b
  | _, _ => false
end
mutual
theorem D.same_eq : ∀ a b : D, a.same b = true → a = b
  | .non, b, h => by cases b <;> first | rfl | cases h
  | .bl x, b, h => by
    cases b with
    | bl y =>
      have h' : (x == y) = true := h
      rw [eq_of_beq h']
    | _ => cases h
  | .int x, b, h => by
    cases b with
    | int y => rw [of_decide_eq_true (show decide (x = y) = true from h)]
    | _ => cases h
  | .str x, b, h => by
    cases b with
    | str y => rw [of_decide_eq_true (show decide (x = y) = true from h)]
    | _ => cases h
  | .tup x, b, h => by
    cases b with
    | tup y => rw [D.sameL_eq x y h]
    | _ => cases h
  | .lst _, b, h => by cases b <;> cases h
  | .dct _, b, h => by cases b <;> cases h
  | .ins _ _, b, h => by cases b <;> cases h
  | .ref _, b, h => by cases b <;> cases h
  | .scr _, b, h => by cases b <;> cases h
theorem D.sameL_eq : ∀ a b : List D, D.sameL a b = true → a = b
  | [], b, h => by cases b <;> first | rfl | cases h
  | x :: a, b, h => by
    cases b with
    | nil => cases h
    | cons y b =>
      obtain ⟨h1, h2⟩ := Bool.and_eq_true_iff.mp (show (D.same x y && D.sameL a b) = true from h)
      rw [D.same_eq x y h1, D.sameL_eq a b h2]
end
def cstB : D → Const → Bool
  | .non, .none => true
  | .bl a, .bool b => a == b
  | .int i, .int j => decide (i = j)
  | .str x, .str y => decide (x = y) && decide (x.length ≤ LL) && PyData.strOk x
  | _, _ => false
def conB (M : MM) (y : Str) (d : D) : Bool := M.cons.any fun p => decide (p.1 = y) && p.2.same d
def blkX (x : MX) (scope : Scope) : MX := ⟨x.N, relS scope x.sc, fun y => scope.names.lookup y == some .cell⟩
def tyN : Ty → Option Str
  | .int => some "int" | .bool => some "bool" | .str => some "str" | .list => some "list" | .tuple => some "tuple" | .dict => some "dict" | .cls _ => none
/-- a class by its name -/
def mTy1 (M : MM) (x : MX) (t : Ty) (y : Str) : Bool := gloB x.sc y && match t with
  | .cls c => nrm M.T c && decide (M.clN[c]? = some y)
  | t => decide (tyN t = some y) && decide (y ∈ M.blt)
def mTy (M : MM) (x : MX) : List Ty → Expr → Bool
  | [t], .Name y _ => mTy1 M x t y
  | _, _ => false
def bfIs : Bf → Option Bool
  | .len => some true | .abs => some true | .sum => some true | .all => some true | .any => some true | .min => some true | .max => some true
  | .list => some false | .tuple => some false | .int => some false | .str => some false
  | _ => none
def mKeys : List Str → List (Option Expr) → Bool
  | [], [] => true
  | k :: ks, some (.Constant (.str y) _ _) :: es => decide (k = y) && decide (k.length ≤ LL) && PyData.strOk k && mKeys ks es
  | _, _ => false
def isTup : Expr → Bool
  | .Tuple _ _ _ => true
  | _ => false
mutual
def mE (M : MM) : CE → MX → Expr → Bool
  | .var i, x, e => match e with
    | .Name y _ => decide (x.N[i]? = some y) && visB x.sc y
    | _ => false
  | .cst d, _, e => match e with
    | .Constant c _ _ => cstB d c
    | _ => false
  | .glb y d, x, e => match e with
    | .Name z _ => decide (z = y) && gloB x.sc z && conB M y d
    | _ => false
  | .tup es, x, e => match e with
    | .Tuple l _ _ => mEs M es x l
    | _ => false
  | .lst _ es, x, e => match e with
    | .List l _ => mEs M es x l
    | _ => false
  | .dic _ ks es, x, e => match e with
    | .Dict keys vals _ => mKeys ks keys && decide ks.Nodup && decide (ks.length ≤ 15) && decide (ks ≠ []) && decide (keys.length = vals.length) && vals.all fine && mEs M es x vals
    | _ => false
  | .bin op a b, x, e => match e with
    | .BinOp l o r _ => decide (o = opOf op) && mE M a x l && mE M b x r
    | _ => false
  | .neg a, x, e => match e with
    | .UnaryOp .USub o _ => mE M a x o
    | _ => false
  | .nott a, x, e => match e with
    | .UnaryOp .Not o _ => mE M a x o
    | _ => false
  | .and a b, x, e => match e with
    | .BoolOp .And [l, r] _ => mE M a x l && mE M b x r
    | .BoolOp .And (l :: r :: r2 :: rs) p => mE M a x l && mE M b x (.BoolOp .And (r :: r2 :: rs) p)
    | _ => false
  | .or a b, x, e => match e with
    | .BoolOp .Or [l, r] _ => mE M a x l && mE M b x r
    | .BoolOp .Or (l :: r :: r2 :: rs) p => mE M a x l && mE M b x (.BoolOp .Or (r :: r2 :: rs) p)
    | _ => false
  | .ife t a b, x, e => match e with
    | .IfExp c l r _ => mE M t x c && mE M a x l && mE M b x r
    | _ => false
  | .cmp op a b, x, e => match e with
    | .Compare l [o] [r] _ => decide (o = cOf op) && fine r && mE M a x l && mE M b x r
    | _ => false
  | .chn o1 o2 a b c, x, e => match e with
    | .Compare l [p1, p2] [m, r] _ => decide (p1 = cOf o1) && decide (p2 = cOf o2) && fine m && fine r && mE M a x l && mE M b x m && mE M c x r
    | _ => false
  | .att o f, x, e => match e with
    | .Attribute v a _ => decide (M.att[f]? = some a) && decide (f ∈ M.fl) && nosup v && mE M o x v
    | _ => false
  | .idx o i, x, e => match e with
    | .Subscript v s _ => fine s && mE M o x v && mE M i x s
    | _ => false
  | .slc o lo hi, x, e => match e with
    | .Subscript v (.Slice l u none _) _ => mE M o x v && mO M lo x l && mO M hi x u
    | _ => false
  | .rev o, x, e => match e with
    | .Subscript v (.Slice none none (some (.UnaryOp .USub (.Constant (.int 1) _ _) _)) _) _ => mE M o x v
    | _ => false
  | .isi a ts, x, e => match e with
    | .Call (.Name y _) [l, t] [] _ => decide (y = "isinstance") && bltB M x y && fine l && mTy M x ts t && mE M a x l
    | _ => false
  | .bf b _ es, x, e => match e with
    | .Call (.Name y _) (l :: ls) [] _ => decide (y = bfN b) && bltB M x y && (bfIs b).isSome && (l :: ls).all fine && mEs M es x (l :: ls)
    | _ => false
  | .bm m o es, x, e => match e with
    | .Call (.Attribute v a apos) args [] pos => decide (a = bmNm m) && nosup v && args.all fine && decide (args.length < 29) && (apos.endLine == pos.line) && mE M o x v && mEs M es x args
    | _ => false
  | .call f es, x, e => match e with
    | .Call (.Name y _) args [] _ => decide (M.fnN[f]? = some (some y)) && gloB x.sc y && args.all fine && mEs M es x args
    | _ => false
  | .mk c es, x, e => match e with
    | .Call (.Name y _) args [] _ => decide (M.clN[c]? = some y) && nrm M.T c && gloB x.sc y && args.all fine && mEs M es x args
    | _ => false
  | .mth o m es, x, e => match e with
    | .Call (.Attribute v a apos) args [] pos => decide (M.att[m]? = some a) && nosup v && args.all fine && decide (args.length < 29) && (apos.endLine == pos.line) && mE M o x v && mEs M es x args
    | _ => false
  | .lc _ el tg it co, x, e => match e with
    | .ListComp elt [⟨tgE, iter, ifs, y⟩] scope _ => decide (y = 0) && blkC x.N x.sc scope (tgOwn tg tgE) && decide ((tgOwn tg tgE).map (·.2) = tg.slots) && mTg (blkX x scope) tg tgE && mI M it x tgE iter && mC M co (blkX x scope) ifs && mE M el (blkX x scope) elt
    | _ => false
  | .lc2 _ el tg it co tg2 it2 co2, x, e => match e with
    | .ListComp elt [⟨tgE, iter, ifs, y⟩, ⟨tgE2, iter2, ifs2, y2⟩] scope _ => decide (y = 0) && decide (y2 = 0) && blkC x.N x.sc scope (tgOwn tg tgE ++ tgOwn tg2 tgE2) && decide ((tgOwn tg tgE ++ tgOwn tg2 tgE2).map (·.2) = tg.slots ++ tg2.slots) && mTg (blkX x scope) tg tgE && mTg (blkX x scope) tg2 tgE2 &&
        mI M it x tgE iter && mC M co (blkX x scope) ifs && mI M it2 (blkX x scope) tgE2 iter2 && mC M co2 (blkX x scope) ifs2 && mE M el (blkX x scope) elt
    | _ => false
  | .frz a, x, e => valT e && mE M a x e
def mEs (M : MM) : CEs → MX → List Expr → Bool
  | .nil, _, l => l.isEmpty
  | .cons c r, x, l => match l with
    | e :: es => fine e && mE M c x e && mEs M r x es
    | [] => false
  | .star c r, x, l => match l with
    | .Starred e _ :: es => mE M c x e && mEs M r x es
    | _ => false
def mO (M : MM) : CO → MX → Option Expr → Bool
  | .no, _, o => o.isNone
  | .yes c, x, o => match o with
    | some e => mE M c x e
    | none => false
def mC (M : MM) : CO → MX → List Expr → Bool
  | .no, _, l => l.isEmpty
  | .yes c, x, l => match l with
    | [e] => mE M c x e
    | _ => false
def mI (M : MM) : CI → MX → Expr → Expr → Bool
  | .of c, x, _, e => fine e && mE M c x e
  | .range1 a, x, _, e => match e with
    | .Call (.Name y _) [l] [] _ => decide (y = "range") && bltB M x y && fine l && mE M a x l
    | _ => false
  | .range2 a b, x, _, e => match e with
    | .Call (.Name y _) [l, r] [] _ => decide (y = "range") && bltB M x y && fine l && fine r && mE M a x l && mE M b x r
    | _ => false
  | .enum a, x, t, e => match e with
    | .Call (.Name y _) [l] [] _ => decide (y = "enumerate") && bltB M x y && isTup t && fine l && mE M a x l
    | _ => false
end

/-! ### the facts -/
def hasX (T : Tab) : Bool := T.cls.any fun d => d.exc.isSome
structure PX (M : MM) (A : Nm) (k : Nat) (fa : Nat → Addr) (X : Cx) : Prop where
  fx : FX X A M.T k fa
  gc : GC X.K A M.T M.fl
  gm : GM X.K A M.T fa
  fe : hasX M.T = true → FE X A M.T M.xl
  att : ∀ n a, M.att[n]? = some a → A.att n = a
  fnN : ∀ (f : Nat) (x : Str), M.fnN[f]? = some (some x) → X.mg x = some (.ref (fa f)) ∧ PySem.W.keepIn X.K (.ref (fa f)) = true ∧ (x == ("__debug__" : Str)) = false
  clN : ∀ (c : Nat) (d : ClsD) (f : Nat) (x : Str), M.clN[c]? = some x → M.T.cls[c]? = some d → d.init = some f → X.mg x = some (.ref (A.cls c)) ∧ Mk X.K (A.cls c) (fa f) ∧ (x == ("__debug__" : Str)) = false
  xN : ∀ (c : Nat) (x : Str), M.clN[c]? = some x → nrm M.T c = false → X.mg x = some (.ref (A.exc c)) ∧ (x == ("__debug__" : Str)) = false
  con : ∀ (x : Str) (d : D), (x, d) ∈ M.cons → ∃ u v, X.mg x = some u ∧ RelV v u ∧ (x == ("__debug__" : Str)) = false ∧ ∀ F m n, RV X.K A F m n d v
  blt : ∀ x, x ∈ M.blt → X.mg x = none
  calm : X.calm = true
  nd : X.N.Nodup
  nm : ∀ (i : Nat) (y : Str), X.N[i]? = some y → (y == ("__debug__" : Str)) = false ∧ (y == ("__classdict__" : Str)) = false
structure CX1 (M : MM) (A : Nm) (k : Nat) (fa : Nat → Addr) (X : Cx) (x : MX) : Prop where
  px : PX M A k fa X
  hN : X.N = x.N
  hsc : X.env.scope = x.sc
  hfn : X.fn = x.fn
theorem PX.blk {M A k fa X} (h : PX M A k fa X) (s : Shared) (H : Hp) (scope : Scope) (cenv : PySem.Env) (fp : List Addr) : PX M A k fa (X.blk s H scope cenv fp) :=
  ⟨⟨h.fx.room, h.fx.fn⟩, h.gc, h.gm, fun z => ⟨(h.fe z).inj, (h.fe z).mak, (h.fe z).xf, (h.fe z).no, (h.fe z).ex⟩, h.att, h.fnN, h.clN, h.xN, h.con, h.blt, h.calm, h.nd, h.nm⟩
theorem CX1.blk {M A k fa X x} (h : CX1 M A k fa X x) (s : Shared) (H : Hp) (scope : Scope) (C : Addr) (cl : List (Str × Addr)) (fp : List Addr) : CX1 M A k fa (X.blk s H scope (compEnvC scope cl C X.env) fp) (blkX x scope) :=
  ⟨h.px.blk s H scope _ fp, h.hN, by
    show relabel scope X.env = relS scope x.sc
    rw [← h.hsc] <;> rfl, rfl⟩
theorem PX.tr {M A k fa X} (h : PX M A k fa X) (pn : List (Addr × Obj)) (xe : Value → Shared → Prop) : PX M A k fa (X.tr pn xe) :=
  ⟨⟨h.fx.room, h.fx.fn⟩, h.gc, h.gm, fun z => ⟨(h.fe z).inj, (h.fe z).mak, (h.fe z).xf, (h.fe z).no, (h.fe z).ex⟩, h.att, h.fnN, h.clN, h.xN, h.con, h.blt, h.calm, h.nd, h.nm⟩
theorem CX1.tr {M A k fa X x} (h : CX1 M A k fa X x) (pn : List (Addr × Obj)) (xe : Value → Shared → Prop) : CX1 M A k fa (X.tr pn xe) x := ⟨h.px.tr pn xe, h.hN, h.hsc, h.hfn⟩
section
variable {M : MM} {A : Nm} {k : Nat} {fa : Nat → Addr} {X : Cx} {x : MX} {W : WX}
theorem vis_of (h : CX1 M A k fa X x) {y : Str} (e : visB x.sc y = true) : Vis X.env.scope y := by
  rw [h.hsc]
  unfold visB at e
  cases q : x.sc.names.lookup y with
  | none => rw [q] at e; cases e
  | some z =>
    rw [q] at e
    cases z with
    | «local» => exact .inl q
    | cell => exact .inr (.inl q)
    | free => exact .inr (.inr q)
    | _ => cases e
theorem glo_of (h : CX1 M A k fa X x) {y : Str} (e : gloB x.sc y = true) : Gl X y := by
  show X.env.scope.names.lookup y = _
  rw [h.hsc]
  unfold gloB at e
  cases q : x.sc.names.lookup y with
  | none => rw [q] at e; cases e
  | some z =>
    rw [q] at e
    cases z with
    | globalImplicit => rfl
    | _ => cases e
theorem tgn_of (h : CX1 M A k fa X x) {i : Nat} {y : Str} (e : tgB x i y = true) : TgN X i y := by
  unfold tgB at e
  obtain ⟨e1, e2⟩ := Bool.and_eq_true_iff.mp e
  refine ⟨by rw [h.hN]; exact of_decide_eq_true e1, ?_⟩
  rw [h.hsc, h.hfn]
  cases q : x.sc.names.lookup y with
  | none => rw [q] at e2; cases e2
  | some z =>
    rw [q] at e2
    cases z with
    | «local» => exact ⟨.inl q, .inr rfl⟩
    | cell => exact ⟨.inr q, .inl e2⟩
    | _ => cases e2
theorem names_of (h : CX1 M A k fa X x) : ∀ {is : List Nat} {es : List Expr}, mNames x is es = true → Paired (fun i e => ∃ x p, e = .Name x p ∧ TgN X i x) is es
  | [], es, e => by cases es with | nil => exact .nil | cons _ _ => cases e
  | i :: is, es, e => by
    cases es with
    | nil => cases e
    | cons a es =>
      cases a with
      | Name y p =>
        obtain ⟨e1, e2⟩ := Bool.and_eq_true_iff.mp (show (tgB x i y && mNames x is es) = true from e)
        exact .cons ⟨y, p, rfl, tgn_of h e1⟩ (names_of h e2)
      | _ => cases e
theorem tg_of (h : CX1 M A k fa X x) {tg : Tg} {e : Expr} (q : mTg x tg e = true) : TgE X tg e := by
  cases tg with
  | one i =>
    cases e with
    | Name y p => exact ⟨y, p, rfl, tgn_of h q⟩
    | _ => cases q
  | many is =>
    cases e with
    | Tuple es k p => exact ⟨es, k, p, rfl, names_of h q⟩
    | _ => cases q
theorem blt_of (h : CX1 M A k fa X x) {y : Str} (e : bltB M x y = true) : Gl X y ∧ X.mg y = none := by
  obtain ⟨e1, e2⟩ := Bool.and_eq_true_iff.mp e
  exact ⟨glo_of h e1, h.px.blt y (of_decide_eq_true e2)⟩
theorem fold_of {e : Expr} {env : PySem.Env} (h : fine e = true) : ∀ x, foldedSetIterable e env x = pure x := fun x => by
  cases e <;> first | rfl | cases h
end
end Mi
/-! Mi: dict displays; calls of isinstance. -/
namespace Mi
open PySem PySem.Spec PyProof.Rows L2 TL

def trsOf (X : Cx) (A : Nm) (W : WX) (T : Tab) (cl : Nat → List D → Sto → R D) : List Str → CEs → List (TE × TE)
  | k :: ks, .cons c r => (tC (.str k), EV X A W (ev T cl c).1) :: trsOf X A W T cl ks r
  | _, _ => []
def nostar : CEs → Bool
  | .nil => true
  | .cons _ r => nostar r
  | .star _ _ => false
def CEs.len : CEs → Nat
  | .nil => 0
  | .cons _ r => r.len + 1
  | .star _ r => r.len + 1
theorem bind_as {α β γ : Type} (r : R α) (f : α → Sto → R β) (g : β → Sto → R γ) : (r.bind f).bind g = r.bind fun x S => (f x S).bind g := by cases r <;> rfl
theorem merge_new : ∀ (more acc : List (Key × V)), (more.map (·.1)).Nodup → (∀ p ∈ more, ∀ q ∈ acc, q.1 ≠ p.1) → mergeK acc more = acc ++ more
  | [], acc, _, _ => by show acc = acc ++ []; rw [List.append_nil]
  | p :: r, acc, nd, h => by
    rw [List.map_cons, List.nodup_cons] at nd
    show mergeK (L2.putK acc p.1 p.2) r = _
    have e : L2.putK acc p.1 p.2 = acc ++ [(p.1, p.2)] := by
      unfold L2.putK
      rw [if_neg]
      intro z
      obtain ⟨q, hq, e⟩ := List.any_eq_true.mp z
      exact h p List.mem_cons_self q hq (by simpa using e)
    rw [e, merge_new r _ nd.2 fun q hq u hu => ?_]
    · rw [List.append_assoc]
      rfl
    · rcases List.mem_append.mp hu with hu | hu
      · exact h q (List.mem_cons_of_mem _ hq) u hu
      · rw [List.mem_singleton.mp hu]
        exact fun z => nd.1 (by rw [z]; exact List.mem_map_of_mem hq)
section
variable {X : Cx} {A : Nm} {W : WX} {T : Tab} {cl : Nat → List D → Sto → R D}
theorem pairs_go {e : Mi.Env} {σ : L2.St} {F0 : Hp} {m0 : Nat → Addr} {S0 : Sto} {H0 : Hp} {Q0 : VK} {p : Addr} : ∀ (es : CEs) (ks : List Str) (g : List D → Sto → R D) {F : Hp} {m : Nat → Addr} {S : Sto} {H : Hp} {Qp : List (V × V) → Hp → Prop}, nostar es = true → es.len = ks.length →
    Out X.K A (rlV X.K A) W σ F0 m0 S0 H0 ((evEs T cl es e S).bind g) Q0 → Ext F0 m0 S0 H0 F m S H → SR X.K A F m S H → ER X.K A F m S.c.length e σ → Side p (.dK []) F m S H →
    (∀ ds S2 F2 m2 us H2, Ext F m S H F2 m2 S2 H2 → SR X.K A F2 m2 S2 H2 → RVs X.K A F2 m2 S2.c.length ds us → ds.length = ks.length → Out X.K A (rlV X.K A) W σ F0 m0 S0 H0 (g ds S2) Q0 → Qp ((ks.zip us).map fun kv => (V.str kv.1, kv.2)) H2) →
    tPairs (trsOf X A W T cl ks es) σ H Qp
  | .nil, ks, g, F, m, S, H, Qp, _, hl, h, x, sr, er, sd, fin => by
    cases ks with
    | nil => exact fin [] S F m [] H Ext.refl sr rfl rfl h
    | cons _ _ => cases hl
  | .star _ _, ks, g, F, m, S, H, Qp, hn, _, _, _, _, _, _, _ => nomatch (show false = true from hn)
  | .cons c r, ks, g, F, m, S, H, Qp, hn, hl, h, x, sr, er, sd, fin => by
    cases ks with
    | nil => cases hl
    | cons k ks =>
      have h' : Out X.K A (rlV X.K A) W σ F0 m0 S0 H0 (((ev T cl c).1 e S).bind fun y S => (evEs T cl r e S).bind fun ys S => g (y :: ys) S) Q0 := by
        have h2 : Out X.K A (rlV X.K A) W σ F0 m0 S0 H0 ((((ev T cl c).1 e S).bind fun y S => (evEs T cl r e S).bind fun ys S => .ok (y :: ys) S).bind g) Q0 := h
        simp only [bind_as] at h2
        exact h2
      refine ⟨e, S, F, m, sr, er, Out.imp (Out.bind (Out.later h' x)) fun v H1 ⟨d, S1, F1, m1, eq1, x1, sr1, rv, _⟩ => ?_⟩
      rw [eq1] at h'
      have h3 : Out X.K A (rlV X.K A) W σ F0 m0 S0 H0 ((evEs T cl r e S1).bind fun ys S => g (d :: ys) S) Q0 := h'
      refine pairs_go r ks (fun ys S => g (d :: ys) S) hn (Nat.succ.inj hl) h3 (x.trans x1) sr1 (er.mono x1) (sd.later x1) fun ds S2 F2 m2 us H2 x2 sr2 rs hl2 o => ?_
      exact fin (d :: ds) S2 F2 m2 (v :: us) H2 (x1.trans x2) sr2 ⟨v, us, rfl, x2.rv rv, rs⟩ (by rw [List.length_cons, hl2, List.length_cons]) o
theorem rvk_zip {K : PySem.W.Frag} {F : Hp} {m : Nat → Addr} {n : Nat} : ∀ {ks : List Str} {ds : List D} {us : List V}, ds.length = ks.length → RVs K A F m n ds us → RVk K A F m n (ks.zip ds) ((ks.zip us).map fun kv => (Sum.inr kv.1, kv.2))
  | [], ds, us, h, r => by
    cases ds with
    | nil => cases (show us = [] from r); exact rfl
    | cons _ _ => cases h
  | k :: ks, ds, us, h, r => by
    cases ds with
    | nil => cases h
    | cons d ds =>
      obtain ⟨u, us', e, h1, h2⟩ := r
      subst e
      exact ⟨u, _, rfl, h1, rvk_zip (Nat.succ.inj h) h2⟩
theorem zip_fst {ks : List Str} : ∀ {us : List V}, us.length = ks.length → ((ks.zip us).map fun kv => ((Sum.inr kv.1 : Key), kv.2)).map (·.1) = ks.map Sum.inr := by
  induction ks with
  | nil => intro us _; rfl
  | cons k ks ih =>
    intro us h
    cases us with
    | nil => cases h
    | cons u us =>
      exact congrArg (Sum.inr k :: ·) (ih (Nat.succ.inj h))
theorem t_dic {ks : List Str} {es : CEs} {mu : Bool} (hns : nostar es = true) (hl : es.len = ks.length) (hnd : ks.Nodup) (h15 : ks.length ≤ 15) {σ : L2.St} {H : Hp} {Q : VK} (h : EV X A W (fun e S => (evEs T cl es e S).bind fun ds S => if ds.length = ks.length then fresh mu S (.dct (ks.zip ds)) else .bad) σ H Q) : tDisp (trsOf X A W T cl ks es) σ H Q := by
  obtain ⟨e, S, F, m, sr, er, h⟩ := h
  intro p hp
  have sd := side_new (o := .dK []) sr hp
  obtain ⟨sr1, x1⟩ := SR.side (o := .dK []) sr hp
  refine pairs_go es ks _ hns hl h x1 sr1 (er.mono x1) sd fun ds S2 F2 m2 us H2 x2 sr2 rs hl2 o => ?_
  have sd2 := sd.later x2
  have hlu : us.length = ks.length := (RVs.length rs).trans hl2
  have o2 : Out X.K A (rlV X.K A) W σ F m S H (if ds.length = ks.length then fresh mu S2 (.dct (ks.zip ds)) else .bad) Q := o
  rw [if_pos hl2] at o2
  refine ⟨sd2.at_, (ks.zip us).map fun kv => ((Sum.inr kv.1 : Key), kv.2), ?_, ?_, ?_⟩
  · rw [List.map_map]
    rfl
  · rw [List.length_map, List.length_zip, hlu]
    omega
  · rw [merge_new _ [] (by rw [zip_fst hlu]; exact List.Pairwise.map _ (fun a b hab e => hab (Sum.inr.inj e)) hnd) (fun _ _ _ z => nomatch z)]
    show Q (.ref p) (upd H2 p (.dK ([] ++ _)))
    rw [List.nil_append]
    have rk := rvk_zip hl2 rs
    have hlen : (ks.zip ds).length ≤ LL := by
      rw [List.length_zip, hl2, Nat.min_self]
      exact Nat.le_trans h15 (by decide)
    have sr3 := SR.turn (u := .dK ((ks.zip us).map fun kv => ((Sum.inr kv.1 : Key), kv.2))) sr2 sd2
    have x3 : Ext F m S H F2 m2 S2 (upd H2 p (.dK ((ks.zip us).map fun kv => ((Sum.inr kv.1 : Key), kv.2)))) := Ext.turn (x1.trans x2) hp
    have sd3 := sd2.upd (u := .dK ((ks.zip us).map fun kv => ((Sum.inr kv.1 : Key), kv.2)))
    cases mu with
    | false => exact o2 _ m2 _ _ (Ext.adopt x3 hp sd3) (SR.adopt sr3 sd3) ⟨p, _, rfl, upd_same, hlen, RVk.mono (same_new2 sd3.nF) (fun _ _ => rfl) (Nat.le_refl _) _ _ rk⟩
    | true =>
      have r2 := RVk.mono (K := X.K) (A := A) (fun _ _ h => h) (fun l h => mx_old (p := p) h) (Nat.le_succ S2.c.length) _ _ rk
      exact o2 F2 _ _ _ (Ext.adoptC sr3 x3 hp) (SR.adoptC sr3 sd3 (c := .dct (ks.zip ds)) ⟨_, sd3.at_, hlen, r2⟩) ⟨Nat.lt_succ_self _, by rw [mx_new]⟩
end
end Mi
/-! Mi: what the evaluator gives is what the text does: expressions. -/
namespace Mi
open PySem PySem.Spec PyProof.Rows L2 TL

section
variable {M : MM} {A : Nm} {k : Nat} {fa : Nat → Addr}
theorem and2 {a b : Bool} (h : (a && b) = true) : a = true ∧ b = true := Bool.and_eq_true_iff.mp h
theorem boot_bf {b : Bf} (h : (bfIs b).isSome = true) : bootBuiltins (bfN b) = some (bfV b) ∧ bfN b ≠ "__name__" ∧ (bfN b == ("__debug__" : Str)) = false := by
  cases b <;> first | (cases h; done) | exact ⟨by decide +kernel, by decide +kernel, by decide +kernel⟩
theorem es_nil {x : MX} {es : CEs} (h : mEs M es x [] = true) : es = .nil := by
  cases es with
  | nil => rfl
  | cons c r => exact nomatch (show false = true from h)
  | star c r => exact nomatch (show false = true from h)
theorem out_len {X : Cx} {W : WX} {T : Tab} {cl : Nat → List D → Sto → R D} : True := trivial
theorem PTs.imp {X : Cx} {l : List Expr} {t t' : TT} (h : PTs X l t) (hi : ∀ σ H Q, t' σ H Q → t σ H Q) : PTs X l t' := ⟨fun pins s σ H Q I w => h.run pins s σ H Q I (hi _ _ _ w)⟩
theorem cst_pe {X : Cx} {A : Nm} {W : WX} {d : D} {c : Const} {kk : Nat} {pos : Pos} (h : cstB d c = true) : ∃ v, PE X (.Constant c kk pos) (tC v) ∧ ∀ F m n, RV X.K A F m n d v := by
  cases d with
  | non => cases c <;> first | exact ⟨.non, pe_non, fun _ _ _ => rfl⟩ | cases h
  | bl b =>
    cases c with
    | bool b' =>
      have e : b = b' := eq_of_beq h
      subst e
      exact ⟨.bl b, pe_bl, fun _ _ _ => rfl⟩
    | _ => cases h
  | int i =>
    cases c with
    | int j =>
      have e : i = j := of_decide_eq_true h
      subst e
      exact ⟨.int i, pe_int, fun _ _ _ => rfl⟩
    | _ => cases h
  | str s =>
    cases c with
    | str t =>
      obtain ⟨h1, h3⟩ := and2 (show (decide (s = t) && decide (s.length ≤ LL) && PyData.strOk s) = true from h)
      obtain ⟨h1, h2⟩ := and2 h1
      have e : s = t := of_decide_eq_true h1
      subst e
      exact ⟨.str s, pe_str, fun _ _ _ => ⟨rfl, of_decide_eq_true h2, h3⟩⟩
    | _ => cases h
  | _ => cases c <;> cases h
theorem ty_of {X : Cx} {x : MX} (h : CX1 M A k fa X x) {t : Ty} {y : Str} {p : Pos} (e : mTy1 M x t y = true) : tyOk M.T t = true ∧ ∃ cv, PE X (.Name y p) (tC cv) ∧ ClsV cv (tyVal A t) := by
  obtain ⟨e1, e2⟩ := and2 e
  have hg := glo_of h e1
  have base : ∀ (s : String) (n : Str), n = y → y ∈ M.blt → bootBuiltins n = some (.type s) → n ≠ "__name__" → (n == ("__debug__" : Str)) = false → ∃ cv, PE X (.Name y p) (tC cv) ∧ ClsV cv (.type s) := fun s n en hy hb h1 h2 => by
    subst en
    exact ⟨.ty s, pe_bltn hg (h.px.blt _ hy) hb (show RelV (.ty s) (Value.type s) from rfl) h1 h2, .ty s⟩
  cases t with
  | cls c =>
    obtain ⟨e3, e4⟩ := and2 (show (nrm M.T c && decide (M.clN[c]? = some y)) = true from e2)
    have e5 := of_decide_eq_true e4
    have e3' := e3
    unfold nrm at e3'
    cases q : M.T.cls[c]? with
    | none => rw [q] at e3'; cases e3'
    | some d =>
      rw [q] at e3'
      obtain ⟨f, hf⟩ := Option.isSome_iff_exists.mp e3'
      obtain ⟨g1, _, g3⟩ := h.px.clN c d f y e5 q hf
      exact ⟨e3, .ref (A.cls c), pe_glob hg g1 (show RelV (.ref (A.cls c)) (Value.ref (A.cls c)) from rfl) g3, .own _⟩
  | int =>
    obtain ⟨e3, e4⟩ := and2 (show (decide (some ("int" : Str) = some y) && decide (y ∈ M.blt)) = true from e2)
    exact ⟨rfl, base "int" "int" (Option.some.inj (of_decide_eq_true e3)) (of_decide_eq_true e4) (by decide +kernel) (by decide +kernel) (by decide +kernel)⟩
  | bool =>
    obtain ⟨e3, e4⟩ := and2 (show (decide (some ("bool" : Str) = some y) && decide (y ∈ M.blt)) = true from e2)
    exact ⟨rfl, base "bool" "bool" (Option.some.inj (of_decide_eq_true e3)) (of_decide_eq_true e4) (by decide +kernel) (by decide +kernel) (by decide +kernel)⟩
  | str =>
    obtain ⟨e3, e4⟩ := and2 (show (decide (some ("str" : Str) = some y) && decide (y ∈ M.blt)) = true from e2)
    exact ⟨rfl, base "str" "str" (Option.some.inj (of_decide_eq_true e3)) (of_decide_eq_true e4) (by decide +kernel) (by decide +kernel) (by decide +kernel)⟩
  | list =>
    obtain ⟨e3, e4⟩ := and2 (show (decide (some ("list" : Str) = some y) && decide (y ∈ M.blt)) = true from e2)
    exact ⟨rfl, base "list" "list" (Option.some.inj (of_decide_eq_true e3)) (of_decide_eq_true e4) (by decide +kernel) (by decide +kernel) (by decide +kernel)⟩
  | tuple =>
    obtain ⟨e3, e4⟩ := and2 (show (decide (some ("tuple" : Str) = some y) && decide (y ∈ M.blt)) = true from e2)
    exact ⟨rfl, base "tuple" "tuple" (Option.some.inj (of_decide_eq_true e3)) (of_decide_eq_true e4) (by decide +kernel) (by decide +kernel) (by decide +kernel)⟩
  | dict =>
    obtain ⟨e3, e4⟩ := and2 (show (decide (some ("dict" : Str) = some y) && decide (y ∈ M.blt)) = true from e2)
    exact ⟨rfl, base "dict" "dict" (Option.some.inj (of_decide_eq_true e3)) (of_decide_eq_true e4) (by decide +kernel) (by decide +kernel) (by decide +kernel)⟩
theorem con_of {y : Str} {d : D} (h : conB M y d = true) : (y, d) ∈ M.cons := by
  obtain ⟨p, hp, e⟩ := List.any_eq_true.mp h
  obtain ⟨e1, e2⟩ := and2 e
  have e3 := of_decide_eq_true e1
  have e4 := D.same_eq _ _ e2
  obtain ⟨a, b⟩ := p
  subst e3 e4
  exact hp
theorem blk_of {X : Cx} {x : MX} (h : CX1 M A k fa X x) {scope : Scope} {own : List (Str × Nat)} (e : blkC x.N x.sc scope own = true) : BlkOk X.N X.env.scope scope own := by
  rw [h.hN, h.hsc]
  exact blkOk_by e
theorem keys_ok : ∀ {ks : List Str} {keys : List (Option Expr)}, mKeys ks keys = true → keys.all (·.isSome) = true ∧ keys.length = ks.length
  | [], [], _ => ⟨rfl, rfl⟩
  | [], _ :: _, h => nomatch (show false = true from h)
  | k :: ks, keys, h => by
    match keys, h with
    | some (.Constant (.str y) n p) :: keys, h =>
      obtain ⟨h, h4⟩ := and2 (show (decide (k = y) && decide (k.length ≤ LL) && PyData.strOk k && mKeys ks keys) = true from h)
      obtain ⟨i1, i2⟩ := keys_ok h4
      refine ⟨?_, congrArg (· + 1) i2⟩
      rw [List.all_cons, i1] <;> rfl
theorem fold_I {c : CI} {x : MX} {t e : Expr} (h : mI M c x t e = true) : ∀ env z, foldedSetIterable e env z = pure z := fun env z => by
  cases c with
  | of c => exact fold_of (and2 (show (fine e && mE M c x e) = true from h)).1 z
  | range1 a =>
    cases e with
    | Call f as ks p => rfl
    | _ => exact nomatch (show false = true from h)
  | range2 a b =>
    cases e with
    | Call f as ks p => rfl
    | _ => exact nomatch (show false = true from h)
  | enum a =>
    cases e with
    | Call f as ks p => rfl
    | _ => exact nomatch (show false = true from h)
theorem own_snd {tg : Tg} {e : Expr} {l : List (Str × Nat)} (h : (tgOwn tg e).map (·.2) = tg.slots) : True := trivial
end
end Mi
/-! Mi: what the evaluator gives is what the text does: expressions. -/
namespace Mi
open PySem PySem.Spec PyProof.Rows L2 TL

section
variable {M : MM} {A : Nm} {k : Nat} {fa : Nat → Addr}
abbrev Cl (M : MM) (k : Nat) : Nat → List D → Sto → R D := callF M.T k
abbrev PV (M : MM) (k : Nat) (X : Cx) (A : Nm) (W : WX) (c : CE) (e : Expr) : Prop := PE X e (EV X A W (ev M.T (Cl M k) c).1) ∧ PT X e (ET X A W (ev M.T (Cl M k) c).2)
theorem pv_val {X : Cx} {W : WX} {c : CE} {e : Expr} (hv : valT e = true) (h2 : (ev M.T (Cl M k) c).2 = fun e S => ((ev M.T (Cl M k) c).1 e S).bind fun x S => R.of S (tru S x)) (h : PE X e (EV X A W (ev M.T (Cl M k) c).1)) : PV M k X A W c e :=
  ⟨h, by rw [h2]; exact mi_truth hv h⟩
theorem takes0 {X : Cx} : Takes X W0 := fun _ _ ⟨_, _, _, _, _, _, _, _, _, _, _, _, _, _, _, _, w⟩ => w.elim
mutual
theorem snd_E : ∀ (c : CE) {X : Cx} {x : MX} {W : WX} {e : Expr}, CX1 M A k fa X x → Takes X W → mE M c x e = true → PV M k X A W c e
  | .var i, X, x, W, e, h, tk, q => by
    cases e with
    | Name y p =>
      obtain ⟨q1, q2⟩ := and2 (show (decide (x.N[i]? = some y) && visB x.sc y) = true from q)
      have hN : X.N[i]? = some y := by rw [h.hN]; exact of_decide_eq_true q1
      obtain ⟨n1, n2⟩ := h.px.nm i y hN
      exact pv_val rfl rfl (mi_var hN (vis_of h q2) n1 n2)
    | _ => exact nomatch (show false = true from q)
  | .cst d, X, x, W, e, h, tk, q => by
    cases e with
    | Constant c kk p =>
      obtain ⟨v, h1, h2⟩ := cst_pe (X := X) (A := A) (W := W) (kk := kk) (pos := p) (show cstB d c = true from q)
      exact pv_val rfl rfl (mi_cst h1 h2)
    | _ => exact nomatch (show false = true from q)
  | .glb y d, X, x, W, e, h, tk, q => by
    cases e with
    | Name z p =>
      obtain ⟨q1, q2⟩ := and2 (show (decide (z = y) && gloB x.sc z && conB M y d) = true from q)
      obtain ⟨q1, q3⟩ := and2 q1
      have e := of_decide_eq_true q1
      subst e
      obtain ⟨u, v, g1, g2, g3, g4⟩ := h.px.con _ _ (con_of q2)
      exact pv_val rfl rfl (mi_glob (glo_of h q3) g1 g2 g3 g4)
    | _ => exact nomatch (show false = true from q)
  | .tup es, X, x, W, e, h, tk, q => by
    cases e with
    | Tuple l kk p => exact pv_val rfl rfl (mi_tup (snd_Es es h tk (show mEs M es x l = true from q)))
    | _ => exact nomatch (show false = true from q)
  | .lst mu es, X, x, W, e, h, tk, q => by
    cases e with
    | List l p => exact pv_val rfl rfl (mi_lst (snd_Es es h tk (show mEs M es x l = true from q)))
    | _ => exact nomatch (show false = true from q)
  | .dic mu ks es, X, x, W, e, h, tk, q => by
    cases e with
    | Dict keys vals p =>
      obtain ⟨q, q7⟩ := and2 (show (mKeys ks keys && decide ks.Nodup && decide (ks.length ≤ 15) && decide (ks ≠ []) && decide (keys.length = vals.length) && vals.all fine && mEs M es x vals) = true from q)
      obtain ⟨q, q6⟩ := and2 q
      obtain ⟨q, q5⟩ := and2 q
      obtain ⟨q, q4⟩ := and2 q
      obtain ⟨q, q3⟩ := and2 q
      obtain ⟨q1, q2⟩ := and2 q
      have hk : keys.all (·.isSome) = true ∧ keys.length = ks.length := keys_ok q1
      have hlen := of_decide_eq_true q5
      obtain ⟨p1, p2, p3⟩ := snd_Ps es h tk q1 (hk.2.symm.trans hlen) q6 q7 (pos := p)
      have hne : keys ≠ [] := fun z => by
        rw [z] at hk
        exact (of_decide_eq_true q4) (List.eq_nil_of_length_eq_zero hk.2.symm)
      refine pv_val rfl rfl (PE.imp (pe_disp p1 hk.1 hlen hne (by rw [hk.2]; exact of_decide_eq_true q3)) fun σ H Q hh => t_dic p2 p3 (of_decide_eq_true q2) (of_decide_eq_true q3) hh)
    | _ => exact nomatch (show false = true from q)
  | .bin op a b, X, x, W, e, h, tk, q => by
    cases e with
    | BinOp l o r p =>
      obtain ⟨q, q3⟩ := and2 (show (decide (o = opOf op) && mE M a x l && mE M b x r) = true from q)
      obtain ⟨q1, q2⟩ := and2 q
      have e := of_decide_eq_true q1
      subst e
      exact pv_val rfl rfl (mi_bin (snd_E a h tk q2).1 (snd_E b h tk q3).1)
    | _ => exact nomatch (show false = true from q)
  | .neg a, X, x, W, e, h, tk, q => by
    cases e with
    | UnaryOp op o p =>
      cases op with
      | USub => exact pv_val rfl rfl (mi_neg (snd_E a h tk (show mE M a x o = true from q)).1)
      | _ => exact nomatch (show false = true from q)
    | _ => exact nomatch (show false = true from q)
  | .nott a, X, x, W, e, h, tk, q => by
    cases e with
    | UnaryOp op o p =>
      cases op with
      | Not =>
        have ih := snd_E a h tk (show mE M a x o = true from q)
        exact ⟨mi_not ih.1, mi_notT ih.2⟩
      | _ => exact nomatch (show false = true from q)
    | _ => exact nomatch (show false = true from q)
  | .and a b, X, x, W, e, h, tk, q => by
    cases e with
    | BoolOp op vs p =>
      cases op with
      | Or => exact nomatch (show false = true from q)
      | And =>
        match vs, q with
        | [l, r], q =>
          obtain ⟨q1, q2⟩ := and2 (show (mE M a x l && mE M b x r) = true from q)
          have i1 := snd_E a h tk q1
          have i2 := snd_E b h tk q2
          exact ⟨mi_and i1.1 (mi_one i2.1), mi_andT i1.2 (mi_oneT i2.2)⟩
        | l :: r :: r2 :: rs, q =>
          obtain ⟨q1, q2⟩ := and2 (show (mE M a x l && mE M b x (.BoolOp .And (r :: r2 :: rs) p)) = true from q)
          have i1 := snd_E a h tk q1
          have i2 := snd_E b h tk q2
          exact ⟨mi_and i1.1 i2.1, mi_andT i1.2 i2.2⟩
        | [], q => exact nomatch (show false = true from q)
        | [_], q => exact nomatch (show false = true from q)
    | _ => exact nomatch (show false = true from q)
  | .or a b, X, x, W, e, h, tk, q => by
    cases e with
    | BoolOp op vs p =>
      cases op with
      | And => exact nomatch (show false = true from q)
      | Or =>
        match vs, q with
        | [l, r], q =>
          obtain ⟨q1, q2⟩ := and2 (show (mE M a x l && mE M b x r) = true from q)
          have i1 := snd_E a h tk q1
          have i2 := snd_E b h tk q2
          exact ⟨mi_or i1.1 (mi_one i2.1), mi_orT i1.2 (mi_oneT i2.2)⟩
        | l :: r :: r2 :: rs, q =>
          obtain ⟨q1, q2⟩ := and2 (show (mE M a x l && mE M b x (.BoolOp .Or (r :: r2 :: rs) p)) = true from q)
          have i1 := snd_E a h tk q1
          have i2 := snd_E b h tk q2
          exact ⟨mi_or i1.1 i2.1, mi_orT i1.2 i2.2⟩
        | [], q => exact nomatch (show false = true from q)
        | [_], q => exact nomatch (show false = true from q)
    | _ => exact nomatch (show false = true from q)
  | .ife t a b, X, x, W, e, h, tk, q => by
    cases e with
    | IfExp c l r p =>
      obtain ⟨q, q3⟩ := and2 (show (mE M t x c && mE M a x l && mE M b x r) = true from q)
      obtain ⟨q1, q2⟩ := and2 q
      have i0 := snd_E t h tk q1
      have i1 := snd_E a h tk q2
      have i2 := snd_E b h tk q3
      exact ⟨mi_ife i0.2 i1.1 i2.1, mi_ifeT i0.2 i1.2 i2.2⟩
    | _ => exact nomatch (show false = true from q)
  | .cmp op a b, X, x, W, e, h, tk, q => by
    cases e with
    | Compare l os rs p =>
      match os, rs, q with
      | [o], [r], q =>
        obtain ⟨q, q4⟩ := and2 (show (decide (o = cOf op) && fine r && mE M a x l && mE M b x r) = true from q)
        obtain ⟨q, q3⟩ := and2 q
        obtain ⟨q1, q2⟩ := and2 q
        have e := of_decide_eq_true q1
        subst e
        have i1 := snd_E a h tk q3
        have i2 := snd_E b h tk q4
        exact ⟨mi_cmp h.px.fx.room.units q2 i1.1 i2.1, mi_cmpT h.px.fx.room.units q2 i1.1 i2.1⟩
      | [], _, q => exact nomatch (show false = true from q)
      | [_], [], q => exact nomatch (show false = true from q)
      | [_], _ :: _ :: _, q => exact nomatch (show false = true from q)
      | _ :: _ :: _, _, q => exact nomatch (show false = true from q)
    | _ => exact nomatch (show false = true from q)
  | .chn o1 o2 a b c, X, x, W, e, h, tk, q => by
    cases e with
    | Compare l os rs p =>
      match os, rs, q with
      | [p1, p2], [m, r], q =>
        obtain ⟨q, q7⟩ := and2 (show (decide (p1 = cOf o1) && decide (p2 = cOf o2) && fine m && fine r && mE M a x l && mE M b x m && mE M c x r) = true from q)
        obtain ⟨q, q6⟩ := and2 q
        obtain ⟨q, q5⟩ := and2 q
        obtain ⟨q, q4⟩ := and2 q
        obtain ⟨q, q3⟩ := and2 q
        obtain ⟨q1, q2⟩ := and2 q
        have e1 := of_decide_eq_true q1
        have e2 := of_decide_eq_true q2
        subst e1 e2
        have i1 := snd_E a h tk q5
        have i2 := snd_E b h tk q6
        have i3 := snd_E c h tk q7
        exact ⟨mi_chn h.px.fx.room.units q3 q4 i1.1 i2.1 i3.1, mi_chnT h.px.fx.room.units q3 q4 i1.1 i2.1 i3.1⟩
      | [], _, q => exact nomatch (show false = true from q)
      | [_], _, q => exact nomatch (show false = true from q)
      | [_, _], [], q => exact nomatch (show false = true from q)
      | [_, _], [_], q => exact nomatch (show false = true from q)
      | [_, _], _ :: _ :: _ :: _, q => exact nomatch (show false = true from q)
      | _ :: _ :: _ :: _, _, q => exact nomatch (show false = true from q)
    | _ => exact nomatch (show false = true from q)
  | .att o f, X, x, W, e, h, tk, q => by
    cases e with
    | Attribute v a p =>
      obtain ⟨q, q4⟩ := and2 (show (decide (M.att[f]? = some a) && decide (f ∈ M.fl) && nosup v && mE M o x v) = true from q)
      obtain ⟨q, q3⟩ := and2 q
      obtain ⟨q1, q2⟩ := and2 q
      have e := h.px.att f a (of_decide_eq_true q1)
      subst e
      exact pv_val rfl rfl (mi_att h.px.gc (of_decide_eq_true q2) q3 (snd_E o h tk q4).1)
    | _ => exact nomatch (show false = true from q)
  | .idx o i, X, x, W, e, h, tk, q => by
    cases e with
    | Subscript v s p =>
      obtain ⟨q, q3⟩ := and2 (show (fine s && mE M o x v && mE M i x s) = true from q)
      obtain ⟨q1, q2⟩ := and2 q
      exact pv_val rfl rfl (mi_idx (Nat.lt_of_le_of_lt (Nat.add_le_add_left (by decide) _) h.px.fx.room.units) q1 (snd_E o h tk q2).1 (snd_E i h tk q3).1)
    | _ => exact nomatch (show false = true from q)
  | .slc o lo hi, X, x, W, e, h, tk, q => by
    cases e with
    | Subscript v s p =>
      cases s with
      | Slice l u st p2 =>
        cases st with
        | none =>
          obtain ⟨q, q3⟩ := and2 (show (mE M o x v && mO M lo x l && mO M hi x u) = true from q)
          obtain ⟨q1, q2⟩ := and2 q
          exact pv_val rfl rfl (mi_slc (snd_E o h tk q1).1 (snd_O lo h tk q2) (snd_O hi h tk q3))
        | some _ => exact nomatch (show false = true from q)
      | _ => exact nomatch (show false = true from q)
    | _ => exact nomatch (show false = true from q)
  | .rev o, X, x, W, e, h, tk, q => by
    match e, q with
    | .Subscript v (.Slice none none (some (.UnaryOp .USub (.Constant (.int 1) kk p1) p2)) p3) p, q =>
      exact pv_val rfl rfl (mi_rev (snd_E o h tk (show mE M o x v = true from q)).1)
  | .isi a ts, X, x, W, e, h, tk, q => by
    match e, q with
    | .Call (.Name y p) [l, t] [] p2, q =>
      obtain ⟨q, q5⟩ := and2 (show (decide (y = "isinstance") && bltB M x y && fine l && mTy M x ts t && mE M a x l) = true from q)
      obtain ⟨q, q4⟩ := and2 q
      obtain ⟨q, q3⟩ := and2 q
      obtain ⟨q1, q2⟩ := and2 q
      have e := of_decide_eq_true q1
      subst e
      obtain ⟨g1, g2⟩ := blt_of h q2
      match ts, t, q4 with
      | [ty], .Name z p3, q4 =>
        obtain ⟨t1, cv, t2, t3⟩ := ty_of (p := p3) h (show mTy1 M x ty z = true from q4)
        exact pv_val rfl rfl (mi_isi h.px.gc t1 g1 g2 q3 rfl (snd_E a h tk q5).1 t2 t3)
  | .bf b mu es, X, x, W, e, h, tk, q => by
    match e, q with
    | .Call (.Name y p) (l :: ls) [] p2, q =>
      obtain ⟨q, q5⟩ := and2 (show (decide (y = bfN b) && bltB M x y && (bfIs b).isSome && (l :: ls).all fine && mEs M es x (l :: ls)) = true from q)
      obtain ⟨q, q4⟩ := and2 q
      obtain ⟨q, q3⟩ := and2 q
      obtain ⟨q1, q2⟩ := and2 q
      have e := of_decide_eq_true q1
      subst e
      obtain ⟨g1, g2⟩ := blt_of h q2
      obtain ⟨b1, b2, b3⟩ := boot_bf q3
      have ih := snd_Es es h tk q5
      refine pv_val rfl rfl ?_
      cases b with
      | len => exact mi_bf h.px.calm rfl g1 g2 b1 q4 ih b2 b3
      | abs => exact mi_bf h.px.calm rfl g1 g2 b1 q4 ih b2 b3
      | sum => exact mi_bf h.px.calm rfl g1 g2 b1 q4 ih b2 b3
      | all => exact mi_bf h.px.calm rfl g1 g2 b1 q4 ih b2 b3
      | any => exact mi_bf h.px.calm rfl g1 g2 b1 q4 ih b2 b3
      | min => exact mi_bf h.px.calm rfl g1 g2 b1 q4 ih b2 b3
      | max => exact mi_bf h.px.calm rfl g1 g2 b1 q4 ih b2 b3
      | list => exact mi_bfT h.px.calm rfl g1 g2 b1 q4 ih b2 b3
      | tuple => exact mi_bfT h.px.calm rfl g1 g2 b1 q4 ih b2 b3
      | int => exact mi_bfT h.px.calm rfl g1 g2 b1 q4 ih b2 b3
      | str => exact mi_bfT h.px.calm rfl g1 g2 b1 q4 ih b2 b3
      | _ => cases q3
  | .bm m o es, X, x, W, e, h, tk, q => by
    match e, q with
    | .Call (.Attribute v a apos) args [] p, q =>
      obtain ⟨q, q7⟩ := and2 (show (decide (a = bmNm m) && nosup v && args.all fine && decide (args.length < 29) && (apos.endLine == p.line) && mE M o x v && mEs M es x args) = true from q)
      obtain ⟨q, q6⟩ := and2 q
      obtain ⟨q, q5⟩ := and2 q
      obtain ⟨q, q4⟩ := and2 q
      obtain ⟨q, q3⟩ := and2 q
      obtain ⟨q1, q2⟩ := and2 q
      have e := of_decide_eq_true q1
      subst e
      have io := (snd_E o h tk q6).1
      refine pv_val rfl rfl ?_
      cases args with
      | nil =>
        have e := es_nil q7
        subst e
        exact mi_bm0 q2 q5 io
      | cons a as => exact mi_bm q2 q3 (of_decide_eq_true q4) q5 io (snd_Es es h tk q7)
  | .call f es, X, x, W, e, h, tk, q => by
    match e, q with
    | .Call (.Name y p) args [] p2, q =>
      obtain ⟨q, q4⟩ := and2 (show (decide (M.fnN[f]? = some (some y)) && gloB x.sc y && args.all fine && mEs M es x args) = true from q)
      obtain ⟨q, q3⟩ := and2 q
      obtain ⟨q1, q2⟩ := and2 q
      obtain ⟨g1, g2, g3⟩ := h.px.fnN f y (of_decide_eq_true q1)
      refine pv_val rfl rfl ?_
      cases args with
      | nil =>
        have e := es_nil q4
        subst e
        exact mi_call0 h.px.fx tk (glo_of h q2) g1 g2 g3
      | cons a as => exact mi_call h.px.fx tk (glo_of h q2) g1 g2 g3 q3 (snd_Es es h tk q4)
  | .mk c es, X, x, W, e, h, tk, q => by
    match e, q with
    | .Call (.Name y p) args [] p2, q =>
      obtain ⟨q, q5⟩ := and2 (show (decide (M.clN[c]? = some y) && nrm M.T c && gloB x.sc y && args.all fine && mEs M es x args) = true from q)
      obtain ⟨q, q4⟩ := and2 q
      obtain ⟨q, q3⟩ := and2 q
      obtain ⟨q1, q2⟩ := and2 q
      have q2' := q2
      unfold nrm at q2'
      cases qc : M.T.cls[c]? with
      | none => rw [qc] at q2'; cases q2'
      | some d =>
        rw [qc] at q2'
        obtain ⟨f, hf⟩ := Option.isSome_iff_exists.mp q2'
        obtain ⟨g1, g2, g3⟩ := h.px.clN c d f y (of_decide_eq_true q1) qc hf
        refine pv_val rfl rfl ?_
        cases args with
        | nil =>
          have e := es_nil q5
          subst e
          exact mi_mk0 h.px.fx tk qc hf g2 (glo_of h q3) g1 g3
        | cons a as => exact mi_mk h.px.fx tk qc hf g2 (glo_of h q3) g1 g3 q4 (snd_Es es h tk q5)
  | .mth o m es, X, x, W, e, h, tk, q => by
    match e, q with
    | .Call (.Attribute v a apos) args [] p, q =>
      obtain ⟨q, q7⟩ := and2 (show (decide (M.att[m]? = some a) && nosup v && args.all fine && decide (args.length < 29) && (apos.endLine == p.line) && mE M o x v && mEs M es x args) = true from q)
      obtain ⟨q, q6⟩ := and2 q
      obtain ⟨q, q5⟩ := and2 q
      obtain ⟨q, q4⟩ := and2 q
      obtain ⟨q, q3⟩ := and2 q
      obtain ⟨q1, q2⟩ := and2 q
      have e := h.px.att m a (of_decide_eq_true q1)
      subst e
      have io := (snd_E o h tk q6).1
      refine pv_val rfl rfl ?_
      cases args with
      | nil =>
        have e := es_nil q7
        subst e
        exact mi_mth0 h.px.fx tk h.px.gm io (mth_eval q2 q5 q3 (of_decide_eq_true q4))
      | cons a as => exact mi_mth h.px.fx tk h.px.gm q3 io (snd_Es es h tk q7) (mth_eval q2 q5 q3 (of_decide_eq_true q4))
  | .lc mu el tg it co, X, x, W, e, h, tk, q => by
    match e, q with
    | .ListComp elt [⟨tgE, iter, ifs, y⟩] scope p, q =>
      obtain ⟨q, q7⟩ := and2 (show (decide (y = 0) && blkC x.N x.sc scope (tgOwn tg tgE) && decide ((tgOwn tg tgE).map (·.2) = tg.slots) && mTg (blkX x scope) tg tgE && mI M it x tgE iter && mC M co (blkX x scope) ifs && mE M el (blkX x scope) elt) = true from q)
      obtain ⟨q, q6⟩ := and2 q
      obtain ⟨q, q5⟩ := and2 q
      obtain ⟨q, q4⟩ := and2 q
      obtain ⟨q, q3⟩ := and2 q
      obtain ⟨q1, q2⟩ := and2 q
      have e := of_decide_eq_true q1
      subst e
      have ii := snd_I it h tk q5
      refine pv_val rfl rfl (mi_lc h.px.calm h.px.nd ii.1 (blk_of h q2) (of_decide_eq_true q3) (fun s H C cl fp => pg_tg (h.blk s H scope C cl fp).px.calm (h.blk s H scope C cl fp).px.nd (tg_of (h.blk s H scope C cl fp) q4)) (fun s H C cl fp => snd_C co (h.blk s H scope C cl fp) takes0 q6)
        (fun s H C cl fp => (snd_E el (h.blk s H scope C cl fp) takes0 q7).1) (fun z => ii.2 _ z))
  | .lc2 mu el tg it co tg2 it2 co2, X, x, W, e, h, tk, q => by
    match e, q with
    | .ListComp elt [⟨tgE, iter, ifs, y⟩, ⟨tgE2, iter2, ifs2, y2⟩] scope p, q =>
      obtain ⟨q, q11⟩ := and2 (show (decide (y = 0) && decide (y2 = 0) && blkC x.N x.sc scope (tgOwn tg tgE ++ tgOwn tg2 tgE2) && decide ((tgOwn tg tgE ++ tgOwn tg2 tgE2).map (·.2) = tg.slots ++ tg2.slots) && mTg (blkX x scope) tg tgE && mTg (blkX x scope) tg2 tgE2 &&
        mI M it x tgE iter && mC M co (blkX x scope) ifs && mI M it2 (blkX x scope) tgE2 iter2 && mC M co2 (blkX x scope) ifs2 && mE M el (blkX x scope) elt) = true from q)
      obtain ⟨q, q10⟩ := and2 q
      obtain ⟨q, q9⟩ := and2 q
      obtain ⟨q, q8⟩ := and2 q
      obtain ⟨q, q7⟩ := and2 q
      obtain ⟨q, q6⟩ := and2 q
      obtain ⟨q, q5⟩ := and2 q
      obtain ⟨q, q4⟩ := and2 q
      obtain ⟨q, q3⟩ := and2 q
      obtain ⟨q1, q2⟩ := and2 q
      have e1 := of_decide_eq_true q1
      have e2 := of_decide_eq_true q2
      subst e1 e2
      have ii := snd_I it h tk q7
      refine pv_val rfl rfl (mi_lc2 h.px.calm h.px.nd ii.1 (blk_of h q3) (of_decide_eq_true q4) (fun s H C cl fp => pg_tg (h.blk s H scope C cl fp).px.calm (h.blk s H scope C cl fp).px.nd (tg_of (h.blk s H scope C cl fp) q5)) (fun s H C cl fp => snd_C co (h.blk s H scope C cl fp) takes0 q8)
        (fun s H C cl fp => (snd_I it2 (h.blk s H scope C cl fp) takes0 q9).1) (fun s H C cl fp => pg_tg (h.blk s H scope C cl fp).px.calm (h.blk s H scope C cl fp).px.nd (tg_of (h.blk s H scope C cl fp) q6)) (fun s H C cl fp => snd_C co2 (h.blk s H scope C cl fp) takes0 q10)
        (fun s H C cl fp => (snd_E el (h.blk s H scope C cl fp) takes0 q11).1) (fun z => ii.2 _ z) (fun env z => (fold_I q9) env z))
  | .frz a, X, x, W, e, h, tk, q => by
    obtain ⟨q1, q2⟩ := and2 (show (valT e && mE M a x e) = true from q)
    exact pv_val q1 rfl (mi_frz (snd_E a h tk q2).1)
theorem snd_Es : ∀ (es : CEs) {X : Cx} {x : MX} {W : WX} {l : List Expr}, CX1 M A k fa X x → Takes X W → mEs M es x l = true → PA X l (EL X A W (evEs M.T (Cl M k) es))
  | .nil, X, x, W, l, h, tk, q => by
    cases l with
    | nil => exact mi_nil
    | cons _ _ => exact nomatch (show false = true from q)
  | .cons c r, X, x, W, l, h, tk, q => by
    cases l with
    | nil => exact nomatch (show false = true from q)
    | cons e es =>
      obtain ⟨q, q3⟩ := and2 (show (fine e && mE M c x e && mEs M r x es) = true from q)
      obtain ⟨q1, q2⟩ := and2 q
      exact mi_cons q1 (snd_E c h tk q2).1 (snd_Es r h tk q3)
  | .star c r, X, x, W, l, h, tk, q => by
    match l, q with
    | .Starred e p :: es, q =>
      obtain ⟨q1, q2⟩ := and2 (show (mE M c x e && mEs M r x es) = true from q)
      exact mi_star (snd_E c h tk q1).1 (snd_Es r h tk q2)
theorem snd_Ps : ∀ (es : CEs) {X : Cx} {x : MX} {W : WX} {ks : List Str} {keys : List (Option Expr)} {vals : List Expr} {pos : Pos}, CX1 M A k fa X x → Takes X W → mKeys ks keys = true → ks.length = vals.length → vals.all fine = true → mEs M es x vals = true → PPs X pos keys vals (trsOf X A W M.T (Cl M k) ks es) ∧ nostar es = true ∧ es.len = ks.length
  | .nil, X, x, W, ks, keys, vals, pos, h, tk, qk, hl, hf, q => by
    cases vals with
    | nil =>
      cases ks with
      | nil =>
        cases keys with
        | nil => exact ⟨pps_nil, rfl, rfl⟩
        | cons _ _ => exact nomatch (show false = true from qk)
      | cons _ _ => cases hl
    | cons _ _ => exact nomatch (show false = true from q)
  | .cons c r, X, x, W, ks, keys, vals, pos, h, tk, qk, hl, hf, q => by
    cases vals with
    | nil => exact nomatch (show false = true from q)
    | cons e es =>
      cases ks with
      | nil => cases hl
      | cons kk ks =>
        match keys, qk with
        | some (.Constant (.str y) n p) :: keys, qk =>
          obtain ⟨qk, k4⟩ := and2 (show (decide (kk = y) && decide (kk.length ≤ LL) && PyData.strOk kk && mKeys ks keys) = true from qk)
          obtain ⟨qk, k3⟩ := and2 qk
          obtain ⟨k1, k2⟩ := and2 qk
          have e1 := of_decide_eq_true k1
          subst e1
          obtain ⟨q, q3⟩ := and2 (show (fine e && mE M c x e && mEs M r x es) = true from q)
          obtain ⟨q1, q2⟩ := and2 q
          rw [List.all_cons] at hf
          obtain ⟨f1, f2⟩ := and2 hf
          obtain ⟨i1, i2, i3⟩ := snd_Ps r h tk k4 (Nat.succ.inj hl) f2 q3 (pos := pos) (W := W)
          exact ⟨pps_cons pe_str (snd_E c h tk q2).1 i1, i2, congrArg (· + 1) i3⟩
  | .star c r, X, x, W, ks, keys, vals, pos, h, tk, qk, hl, hf, q => by
    match vals, q with
    | .Starred e p :: es, q => exact nomatch (show false = true from hf)
theorem snd_O : ∀ (c : CO) {X : Cx} {x : MX} {W : WX} {o : Option Expr}, CX1 M A k fa X x → Takes X W → mO M c x o = true → PO X o (EO X A W (evO M.T (Cl M k) c))
  | .no, X, x, W, o, h, tk, q => by
    cases o with
    | none => exact mi_noPart
    | some _ => exact nomatch (show false = true from q)
  | .yes c, X, x, W, o, h, tk, q => by
    cases o with
    | none => exact nomatch (show false = true from q)
    | some e => exact mi_part (snd_E c h tk (show mE M c x e = true from q)).1
theorem snd_C : ∀ (c : CO) {X : Cx} {x : MX} {W : WX} {l : List Expr}, CX1 M A k fa X x → Takes X W → mC M c x l = true → PTs X l (tG X.K A (rlI Bool) W (evC M.T (Cl M k) c))
  | .no, X, x, W, l, h, tk, q => by
    cases l with
    | nil => exact PTs.imp pts_nil fun σ H Q ⟨e, S, F, m, sr, er, o⟩ => o F m H true Ext.refl sr rfl
    | cons _ _ => exact nomatch (show false = true from q)
  | .yes c, X, x, W, l, h, tk, q => by
    match l, q with
    | [e], q => exact pts_one (snd_E c h tk (show mE M c x e = true from q)).2
theorem snd_I : ∀ (c : CI) {X : Cx} {x : MX} {W : WX} {t e : Expr}, CX1 M A k fa X x → Takes X W → mI M c x t e = true → PI X t e (EI X A W (evI M.T (Cl M k) c)) ∧ ∀ env z, foldedSetIterable e env z = pure z
  | .of c, X, x, W, t, e, h, tk, q => by
    obtain ⟨q1, q2⟩ := and2 (show (fine e && mE M c x e) = true from q)
    exact ⟨ii_of (snd_E c h tk q2).1, fun env z => fold_of q1 z⟩
  | .range1 a, X, x, W, t, e, h, tk, q => by
    match e, q with
    | .Call (.Name y p) [l] [] p2, q =>
      obtain ⟨q, q4⟩ := and2 (show (decide (y = "range") && bltB M x y && fine l && mE M a x l) = true from q)
      obtain ⟨q, q3⟩ := and2 q
      obtain ⟨q1, q2⟩ := and2 q
      have e := of_decide_eq_true q1
      subst e
      obtain ⟨g1, g2⟩ := blt_of h q2
      exact ⟨ii_range1 g1 g2 q3 (snd_E a h tk q4).1, fun env z => rfl⟩
  | .range2 a b, X, x, W, t, e, h, tk, q => by
    match e, q with
    | .Call (.Name y p) [l, r] [] p2, q =>
      obtain ⟨q, q6⟩ := and2 (show (decide (y = "range") && bltB M x y && fine l && fine r && mE M a x l && mE M b x r) = true from q)
      obtain ⟨q, q5⟩ := and2 q
      obtain ⟨q, q4⟩ := and2 q
      obtain ⟨q, q3⟩ := and2 q
      obtain ⟨q1, q2⟩ := and2 q
      have e := of_decide_eq_true q1
      subst e
      obtain ⟨g1, g2⟩ := blt_of h q2
      exact ⟨ii_range2 g1 g2 q3 q4 (snd_E a h tk q5).1 (snd_E b h tk q6).1, fun env z => rfl⟩
  | .enum a, X, x, W, t, e, h, tk, q => by
    match e, q with
    | .Call (.Name y p) [l] [] p2, q =>
      obtain ⟨q, q5⟩ := and2 (show (decide (y = "enumerate") && bltB M x y && isTup t && fine l && mE M a x l) = true from q)
      obtain ⟨q, q4⟩ := and2 q
      obtain ⟨q, q3⟩ := and2 q
      obtain ⟨q1, q2⟩ := and2 q
      have e := of_decide_eq_true q1
      subst e
      obtain ⟨g1, g2⟩ := blt_of h q2
      cases t with
      | Tuple elts kk tp => exact ⟨ii_enum g1 g2 q4 (snd_E a h tk q5).1, fun env z => rfl⟩
      | _ => cases q3
end
end
end Mi
/-! Mi: what the evaluator gives is what the text does: statements. -/
namespace Mi
open PySem PySem.Spec PyProof.Rows L2 TL

/-! ### the tree against the core -/
def locB (sc : Scope) (y : Str) : Bool := match sc.names.lookup y with
  | some .local => true
  | _ => false
def lcSw (x : MX) (y : Str) (py : Pos) : CE → Expr → Bool
  | .lc _ _ _ _ _, .ListComp _ _ scope pos => locB x.sc y && (py.line == pos.line) && !(scope.names.any fun (n, k) => n == y && (k == .local || k == .cell))
  | .lc2 _ _ _ _ _ _ _ _, .ListComp _ _ scope pos => locB x.sc y && (py.line == pos.line) && !(scope.names.any fun (n, k) => n == y && (k == .local || k == .cell))
  | _, _ => false
def funB (sc : Scope) : Bool := match sc.kind with
  | .function => true
  | _ => false
def unpC (t e : Expr) : Bool := match t, e with
  | .Tuple [_, _] _ _, .Tuple es _ _ => es.all (foldedForSure 8)
  | _, _ => false
/-- a pair of names of which one is no local -/
def unpN (sc : Scope) : Expr → Bool
  | .Tuple [.Name y _, .Name z _] _ _ => !(locB sc y) || !(locB sc z)
  | _ => false
def unpB (sc : Scope) (t e : Expr) : Bool := notup e || unpC t e || unpN sc t
mutual
def mH (M : MM) (s : Option Nat) : HE → MX → Expr → Bool
  | .cst d, _, e => match e with
    | .Constant c _ _ => cstB d c
    | _ => false
  | .att i f, x, e => match e with
    | .Attribute (.Name y _) a _ => decide (s = some i) && decide (x.N[i]? = some y) && visB x.sc y && decide (M.att[f]? = some a) && decide (f ∈ M.xl)
    | _ => false
  | .repr _, _, _ => false
  | .tup es, x, e => match e with
    | .Tuple l _ _ => mHs M s es x l
    | _ => false
  | .lst es, x, e => match e with
    | .List l _ => mHs M s es x l
    | _ => false
def mHs (M : MM) (s : Option Nat) : HEs → MX → List Expr → Bool
  | .nil, _, l => l.isEmpty
  | .cons h r, x, l => match l with
    | e :: es => fine e && mH M s h x e && mHs M s r x es
    | [] => false
end
def mHS (M : MM) (s : Option Nat) (x : MX) : HS → Stmt → Bool
  | .ret h, .Return (some e) _ => mH M s h x e
  | .set j h, .Assign [.Name y _] e _ => tgB x j y && nocomp e && mH M s h x e
  | _, _ => false
def mCHs (M : MM) (x : MX) : CHs → List ExceptHandler → Bool
  | .cons c (some i) hs .nil, [.ExceptHandler (some (.Name y _)) (some n) [b] _] => decide (M.clN[c]? = some y) && decide (c < M.T.cls.length) && !(nrm M.T c) && gloB x.sc y && decide (x.N[i]? = some n) && locB x.sc n && mHS M (some i) x hs b
  | .cons c none hs .nil, [.ExceptHandler (some (.Name y _)) none [b] _] => decide (M.clN[c]? = some y) && decide (c < M.T.cls.length) && !(nrm M.T c) && gloB x.sc y && mHS M none x hs b
  | _, _ => false
mutual
def mS (M : MM) : CS → MX → Stmt → Bool
  | .set i a, x, s => match s with
    | .Assign [.Name y py] e _ => tgB x i y && mE M a x e && (nocomp e || (funB x.sc && lcSw x y py a e))
    | _ => false
  | .par i j a b, x, s => match s with
    | .Assign [.Tuple [.Name y py, .Name z pz] _ _] (.Tuple [l, r] _ _) _ => decide (i ≠ j) && decide (x.N[i]? = some y) && decide (x.N[j]? = some z) && locB x.sc y && locB x.sc z && (pz.line == py.line) && decide (y ≠ z) && fine l && fine r &&
        !([l, r].all (foldedForSure 8)) && !([l, r].all (constantsAlone 8)) && funB x.sc && mE M a x l && mE M b x r
    | _ => false
  | .unp tg a, x, s => match s with
    | .Assign [t] e _ => isTup t && mTg x tg t && nocomp e && unpB x.sc t e && mE M a x e
    | _ => false
  | .attS o f a, x, s => match s with
    | .Assign [.Attribute v at_ _] e _ => decide (M.att[f]? = some at_) && decide (f ∈ M.fl) && nocomp e && mE M a x e && mE M o x v
    | _ => false
  | .idxS o i a, x, s => match s with
    | .Assign [.Subscript v t _] e _ => nocomp e && fine t && mE M a x e && mE M o x v && mE M i x t
    | _ => false
  | .aug i op a, x, s => match s with
    | .AugAssign (.Name y _) o e _ => tgB x i y && decide (o = opOf op) && ipOk op && mE M a x e
    | _ => false
  | .exp a, x, s => match s with
    | .Expr e _ => nocomp e && mE M a x e
    | _ => false
  | .ret a, x, s => match s with
    | .Return (some e) _ => mE M a x e
    | _ => false
  | .retN, _, s => match s with
    | .Return none _ => true
    | _ => false
  | .iff t a b, x, s => match s with
    | .If c l r _ => mE M t x c && mSs M a x l && mSs M b x r
    | _ => false
  | .forr tg it b, x, s => match s with
    | .For tgE iter body [] _ => mTg x tg tgE && mI M it x tgE iter && mSs M b x body
    | _ => false
  | .whil t b, x, s => match s with
    | .While c body [] _ => mE M t x c && mSs M b x body
    | _ => false
  | .brk, _, s => match s with
    | .Break _ => true
    | _ => false
  | .cnt, _, s => match s with
    | .Continue _ => true
    | _ => false
  | .pass, _, s => match s with
    | .Pass _ => true
    | _ => false
  | .rais c es, x, s => match s with
    | .Raise (some (.Call (.Name y _) [e] [] _)) none _ => decide (M.clN[c]? = some y) && !(nrm M.T c) && excT M.T c && gloB x.sc y && fine e && mEs M es x [e]
    | _ => false
  | .tryy b h, x, s => match s with
    | .Try body hs [] [] _ => hasX M.T && mSs M b x body && mCHs M x h hs
    | _ => false
def mSs (M : MM) : CSs → MX → List Stmt → Bool
  | .nil, _, l => l.isEmpty
  | .cons s r, x, l => match l with
    | a :: as => mS M s x a && mSs M r x as
    | [] => false
end

/-! ### the trees that fit -/
theorem inv_set {f : Str → Pos → Expr → Bool} {s : Stmt} (q : (match s with
    | .Assign [.Name y py] e _ => f y py e
    | _ => false) = true) : ∃ y py e sp, s = .Assign [.Name y py] e sp ∧ f y py e = true := by
  split at q
  · exact ⟨_, _, _, _, rfl, q⟩
  · cases q
theorem inv_par {f : Str → Pos → Str → Pos → Expr → Expr → Bool} {s : Stmt} (q : (match s with
    | .Assign [.Tuple [.Name y py, .Name z pz] _ _] (.Tuple [l, r] _ _) _ => f y py z pz l r
    | _ => false) = true) : ∃ y py z pz kt pt l r k2 p2 sp, s = .Assign [.Tuple [.Name y py, .Name z pz] kt pt] (.Tuple [l, r] k2 p2) sp ∧ f y py z pz l r = true := by
  split at q
  · exact ⟨_, _, _, _, _, _, _, _, _, _, _, rfl, q⟩
  · cases q
theorem inv_asg {f : Expr → Expr → Bool} {s : Stmt} (q : (match s with
    | .Assign [t] e _ => f t e
    | _ => false) = true) : ∃ t e sp, s = .Assign [t] e sp ∧ f t e = true := by
  split at q
  · exact ⟨_, _, _, rfl, q⟩
  · cases q
theorem inv_tup {t : Expr} (q : isTup t = true) : ∃ es k p, t = .Tuple es k p := by
  cases t <;> first | exact ⟨_, _, _, rfl⟩ | cases q
theorem inv_attS {f : Expr → Str → Expr → Bool} {s : Stmt} (q : (match s with
    | .Assign [.Attribute v b _] e _ => f v b e
    | _ => false) = true) : ∃ v b p e sp, s = .Assign [.Attribute v b p] e sp ∧ f v b e = true := by
  split at q
  · exact ⟨_, _, _, _, _, rfl, q⟩
  · cases q
theorem inv_idxS {f : Expr → Expr → Expr → Bool} {s : Stmt} (q : (match s with
    | .Assign [.Subscript v t _] e _ => f v t e
    | _ => false) = true) : ∃ v t p e sp, s = .Assign [.Subscript v t p] e sp ∧ f v t e = true := by
  split at q
  · exact ⟨_, _, _, _, _, rfl, q⟩
  · cases q
theorem inv_aug {f : Str → Operator → Expr → Bool} {s : Stmt} (q : (match s with
    | .AugAssign (.Name y _) o e _ => f y o e
    | _ => false) = true) : ∃ y p o e sp, s = .AugAssign (.Name y p) o e sp ∧ f y o e = true := by
  split at q
  · exact ⟨_, _, _, _, _, rfl, q⟩
  · cases q
theorem inv_rais {f : Str → Expr → Bool} {s : Stmt} (q : (match s with
    | .Raise (some (.Call (.Name y _) [e] [] _)) none _ => f y e
    | _ => false) = true) : ∃ y p e p2 sp, s = .Raise (some (.Call (.Name y p) [e] [] p2)) none sp ∧ f y e = true := by
  split at q
  · exact ⟨_, _, _, _, _, rfl, q⟩
  · cases q
theorem inv_try {f : List Stmt → List ExceptHandler → Bool} {s : Stmt} (q : (match s with
    | .Try body hs [] [] _ => f body hs
    | _ => false) = true) : ∃ body hs sp, s = .Try body hs [] [] sp ∧ f body hs = true := by
  split at q
  · exact ⟨_, _, _, rfl, q⟩
  · cases q
theorem inv_lcSw {x : MX} {y : Str} {py : Pos} {a : CE} {e : Expr} (q : lcSw x y py a e = true) :
    (∃ mu el tg it co elt gs scope pos, a = .lc mu el tg it co ∧ e = .ListComp elt gs scope pos ∧ (locB x.sc y && (py.line == pos.line) && !(scope.names.any fun (n, k) => n == y && (k == .local || k == .cell))) = true) ∨
    (∃ mu el tg it co tg2 it2 co2 elt gs scope pos, a = .lc2 mu el tg it co tg2 it2 co2 ∧ e = .ListComp elt gs scope pos ∧ (locB x.sc y && (py.line == pos.line) && !(scope.names.any fun (n, k) => n == y && (k == .local || k == .cell))) = true) := by
  unfold lcSw at q
  split at q
  · exact .inl ⟨_, _, _, _, _, _, _, _, _, rfl, rfl, q⟩
  · exact .inr ⟨_, _, _, _, _, _, _, _, _, _, _, _, rfl, rfl, q⟩
  · cases q
theorem inv_chs {M : MM} {x : MX} {h : CHs} {hs : List ExceptHandler} (q : mCHs M x h hs = true) :
    (∃ c i hsx y p n b p2, h = .cons c (some i) hsx .nil ∧ hs = [.ExceptHandler (some (.Name y p)) (some n) [b] p2] ∧ (decide (M.clN[c]? = some y) && decide (c < M.T.cls.length) && !(nrm M.T c) && gloB x.sc y && decide (x.N[i]? = some n) && locB x.sc n && mHS M (some i) x hsx b) = true) ∨
    (∃ c hsx y p b p2, h = .cons c none hsx .nil ∧ hs = [.ExceptHandler (some (.Name y p)) none [b] p2] ∧ (decide (M.clN[c]? = some y) && decide (c < M.T.cls.length) && !(nrm M.T c) && gloB x.sc y && mHS M none x hsx b) = true) := by
  unfold mCHs at q
  split at q
  · exact .inl ⟨_, _, _, _, _, _, _, _, rfl, rfl, q⟩
  · exact .inr ⟨_, _, _, _, _, _, rfl, rfl, q⟩
  · cases q
theorem inv_HS {M : MM} {s : Option Nat} {x : MX} {h : HS} {b : Stmt} (q : mHS M s x h b = true) :
    (∃ h' e p, h = .ret h' ∧ b = .Return (some e) p ∧ mH M s h' x e = true) ∨ (∃ j h' y p e p2, h = .set j h' ∧ b = .Assign [.Name y p] e p2 ∧ (tgB x j y && nocomp e && mH M s h' x e) = true) := by
  unfold mHS at q
  split at q
  · exact .inl ⟨_, _, _, rfl, rfl, q⟩
  · exact .inr ⟨_, _, _, _, _, _, rfl, rfl, q⟩
  · cases q
theorem cell_swap {y z : Str} {py pz p : Pos} {k : Nat} {e : Expr} {env : PySem.Env} (h : env.scope.names.lookup y ≠ some .local ∨ env.scope.names.lookup z ≠ some .local) : swappedStores [.Tuple [.Name y py, .Name z pz] k p] e env = pure none := by
  have hh : ((env.kindOf y == some .local) = false) ∨ ((env.kindOf z == some .local) = false) := by
    rcases h with h | h
    · exact .inl (by rw [beq_eq_false_iff_ne]; exact h)
    · exact .inr (by rw [beq_eq_false_iff_ne]; exact h)
  cases e with
  | Tuple vs k2 p2 =>
    unfold swappedStores
    have hl : ((([Expr.Name y py, Expr.Name z pz].filterMap fun
      | .Name id pos => if env.kindOf id == some .local && pos.line == ((([Expr.Name y py, Expr.Name z pz].head?.map (·.pos.line)).getD 0)) then some id else none
      | _ => none).length != [Expr.Name y py, Expr.Name z pz].length)) = true := by
      rcases hh with hh | hh
      · simp only [List.filterMap_cons, List.filterMap_nil, hh, Bool.false_and, Bool.false_eq_true, if_false]
        split <;> rfl
      · simp only [List.filterMap_cons, List.filterMap_nil, hh, Bool.false_and, Bool.false_eq_true, if_false]
        split <;> rfl
    dsimp only
    split
    · rfl
    · split
      · rfl
      · split
        · rfl
        · rename_i h2
          exact absurd (Bool.or_eq_true_iff.mpr (.inl hl)) h2
  | _ => rfl
theorem unp_sc {sc : Scope} {t : Expr} (h : unpN sc t = true) : ∃ y py z pz k p, t = .Tuple [.Name y py, .Name z pz] k p ∧ (sc.names.lookup y ≠ some .local ∨ sc.names.lookup z ≠ some .local) := by
  unfold unpN at h
  split at h
  · rename_i y py z pz k p
    refine ⟨y, py, z, pz, k, p, rfl, ?_⟩
    rcases Bool.or_eq_true_iff.mp h with q | q
    · left
      intro e
      unfold locB at q
      rw [e] at q
      cases q
    · right
      intro e
      unfold locB at q
      rw [e] at q
      cases q
  · cases h
theorem inv_unp {es : List Expr} {k : Nat} {p : Pos} {e : Expr} {env : PySem.Env} {sc : Scope} (hs : env.scope = sc) (q : unpB sc (.Tuple es k p) e = true) : swappedStores [.Tuple es k p] e env = pure none := by
  rcases Bool.or_eq_true_iff.mp q with q | z
  · rcases Bool.or_eq_true_iff.mp q with z | z
    · exact notup_swap z
    · unfold unpC at z
      match es, e, z with
      | [u, v], .Tuple es2 k2 p2, z => exact const_swap z
  · obtain ⟨y, py, u, pu, k', p', e1, e2⟩ := unp_sc z
    rw [e1]
    refine cell_swap ?_
    rw [hs]
    exact e2
theorem inv_for {f : Expr → Expr → List Stmt → Bool} {s : Stmt} (q : (match s with
    | .For tgE iter body [] _ => f tgE iter body
    | _ => false) = true) : ∃ tgE iter body sp, s = .For tgE iter body [] sp ∧ f tgE iter body = true := by
  split at q
  · exact ⟨_, _, _, _, rfl, q⟩
  · cases q
theorem inv_whl {f : Expr → List Stmt → Bool} {s : Stmt} (q : (match s with
    | .While c body [] _ => f c body
    | _ => false) = true) : ∃ c body sp, s = .While c body [] sp ∧ f c body = true := by
  split at q
  · exact ⟨_, _, _, rfl, q⟩
  · cases q
theorem ev_for (M : MM) (k : Nat) (tg : Tg) (it : CI) (b : CSs) : evS M.T (Cl M k) (.forr tg it b) = fun e S => (evI M.T (Cl M k) it e S).then e fun xs S => forI (Fk tg (evSs M.T (Cl M k) b)) xs FL 0 e S := rfl
theorem ev_whl (M : MM) (k : Nat) (t : CE) (b : CSs) : evS M.T (Cl M k) (.whil t b) = fun e S => whileL (ev M.T (Cl M k) t).2 (evSs M.T (Cl M k) b) FUEL e S := rfl
theorem ev_setLc (M : MM) (k : Nat) (i : Nat) (mu : Bool) (el : CE) (tg : Tg) (it : CI) (co : CO) : evS M.T (Cl M k) (.set i (.lc mu el tg it co)) = fun e S => (vLc M.T (Cl M k) mu el tg it co e S).then e fun d S => .nx (e.set i (some d)) S := rfl
theorem ev_setLc2 (M : MM) (k : Nat) (i : Nat) (mu : Bool) (el : CE) (tg : Tg) (it : CI) (co : CO) (tg2 : Tg) (it2 : CI) (co2 : CO) : evS M.T (Cl M k) (.set i (.lc2 mu el tg it co tg2 it2 co2)) = fun e S => (vLc2 M.T (Cl M k) mu el tg it co tg2 it2 co2 e S).then e fun d S => .nx (e.set i (some d)) S := rfl
theorem inv_exp {f : Expr → Bool} {s : Stmt} (q : (match s with
    | .Expr e _ => f e
    | _ => false) = true) : ∃ e sp, s = .Expr e sp ∧ f e = true := by
  split at q
  · exact ⟨_, _, rfl, q⟩
  · cases q
theorem inv_ret {f : Expr → Bool} {s : Stmt} (q : (match s with
    | .Return (some e) _ => f e
    | _ => false) = true) : ∃ e sp, s = .Return (some e) sp ∧ f e = true := by
  split at q
  · exact ⟨_, _, rfl, q⟩
  · cases q
theorem inv_retN {s : Stmt} (q : (match s with
    | .Return none _ => true
    | _ => false) = true) : ∃ sp, s = .Return none sp := by
  split at q
  · exact ⟨_, rfl⟩
  · cases q
theorem inv_iff {f : Expr → List Stmt → List Stmt → Bool} {s : Stmt} (q : (match s with
    | .If c l r _ => f c l r
    | _ => false) = true) : ∃ c l r sp, s = .If c l r sp ∧ f c l r = true := by
  split at q
  · exact ⟨_, _, _, _, rfl, q⟩
  · cases q
theorem inv_brk {s : Stmt} (q : (match s with
    | .Break _ => true
    | _ => false) = true) : ∃ sp, s = .Break sp := by
  split at q
  · exact ⟨_, rfl⟩
  · cases q
theorem inv_cnt {s : Stmt} (q : (match s with
    | .Continue _ => true
    | _ => false) = true) : ∃ sp, s = .Continue sp := by
  split at q
  · exact ⟨_, rfl⟩
  · cases q
theorem inv_pass {s : Stmt} (q : (match s with
    | .Pass _ => true
    | _ => false) = true) : ∃ sp, s = .Pass sp := by
  split at q
  · exact ⟨_, rfl⟩
  · cases q
theorem inv_hatt {f : Str → Str → Bool} {e : Expr} (q : (match e with
    | .Attribute (.Name y _) a _ => f y a
    | _ => false) = true) : ∃ y p a p2, e = .Attribute (.Name y p) a p2 ∧ f y a = true := by
  split at q
  · exact ⟨_, _, _, _, rfl, q⟩
  · cases q
section
variable {M : MM} {A : Nm} {k : Nat} {fa : Nat → Addr}
structure SX (M : MM) (A : Nm) (k : Nat) (fa : Nat → Addr) (X : Cx) (x : MX) : Prop where
  cx : CX1 M A k fa X x
  hp : PassesOwn (model X.prog X.w) X.A X.env X.xe
  hs : X.stack = X.env :: X.outer
  hf : X.env.frame = some X.env.locals
theorem SX.tr {X : Cx} {x : MX} (h : SX M A k fa X x) (pn : List (Addr × Obj)) (xe : Value → Shared → Prop) (hp : PassesOwn (model X.prog X.w) X.A X.env xe) : SX M A k fa (X.tr pn xe) x := ⟨h.cx.tr pn xe, hp, h.hs, h.hf⟩
theorem loc_of {X : Cx} {x : MX} (h : CX1 M A k fa X x) {y : Str} (e : locB x.sc y = true) : X.env.scope.names.lookup y = some .local := by
  rw [h.hsc]
  unfold locB at e
  cases q : x.sc.names.lookup y with
  | none => rw [q] at e; cases e
  | some z =>
    rw [q] at e
    cases z with
    | «local» => rfl
    | _ => cases e
theorem fun_of {X : Cx} {x : MX} (h : CX1 M A k fa X x) (e : funB x.sc = true) : X.env.scope.kind = .function := by
  rw [h.hsc]
  unfold funB at e
  cases q : x.sc.kind with
  | function => rfl
  | _ => rw [q] at e; cases e
/-! ### except suites -/
section
variable {a : Addr} {oe : Obj} {cls : Value} {d : Option Addr} {pn : List (Addr × Obj)} {s : Option Nat}
mutual
theorem snd_H : ∀ (h : HE) {X : Cx} {x : MX} {e : Expr}, CX1 M A k fa X x → hasX M.T = true → Zc cls d oe → (∃ vs, oe.data = .fields vs) → mH M s h x e = true → PE (X.suite a ((a, oe) :: pn)) e (tH X.K A (rlV X.K A) a s cls d fun v => evH s v h)
  | .cst dd, X, x, e, h, hx, hz, hf, q => by
    cases e with
    | Constant c kk p =>
      obtain ⟨v, h1, h2⟩ := cst_pe (X := X.suite a ((a, oe) :: pn)) (A := A) (W := W0) (kk := kk) (pos := p) (show cstB dd c = true from q)
      exact mh_cst h1 h2
    | _ => exact nomatch (show false = true from q)
  | .att i f, X, x, e, h, hx, hz, hf, q => by
    obtain ⟨y, p, b, p2, ee, q⟩ := inv_hatt (f := fun y b => decide (s = some i) && decide (x.N[i]? = some y) && visB x.sc y && decide (M.att[f]? = some b) && decide (f ∈ M.xl)) q
    subst ee
    · obtain ⟨q, q5⟩ := and2 q
      obtain ⟨q, q4⟩ := and2 q
      obtain ⟨q, q3⟩ := and2 q
      obtain ⟨q1, q2⟩ := and2 q
      have e1 := of_decide_eq_true q1
      have e2 := h.px.att f b (of_decide_eq_true q4)
      have hN : X.N[i]? = some y := by rw [h.hN]; exact of_decide_eq_true q2
      obtain ⟨n1, n2⟩ := h.px.nm i y hN
      subst e1 e2
      exact mh_att (h.px.fe hx) (of_decide_eq_true q5) hz hf hN (vis_of h q3) n1 n2
  | .repr _, X, x, e, h, hx, hz, hf, q => nomatch (show false = true from q)
  | .tup es, X, x, e, h, hx, hz, hf, q => by
    cases e with
    | Tuple l kk p => exact mh_tup (snd_Hs es h hx hz hf (show mHs M s es x l = true from q))
    | _ => exact nomatch (show false = true from q)
  | .lst es, X, x, e, h, hx, hz, hf, q => by
    cases e with
    | List l p => exact mh_lst (snd_Hs es h hx hz hf (show mHs M s es x l = true from q))
    | _ => exact nomatch (show false = true from q)
theorem snd_Hs : ∀ (hs : HEs) {X : Cx} {x : MX} {l : List Expr}, CX1 M A k fa X x → hasX M.T = true → Zc cls d oe → (∃ vs, oe.data = .fields vs) → mHs M s hs x l = true → PA (X.suite a ((a, oe) :: pn)) l (tH X.K A (rlVs X.K A) a s cls d fun v => evHs s v hs)
  | .nil, X, x, l, h, hx, hz, hf, q => by
    cases l with
    | nil => exact mh_nil
    | cons _ _ => exact nomatch (show false = true from q)
  | .cons c r, X, x, l, h, hx, hz, hf, q => by
    cases l with
    | nil => exact nomatch (show false = true from q)
    | cons e es =>
      obtain ⟨q, q3⟩ := and2 (show (fine e && mH M s c x e && mHs M s r x es) = true from q)
      obtain ⟨q1, q2⟩ := and2 q
      exact mh_cons q1 (snd_H c h hx hz hf q2) (snd_Hs r h hx hz hf q3)
end
theorem snd_HS {h : HS} {X : Cx} {x : MX} {b : Stmt} (hc : CX1 M A k fa X x) (hx : hasX M.T = true) (hz : Zc cls d oe) (hf : ∃ vs, oe.data = .fields vs) (q : mHS M s x h b = true) : PSs (X.suite a ((a, oe) :: pn)) [b] (tHS X.K A a s cls d fun v e S => evHS s v h e S) := by
  rcases inv_HS q with ⟨h', e, p, e1, e2, q⟩ | ⟨j, h', y, p, e, p2, e1, e2, q⟩
  · subst e1 e2
    exact mhs_ret (snd_H h' hc hx hz hf q)
  · subst e1 e2
    obtain ⟨q, q3⟩ := and2 q
    obtain ⟨q1, q2⟩ := and2 q
    have t := tgn_of hc q1
    exact mhs_set (Y := X.suite a ((a, oe) :: pn)) hc.px.nd t q2 (snd_H h' hc hx hz hf q3)
end
/-- one clause without a name -/
theorem ms_tryOnly {X : Cx} {A : Nm} {W : WX} {T : Tab} {xl : List Nat} {pos : Pos} (fe : FE X A T xl) (hs : X.stack = X.env :: X.outer) (hf : X.env.frame = some X.env.locals) (tk : Takes X W) {x : Str} {b : Nat} {np pos' : Pos} {body : List Stmt} {b₀ : Stmt} {hsx : HS} {g : Mi.Env → Sto → RS}
    (hb : b < T.cls.length) (hbn : nrm T b = false) (hc : Names X x (.ref (A.exc b)))
    (hbody : ∀ (W : WX) (pn : List (Addr × Obj)) (xe : Value → Shared → Prop), Takes (X.tr pn xe) W → PassesOwn (model X.prog X.w) X.A X.env xe → PSs (X.tr pn xe) body (tS X.K A W g))
    (hsu : ∀ (a : Addr) (oe : Obj) (cls : Value) (d : Option Addr) (pn : List (Addr × Obj)), Zc cls d oe → (∃ vs, oe.data = .fields vs) → PSs (X.suite a ((a, oe) :: pn)) [b₀] (tHS X.K A a none cls d fun v e S => evHS none v hsx e S)) :
    PS X (.Try body [.ExceptHandler (some (.Name x np)) none [b₀] pos'] [] [] pos) (tS X.K A W fun e S => match g e S with
      | .ex c v e S => if excT T c then handle T c v (.cons b none hsx .nil) e S else .bad
      | r => r) := by
  refine PS.imp (ps_try_only hs hf hc tk hbody hsu) fun D σ H ⟨e, S, F, m, sr, er, h⟩ => ⟨e, S, F, m, sr, er, ?_⟩
  dsimp only at h
  cases q : g e S with
  | nx e1 S1 => rw [q] at h; exact h
  | rt d S1 => rw [q] at h; exact h
  | bk e1 S1 => rw [q] at h; exact h
  | ct e1 S1 => rw [q] at h; exact h
  | bad => rw [q] at h; exact h
  | ex c v e1 S1 =>
    rw [q] at h
    have h0 : OutS X.K A W D F m S H (if excT T c = true then handle T c v (.cons b none hsx .nil) e1 S1 else .bad) := h
    by_cases cx : excT T c = true
    · rw [if_pos cx] at h0
      have h1 : OutS X.K A W D F m S H (if isSub T DEEP c b = true then (evHS none v hsx e1 S1).wipe none else .ex c v e1 S1) := h0
      refine fun σ' F' m' H' dd fs x s er' hdd rv => ⟨isSub T DEEP c b, fe.ex c b cx hb hbn, fun hy a na => ?_, fun hno => ?_⟩
      · rw [if_pos hy] at h1
        refine ⟨e1, S1, F', m', c, v, s, er', ⟨rfl, ⟨dd, fs, rfl, hdd, rv⟩, fun j ej => nomatch ej⟩, ?_⟩
        have h2 := OutS.later h1 x
        show OutS X.K A W0 _ F' m' S1 H' (evHS none v hsx e1 S1)
        cases qh : evHS none v hsx e1 S1 with
        | nx e3 S3 => rw [qh] at h2; exact h2
        | bk e3 S3 => rw [qh] at h2; exact h2
        | ct e3 S3 => rw [qh] at h2; exact h2
        | rt d3 S3 => rw [qh] at h2; exact h2
        | ex c3 v3 e3 S3 => exact (evHS_noex qh).elim
        | bad => rw [qh] at h2; exact h2
      · rw [if_neg (by rw [hno]; exact Bool.false_ne_true)] at h1
        exact h1 σ' F' m' H' dd fs x s er' hdd rv
    · rw [if_neg cx] at h0
      exact h0.elim
/-! ### statements -/
theorem lt_units {X : Cx} {x : MX} (h : CX1 M A k fa X x) : X.A.units + 1 < cLine := Nat.lt_of_le_of_lt (Nat.add_le_add_left (by decide) _) h.px.fx.room.units
theorem lcsw_of {X : Cx} {x : MX} (h : CX1 M A k fa X x) (hk : funB x.sc = true) {y : Str} {py : Pos} {elt : Expr} {gs : List Comprehension} {scope : Scope} {pos : Pos} {l : Nat} (q : (locB x.sc y && (py.line == pos.line) && !(scope.names.any fun (n, k) => n == y && (k == .local || k == .cell))) = true) :
    swapsWith (.ListComp elt gs scope pos) (some (.Name y py)) l X.env = pure true ∧ X.env.scope.names.lookup y = some .local := by
  obtain ⟨q, q3⟩ := and2 q
  obtain ⟨q1, q2⟩ := and2 q
  have hl := loc_of h q1
  exact ⟨sw_true (fun_of h hk) hl q2 (by simpa using q3), hl⟩
mutual
theorem snd_S : ∀ (c : CS) {X : Cx} {x : MX} {W : WX} {s : Stmt}, SX M A k fa X x → Takes X W → mS M c x s = true → PS X s (tS X.K A W (evS M.T (Cl M k) c))
  | .set i a, X, x, W, s, h, tk, q => by
    obtain ⟨y, py, e, sp, es_, q⟩ := inv_set (f := fun y py e => tgB x i y && mE M a x e && (nocomp e || (funB x.sc && lcSw x y py a e))) q
    subst es_
    · obtain ⟨q, q3⟩ := and2 q
      obtain ⟨q1, q2⟩ := and2 q
      have ht := tgn_of h.cx q1
      by_cases hn : nocomp e = true
      · exact ms_set h.cx.px.nd ht hn (snd_E a h.cx tk q2).1
      · have q4 : (funB x.sc && lcSw x y py a e) = true := by
          rcases Bool.or_eq_true_iff.mp q3 with z | z
          · exact absurd z hn
          · exact z
        obtain ⟨q5, q6⟩ := and2 q4
        rcases inv_lcSw q6 with ⟨mu, el, tg, it, co, elt, gs, scope, p, ea, ee, q6⟩ | ⟨mu, el, tg, it, co, tg2, it2, co2, elt, gs, scope, p, ea, ee, q6⟩
        · subst ea ee
          obtain ⟨sw, hl⟩ := lcsw_of (gs := gs) (elt := elt) (l := sp.line) h.cx q5 q6
          match gs, q2, sw with
          | [⟨tgE, iter, ifs, y2⟩], r, sw =>
            obtain ⟨r, r7⟩ := and2 (show (decide (y2 = 0) && blkC x.N x.sc scope (tgOwn tg tgE) && decide ((tgOwn tg tgE).map (·.2) = tg.slots) && mTg (blkX x scope) tg tgE && mI M it x tgE iter && mC M co (blkX x scope) ifs && mE M el (blkX x scope) elt) = true from r)
            obtain ⟨r, r6⟩ := and2 r
            obtain ⟨r, r5⟩ := and2 r
            obtain ⟨r, r4⟩ := and2 r
            obtain ⟨r, r3⟩ := and2 r
            obtain ⟨r1, r2⟩ := and2 r
            have e := of_decide_eq_true r1
            subst e
            have ii := snd_I it h.cx tk r5
            rw [ev_setLc]
            exact ms_setLc h.cx.px.calm h.cx.px.nd ht.1 hl sw ii.1 (blk_of h.cx r2) (of_decide_eq_true r3) (fun s H C cl fp => pg_tg (h.cx.blk s H scope C cl fp).px.calm (h.cx.blk s H scope C cl fp).px.nd (tg_of (h.cx.blk s H scope C cl fp) r4)) (fun s H C cl fp => snd_C co (h.cx.blk s H scope C cl fp) takes0 r6)
              (fun s H C cl fp => (snd_E el (h.cx.blk s H scope C cl fp) takes0 r7).1) (fun z => ii.2 _ z)
        · subst ea ee
          obtain ⟨sw, hl⟩ := lcsw_of (gs := gs) (elt := elt) (l := sp.line) h.cx q5 q6
          match gs, q2, sw with
          | [⟨tgE, iter, ifs, y1⟩, ⟨tgE2, iter2, ifs2, y2⟩], r, sw =>
            obtain ⟨r, r11⟩ := and2 (show (decide (y1 = 0) && decide (y2 = 0) && blkC x.N x.sc scope (tgOwn tg tgE ++ tgOwn tg2 tgE2) && decide ((tgOwn tg tgE ++ tgOwn tg2 tgE2).map (·.2) = tg.slots ++ tg2.slots) && mTg (blkX x scope) tg tgE && mTg (blkX x scope) tg2 tgE2 &&
              mI M it x tgE iter && mC M co (blkX x scope) ifs && mI M it2 (blkX x scope) tgE2 iter2 && mC M co2 (blkX x scope) ifs2 && mE M el (blkX x scope) elt) = true from r)
            obtain ⟨r, r10⟩ := and2 r
            obtain ⟨r, r9⟩ := and2 r
            obtain ⟨r, r8⟩ := and2 r
            obtain ⟨r, r7⟩ := and2 r
            obtain ⟨r, r6⟩ := and2 r
            obtain ⟨r, r5⟩ := and2 r
            obtain ⟨r, r4⟩ := and2 r
            obtain ⟨r, r3⟩ := and2 r
            obtain ⟨r1, r2⟩ := and2 r
            have e1 := of_decide_eq_true r1
            have e2 := of_decide_eq_true r2
            subst e1 e2
            have ii := snd_I it h.cx tk r7
            rw [ev_setLc2]
            exact ms_setLc2 h.cx.px.calm h.cx.px.nd ht.1 hl sw ii.1 (blk_of h.cx r3) (of_decide_eq_true r4) (fun s H C cl fp => pg_tg (h.cx.blk s H scope C cl fp).px.calm (h.cx.blk s H scope C cl fp).px.nd (tg_of (h.cx.blk s H scope C cl fp) r5)) (fun s H C cl fp => snd_C co (h.cx.blk s H scope C cl fp) takes0 r8)
              (fun s H C cl fp => (snd_I it2 (h.cx.blk s H scope C cl fp) takes0 r9).1) (fun s H C cl fp => pg_tg (h.cx.blk s H scope C cl fp).px.calm (h.cx.blk s H scope C cl fp).px.nd (tg_of (h.cx.blk s H scope C cl fp) r6)) (fun s H C cl fp => snd_C co2 (h.cx.blk s H scope C cl fp) takes0 r10)
              (fun s H C cl fp => (snd_E el (h.cx.blk s H scope C cl fp) takes0 r11).1) (fun z => ii.2 _ z) (fun env z => (fold_I r9) env z)
  | .par i j a b, X, x, W, s, h, tk, q => by
    obtain ⟨y, py, z, pz, kt, pt, l, r, k2, p2, sp, es_, q⟩ := inv_par (f := fun y py z pz l r => decide (i ≠ j) && decide (x.N[i]? = some y) && decide (x.N[j]? = some z) && locB x.sc y && locB x.sc z && (pz.line == py.line) && decide (y ≠ z) && fine l && fine r &&
        !([l, r].all (foldedForSure 8)) && !([l, r].all (constantsAlone 8)) && funB x.sc && mE M a x l && mE M b x r) q
    subst es_
    · obtain ⟨q, q14⟩ := and2 q
      obtain ⟨q, q13⟩ := and2 q
      obtain ⟨q, q12⟩ := and2 q
      obtain ⟨q, q11⟩ := and2 q
      obtain ⟨q, q10⟩ := and2 q
      obtain ⟨q, q9⟩ := and2 q
      obtain ⟨q, q8⟩ := and2 q
      obtain ⟨q, q7⟩ := and2 q
      obtain ⟨q, q6⟩ := and2 q
      obtain ⟨q, q5⟩ := and2 q
      obtain ⟨q, q4⟩ := and2 q
      obtain ⟨q, q3⟩ := and2 q
      obtain ⟨q1, q2⟩ := and2 q
      have l1 := loc_of h.cx q4
      have l2 := loc_of h.cx q5
      exact ms_par h.cx.px.calm h.cx.px.nd (by rw [h.cx.hN]; exact of_decide_eq_true q2) (by rw [h.cx.hN]; exact of_decide_eq_true q3) (of_decide_eq_true q1) l1 l2
        (par_swap (fun_of h.cx q12) l1 l2 q6 (of_decide_eq_true q7) q8 q9 ((Bool.not_eq_true' _).mp q10) ((Bool.not_eq_true' _).mp q11)) q8 q9 (snd_E a h.cx tk q13).1 (snd_E b h.cx tk q14).1
  | .unp tg a, X, x, W, s, h, tk, q => by
    obtain ⟨t, e, sp, es_, q⟩ := inv_asg (f := fun t e => isTup t && mTg x tg t && nocomp e && unpB x.sc t e && mE M a x e) q
    subst es_
    obtain ⟨q, q5⟩ := and2 q
    obtain ⟨q, q4⟩ := and2 q
    obtain ⟨q, q3⟩ := and2 q
    obtain ⟨q1, q2⟩ := and2 q
    obtain ⟨es, kk, p, et⟩ := inv_tup q1
    subst et
    exact ms_unp h.cx.px.calm h.cx.px.nd (tg_of h.cx q2) q3 (inv_unp h.cx.hsc q4) (snd_E a h.cx tk q5).1
  | .attS o f a, X, x, W, s, h, tk, q => by
    obtain ⟨v, b, p, e, sp, es_, q⟩ := inv_attS (f := fun v b e => decide (M.att[f]? = some b) && decide (f ∈ M.fl) && nocomp e && mE M a x e && mE M o x v) q
    subst es_
    · obtain ⟨q, q5⟩ := and2 q
      obtain ⟨q, q4⟩ := and2 q
      obtain ⟨q, q3⟩ := and2 q
      obtain ⟨q1, q2⟩ := and2 q
      have e1 := h.cx.px.att f b (of_decide_eq_true q1)
      subst e1
      exact ms_attS h.cx.px.gc (of_decide_eq_true q2) q3 (snd_E a h.cx tk q4).1 (snd_E o h.cx tk q5).1
  | .idxS o i a, X, x, W, s, h, tk, q => by
    obtain ⟨v, t, p, e, sp, es_, q⟩ := inv_idxS (f := fun v t e => nocomp e && fine t && mE M a x e && mE M o x v && mE M i x t) q
    subst es_
    · obtain ⟨q, q5⟩ := and2 q
      obtain ⟨q, q4⟩ := and2 q
      obtain ⟨q, q3⟩ := and2 q
      obtain ⟨q1, q2⟩ := and2 q
      exact ms_idxS (lt_units h.cx) q1 q2 (snd_E a h.cx tk q3).1 (snd_E o h.cx tk q4).1 (snd_E i h.cx tk q5).1
  | .aug i op a, X, x, W, s, h, tk, q => by
    obtain ⟨y, p, o, e, sp, es_, q⟩ := inv_aug (f := fun y o e => tgB x i y && decide (o = opOf op) && ipOk op && mE M a x e) q
    subst es_
    · obtain ⟨q, q4⟩ := and2 q
      obtain ⟨q, q3⟩ := and2 q
      obtain ⟨q1, q2⟩ := and2 q
      have e1 := of_decide_eq_true q2
      subst e1
      exact ms_aug h.cx.px.nd q3 (tgn_of h.cx q1) (snd_E a h.cx tk q4).1
  | .exp a, X, x, W, s, h, tk, q => by
    obtain ⟨e, sp, es_, q⟩ := inv_exp (f := fun e => nocomp e && mE M a x e) q
    subst es_
    obtain ⟨q1, q2⟩ := and2 q
    exact ms_exp q1 (snd_E a h.cx tk q2).1
  | .ret a, X, x, W, s, h, tk, q => by
    obtain ⟨e, sp, es_, q⟩ := inv_ret (f := fun e => mE M a x e) q
    subst es_
    exact ms_ret (snd_E a h.cx tk q).1
  | .retN, X, x, W, s, h, tk, q => by
    obtain ⟨sp, es_⟩ := inv_retN q
    subst es_
    exact ms_retN
  | .iff t a b, X, x, W, s, h, tk, q => by
    obtain ⟨c, l, r, sp, es_, q⟩ := inv_iff (f := fun c l r => mE M t x c && mSs M a x l && mSs M b x r) q
    subst es_
    obtain ⟨q, q3⟩ := and2 q
    obtain ⟨q1, q2⟩ := and2 q
    exact ms_iff (snd_E t h.cx tk q1).2 (snd_Ss a h tk q2) (snd_Ss b h tk q3)
  | .forr tg it b, X, x, W, s, h, tk, q => by
    obtain ⟨tgE, iter, body, sp, es_, q⟩ := inv_for (f := fun tgE iter body => mTg x tg tgE && mI M it x tgE iter && mSs M b x body) q
    subst es_
    obtain ⟨q, q3⟩ := and2 q
    obtain ⟨q1, q2⟩ := and2 q
    have ii := snd_I it h.cx tk q2
    have hb := snd_Ss b h tk q3
    rw [ev_for]
    exact ms_for (f := evI M.T (Cl M k) it) (g := evSs M.T (Cl M k) b) (tg := tg) h.hp h.cx.px.calm h.cx.px.nd (tg_of h.cx q1) ii.1 hb (fun z => ii.2 _ z)
  | .whil t b, X, x, W, s, h, tk, q => by
    obtain ⟨c, body, sp, es_, q⟩ := inv_whl (f := fun c body => mE M t x c && mSs M b x body) q
    subst es_
    obtain ⟨q1, q2⟩ := and2 q
    rw [ev_whl]
    exact ms_whil (f := (ev M.T (Cl M k) t).2) (g := evSs M.T (Cl M k) b) h.hp (snd_E t h.cx tk q1).2 (snd_Ss b h tk q2)
  | .brk, X, x, W, s, h, tk, q => by
    obtain ⟨sp, es_⟩ := inv_brk q
    subst es_
    exact ms_break
  | .cnt, X, x, W, s, h, tk, q => by
    obtain ⟨sp, es_⟩ := inv_cnt q
    subst es_
    exact ms_continue
  | .pass, X, x, W, s, h, tk, q => by
    obtain ⟨sp, es_⟩ := inv_pass q
    subst es_
    exact ms_pass
  | .rais c es, X, x, W, s, h, tk, q => by
    obtain ⟨y, p, e, p2, sp, es_, q⟩ := inv_rais (f := fun y e => decide (M.clN[c]? = some y) && !(nrm M.T c) && excT M.T c && gloB x.sc y && fine e && mEs M es x [e]) q
    subst es_
    · obtain ⟨q, q6⟩ := and2 q
      obtain ⟨q, q5⟩ := and2 q
      obtain ⟨q, q4⟩ := and2 q
      obtain ⟨q, q3⟩ := and2 q
      obtain ⟨q1, q2⟩ := and2 q
      have q2' : nrm M.T c = false := (Bool.not_eq_true' _).mp q2
      obtain ⟨g1, g2⟩ := h.cx.px.xN c y (of_decide_eq_true q1) q2'
      have q3' := q3
      unfold excT at q3'
      cases qc : M.T.cls[c]? with
      | none => rw [qc] at q3'; cases q3'
      | some d =>
        rw [qc] at q3'
        obtain ⟨f, hf⟩ := Option.isSome_iff_exists.mp q3'
        have hx : hasX M.T = true := by
          unfold hasX
          exact List.any_eq_true.mpr ⟨d, List.mem_of_getElem? qc, q3'⟩
        exact ms_rais h.cx.px.fx (h.cx.px.fe hx) h.cx.px.calm tk qc hf (glo_of h.cx q4) g1 g2 q5 (snd_Es es h.cx tk q6)
  | .tryy b hh, X, x, W, s, h, tk, q => by
    obtain ⟨body, hs, sp, es_, q⟩ := inv_try (f := fun body hs => hasX M.T && mSs M b x body && mCHs M x hh hs) q
    subst es_
    · obtain ⟨q, q3⟩ := and2 q
      obtain ⟨q1, q2⟩ := and2 q
      have hbody : ∀ (W : WX) (pn : List (Addr × Obj)) (xe : Value → Shared → Prop), Takes (X.tr pn xe) W → PassesOwn (model X.prog X.w) X.A X.env xe → PSs (X.tr pn xe) body (tS X.K A W (evSs M.T (Cl M k) b)) := fun W pn xe tk hp => snd_Ss b (h.tr pn xe hp) tk q2
      rcases inv_chs q3 with ⟨c, i, hsx, y, p, n, b0, p2, e1, e2, q3⟩ | ⟨c, hsx, y, p, b0, p2, e1, e2, q3⟩
      · subst e1 e2
        obtain ⟨q, q7⟩ := and2 q3
        obtain ⟨q, q6⟩ := and2 q
        obtain ⟨q, q5⟩ := and2 q
        obtain ⟨q, q4⟩ := and2 q
        obtain ⟨q, q3⟩ := and2 q
        obtain ⟨r1, r2⟩ := and2 q
        have q3' : nrm M.T c = false := (Bool.not_eq_true' _).mp q3
        obtain ⟨g1, g2⟩ := h.cx.px.xN c y (of_decide_eq_true r1) q3'
        exact ms_tryAs (h.cx.px.fe q1) h.hs h.hf h.cx.px.nd tk (by rw [h.cx.hN]; exact of_decide_eq_true q5) (loc_of h.cx q6) (of_decide_eq_true r2) q3' ⟨glo_of h.cx q4, g2, .inl g1⟩ hbody (fun a oe cls d pn hz hf => snd_HS h.cx q1 hz hf q7)
      · subst e1 e2
        obtain ⟨q, q7⟩ := and2 q3
        obtain ⟨q, q4⟩ := and2 q
        obtain ⟨q, q3⟩ := and2 q
        obtain ⟨r1, r2⟩ := and2 q
        have q3' : nrm M.T c = false := (Bool.not_eq_true' _).mp q3
        obtain ⟨g1, g2⟩ := h.cx.px.xN c y (of_decide_eq_true r1) q3'
        exact ms_tryOnly (h.cx.px.fe q1) h.hs h.hf tk (of_decide_eq_true r2) q3' ⟨glo_of h.cx q4, g2, .inl g1⟩ hbody (fun a oe cls d pn hz hf => snd_HS h.cx q1 hz hf q7)
theorem snd_Ss : ∀ (c : CSs) {X : Cx} {x : MX} {W : WX} {l : List Stmt}, SX M A k fa X x → Takes X W → mSs M c x l = true → PSs X l (tS X.K A W (evSs M.T (Cl M k) c))
  | .nil, X, x, W, l, h, tk, q => by
    cases l with
    | nil => exact mss_nil
    | cons _ _ => exact nomatch (show false = true from q)
  | .cons s r, X, x, W, l, h, tk, q => by
    cases l with
    | nil => exact nomatch (show false = true from q)
    | cons a as =>
      obtain ⟨q1, q2⟩ := and2 (show (mS M s x a && mSs M r x as) = true from q)
      exact mss_cons (snd_S s h tk q1) (snd_Ss r h tk q2)
end
end
end Mi
/-! Mi: all defs keep what the evaluator gives. -/
namespace Mi
open PySem PySem.Spec PyProof.Rows L2 TL

def BAD : CSs := .cons (.rais 1000000 .nil) .nil
/-- a def's record among what is written -/
structure Rec (K : PySem.W.Frag) (a : Addr) (params : Arguments) (body : List Stmt) (scope : Scope) (fd : FuncData) : Prop where
  ex : ∃ oc od name qual dV kV doc pm an cdv ct osl, K.lookup a = some ⟨oc, od, .func (PySem.W.fnOf name qual params body scope dV kV doc pm an cdv ct), osl⟩ ∧ PySem.W.codeIn K cdv qual = true ∧ fd = PySem.W.fnOf name qual params body scope dV kV doc pm an cdv ct
def nmB (N : List Str) : Bool := N.all fun y => !(y == ("__debug__" : Str)) && !(y == ("__classdict__" : Str))
/-- a def and its core -/
structure FnF (M : MM) (K : PySem.W.Frag) (fa : Nat → Addr) (f : Nat) (d : FnD) : Prop where
  kp : PySem.W.keepIn K (.ref (fa f)) = true
  bd : ∃ fd ps, Binds K fd ps [] ∧ ((d.body = BAD) ∨ ∃ params body scope N, Rec K (fa f) params body scope fd ∧ FnScope N ps scope ∧ ps.length = d.np ∧ N.length = d.nv ∧ nmB N = true ∧ mSs M d.body ⟨N, scope, fun _ => true⟩ body = true)
/-- the classes of exceptions that are raised, without the defs at hand -/
structure FE0 (P : Program) (w : World) (K : PySem.W.Frag) (mg : Str → Option Value) (base : Heap) (A : Nm) (T : Tab) (xl : List Nat) : Prop where
  inj : ∀ i j, A.att i = A.att j → i = j
  mak : ∀ c d f, T.cls[c]? = some d → d.exc = some f → OexC K (A.exc c) ∧ PySem.W.findIn K (.ref (A.exc c)) (A.att f) = some none ∧ ∃ fI fd ps, PySem.W.findIn K (.ref (A.exc c)) "__init__" = some (some (.ref fI)) ∧ PySem.W.typeIn K (.ref fI) = some (.type "function") ∧
    FnOk P w K mg base (L2.CX P w) 1 fI fd ps (spX K (A.att f)) ∧ Binds K fd ps []
  xf : ∀ c, XfC K (A.exc c)
  no : ∀ c f, f ∈ xl → PySem.W.findIn K (.ref (A.exc c)) (A.att f) = some none
  ex : ∀ c b, excT T c = true → b < T.cls.length → nrm T b = false → PySem.W.exmOne K (.ref (A.exc c)) (.ref (A.exc b)) = some (isSub T DEEP c b)
/-- what is known of the text and of what it wrote -/
structure PG0 (P : Program) (w : World) (K : PySem.W.Frag) (mg : Str → Option Value) (base : Heap) (M : MM) (A : Nm) (fa : Nat → Addr) : Prop where
  big : M.T.cls.length ≤ 1000000
  fns : ∀ f d, M.T.fns[f]? = some d → FnF M K fa f d
  gc : GC K A M.T M.fl
  gm : GM K A M.T fa
  fe : hasX M.T = true → FE0 P w K mg base A M.T M.xl
  att : ∀ n a, M.att[n]? = some a → A.att n = a
  fnN : ∀ (f : Nat) (x : Str), M.fnN[f]? = some (some x) → mg x = some (.ref (fa f)) ∧ PySem.W.keepIn K (.ref (fa f)) = true ∧ (x == ("__debug__" : Str)) = false
  clN : ∀ (c : Nat) (d : ClsD) (f : Nat) (x : Str), M.clN[c]? = some x → M.T.cls[c]? = some d → d.init = some f → mg x = some (.ref (A.cls c)) ∧ Mk K (A.cls c) (fa f) ∧ (x == ("__debug__" : Str)) = false
  xN : ∀ (c : Nat) (x : Str), M.clN[c]? = some x → nrm M.T c = false → mg x = some (.ref (A.exc c)) ∧ (x == ("__debug__" : Str)) = false
  con : ∀ (x : Str) (d : D), (x, d) ∈ M.cons → ∃ u v, mg x = some u ∧ RelV v u ∧ (x == ("__debug__" : Str)) = false ∧ ∀ F m n, RV K A F m n d v
  blt : ∀ x, x ∈ M.blt → mg x = none
section
variable {P : Program} {w : World} {K : PySem.W.Frag} {mg : Str → Option Value} {base : Heap} {M : MM} {A : Nm} {fa : Nat → Addr}
theorem endF_out {F : Hp} {m : Nat → Addr} {S : Sto} {H : Hp} {Q : VK} {E : XK} {σ : L2.St} {r : RS} (h : Out K A (rlV K A) (fun c d _ H => E c d H) σ F m S H (endF r) Q) : OutS K A (fun c d _ H => E c d H) { nx := fun _ H' => Q .non H', rt := Q } F m S H r := by
  cases r with
  | nx e S' => exact fun σ' F' m' H' x s er => h F' m' H' .non x s rfl
  | rt d S' => exact h
  | bk e S' => exact h.elim
  | ct e S' => exact h.elim
  | ex c v e S' => exact fun σ' F' m' H' dd fs x s er hd rv => h F' m' H' dd fs x s hd rv
  | bad => exact h
theorem er_start {F : Hp} {m : Nat → Addr} {n : Nat} {ds : List D} {vs : List V} {N : List Str} (h : RVs K A F m n ds vs) {nv : Nat} (hn : N.length = nv) : ER K A F m n (ds.map some ++ List.replicate (nv - ds.length) none) (L2.start N vs) := by
  have hl := RVs.length h
  refine ⟨?_, fun i d hi => ?_⟩
  · unfold L2.start
    rw [List.length_append, List.length_append, List.length_map, List.length_map, List.length_replicate, List.length_replicate, hl, hn]
  · by_cases q : i < ds.length
    · rw [List.getElem?_append_left (by rw [List.length_map]; exact q), List.getElem?_map] at hi
      cases z : ds[i]? with
      | none => rw [z] at hi; cases hi
      | some d' =>
        rw [z] at hi
        cases hi
        obtain ⟨v, h1, h2⟩ := RVs.get h z
        refine ⟨v, ?_, h2⟩
        unfold L2.start
        rw [List.getElem?_append_left (by rw [List.length_map, hl]; exact q), List.getElem?_map, h1] <;> rfl
    · rw [List.getElem?_append_right (by rw [List.length_map]; omega)] at hi
      have := List.mem_of_getElem? hi
      rw [List.mem_replicate] at this
      cases this.2
theorem evBAD {T : Tab} {cl : Nat → List D → Sto → R D} (hb : T.cls.length ≤ 1000000) (e : Mi.Env) (S : Sto) : evSs T cl BAD e S = .bad := by
  have q : T.cls[1000000]? = none := List.getElem?_eq_none_iff.mpr hb
  have e1 : excOf T 1000000 [] = none := by
    unfold excOf
    rw [q]
  show (RS.seq (match excOf T 1000000 [] with
    | some v => .ex 1000000 v e S
    | none => .bad) (evSs T cl .nil)) = .bad
  rw [e1] <;> rfl
theorem callF_bad {T : Tab} {k f : Nat} {d : FnD} {ds : List D} {S : Sto} (hb : T.cls.length ≤ 1000000) (hf : T.fns[f]? = some d) (h : d.body = BAD) : callF T k f ds S = .bad := by
  cases k with
  | zero => rfl
  | succ k =>
    unfold callF
    simp only [hf, h]
    split
    · rw [evBAD hb, evBAD hb]
      split <;> rfl
    · rfl
theorem fnok_bad {CX : CXT} {lev : Nat} {a : Addr} {fd : FuncData} {ps : List Str} {cl : List D → Sto → R D} {n : Nat} (h : ∀ ds S, cl ds S = .bad) : FnOk P w K mg base CX lev a fd ps (spF K A cl n) := by
  have no : ∀ vs H Q E, spF K A cl n vs H Q E → False := fun vs H Q E ⟨ds, S, F, m, _, _, _, o⟩ => by
    rw [h] at o
    exact o
  exact ⟨fun vs H Q E s => (no vs H Q E s).elim, fun A outer s H args us vs Q E _ _ _ _ sp => (no vs H Q E sp).elim⟩
theorem nm_of {N : List Str} (h : nmB N = true) (i : Nat) (y : Str) (hy : N[i]? = some y) : (y == ("__debug__" : Str)) = false ∧ (y == ("__classdict__" : Str)) = false := by
  obtain ⟨h1, h2⟩ := and2 (List.all_eq_true.mp h y (List.mem_of_getElem? hy))
  exact ⟨(Bool.not_eq_true' _).mp h1, (Bool.not_eq_true' _).mp h2⟩
/-- one def, whose calls keep what the evaluator gives -/
theorem fn_ok1 (g : PG0 P w K mg base M A fa) (k f : Nat) (d : FnD) (hf : M.T.fns[f]? = some d) (ih : ∀ (f : Nat) (d : FnD), M.T.fns[f]? = some d → ∃ fd ps, FnOk P w K mg base (L2.CX P w) (2 * k + 1) (fa f) fd ps (spF K A (callF M.T k f) d.np) ∧ Binds K fd ps [] ∧ PySem.W.keepIn K (.ref (fa f)) = true)
    {fd : FuncData} {ps N : List Str} {params : Arguments} {body : List Stmt} {scope : Scope} (rc : Rec K (fa f) params body scope fd) (hS : FnScope N ps scope) (hps : ps.length = d.np) (hN : N.length = d.nv) (hnm : nmB N = true) (hm : mSs M d.body ⟨N, scope, fun _ => true⟩ body = true) :
    FnOk P w K mg base (L2.CX P w) (2 * (k + 1) + 1) (fa f) fd ps (spF K A (callF M.T (k + 1) f) d.np) := by
  obtain ⟨oc, od, name, qual, dV, kV, doc, pm, an, cdv, ct, osl, lk, hcd, efd⟩ := rc
  subst efd
  have e2 : 2 * (k + 1) + 1 = (2 * k + 2) + 1 := by omega
  rw [e2]
  refine fn_of lk hcd hS (fun vs H Q E ⟨ds, S, F, m, _, rs, hl, _⟩ => by rw [RVs.length rs, hl, hps]) fun A' outer s H vs Q E hr ⟨ds, S, F, m, sr, rs, hl, o⟩ => ?_
  have px : PX M A k fa (cxOf (L2.CX P w) P w K mg base N qual scope (fa f) cdv A' outer s H E) :=
    ⟨⟨hr, ih⟩, g.gc, g.gm, fun z => ⟨(g.fe z).inj, (g.fe z).mak, (g.fe z).xf, (g.fe z).no, (g.fe z).ex⟩, g.att, g.fnN, g.clN, g.xN, g.con, g.blt, rfl, hS.nd, nm_of hnm⟩
  have sx : SX M A k fa (cxOf (L2.CX P w) P w K mg base N qual scope (fa f) cdv A' outer s H E) ⟨N, scope, fun _ => true⟩ := ⟨⟨px, rfl, rfl, rfl⟩, passes_of rfl, rfl, rfl⟩
  have tk : Takes (cxOf (L2.CX P w) P w K mg base N qual scope (fa f) cdv A' outer s H E) (fun cls d _ H => E cls d H) := takes_of rfl rfl rfl rfl
  refine ⟨_, snd_Ss d.body sx tk hm, ?_⟩
  have o' : Out K A (rlV K A) (fun c d _ H => E c d H) [] F m S H (if d.reg then leaveR S.c.length S.fl (endF (evSs M.T (callF M.T k) d.body (ds.map some ++ List.replicate (d.nv - d.np) none) ⟨S.c, S.c.length⟩))
      else endF (evSs M.T (callF M.T k) d.body (ds.map some ++ List.replicate (d.nv - d.np) none) S)) Q := by
    have o2 := o
    unfold callF at o2
    simp only [hf] at o2
    rw [if_pos hl] at o2
    exact o2
  have er := er_start (N := N) rs hN
  rw [hl] at er
  by_cases hreg : d.reg = true
  · rw [if_pos hreg] at o'
    exact ⟨_, ⟨S.c, S.c.length⟩, F, m, sr.enter, er, endF_out (Out.region sr o')⟩
  · rw [if_neg hreg] at o'
    exact ⟨_, S, F, m, sr, er, endF_out o'⟩
/-- all defs, k calls one within the other -/
theorem fns_ok (g : PG0 P w K mg base M A fa) : ∀ (k f : Nat) (d : FnD), M.T.fns[f]? = some d → ∃ fd ps, FnOk P w K mg base (L2.CX P w) (2 * k + 1) (fa f) fd ps (spF K A (callF M.T k f) d.np) ∧ Binds K fd ps [] ∧ PySem.W.keepIn K (.ref (fa f)) = true
  | 0, f, d, hf => by
    obtain ⟨kp, fd, ps, hb, _⟩ := g.fns f d hf
    exact ⟨fd, ps, fnok_bad fun _ _ => rfl, hb, kp⟩
  | k + 1, f, d, hf => by
    obtain ⟨kp, fd, ps, hb, hbad | ⟨params, body, scope, N, rc, hS, hps, hN, hnm, hm⟩⟩ := g.fns f d hf
    · exact ⟨fd, ps, fnok_bad fun ds S => callF_bad g.big hf hbad, hb, kp⟩
    · exact ⟨fd, ps, fn_ok1 g k f d hf (fns_ok g k) rc hS hps hN hnm hm, hb, kp⟩
/-- the __init__ of an own exception -/
theorem init_ok {fI : Addr} {name qual : Str} {params : Arguments} {scope : Scope} {dV kV doc pm cdv ct oc : Value} {an od : Option Addr} {osl : Array (Option Value)} {s v f : Str} {b : Expr} {t : Str} {kc : Nat} {p2 p3 p4 p5 p6 p7 p8 p9 p10 : Pos}
    (lk : K.lookup fI = some ⟨oc, od, .func (PySem.W.fnOf name qual params [.Expr (.Call (.Attribute b "__init__" p2) [.Name s p3, .Constant (.str t) kc p4] [] p5) p6, .Assign [.Attribute (.Name s p7) f p8] (.Name v p9) p10] scope dV kV doc pm an cdv ct), osl⟩) (hcd : PySem.W.codeIn K cdv qual = true) (S : FnScope [s, v] [s, v] scope)
    (hnm : nmB [s, v] = true) (h0 : visB scope s = true) (h1 : visB scope v = true)
    (hb : ∀ (X : Cx) ta, X.K = K → X.mg = mg → X.env.scope = scope → PA X [.Name s p3, .Constant (.str t) kc p4] ta → PE X (.Call (.Attribute b "__init__" p2) [.Name s p3, .Constant (.str t) kc p4] [] p5) (tVeI X.K ta)) :
    FnOk P w K mg base (L2.CX P w) 1 fI (PySem.W.fnOf name qual params [.Expr (.Call (.Attribute b "__init__" p2) [.Name s p3, .Constant (.str t) kc p4] [] p5) p6, .Assign [.Attribute (.Name s p7) f p8] (.Name v p9) p10] scope dV kV doc pm an cdv ct) [s, v] (spX K f) := by
  have vis : ∀ {y : Str}, visB scope y = true → Vis scope y := fun {y} e => by
    unfold visB at e
    cases q : scope.names.lookup y with
    | none => rw [q] at e; cases e
    | some z =>
      rw [q] at e
      cases z with
      | «local» => exact .inl q
      | cell => exact .inr (.inl q)
      | free => exact .inr (.inr q)
      | _ => cases e
  refine fn_of (k := 0) lk hcd S (fun vs H Q E ⟨a, C, y, e, _⟩ => by rw [e]; rfl) fun A' outer sh H vs Q E hr ⟨a, C, y, e, T, hno, hH, q⟩ => ?_
  obtain ⟨n1, n2⟩ := nm_of hnm 0 s rfl
  obtain ⟨n3, n4⟩ := nm_of hnm 1 v rfl
  refine ⟨_, mss_init (p1 := p2) (X := cxOf (L2.CX P w) P w K mg base [s, v] qual scope fI cdv A' outer sh H E) rfl rfl (vis h0) (vis h1) n1 n2 n3 n4 (fun ta ha => hb _ ta rfl rfl rfl ha), a, C, y, ?_, T, hno, hH, q⟩
  subst e
  rfl
end
end Mi
/-! Mi: the facts, by what is written. -/
namespace Mi
open PySem PySem.Spec PyProof.Rows L2 TL

/-! ### names of attributes -/
def attOf (l : List Str) (i : Nat) : Str := match l[i]? with
  | some x => x
  | none => ⟨Array.replicate (1000 + i) 0⟩
theorem attOf_inj {l : List Str} (nd : l.Nodup) (hs : ∀ x ∈ l, x.cps.size < 1000) : ∀ i j, attOf l i = attOf l j → i = j := fun i j h => by
  unfold attOf at h
  have big : ∀ (i : Nat) (x : Str), x ∈ l → x ≠ ⟨Array.replicate (1000 + i) 0⟩ := fun i x hx e => by
    have := hs x hx
    rw [e] at this
    have e2 : (Array.replicate (1000 + i) 0).size = 1000 + i := Array.size_replicate ..
    have e3 : (Array.replicate (1000 + i) 0 : Array Nat).size < 1000 := this
    omega
  cases qi : l[i]? with
  | none =>
    rw [qi] at h
    cases qj : l[j]? with
    | none =>
      rw [qj] at h
      have e := congrArg (fun x : Str => x.cps.size) h
      simp only [Array.size_replicate] at e
      omega
    | some y =>
      rw [qj] at h
      exact absurd h.symm (big i y (List.mem_of_getElem? qj))
  | some x =>
    rw [qi] at h
    cases qj : l[j]? with
    | none =>
      rw [qj] at h
      exact absurd h (big j x (List.mem_of_getElem? qi))
    | some y =>
      rw [qj] at h
      have h' : x = y := h
      subst h'
      exact nodup_ix nd qi qj
/-! ### binding -/
theorem zip_look : ∀ {ps : List Str} {us : List Value} {n : Str}, us.length = ps.length → n ∈ ps → ((ps.zip us).lookup n).isSome = true
  | [], _, _, _, h => by cases h
  | p :: ps, [], _, h, _ => by cases h
  | p :: ps, u :: us, n, h, hn => by
    show (match n == p with | true => some u | false => (ps.zip us).lookup n).isSome = true
    cases q : n == p with
    | true => rfl
    | false =>
      rcases List.mem_cons.mp hn with e | hn
      · rw [e] at q; simp at q
      · exact zip_look (Nat.succ.inj h) hn
theorem no_missing {ps : List Str} {us : List Value} (h : us.length = ps.length) : ((ps.take (ps.length - 0)).filter fun n => ((ps.zip us).lookup n).isNone) = [] := by
  rw [List.filter_eq_nil_iff]
  intro n hn
  have := zip_look h (List.mem_of_mem_take hn)
  cases q : (ps.zip us).lookup n with
  | none => rw [q] at this; cases this
  | some _ => simp
theorem fm_congr {α β : Type} {f g : α → Option β} : ∀ {l : List α}, (∀ x ∈ l, f x = g x) → l.filterMap f = l.filterMap g
  | [], _ => rfl
  | x :: l, h => by
    rw [List.filterMap_cons, List.filterMap_cons, h x List.mem_cons_self, fm_congr fun y hy => h y (List.mem_cons_of_mem _ hy)]
theorem zip_back : ∀ {ps : List Str} {us : List Value}, ps.Nodup → us.length = ps.length → ps.filterMap (fun n => ((ps.zip us).lookup n).map fun x => (n, x)) = ps.zip us
  | [], us, _, h => rfl
  | p :: ps, [], _, h => by cases h
  | p :: ps, u :: us, nd, h => by
    rw [List.nodup_cons] at nd
    have ih := zip_back nd.2 (Nat.succ.inj h)
    have e0 : ((p :: ps).zip (u :: us)).lookup p = some u := by
      show (match p == p with | true => some u | false => (ps.zip us).lookup p) = some u
      rw [beq_self_eq_true]
    rw [List.filterMap_cons, e0]
    show (p, u) :: _ = (p, u) :: ps.zip us
    have e1 : List.filterMap (fun n => (((p :: ps).zip (u :: us)).lookup n).map fun x => (n, x)) ps = List.filterMap (fun n => ((ps.zip us).lookup n).map fun x => (n, x)) ps := by
      refine fm_congr fun n hn => ?_
      have ne : (n == p) = false := by
        rw [beq_eq_false_iff_ne]
        exact fun z => nd.1 (z ▸ hn)
      show (match n == p with | true => some u | false => (ps.zip us).lookup n).map _ = _
      rw [ne]
    rw [e1, ih]
theorem binds_plain {name qual : Str} {body : List Stmt} {scope : Scope} {kV doc pm : Value} {an : Option Addr} {cdv ct : Value} (as : List Arg) (us : List Value) (nd : (as.map (·.arg)).Nodup) (hl : us.length = as.length) :
    bindArgs (PySem.W.fnOf name qual ⟨[], as, none, [], [], none, []⟩ body scope .none kV doc pm an cdv ct) ⟨us, []⟩ = pure ((as.map (·.arg)).zip us) := by
  have hl' : us.length = (as.map (·.arg)).length := by rw [List.length_map]; exact hl
  have hm := no_missing hl'
  rw [Nat.sub_zero] at hm
  have hgt : decide (us.length > as.length) = false := by rw [hl]; simp
  unfold bindArgs PySem.W.fnOf
  simp only [List.map_nil, List.nil_append, List.length_map, List.forIn_nil, List.isEmpty_nil]
  simp [seqItems?, hl]
  rw [List.length_map] at hm
  simp only [List.drop_nil, List.length_nil, Nat.sub_zero, hm, List.isEmpty_nil, Bool.not_true, Bool.false_eq_true, if_false]
  have e : List.filterMap ((fun n => Option.map (fun x => (n, x)) (List.lookup n ((List.map (fun x => x.arg) as).zip us))) ∘ fun x => x.arg) as = (List.map (fun x => x.arg) as).zip us := by
    have e2 := zip_back nd hl'
    rw [List.filterMap_map] at e2
    exact e2
  rw [e]
  rfl
/-- plain parameters -/
def parsOf (a : Arguments) : Option (List Str) := match a with
  | ⟨[], as, none, [], [], none, []⟩ => if (as.map (·.arg)).Nodup then some (as.map (·.arg)) else none
  | _ => none
theorem binds_of {K : PySem.W.Frag} {name qual : Str} {params : Arguments} {body : List Stmt} {scope : Scope} {f : Addr} {fd : FuncData} (F : FunD K name qual params body scope [] [] f fd) {ps : List Str} (h : parsOf params = some ps) : Binds K fd ps [] ∧ ∀ (s : Shared) (us : List Value), us.length = ps.length → BindsTo s fd ⟨us, []⟩ (ps.zip us) := by
  unfold parsOf at h
  split at h
  · rename_i as
    by_cases c : (as.map (·.arg)).Nodup
    · rw [if_pos c] at h
      cases h
      exact ⟨F.bindsN fun kV doc pm an cdv ct us hl => binds_plain as us c (by rw [hl, List.length_map]), fun s us hl => F.bindsA (fun kV doc pm an cdv ct us hl => binds_plain as us c (by rw [hl, List.length_map])) s us hl⟩
    · rw [if_neg c] at h
      cases h
  · cases h
/-! ### a def against its core -/
def scB (N P : List Str) (sc : Scope) : Bool := funB sc && !sc.isCoroutine && !sc.isGenerator && decide N.Nodup && decide (N.take P.length = P) && (P.all fun x => match sc.names.lookup x with
  | some .local => true
  | some .cell => true
  | _ => false) && sc.names.all fun y => match y.2 with
  | .free => false
  | _ => true
theorem scB_ok {N P : List Str} {sc : Scope} (h : scB N P sc = true) : FnScope N P sc := by
  obtain ⟨h, h7⟩ := and2 h
  obtain ⟨h, h6⟩ := and2 h
  obtain ⟨h, h5⟩ := and2 h
  obtain ⟨h, h4⟩ := and2 h
  obtain ⟨h, h3⟩ := and2 h
  obtain ⟨h1, h2⟩ := and2 h
  refine ⟨?_, (Bool.not_eq_true' _).mp h2, (Bool.not_eq_true' _).mp h3, of_decide_eq_true h4, of_decide_eq_true h5, fun x hx => ?_, fun y hy e => ?_⟩
  · unfold funB at h1
    cases q : sc.kind with
    | function => rfl
    | _ => rw [q] at h1; cases h1
  · have := List.all_eq_true.mp h6 x hx
    cases q : sc.names.lookup x with
    | none => rw [q] at this; cases this
    | some z =>
      rw [q] at this
      cases z with
      | «local» => exact .inl rfl
      | cell => exact .inr rfl
      | _ => cases this
  · have := List.all_eq_true.mp h7 y hy
    rw [e] at this
    cases this
def isBad : CSs → Bool
  | .cons (.rais c .nil) .nil => decide (c = 1000000)
  | _ => false
theorem isBad_ok {b : CSs} (h : isBad b = true) : b = BAD := by
  unfold isBad at h
  split at h
  · have e := of_decide_eq_true h
    subst e
    rfl
  · cases h
/-- a def: its core, its text, its slots -/
def fnB (M : MM) (d : FnD) (dd : He.DefD) (N : List Str) : Bool := dd.dfl.isEmpty && dd.kwd.isEmpty && match parsOf dd.params with
  | some P => isBad d.body || (scB N P dd.scope && decide (P.length = d.np) && decide (N.length = d.nv) && nmB N && mSs M d.body ⟨N, dd.scope, fun _ => true⟩ dd.body)
  | none => false
theorem fnB_rec {M : MM} {K : PySem.W.Frag} {a : Addr} {d : FnD} {dd : He.DefD} {N P : List Str} (h : fnB M d dd N = true) (hb : isBad d.body = false) (hP : parsOf dd.params = some P) {fd : FuncData} (F : FunD K dd.name dd.qual dd.params dd.body dd.scope (dd.dvs K) (dd.kws K) a fd) :
    Rec K a dd.params dd.body dd.scope fd ∧ FnScope N P dd.scope ∧ P.length = d.np ∧ N.length = d.nv ∧ nmB N = true ∧ mSs M d.body ⟨N, dd.scope, fun _ => true⟩ dd.body = true ∧ (∀ (s : Shared) (us : List Value), us.length = P.length → BindsTo s fd ⟨us, []⟩ (P.zip us)) ∧ Binds K fd P [] ∧ PySem.W.keepIn K (.ref a) = true := by
  obtain ⟨h, h3⟩ := and2 h
  obtain ⟨h1, h2⟩ := and2 h
  have e1 : dd.dvs K = [] := by
    unfold He.DefD.dvs
    rw [List.isEmpty_iff.mp h1] <;> rfl
  have e2 : dd.kws K = [] := by
    unfold He.DefD.kws
    rw [List.isEmpty_iff.mp h2] <;> rfl
  rw [e1, e2] at F
  rw [hP] at h3
  rcases Bool.or_eq_true_iff.mp h3 with z | z
  · rw [hb] at z; cases z
  · obtain ⟨z, z5⟩ := and2 z
    obtain ⟨z, z4⟩ := and2 z
    obtain ⟨z, z3⟩ := and2 z
    obtain ⟨z1, z2⟩ := and2 z
    obtain ⟨oc, od, dV, kV, doc, pm, an, cdv, ct, osl, e, lk, hcd, _, _⟩ := F.ex
    exact ⟨⟨oc, od, dd.name, dd.qual, dV, kV, doc, pm, an, cdv, ct, osl, by rw [← e]; exact lk, hcd, e⟩, scB_ok z1, of_decide_eq_true z2, of_decide_eq_true z3, z4, z5, (binds_of F hP).2, (binds_of F hP).1, F.kp⟩
theorem fnB_ok {M : MM} {K : PySem.W.Frag} {fa : Nat → Addr} {f : Nat} {d : FnD} {dd : He.DefD} {N : List Str} (h : fnB M d dd N = true) {fd : FuncData} (F : FunD K dd.name dd.qual dd.params dd.body dd.scope (dd.dvs K) (dd.kws K) (fa f) fd) : FnF M K fa f d := by
  obtain ⟨h, h3⟩ := and2 h
  obtain ⟨h1, h2⟩ := and2 h
  have e1 : dd.dvs K = [] := by
    unfold He.DefD.dvs
    rw [List.isEmpty_iff.mp h1] <;> rfl
  have e2 : dd.kws K = [] := by
    unfold He.DefD.kws
    rw [List.isEmpty_iff.mp h2] <;> rfl
  rw [e1, e2] at F
  cases q : parsOf dd.params with
  | none => rw [q] at h3; cases h3
  | some P =>
    rw [q] at h3
    refine ⟨F.kp, fd, P, (binds_of F q).1, ?_⟩
    rcases Bool.or_eq_true_iff.mp h3 with z | z
    · exact .inl (isBad_ok z)
    · obtain ⟨z, z5⟩ := and2 z
      obtain ⟨z, z4⟩ := and2 z
      obtain ⟨z, z3⟩ := and2 z
      obtain ⟨z1, z2⟩ := and2 z
      obtain ⟨oc, od, dV, kV, doc, pm, an, cdv, ct, osl, e, lk, hcd, _, _⟩ := F.ex
      exact .inr ⟨dd.params, dd.body, dd.scope, N, ⟨oc, od, dd.name, dd.qual, dV, kV, doc, pm, an, cdv, ct, osl, by rw [← e]; exact lk, hcd, e⟩, scB_ok z1, of_decide_eq_true z2, of_decide_eq_true z3, z4, z5⟩
end Mi
/-! Mi: the facts, by one test of what is written. -/
namespace Mi
open PySem PySem.Spec PyProof.Rows L2 TL

/-- the text: with its defs -/
structure MP where
  M : MM
  fn : List He.DefD
  NS : List (List Str)
section
variable (P : MP) (K : PySem.W.Frag)
def faK (f : Nat) : Addr := match P.fn[f]? with
  | some d => He.fAd K d.at_
  | none => 0
/-- the first class with instances, of exceptions -/
def fstC (b : Bool) : Str := match (List.range P.M.T.cls.length).find? fun c => nrm P.M.T c == b with
  | some c => (P.M.clN[c]?).getD ""
  | none => ""
def clA (c : Nat) : Addr := if nrm P.M.T c then (match P.M.clN[c]? with
    | some x => He.ga K x
    | none => He.ga K (fstC P true)) else He.ga K (fstC P true)
def exA (c : Nat) : Addr := if nrm P.M.T c = false ∧ c < P.M.T.cls.length then (match P.M.clN[c]? with
    | some x => He.ga K x
    | none => He.ga K (fstC P false)) else He.ga K (fstC P false)
def nmP : Nm := ⟨attOf P.M.att, clA P K, exA P K⟩
def clsB (C : Addr) : Bool := PySem.W.plainGet K C Str.empty && PySem.W.hasDictIn K C && PySem.W.plainOver K C && He.eqO (PySem.W.findIn K (.ref C) "__setattr__") (some (some (.builtin "object.__setattr__")))
theorem clsB_ok {K : PySem.W.Frag} {C : Addr} (h : clsB K C = true) : Cls K C := by
  obtain ⟨h, h4⟩ := and2 h
  obtain ⟨h, h3⟩ := and2 h
  obtain ⟨h1, h2⟩ := and2 h
  exact ⟨h1, h2, h3, He.eqO_ok h4⟩
def cls0 : List Nat := (List.range P.M.T.cls.length).filter fun c => nrm P.M.T c
/-- the addresses that instances' classes have -/
def adrs : List Addr := (cls0 P).map (clA P K) ++ (if P.M.fl.isEmpty then [] else [He.ga K (fstC P true)])
def tyTs : List Ty := [.int, .bool, .str, .list, .tuple, .dict]
def okCls : Bool := ((adrs P K).all fun C => clsB K C && P.M.fl.all fun f => He.eqO (PySem.W.findIn K (.ref C) (attOf P.M.att f)) (some none)) &&
  (cls0 P).all fun c => ((cls0 P).all fun b => decide (PySem.W.kitOne K (.ref (clA P K c)) (.ref (clA P K b)) = some (isSub P.M.T DEEP c b))) &&
    (tyTs.all fun t => decide (PySem.W.kitOne K (.ref (clA P K c)) (tyVal (nmP P K) t) = some false)) && (["NoneType", "bool", "int", "str", "list", "tuple", "dict"].all fun t => decide (PySem.W.kitOne K (.type t) (.ref (clA P K c)) = some false)) &&
    (He.eqO (PySem.W.findIn K (.ref (clA P K c)) "__class__") (some (some (.builtin "object.__class__"))) && decide (PySem.W.mroIn K (clA P K c) (.type "object") = some true))
def okTy : Bool := He.eqO (PySem.W.specialIn K (.builtin "object.__class__") "__get__") (some (some (.builtin "getset_descriptor.__get__"))) && decide (PySem.W.takesIn K (.builtin "object.__class__") = some true)
def allM : List Nat := P.M.T.cls.flatMap fun d => d.meths.map (·.1)
def okMth : Bool := (List.range P.M.T.cls.length).all fun c => (allM P).all fun m => match findM P.M.T DEEP c m with
  | some f => clsB K (clA P K c) && He.eqO (PySem.W.findIn K (.ref (clA P K c)) (attOf P.M.att m)) (some (some (.ref (faK P K f)))) && PySem.W.isFn K (.ref (faK P K f)) && PySem.W.keepIn K (.ref (faK P K f))
  | none => true
def okMk : Bool := (cls0 P).all fun c => match P.M.T.cls[c]?, P.M.clN[c]? with
  | some d, some x => (match d.init with
    | some f => He.eqO (PySem.W.nsIn K mainGlobals x) (some (some (.ref (clA P K c)))) && PySem.W.makesIn K (clA P K c) && He.eqO (PySem.W.findIn K (.ref (clA P K c)) "__init__") (some (some (.ref (faK P K f)))) && PySem.W.isFn K (.ref (faK P K f)) && PySem.W.keepIn K (.ref (clA P K c)) && !(x == ("__debug__" : Str))
    | none => true)
  | _, _ => true
def okFn : Bool := (List.range P.M.fnN.length).all fun f => match P.M.fnN[f]? with
  | some (some x) => He.eqO (PySem.W.nsIn K mainGlobals x) (some (some (.ref (faK P K f)))) && PySem.W.keepIn K (.ref (faK P K f)) && !(x == ("__debug__" : Str))
  | _ => true
def okBlt : Bool := P.M.blt.all fun x => He.eqO (PySem.W.nsIn K mainGlobals x) (some none)
mutual
/-- a value that is written for good -/
def rvB (K : PySem.W.Frag) : D → Value → Bool
  | .non, u => match u with
    | .none => true
    | _ => false
  | .bl b, u => match u with
    | .bool c => b == c
    | _ => false
  | .int i, u => match u with
    | .int j _ => decide (i = j)
    | _ => false
  | .str x, u => match u with
    | .str y _ => decide (x = y) && decide (x.length ≤ LL) && PyData.strOk x
    | _ => false
  | .tup l, u => match u with
    | .ref a => (match K.lookup a with
      | some ⟨.type c, _, .seq its _, _⟩ => decide (c = "tuple") && decide (its.size ≤ LL) && rvBs K l its.toList
      | _ => false)
    | _ => false
  | _, _ => false
def rvBs (K : PySem.W.Frag) : List D → List Value → Bool
  | [], us => us.isEmpty
  | d :: r, us => match us with
    | u :: us => rvB K d u && rvBs K r us
    | [] => false
end
def okCon : Bool := P.M.cons.all fun p => !(p.1 == ("__debug__" : Str)) && match PySem.W.nsIn K mainGlobals p.1 with
  | some (some u) => rvB K p.2 u
  | _ => false
end
mutual
theorem rvB_ok {K : PySem.W.Frag} {A : Nm} : ∀ (d : D) (u : Value), rvB K d u = true → ∃ v, RelV v u ∧ ∀ F m n, RV K A F m n d v
  | .non, u, h => by
    cases u <;> first | exact ⟨.non, rfl, fun _ _ _ => rfl⟩ | cases h
  | .bl b, u, h => by
    cases u with
    | bool c =>
      have e : b = c := eq_of_beq h
      subst e
      exact ⟨.bl b, rfl, fun _ _ _ => rfl⟩
    | _ => cases h
  | .int i, u, h => by
    cases u with
    | int j t =>
      have e : i = j := of_decide_eq_true h
      subst e
      exact ⟨.int i, ⟨t, rfl⟩, fun _ _ _ => rfl⟩
    | _ => cases h
  | .str x, u, h => by
    cases u with
    | str y t =>
      obtain ⟨h1, h3⟩ := and2 (show (decide (x = y) && decide (x.length ≤ LL) && PyData.strOk x) = true from h)
      obtain ⟨h1, h2⟩ := and2 h1
      have e : x = y := of_decide_eq_true h1
      subst e
      exact ⟨.str x, ⟨t, rfl⟩, fun _ _ _ => ⟨rfl, of_decide_eq_true h2, h3⟩⟩
    | _ => cases h
  | .tup l, u, h => by
    cases u with
    | ref a =>
      have h' : (match K.lookup a with
        | some ⟨.type c, _, .seq its _, _⟩ => decide (c = "tuple") && decide (its.size ≤ LL) && rvBs K l its.toList
        | _ => false) = true := h
      split at h'
      · rename_i c dd its nn sl ho
        obtain ⟨h1, h3⟩ := and2 h'
        obtain ⟨h1, h2⟩ := and2 h1
        have e : c = "tuple" := of_decide_eq_true h1
        subst e
        obtain ⟨us, i1, i2⟩ := rvBs_ok l its.toList h3
        have hz := of_decide_eq_true h2
        refine ⟨.ref a, rfl, fun F m n => ⟨a, us, rfl, .inr ⟨_, its, nn, ho, rfl, rfl, Nat.le_trans hz LL_line, i1⟩, ?_, i2 F m n⟩⟩
        rw [← RVs.length (i2 F m n), Vals.length i1, Array.length_toList]
        exact hz
      · cases h'
    | _ => cases h
  | .lst _, u, h => by cases u <;> cases h
  | .dct _, u, h => by cases u <;> cases h
  | .ins _ _, u, h => by cases u <;> cases h
  | .ref _, u, h => by cases u <;> cases h
  | .scr _, u, h => by cases u <;> cases h
theorem rvBs_ok {K : PySem.W.Frag} {A : Nm} : ∀ (ds : List D) (us : List Value), rvBs K ds us = true → ∃ vs, Vals vs us ∧ ∀ F m n, RVs K A F m n ds vs
  | [], us, h => by
    cases us with
    | nil => exact ⟨[], .nil, fun _ _ _ => rfl⟩
    | cons _ _ => cases h
  | d :: r, us, h => by
    cases us with
    | nil => cases h
    | cons u us =>
      obtain ⟨h1, h2⟩ := and2 (show (rvB K d u && rvBs K r us) = true from h)
      obtain ⟨v, i1, i2⟩ := rvB_ok (A := A) d u h1
      obtain ⟨vs, j1, j2⟩ := rvBs_ok (A := A) r us h2
      exact ⟨v :: vs, .cons i1 j1, fun F m n => ⟨v, vs, rfl, i2 F m n, j2 F m n⟩⟩
end
section
variable {P : MP} {K : PySem.W.Frag}
theorem clA_mem (h : P.M.fl ≠ []) (c : Nat) : clA P K c ∈ adrs P K := by
  have hf : P.M.fl.isEmpty = false := by
    cases q : P.M.fl with
    | nil => exact absurd q h
    | cons _ _ => rfl
  unfold adrs
  rw [hf]
  by_cases hn : nrm P.M.T c = true
  · refine List.mem_append_left _ (List.mem_map.mpr ⟨c, List.mem_filter.mpr ⟨List.mem_range.mpr ?_, hn⟩, rfl⟩)
    unfold nrm at hn
    cases q : P.M.T.cls[c]? with
    | none => rw [q] at hn; cases hn
    | some d => exact (List.getElem?_eq_some_iff.mp q).1
  · refine List.mem_append_right _ ?_
    unfold clA
    rw [if_neg hn]
    exact List.mem_singleton.mpr rfl
theorem nrm_lt {c : Nat} (hn : nrm P.M.T c = true) : c ∈ cls0 P := by
  refine List.mem_filter.mpr ⟨List.mem_range.mpr ?_, hn⟩
  unfold nrm at hn
  cases q : P.M.T.cls[c]? with
  | none => rw [q] at hn; cases hn
  | some d => exact (List.getElem?_eq_some_iff.mp q).1
theorem gc_of (ha : ∀ i j, attOf P.M.att i = attOf P.M.att j → i = j) (h : okCls P K = true) (h2 : okTy K = true) : GC K (nmP P K) P.M.T P.M.fl := by
  obtain ⟨h1, h3⟩ := and2 h
  obtain ⟨t1, t2⟩ := and2 h2
  have one : ∀ C ∈ adrs P K, Cls K C ∧ ∀ f ∈ P.M.fl, NoAttr K C (attOf P.M.att f) := fun C hC => by
    obtain ⟨a, b⟩ := and2 (List.all_eq_true.mp h1 C hC)
    exact ⟨clsB_ok a, fun f hf => He.eqO_ok (List.all_eq_true.mp b f hf)⟩
  have two : ∀ c, nrm P.M.T c = true → _ := fun c hc => List.all_eq_true.mp h3 c (nrm_lt hc)
  refine ⟨ha, fun c f hf => ?_, fun c b hc hb => ?_, fun c t hc ht => ?_, fun c t hc ht => ?_, fun c hc => ?_⟩
  · obtain ⟨a, b⟩ := one _ (clA_mem (fun z => by rw [z] at hf; cases hf) c)
    exact ⟨a, b f hf⟩
  · obtain ⟨q, _⟩ := and2 (two c hc)
    obtain ⟨q, _⟩ := and2 q
    obtain ⟨q, _⟩ := and2 q
    exact of_decide_eq_true (List.all_eq_true.mp q b (nrm_lt hb))
  · obtain ⟨q, _⟩ := and2 (two c hc)
    obtain ⟨q, _⟩ := and2 q
    obtain ⟨_, q⟩ := and2 q
    refine of_decide_eq_true (List.all_eq_true.mp q t ?_)
    cases t with
    | cls b => exact absurd rfl (ht b)
    | _ => simp [tyTs]
  · obtain ⟨q, _⟩ := and2 (two c hc)
    obtain ⟨_, q⟩ := and2 q
    exact of_decide_eq_true (List.all_eq_true.mp q t ht)
  · obtain ⟨_, q⟩ := and2 (two c hc)
    obtain ⟨q1, q2⟩ := and2 q
    have hC : clA P K c ∈ adrs P K := by
      unfold adrs
      exact List.mem_append_left _ (List.mem_map.mpr ⟨c, nrm_lt hc, rfl⟩)
    exact ⟨(one _ hC).1, He.eqO_ok q1, He.eqO_ok t1, of_decide_eq_true t2, of_decide_eq_true q2⟩
theorem findM_mem {T : Tab} : ∀ {n c m f : Nat}, findM T n c m = some f → c < T.cls.length ∧ ∃ d ∈ T.cls, ∃ g, (m, g) ∈ d.meths
  | 0, c, m, f, h => by cases h
  | n + 1, c, m, f, h => by
    unfold findM at h
    cases q : T.cls[c]? with
    | none => rw [q] at h; cases h
    | some d =>
      rw [q] at h
      have hlt := (List.getElem?_eq_some_iff.mp q).1
      have h' : (match d.meths.lookup m with
        | some f => some f
        | none => match d.base with
          | some b => findM T n b m
          | none => none) = some f := h
      cases z : d.meths.lookup m with
      | some g =>
        have : ∀ {l : List (Nat × Nat)}, l.lookup m = some g → (m, g) ∈ l := fun {l} => by
          induction l with
          | nil => intro e; cases e
          | cons p r ih =>
            intro e
            obtain ⟨a, b⟩ := p
            have e' : (match m == a with | true => some b | false => r.lookup m) = some g := e
            cases y : m == a with
            | true =>
              rw [y] at e'
              cases e'
              rw [eq_of_beq y]
              exact List.mem_cons_self
            | false =>
              rw [y] at e'
              exact List.mem_cons_of_mem _ (ih e')
        exact ⟨hlt, d, List.mem_of_getElem? q, g, this z⟩
      | none =>
        rw [z] at h'
        cases y : d.base with
        | none => rw [y] at h'; cases h'
        | some b =>
          rw [y] at h'
          exact ⟨hlt, (findM_mem (show findM T n b m = some f from h')).2⟩
theorem gm_of (ha : ∀ i j, attOf P.M.att i = attOf P.M.att j → i = j) (h : okMth P K = true) : GM K (nmP P K) P.M.T (faK P K) := by
  refine ⟨ha, fun c m f e => ?_⟩
  obtain ⟨h1, d, hd, g, hg⟩ := findM_mem e
  have q := List.all_eq_true.mp (List.all_eq_true.mp h c (List.mem_range.mpr h1)) m (List.mem_flatMap.mpr ⟨d, hd, List.mem_map.mpr ⟨(m, g), hg, rfl⟩⟩)
  rw [e] at q
  obtain ⟨q, q4⟩ := and2 (show (clsB K (clA P K c) && He.eqO (PySem.W.findIn K (.ref (clA P K c)) (attOf P.M.att m)) (some (some (.ref (faK P K f)))) && PySem.W.isFn K (.ref (faK P K f)) && PySem.W.keepIn K (.ref (faK P K f))) = true from q)
  obtain ⟨q, q3⟩ := and2 q
  obtain ⟨q1, q2⟩ := and2 q
  exact ⟨clsB_ok q1, He.eqO_ok q2, q3, q4⟩
end
end Mi
/-! Mi: the facts on exceptions; all facts. -/
namespace Mi
open PySem PySem.Spec PyProof.Rows L2 TL

/-- the __init__ of an own exception: class, its text -/
structure XI where
  c : Nat
  dd : He.DefD
def oexB (K : PySem.W.Frag) (C : Addr) : Bool := (match K.lookup C with
  | some ⟨.type "type", _, .cls cd, sl⟩ => (match cd.mro, sl.toList with
    | .ref C' :: bm, [_, _, _, _, some (.builtin n), _] => C' == C && n == "ValueError.__new__" && !cd.hasDel && cd.hasDict && PySem.HandSPX.refsVE bm
    | _, _ => false)
  | _ => false) && He.eqO (PySem.W.findIn K (.ref C) "__setattr__") (some (some (.builtin "object.__setattr__"))) && decide (PySem.W.subIn K (.ref C) (.type "BaseException") = some true) && decide (PySem.W.typeIn K (.ref C) = some (.type "type")) && PySem.W.keepIn K (.ref C)
theorem oexB_ok {K : PySem.W.Frag} {C : Addr} (h : oexB K C = true) : OexC K C := by
  obtain ⟨h, h5⟩ := and2 h
  obtain ⟨h, h4⟩ := and2 h
  obtain ⟨h, h3⟩ := and2 h
  obtain ⟨h1, h2⟩ := and2 h
  refine ⟨?_, He.eqO_ok h2, of_decide_eq_true h3, of_decide_eq_true h4, h5⟩
  split at h1
  · rename_i dd cd sl ho
    split at h1
    · rename_i C' bm k0 k1 k2 k3 n k5 hm hs
      simp only [Bool.and_eq_true, beq_iff_eq, Bool.not_eq_true'] at h1
      obtain ⟨⟨⟨⟨rfl, rfl⟩, hdel⟩, hdict⟩, ht⟩ := h1
      obtain ⟨nm, bs, mro, ns, qn, hd, sn, sub, ab, col, del⟩ := cd
      dsimp only at hm hdel hdict
      subst hm hdel hdict
      have hsl : sl = #[k0, k1, k2, k3, some (.builtin "ValueError.__new__"), k5] := by
        obtain ⟨l⟩ := sl
        simp only at hs
        rw [hs]
      subst hsl
      exact ⟨nm, qn, ns, bs, bm, sn, sub, ab, col, dd, k0, k1, k2, k3, k5, ho, ht⟩
    · cases h1
  · cases h1
/-- the body of such an __init__; its base class -/
def xiB (M : MM) (f : Str) (dd : He.DefD) : Option (Str × Str × Str) := match dd.body with
  | [.Expr (.Call (.Attribute (.Name b _) i p2) [.Name s _, .Constant (.str _) _ _] [] p5) _, .Assign [.Attribute (.Name s2 _) f2 _] (.Name v _) _] =>
    if i = "__init__" ∧ s2 = s ∧ f2 = f ∧ (p2.endLine == p5.line) = true ∧ parsOf dd.params = some [s, v] ∧ scB [s, v] [s, v] dd.scope = true ∧ nmB [s, v] = true ∧ visB dd.scope s = true ∧ visB dd.scope v = true ∧ gloB dd.scope b = true ∧ dd.dfl.isEmpty = true ∧ dd.kwd.isEmpty = true then some (b, s, v) else none
  | _ => none
def isVE : Option PySem.W.CFound → Bool
  | some (.val (.builtin n)) => n == "ValueError.__init__"
  | _ => false
theorem isVE_ok {o : Option PySem.W.CFound} (h : isVE o = true) : o = some (.val (.builtin "ValueError.__init__")) := by
  unfold isVE at h
  split at h
  · rw [eq_of_beq h]
  · cases h
def baseB (P : MP) (K : PySem.W.Frag) (b : Str) : Bool := !(b == ("__debug__" : Str)) &&
  ((decide (b = "ValueError") && decide (b ∈ P.M.blt) && isVE (PySem.W.findCls K (.type "ValueError") (.type "type") "__init__")) ||
    (He.eqO (PySem.W.nsIn K mainGlobals b) (some (some (.ref (He.ga K b)))) && PySem.W.readsIn K (He.ga K b) (.type "type") && He.eqO (PySem.W.specialIn K (.ref (He.ga K b)) "__getattribute__") (some (some (.builtin "type.__getattribute__"))) &&
      isVE (PySem.W.findCls K (.ref (He.ga K b)) (.type "type") "__init__")))
section
variable (P : MP) (xis : List XI) (K : PySem.W.Frag)
def okMak : Bool := (List.range P.M.T.cls.length).all fun c => match P.M.T.cls[c]? with
  | some d => (match d.exc with
    | some f => (match xis.find? fun x => x.c == c with
      | some xi => oexB K (exA P K c) && He.eqO (PySem.W.findIn K (.ref (exA P K c)) (attOf P.M.att f)) (some none) && He.eqO (PySem.W.findIn K (.ref (exA P K c)) "__init__") (some (some (.ref (He.fAd K xi.dd.at_)))) &&
          decide (PySem.W.typeIn K (.ref (He.fAd K xi.dd.at_)) = some (.type "function")) && (match xiB P.M (attOf P.M.att f) xi.dd with
            | some (b, _, _) => baseB P K b
            | none => false)
      | none => false)
    | none => true)
  | none => true
def exs : List Nat := (List.range P.M.T.cls.length).filter fun c => !(nrm P.M.T c)
def okXf : Bool := (He.ga K (fstC P false) :: (exs P).map (exA P K)).all fun C => xfB K C && P.M.xl.all fun f => He.eqO (PySem.W.findIn K (.ref C) (attOf P.M.att f)) (some none)
def okEx : Bool := (exs P).all fun c => !(excT P.M.T c) || (exs P).all fun b => decide (PySem.W.exmOne K (.ref (exA P K c)) (.ref (exA P K b)) = some (isSub P.M.T DEEP c b))
def okXn : Bool := (exs P).all fun c => match P.M.clN[c]? with
  | some x => He.eqO (PySem.W.nsIn K mainGlobals x) (some (some (.ref (exA P K c)))) && !(x == ("__debug__" : Str))
  | none => true
/-- a class of exceptions that are raised has no instances -/
def okNx : Bool := (List.range P.M.T.cls.length).all fun c => !(excT P.M.T c) || !(nrm P.M.T c)
end
section
variable {P : MP} {xis : List XI} {K : PySem.W.Frag}
theorem gloB_ok {sc : Scope} {y : Str} (e : gloB sc y = true) : sc.names.lookup y = some .globalImplicit := by
  unfold gloB at e
  cases q : sc.names.lookup y with
  | none => rw [q] at e; cases e
  | some z =>
    rw [q] at e
    cases z with
    | globalImplicit => rfl
    | _ => cases e
theorem exA_mem (c : Nat) : exA P K c ∈ He.ga K (fstC P false) :: (exs P).map (exA P K) := by
  by_cases h : nrm P.M.T c = false ∧ c < P.M.T.cls.length
  · refine List.mem_cons_of_mem _ (List.mem_map.mpr ⟨c, List.mem_filter.mpr ⟨List.mem_range.mpr h.2, ?_⟩, rfl⟩)
    rw [h.1] <;> rfl
  · unfold exA
    rw [if_neg h]
    exact List.mem_cons_self
theorem mem_exs {c : Nat} (h : nrm P.M.T c = false) (hl : c < P.M.T.cls.length) : c ∈ exs P := List.mem_filter.mpr ⟨List.mem_range.mpr hl, by rw [h] <;> rfl⟩
theorem fe_of {Pr : Program} {w : World} {mg : Str → Option Value} {base : Heap} (hm : ∀ x u, PySem.W.nsIn K mainGlobals x = some (some u) → mg x = some u) (hb : ∀ x, x ∈ P.M.blt → mg x = none) (ha : ∀ i j, attOf P.M.att i = attOf P.M.att j → i = j)
    (hF : ∀ xi ∈ xis, ∃ fd, FunD K xi.dd.name xi.dd.qual xi.dd.params xi.dd.body xi.dd.scope (xi.dd.dvs K) (xi.dd.kws K) (He.fAd K xi.dd.at_) fd)
    (h1 : okMak P xis K = true) (h2 : okXf P K = true) (h3 : okEx P K = true) (h4 : okNx P = true) : FE0 Pr w K mg base (nmP P K) P.M.T P.M.xl := by
  refine ⟨ha, fun c d f hd hf => ?_, fun c => ?_, fun c f hf => ?_, fun c b hc hb hn => ?_⟩
  · have hlt := (List.getElem?_eq_some_iff.mp hd).1
    have q := List.all_eq_true.mp h1 c (List.mem_range.mpr hlt)
    simp only [hd, hf] at q
    split at q
    · rename_i xi hxi
      obtain ⟨q, q5⟩ := and2 q
      obtain ⟨q, q4⟩ := and2 q
      obtain ⟨q, q3⟩ := and2 q
      obtain ⟨q1, q2⟩ := and2 q
      obtain ⟨fd, F⟩ := hF xi (List.mem_of_find?_eq_some hxi)
      refine ⟨oexB_ok q1, He.eqO_ok q2, He.fAd K xi.dd.at_, ?_⟩
      cases z : xiB P.M (attOf P.M.att f) xi.dd with
      | none => rw [z] at q5; cases q5
      | some bsv =>
        obtain ⟨b, s, v⟩ := bsv
        rw [z] at q5
        unfold xiB at z
        split at z
        · rename_i b' pb i p2 s' ps' t kt pt p5 p6 s2 p7 f2 p8 v' p9 p10 hbody
          split at z
          · rename_i cond
            cases z
            obtain ⟨c1, c2, c3, c4, c5, c6, c7, c8, c9, c10, c11, c12⟩ := cond
            subst c1 c2 c3
            have e1 : xi.dd.dvs K = [] := by
              unfold He.DefD.dvs
              rw [List.isEmpty_iff.mp c11] <;> rfl
            have e2 : xi.dd.kws K = [] := by
              unfold He.DefD.kws
              rw [List.isEmpty_iff.mp c12] <;> rfl
            rw [e1, e2] at F
            obtain ⟨oc, od, dV, kV, doc, pm, an, cdv, ct, osl, ef, lk, hcd, _, _⟩ := id F.ex
            refine ⟨fd, _, He.eqO_ok q3, of_decide_eq_true q4, ?_, (binds_of F c5).1⟩
            rw [ef] at lk ⊢
            rw [hbody] at lk ⊢
            have gl : xi.dd.scope.names.lookup b = some .globalImplicit := gloB_ok c10
            refine init_ok lk hcd (scB_ok c6) c7 c8 c9 fun X ta eK eM eS hA => ?_
            have hg : Gl X b := by
              show X.env.scope.names.lookup b = _
              rw [eS]
              exact gl
            obtain ⟨g1, g2⟩ := and2 q5
            rcases Bool.or_eq_true_iff.mp g2 with g | g
            · obtain ⟨g, g5⟩ := and2 g
              obtain ⟨g3, g4⟩ := and2 g
              have eb := of_decide_eq_true g3
              subst eb
              refine pe_binit hg (by rw [eM]; exact hb _ (of_decide_eq_true g4)) (by rw [eK]; exact isVE_ok g5) rfl (by show 2 < 29; decide) c4 hA
            · obtain ⟨g, g6⟩ := and2 g
              obtain ⟨g, g5⟩ := and2 g
              obtain ⟨g3, g4⟩ := and2 g
              exact pe_oinit (B := He.ga K b) (mc := .type "type") hg (by rw [eM]; exact hm _ _ (He.eqO_ok g3)) ((Bool.not_eq_true' _).mp g1) (by rw [eK]; exact ⟨g4, He.eqO_ok g5⟩) (by rw [eK]; exact isVE_ok g6) rfl (by show 2 < 29; decide) c4 hA
          · cases z
        · cases z
    · cases q
  · obtain ⟨q, _⟩ := and2 (List.all_eq_true.mp h2 _ (exA_mem c))
    exact xfB_ok q
  · obtain ⟨_, q⟩ := and2 (List.all_eq_true.mp h2 _ (exA_mem c))
    exact He.eqO_ok (List.all_eq_true.mp q f hf)
  · have hlt := excT_lt hc
    have hcn : nrm P.M.T c = false := by
      have q := List.all_eq_true.mp h4 c (List.mem_range.mpr hlt)
      rw [hc] at q
      exact (Bool.not_eq_true' _).mp q
    have q := List.all_eq_true.mp h3 c (mem_exs hcn hlt)
    rw [hc] at q
    exact of_decide_eq_true (List.all_eq_true.mp q b (mem_exs hn hb))
end
end Mi
/-! Mi: all facts by one test; the law's end. -/
namespace Mi
open PySem PySem.Spec PyProof.Rows L2 TL

def okK (P : MP) (xis : List XI) (K : PySem.W.Frag) : Bool := okCls P K && okTy K && okMth P K && okMk P K && okFn P K && okBlt P K && okCon P K && okXn P K && (!(hasX P.M.T) || (okMak P xis K && okXf P K && okEx P K))
def defsB (M : MM) : List FnD → List He.DefD → List (List Str) → Bool
  | [], [], [] => true
  | d :: ds, e :: es, n :: ns => fnB M d e n && defsB M ds es ns
  | _, _, _ => false
/-- what the text alone tells -/
structure St0 (P : MP) : Prop where
  nd : P.M.att.Nodup
  sz : ∀ x ∈ P.M.att, x.cps.size < 1000
  big : P.M.T.cls.length ≤ 1000000
  defs : defsB P.M P.M.T.fns P.fn P.NS = true
  nx : okNx P = true
  len : P.M.clN.length = P.M.T.cls.length
theorem defsB_at {M : MM} : ∀ {ds : List FnD} {es : List He.DefD} {ns : List (List Str)} {f : Nat} {d : FnD}, defsB M ds es ns = true → ds[f]? = some d → ∃ e n, es[f]? = some e ∧ ns[f]? = some n ∧ fnB M d e n = true
  | [], _, _, f, d, _, h => by simp at h
  | d0 :: ds, [], _, f, d, h, _ => by cases h
  | d0 :: ds, e :: es, [], f, d, h, _ => by cases h
  | d0 :: ds, e :: es, n :: ns, 0, d, h, q => by
    cases q
    exact ⟨e, n, rfl, rfl, (and2 (show (fnB M d0 e n && defsB M ds es ns) = true from h)).1⟩
  | d0 :: ds, e :: es, n :: ns, f + 1, d, h, q => by
    obtain ⟨a, b, h1, h2, h3⟩ := defsB_at (and2 (show (fnB M d0 e n && defsB M ds es ns) = true from h)).2 (show ds[f]? = some d from q)
    exact ⟨a, b, h1, h2, h3⟩
theorem pg0_of {P : MP} {xis : List XI} {K : PySem.W.Frag} {h : Heap} {mg : Str → Option Value} (S : St0 P) (KX : K.In h) (G : h.Ns mainGlobals mg) (ok : okK P xis K = true)
    (hD : ∀ d ∈ P.fn ++ xis.map (·.dd), ∃ fd, FunD K d.name d.qual d.params d.body d.scope (d.dvs K) (d.kws K) (He.fAd K d.at_) fd) (Pr : Program) (w : World) (base : Heap) : PG0 Pr w K mg base P.M (nmP P K) (faK P K) := by
  obtain ⟨ok, o9⟩ := and2 ok
  obtain ⟨ok, o8⟩ := and2 ok
  obtain ⟨ok, o7⟩ := and2 ok
  obtain ⟨ok, o6⟩ := and2 ok
  obtain ⟨ok, o5⟩ := and2 ok
  obtain ⟨ok, o4⟩ := and2 ok
  obtain ⟨ok, o3⟩ := and2 ok
  obtain ⟨o1, o2⟩ := and2 ok
  have ha := attOf_inj S.nd S.sz
  have hm : ∀ x u, PySem.W.nsIn K mainGlobals x = some (some u) → mg x = some u := fun x u e => PySem.W.mg_of KX G e
  have hb : ∀ x, x ∈ P.M.blt → mg x = none := fun x hx => PySem.W.mg_none_of KX G (He.eqO_ok (List.all_eq_true.mp o6 x hx))
  refine ⟨S.big, fun f d hf => ?_, gc_of ha o1 o2, gm_of ha o3, fun hx => ?_, fun n a e => ?_, fun f x e => ?_, fun c d f x e1 e2 e3 => ?_, fun c x e1 e2 => ?_, fun x d hx => ?_, hb⟩
  · obtain ⟨dd, N, h1, h2, h3⟩ := defsB_at S.defs hf
    obtain ⟨fd, F⟩ := hD dd (List.mem_append_left _ (List.mem_of_getElem? h1))
    have e : faK P K f = He.fAd K dd.at_ := by
      unfold faK
      rw [h1]
    rw [← e] at F
    exact fnB_ok h3 F
  · rw [hx] at o9
    obtain ⟨o9, o12⟩ := and2 (show (okMak P xis K && okXf P K && okEx P K) = true from o9)
    obtain ⟨o10, o11⟩ := and2 o9
    exact fe_of hm hb ha (fun xi hxi => hD xi.dd (List.mem_append_right _ (List.mem_map.mpr ⟨xi, hxi, rfl⟩))) o10 o11 o12 S.nx
  · show attOf P.M.att n = a
    unfold attOf
    rw [e]
  · have q := List.all_eq_true.mp o5 f (List.mem_range.mpr (List.getElem?_eq_some_iff.mp e).1)
    rw [e] at q
    obtain ⟨q, q3⟩ := and2 (show (He.eqO (PySem.W.nsIn K mainGlobals x) (some (some (.ref (faK P K f)))) && PySem.W.keepIn K (.ref (faK P K f)) && !(x == ("__debug__" : Str))) = true from q)
    obtain ⟨q1, q2⟩ := and2 q
    exact ⟨hm _ _ (He.eqO_ok q1), q2, (Bool.not_eq_true' _).mp q3⟩
  · have hn : nrm P.M.T c = true := by
      unfold nrm
      rw [e2]
      show d.init.isSome = true
      rw [e3] <;> rfl
    have q := List.all_eq_true.mp o4 c (nrm_lt hn)
    rw [e1, e2] at q
    simp only [e3] at q
    obtain ⟨q, q6⟩ := and2 q
    obtain ⟨q, q5⟩ := and2 q
    obtain ⟨q, q4⟩ := and2 q
    obtain ⟨q, q3⟩ := and2 q
    obtain ⟨q1, q2⟩ := and2 q
    exact ⟨hm _ _ (He.eqO_ok q1), ⟨q2, He.eqO_ok q3, q4, q5⟩, (Bool.not_eq_true' _).mp q6⟩
  · by_cases hl : c < P.M.T.cls.length
    · have q := List.all_eq_true.mp o8 c (mem_exs e2 hl)
      rw [e1] at q
      obtain ⟨q1, q2⟩ := and2 (show (He.eqO (PySem.W.nsIn K mainGlobals x) (some (some (.ref (exA P K c)))) && !(x == ("__debug__" : Str))) = true from q)
      exact ⟨hm _ _ (He.eqO_ok q1), (Bool.not_eq_true' _).mp q2⟩
    · exact absurd (by rw [← S.len]; exact (List.getElem?_eq_some_iff.mp e1).1) hl
  · obtain ⟨q1, q2⟩ := and2 (List.all_eq_true.mp o7 (x, d) hx)
    have q2' : (match PySem.W.nsIn K mainGlobals x with
      | some (some u) => rvB K d u
      | _ => false) = true := q2
    split at q2'
    · rename_i u e
      obtain ⟨v, v1, v2⟩ := rvB_ok (A := nmP P K) d u q2'
      exact ⟨u, v, hm _ _ e, v1, (Bool.not_eq_true' _).mp q1, v2⟩
    · cases q2'
/-! ### the head's hook -/
def obsM (n : Nat) (fn : List He.DefD) (ex : PySem.W.Frag → Bool) (g : Addr → Option Obj) : He.AlD × Bool := (He.obsD [] fn (He.frG g (PySem.cStatics :: He.asD g n)), ex (He.frG g (PySem.cStatics :: He.asD g n)))
def hookM (n : Nat) (fn : List He.DefD) (ex : PySem.W.Frag → Bool) : PySem.W.Hook where
  α := He.AlD × Bool
  obs := fun s => obsM n fn ex s.heap.get?
  val := fun _ => (He.valD fn, true)
  says := fun _ h => ∃ K : PySem.W.Frag, K.In h ∧ He.SaysD [] fn K ∧ ex K = true
  of := fun _ _ e => ⟨_, He.frG_in, (Prod.mk.inj e).1, (Prod.mk.inj e).2⟩
  keeps := fun _ _ _ ⟨K, hK, c, x⟩ k => ⟨K, PySem.W.Frag.In.keeps hK k, c, x⟩
theorem obsM_eq {n : Nat} {fn : List He.DefD} {ex : PySem.W.Frag → Bool} {g : Addr → Option Obj} {s : Shared} (h : ∀ a, g a = s.heap.get? a) : obsM n fn ex g = (hookM n fn ex).obs s := by
  have e : g = s.heap.get? := funext h
  rw [e] <;> rfl
/-! ### the law's def -/
theorem sp_law {K : PySem.W.Frag} {A : Nm} {cl : List D → Sto → R D} {H : Hp} {a : Addr} {ns : List Int} (hl : ns.length ≤ 63) (hS : SqL K H a (ns.map V.int)) (law : ∃ S', cl [.scr ns] ⟨[], 0⟩ = .ok (.bl true) S') : spF K A cl 1 [.ref a] H (fun v _ => v = .bl true) fun _ _ _ => False := by
  obtain ⟨S', e⟩ := law
  have sr : SR K A H (fun _ => 0) ⟨[], 0⟩ H := by
    refine ⟨Nat.le_refl _, fun _ _ h => h, fun l c h => ?_, fun l l' h => absurd h (Nat.not_lt_zero _), fun l h => absurd h (Nat.not_lt_zero _), fun l c h => ?_⟩
    · cases (show (none : Option Cell) = some c from h)
    · cases (show (none : Option Cell) = some c from h)
  refine ⟨[.scr ns], ⟨[], 0⟩, H, fun _ => 0, sr, ⟨.ref a, [], rfl, ⟨a, rfl, hS, Nat.le_trans hl (by decide)⟩, rfl⟩, rfl, ?_⟩
  rw [e]
  exact fun F' m' H' v x s r => r
end Mi
/-! Mi: the law's promise at the head's heap. -/
namespace Mi
open PySem PySem.Spec PyProof.Rows L2 TL
theorem lawAt_of {l : PySem.W.OpenLaw} {w : World} {P : MP} {xis : List XI} {h : Heap} {mg : Str → Option Value} {fa : Addr} {n k f : Nat} {d : FnD} {dd : He.DefD} {x name : Str}
    (S0 : St0 P) (hf : P.M.T.fns[f]? = some d) (hdd : P.fn[f]? = some dd) (hb : isBad d.body = false) (hnp : d.np = 1) (hP : parsOf dd.params = some [x]) (hN : P.M.fnN[f]? = some (some name))
    (law : ∀ ns : List Int, ns.length ≤ 63 → ∃ S', callF P.M.T (k + 1) f [.scr ns] ⟨[], 0⟩ = .ok (.bl true) S')
    (Y : (hookM n (P.fn ++ xis.map (·.dd)) (okK P xis)).says w h) (G : h.Ns mainGlobals mg) (hm : mg name = some (.ref fa)) :
    ∃ K : PySem.W.Frag, K.In h ∧ LamX.LawAtS l w K (L2.CX l.prog w) (2 * (k + 1) + 1) 63 x mg fa h := by
  obtain ⟨K, KX, c, ok⟩ := Y
  refine ⟨K, KX, ?_⟩
  have hD : ∀ d ∈ P.fn ++ xis.map (·.dd), ∃ fd, FunD K d.name d.qual d.params d.body d.scope (d.dvs K) (d.kws K) (He.fAd K d.at_) fd := fun d hd => by
    obtain ⟨i, hi⟩ := List.getElem?_of_mem hd
    exact c.def_ i hi
  have pg := fun (base : Heap) => pg0_of (Pr := l.prog) (w := w) (base := base) S0 KX G ok hD
  obtain ⟨e1, -, -⟩ := (pg h).fnN f name hN
  rw [hm] at e1
  cases e1
  obtain ⟨dd', N, h1, h2, h3⟩ := defsB_at S0.defs hf
  rw [hdd] at h1
  cases h1
  obtain ⟨fd, F⟩ := hD dd (List.mem_append_left _ (List.mem_of_getElem? hdd))
  have e : faK P K f = He.fAd K dd.at_ := by
    unfold faK
    rw [hdd]
  rw [← e] at F
  obtain ⟨rc, hS, hps, hN2, hnm, hms, hbind, -, -⟩ := fnB_rec h3 hb hP F
  refine ⟨fd, [], spF K (nmP P K) (callF P.M.T (k + 1) f) 1, fun _ z => absurd z List.not_mem_nil, fun _ z => absurd z List.not_mem_nil, fun _ z => absurd z List.not_mem_nil, fun s u => hbind s [u] rfl, fun H a ns hl _ _ hs => sp_law hl hs (law ns hl), fun base _ _ _ => ?_⟩
  have r := fn_ok1 (pg base) k f d hf (fns_ok (pg base) k) rc hS hps hN2 hnm hms
  rw [hnp] at r
  exact r
theorem cx_no (P : Program) (w : World) (H : Hp) (s : Shared) (e : Value) (s' : Shared) (h : L2.CX P w [] H s (fun _ _ _ => False) e s') : False := by
  obtain ⟨_, _, _, _, _, _, _, _, _, _, _, _, z⟩ := h
  exact z
end Mi
namespace K79
open PySem Mi Mi.Q
open L2
abbrev pr : Program := PySem.Challenge.pw_looseties_k79_whole_terms_as_texts
def top (i : Nat) : Stmt := pr.main.body.getD i (.Pass ⟨0, 0, 0, 0⟩)
def sub (i j : Nat) : Stmt := match top i with
  | .ClassDef _ _ _ b _ _ _ _ _ _ _ => b.getD j (.Pass ⟨0, 0, 0, 0⟩)
  | s => s
def mm : MM := ⟨tab, ["index", "is_bad", "left", "pull", "pull_name", "pull_figure", "is_done", "pull_one"], [some "_wall", none, some "is_integer", some "is_between", some "is_value", some "is_name", some "has_kind", some "inner_terms", some "has_form", some "is_term", some "write_term", none, none, none, none, none, none, some "pulled_term", some "term_in", some "read_term", some "_law_pool", some "_law_draw", some "_law_pick", some "_law_names", some "_law_term", some "_law_term_text", some "_law_read", some "law"], ["StoreError", "BadText", "Words"], [("LETTERS", (.str "abcdefghijklmnopqrstuvwxyz")), ("MOST_LETTERS", (.int 8)), ("MOST_VALUE", (.int 2)), ("MOST_PARTS", (.int 30)), ("MOST_DEPTH", (.int 8)), ("MOST_ARGUMENTS", (.int 2)), ("PAIRS", (.tup [(.str "plus"), (.str "less"), (.str "same")])), ("FIGURES", (.str "0123456789")), ("VALUES", (.str "012"))], ["ValueError", "abs", "all", "any", "bool", "int", "isinstance", "len", "list", "max", "min", "range", "str", "sum", "tuple"], [1, 2], [0]⟩
def T0 : He.DefD := ⟨("_wall", none), "_wall", "_wall", defArgs (top 0), defBody (top 0), defScope (top 0), [], []⟩
def T1 : He.DefD := ⟨("BadText", some "__init__"), "__init__", "BadText.__init__", defArgs (sub 3 0), defBody (sub 3 0), defScope (sub 3 0), [], []⟩
def T2 : He.DefD := ⟨("is_integer", none), "is_integer", "is_integer", defArgs (top 8), defBody (top 8), defScope (top 8), [], []⟩
def T3 : He.DefD := ⟨("is_between", none), "is_between", "is_between", defArgs (top 9), defBody (top 9), defScope (top 9), [], []⟩
def T4 : He.DefD := ⟨("is_value", none), "is_value", "is_value", defArgs (top 10), defBody (top 10), defScope (top 10), [], []⟩
def T5 : He.DefD := ⟨("is_name", none), "is_name", "is_name", defArgs (top 11), defBody (top 11), defScope (top 11), [], []⟩
def T6 : He.DefD := ⟨("has_kind", none), "has_kind", "has_kind", defArgs (top 12), defBody (top 12), defScope (top 12), [], []⟩
def T7 : He.DefD := ⟨("inner_terms", none), "inner_terms", "inner_terms", defArgs (top 18), defBody (top 18), defScope (top 18), [], []⟩
def T8 : He.DefD := ⟨("has_form", none), "has_form", "has_form", defArgs (top 19), defBody (top 19), defScope (top 19), [], []⟩
def T9 : He.DefD := ⟨("is_term", none), "is_term", "is_term", defArgs (top 20), defBody (top 20), defScope (top 20), [], []⟩
def T10 : He.DefD := ⟨("write_term", none), "write_term", "write_term", defArgs (top 24), defBody (top 24), defScope (top 24), [], []⟩
def T11 : He.DefD := ⟨("Words", some "__init__"), "__init__", "Words.__init__", defArgs (sub 25 0), defBody (sub 25 0), defScope (sub 25 0), [], []⟩
def T12 : He.DefD := ⟨("Words", some "pull"), "pull", "Words.pull", defArgs (sub 25 1), defBody (sub 25 1), defScope (sub 25 1), [], []⟩
def T13 : He.DefD := ⟨("Words", some "pull_one"), "pull_one", "Words.pull_one", defArgs (sub 25 2), defBody (sub 25 2), defScope (sub 25 2), [], []⟩
def T14 : He.DefD := ⟨("Words", some "pull_figure"), "pull_figure", "Words.pull_figure", defArgs (sub 25 3), defBody (sub 25 3), defScope (sub 25 3), [], []⟩
def T15 : He.DefD := ⟨("Words", some "pull_name"), "pull_name", "Words.pull_name", defArgs (sub 25 4), defBody (sub 25 4), defScope (sub 25 4), [], []⟩
def T16 : He.DefD := ⟨("Words", some "is_done"), "is_done", "Words.is_done", defArgs (sub 25 5), defBody (sub 25 5), defScope (sub 25 5), [], []⟩
def T17 : He.DefD := ⟨("pulled_term", none), "pulled_term", "pulled_term", defArgs (top 26), defBody (top 26), defScope (top 26), [], []⟩
def T18 : He.DefD := ⟨("term_in", none), "term_in", "term_in", defArgs (top 27), defBody (top 27), defScope (top 27), [], []⟩
def T19 : He.DefD := ⟨("read_term", none), "read_term", "read_term", defArgs (top 28), defBody (top 28), defScope (top 28), [], []⟩
def T20 : He.DefD := ⟨("_law_pool", none), "_law_pool", "_law_pool", defArgs (top 30), defBody (top 30), defScope (top 30), [], []⟩
def T21 : He.DefD := ⟨("_law_draw", none), "_law_draw", "_law_draw", defArgs (top 31), defBody (top 31), defScope (top 31), [], []⟩
def T22 : He.DefD := ⟨("_law_pick", none), "_law_pick", "_law_pick", defArgs (top 32), defBody (top 32), defScope (top 32), [], []⟩
def T23 : He.DefD := ⟨("_law_names", none), "_law_names", "_law_names", defArgs (top 33), defBody (top 33), defScope (top 33), [], []⟩
def T24 : He.DefD := ⟨("_law_term", none), "_law_term", "_law_term", defArgs (top 34), defBody (top 34), defScope (top 34), [], []⟩
def T25 : He.DefD := ⟨("_law_term_text", none), "_law_term_text", "_law_term_text", defArgs (top 35), defBody (top 35), defScope (top 35), [], []⟩
def T26 : He.DefD := ⟨("_law_read", none), "_law_read", "_law_read", defArgs (top 36), defBody (top 36), defScope (top 36), [], []⟩
def T27 : He.DefD := ⟨("law", none), "law", "law", defArgs (top 37), defBody (top 37), defScope (top 37), [], []⟩
def mp : MP := ⟨mm, [T0, T1, T2, T3, T4, T5, T6, T7, T8, T9, T10, T11, T12, T13, T14, T15, T16, T17, T18, T19, T20, T21, T22, T23, T24, T25, T26, T27], [["k"], ["self", "index"], ["value"], ["value", "least", "most"], ["value"], ["value", "sign"], ["value", "kind", "many"], ["term"], ["value", "arguments", "kind"], ["value", "arguments", "turn", "layer", "parts", "term", "part"], ["term", "part"], ["self", "words"], ["self"], ["self", "known"], ["self", "least", "most", "word"], ["self", "word"], ["self"], ["words", "deep", "word", "name", "many", "turn"], ["words", "arguments", "row", "term"], ["text", "arguments", "term"], ["script", "k", "cell", "size", "mixed"], ["pool", "many", "found"], ["pool", "row"], ["pool", "count", "signs", "ends", "origin", "step", "head", "tail", "k"], ["pool", "b", "many", "deep", "kind", "head", "f", "at"], ["term", "part"], ["text", "many", "e"], ["script", "k", "pool", "b", "turn", "odds", "names", "many", "term", "text", "words", "at", "bent", "some", "told", "odd"]]⟩
def xis : List XI := [⟨1, T1⟩]
end K79
set_option maxHeartbeats 0
open PySem Mi L2 K79
namespace K79
theorem s_defs : defsB mm tab.fns mp.fn mp.NS = true := by decide +kernel
theorem st0 : St0 mp := ⟨by decide +kernel, by decide +kernel, by decide +kernel, s_defs, by decide +kernel, by decide +kernel⟩
end K79
set_option maxHeartbeats 4000000
set_option maxHeartbeats 0
namespace K79
open PySem PySem.Spec PyProof.Rows L2 Mi
abbrev RW := PySem.Challenge.rw_looseties_k79_whole_terms_as_texts
abbrev R : PySem.W.OpenRow := PySem.W.OpenLaw.row RW
def loose : List Str := ("_wall" : Str) :: ("__name__" : Str) :: ("StoreError" : Str) :: ("BadText" : Str) :: ("LETTERS" : Str) :: ("MOST_LETTERS" : Str) :: ("MOST_VALUE" : Str) :: ("is_integer" : Str) :: ("is_between" : Str) :: ("is_value" : Str) :: ("is_name" : Str) :: ("has_kind" : Str) :: ("MOST_PARTS" : Str) :: ("MOST_DEPTH" : Str) :: ("MOST_ARGUMENTS" : Str) :: ("PAIRS" : Str) :: ("inner_terms" : Str) :: ("has_form" : Str) :: ("is_term" : Str) :: ("FIGURES" : Str) :: ("VALUES" : Str) :: ("write_term" : Str) :: ("Words" : Str) :: ("pulled_term" : Str) :: ("term_in" : Str) :: ("read_term" : Str) :: ("_law_pool" : Str) :: ("_law_draw" : Str) :: ("_law_pick" : Str) :: ("_law_names" : Str) :: ("_law_term" : Str) :: ("_law_term_text" : Str) :: ("_law_read" : Str) :: []
def fns : List He.DefD := mp.fn ++ xis.map (·.dd)
abbrev hk : PySem.W.Hook := hookM 5 fns (okK mp xis)
def ob (s : PySem.W.SharedT) : He.AlD × Bool := obsM 5 fns (okK mp xis) (HandSHeadRun.getT s)
theorem ob_eq (s : PySem.W.SharedT) : ob s = hk.obs s.abs := obsM_eq (HandSHeadRun.getT_eq s)
theorem run (w : World) : HandSHeadRun.RunEq R (PySem.W.view R.prog [37]) hk ob 1600 loose w := by
  intro os
  kernel_rfl
end K79
set_option maxHeartbeats 4000000
set_option maxHeartbeats 0
open PySem PySem.W PySem.Calls PyProof.Rows
theorem PySem.Challenge.cw_looseties_k79_whole_terms_as_texts_holds : PySem.Challenge.rw_looseties_k79_whole_terms_as_texts.Holds := by
  w_on; o_law
  refine HandSHeadRun.head_any (r := K79.R) (q := view K79.R.prog [37]) (H := K79.hk) (ob := K79.ob) (M := 1600) (loose := K79.loose) (d := HandSHeadRun.topDef K79.R.prog 37) (kwd := []) K79.ob_eq
    (by kernel_rfl) (fun s => by kernel_rfl) K79.run (by kernel_rfl) (by kernel_rfl) (by kernel_rfl) (by rfl) (by first | assumption | decide +kernel) (by decide +kernel) ⟨rfl, rfl, rfl, rfl, rfl, by decide +kernel⟩ ?hw ?hc
  case hw => w_witness2
  case hc =>
    refine LamX.walk_ofTsE (l := K79.RW) (n := 63) (k := 2 * (59 + 1) + 1) (x := "script") (CX := fun w => L2.CX K79.RW.prog w) rfl (by decide) (by kernel_rfl) ⟨rfl, by decide, by decide⟩ ?F fun w H s e s' => Mi.cx_no _ w H s e s'
    intro w mg fa h Y G hmg0
    have hmg : mg ("law" : PySem.Str) = some (.ref fa) := by
      have e : (HandSHeadRun.topDef K79.R.prog 37).name = ("law" : PySem.Str) := by kernel_rfl
      rw [← e]
      exact hmg0
    exact Mi.lawAt_of (f := K79.F_law) (d := K79.D_law) (dd := K79.T27) K79.st0 rfl rfl (by decide +kernel) rfl (by decide +kernel) rfl K79.law_ok Y G hmg
set_option maxHeartbeats 4000000
