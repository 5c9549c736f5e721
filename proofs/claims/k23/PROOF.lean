import PyProof.Rows.All
import Wide.All
import OpenK.AllK
import Wide.FinOn
import HandS.ForMost
import HandS.Exc
import HandS.ExcOwn
import HandS.WordsExc
import HandS.TupAny
import HandS.Deep
import HandS.Style
import HandS.Zip
import HandS.IsInst
import HandS.Wide
import HandS.Flow
import HandS.Iter
import HandS.Text
import KE.SortData
import HandS.AnyAll
import HandS.Replace
import PyProof.Draws
import KE.GoesEnum
import HandS.Defaults
import HandS.Head0
import HandS.Head1
import HandS.Head2
import HandS.HeadEnd
import HandS.HeadHook1
import HandS.HeadHook2
import HandS.Codes
import PySem.Challenge.RW_doubledoors_k23_whole_texts_read_back
section
set_option Elab.async false
set_option linter.all false
set_option maxRecDepth 100000
/-! DL1: the evaluator. Data are PyData; what may still change is a cell of the store. -/
namespace DL
open PySem

abbrev D := PyData
inductive Cell where
  | lst (xs : List D) | dic (kvs : List (D × D)) | fz (d : D)
inductive Val where
  | d (x : D) | r (n : Nat)
abbrev Store := List Cell
abbrev Env := List (Option Val)
structure Exn where
  c : Nat
  fs : List D
inductive R (α : Type) where
  | ok (a : α) (m : Store) | ex (x : Exn) (m : Store) | no
def R.bind {α β : Type} : R α → (α → Store → R β) → R β
  | .ok a m, f => f a m
  | .ex x m, _ => .ex x m
  | .no, _ => .no
@[simp] theorem R.bind_ok {α β : Type} (a : α) (m : Store) (f : α → Store → R β) : R.bind (.ok a m) f = f a m := rfl
@[simp] theorem R.bind_ex {α β : Type} (x : Exn) (m : Store) (f : α → Store → R β) : R.bind (.ex x m) f = .ex x m := rfl
@[simp] theorem R.bind_no {α β : Type} (f : α → Store → R β) : R.bind .no f = .no := rfl

def Cell.data : Cell → D
  | .lst xs => .list xs
  | .dic kvs => .dict kvs
  | .fz d => d
/-- what a value holds now -/
def rd (v : Val) (m : Store) : Option D := match v with
  | .d x => some x
  | .r n => (m[n]?).map Cell.data
/-- a value for good: its cell changes no more -/
def fz (v : Val) (m : Store) : R D := match v with
  | .d x => .ok x m
  | .r n => match m[n]? with
    | some c => .ok c.data (m.set n (.fz c.data))
    | none => .no
def rdR (v : Val) (m : Store) : R D := match rd v m with
  | some d => .ok d m
  | none => .no
def new (c : Cell) (m : Store) : R Val := .ok (.r m.length) (m ++ [c])
def ofO {α : Type} (o : Option α) (m : Store) : R α := match o with
  | some a => .ok a m
  | none => .no

inductive Op where
  | add | sub | mul | fdiv | mod | pow
  deriving DecidableEq
inductive Cm where
  | eq | ne | lt | le | gt | ge | isin | notin | is | isnot
  deriving DecidableEq
inductive Bi where
  | len | tuple | list | all | any | sorted | int | str | bool | min | set
  deriving DecidableEq
inductive Ty where
  | tuple | list | int | bool | str
  deriving DecidableEq
inductive Tg where
  | nm (i : Nat) | tp (is : List Nat)

mutual
inductive PX (F : Type) where
  | lit (d : D) | loc (i : Nat) | tup (es : PXs F) | lst (es : PXs F) | dsp (ks vs : PXs F)
  | bin (o : Op) (a b : PX F) | neg (a : PX F) | not (a : PX F) | and (a b : PX F) | or (a b : PX F)
  | cmp (c : Cm) (a b : PX F) | chain (c c' : Cm) (a b e : PX F)
  | ite (c a b : PX F) | idx (a i : PX F) | sli (a : PX F) (lo hi : PO F) | rev (a : PX F)
  | call (f : F) (es : PXs F) | blt (b : Bi) (es : PXs F) | isi (e : PX F) (ts : List Ty)
  | app (o e : PX F) | mpop (o : PX F) | mget (o k x : PX F) | midx (o e : PX F) | join (o e : PX F) | split (o e : PX F) | count (o e : PX F)
  | comp (elt : PX F) (t : Tg) (it : It F) (c : PO F) (own : List Nat)
  | comp2 (elt : PX F) (t : Tg) (it : It F) (t2 : Tg) (it2 : It F) (c : PO F) (own own2 : List Nat)
  | dcomp (k v : PX F) (t : Tg) (it : It F) (own : List Nat)
inductive PXs (F : Type) where
  | nil | cons (keep : Bool) (e : PX F) (r : PXs F)
inductive PO (F : Type) where
  | no | so (e : PX F)
inductive It (F : Type) where
  | of (e : PX F) | rng1 (e : PX F) | rng2 (a b : PX F) | rng3 (a b c : PX F) | enum (e : PX F) | zip (a b : PX F)
end
mutual
inductive PS (F : Type) where
  | asg (t : Tg) (e : PX F) | set (o i e : PX F) | par (is : List Nat) (es : PXs F) | aug (i : Nat) (o : Op) (e : PX F)
  | ex (e : PX F) | iff (c : PX F) (a b : PSs F) | for (t : Tg) (it : It F) (b : PSs F) | whl (c : PX F) (b : PSs F)
  | ret (e : PX F) | ret0 | pass | rais (c : Nat) (es : PXs F)
inductive PSs (F : Type) where
  | nil | cons (s : PS F) (r : PSs F)
end

/-! ### the operations, on data -/
def tru : D → Option Bool
  | .none => some false
  | .bool b => some b
  | .int i => some (i != 0)
  | .str x => if x.length ≤ sizeLine then some ((x.length : Int) != 0) else none
  | .list xs => some (!xs.isEmpty)
  | .tuple xs => some (!xs.isEmpty)
  | .dict kvs => some (!kvs.isEmpty)

/-- a new value: data at hand, a new tuple, a new list, a new dict -/
inductive Out where
  | at (d : D) | tup (xs : List D) | lst (xs : List D) | dic (kvs : List (D × D))
def put (o : Out) (m : Store) : R Val := match o with
  | .at d => .ok (.d d) m
  | .tup xs => if xs.length ≤ sizeLine then .ok (.d (.tuple xs)) m else .no
  | .lst xs => if xs.length ≤ sizeLine then new (.lst xs) m else .no
  | .dic kvs => if kvs.length ≤ sizeLine then new (.dic kvs) m else .no

def smallI (i : Int) : Bool := decide (-(2 ^ 64) < i) && decide (i < 2 ^ 64)
def opF : Op → D → D → Option Out
  | .add, .int i, .int j => some (.at (.int (i + j)))
  | .add, .str x, .str y => if x.length + y.length ≤ sizeLine then some (.at (.str (x ++ y))) else none
  | .add, .tuple xs, .tuple ys => if xs.length + ys.length ≤ sizeLine then some (.tup (xs ++ ys)) else none
  | .add, .list xs, .list ys => if xs.length + ys.length ≤ sizeLine then some (.lst (xs ++ ys)) else none
  | .sub, .int i, .int j => some (.at (.int (i - j)))
  | .mul, .int i, .int j => if smallI i || smallI j then some (.at (.int (i * j))) else none
  | .mul, .list xs, .int k => if decide (-(2 ^ 63) ≤ k) && decide (k < 2 ^ 63) && decide (xs.length * k.toNat ≤ sizeLine) then some (.lst (List.replicate k.toNat xs).flatten) else none
  | .fdiv, .int i, .int j => if decide (0 < j) && decide (j < 1073741824) then some (.at (.int (i / j))) else none
  | .mod, .int i, .int j => if decide (0 < j) then some (.at (.int (i % j))) else none
  | .pow, .int i, .int j => if decide (0 ≤ j) && decide (j ≤ 1000000) && decide (i.natAbs < 2 ^ 64) then some (.at (.int (i ^ j.toNat))) else none
  | _, _, _ => none

def atom : D → Bool
  | .none => true | .bool _ => true | .int _ => true | .str _ => true
  | _ => false

def eqD (x y : D) : Option Bool := if SeqAt.shaped x && SeqAt.shaped y then some (PyData.eqv x y) else none
mutual
/-- the two can be compared, place by place -/
def near : PyData → PyData → Bool
  | .none, .none => true
  | .bool _, .bool _ => true
  | .bool _, .int _ => true
  | .int _, .bool _ => true
  | .int _, .int _ => true
  | .str _, .str _ => true
  | .list xs, .list ys => nearAll xs ys
  | .tuple xs, .tuple ys => nearAll xs ys
  | _, _ => false
def nearAll : List PyData → List PyData → Bool
  | x :: xs, y :: ys => near x y && nearAll xs ys
  | [], _ => true
  | _ :: _, [] => true
end
def notNone : D → Bool
  | .none => false
  | _ => true
/-- x < y -/
def ltD (x y : D) : Option Bool := if near x y && SeqAt.shaped x && SeqAt.shaped y && notNone x then some (PySem.W.dataLt x y) else none
def tyNo : D → Nat
  | .none => 0 | .bool _ => 1 | .int _ => 2 | .str _ => 3 | .list _ => 4 | .tuple _ => 5 | .dict _ => 6
def firstD : PyData → PyData
  | .tuple (x :: _) => x
  | _ => .none
def isTup1 : D → Bool
  | .tuple (_ :: _) => true
  | _ => false
def isTupD : PyData → Bool
  | .tuple _ => true
  | _ => false
def allSame (f : D → Nat) (xs : List D) : Bool := xs.all fun x => xs.all fun y => f x == f y
def sortOk (xs : List D) : Bool := (xs.all fun x => SeqAt.shaped x) && (xs.all fun x => xs.all fun y => near x y) &&
  ((xs.all isTup1 && allSame (fun x => tyNo (firstD x)) xs) || ((xs.all fun x => notNone x && !isTupD x) && allSame tyNo xs))
def sortD (xs : List D) : List D := xs.mergeSort (PySem.W.dataLe false id)

def cmF : Cm → D → D → Option Bool
  | .eq, x, y => eqD x y
  | .ne, x, y => (eqD x y).map not
  | .lt, x, y => ltD x y
  | .le, .int i, .int j => some (decide (i ≤ j))
  | .gt, .int i, .int j => some (decide (j < i))
  | .ge, .int i, .int j => some (decide (j ≤ i))
  | .isin, x, .list ys => if SeqAt.shaped x && SeqAt.shaped (.list ys) then some (ys.any fun z => PyData.eqv z x) else none
  | .isin, x, .tuple ys => if SeqAt.shaped x && SeqAt.shaped (.tuple ys) then some (ys.any fun z => PyData.eqv z x) else none
  | .notin, x, .list ys => if SeqAt.shaped x && SeqAt.shaped (.list ys) then some (!ys.any fun z => PyData.eqv z x) else none
  | .notin, x, .tuple ys => if SeqAt.shaped x && SeqAt.shaped (.tuple ys) then some (!ys.any fun z => PyData.eqv z x) else none
  | .isin, x, .dict kvs => if SeqAt.shaped x then some (kvs.any fun z => PyData.eqv z.1 x) else none
  | .notin, x, .dict kvs => if SeqAt.shaped x then some (!kvs.any fun z => PyData.eqv z.1 x) else none
  | .is, x, .none => some (match x with | .none => true | _ => false)
  | .isnot, x, .none => some (match x with | .none => false | _ => true)
  | .is, .bool a, .bool b => some (a == b)
  | .isnot, .bool a, .bool b => some (!(a == b))
  | _, _, _ => none

def ixAt (xs : List D) (i : Int) : Option D := L2.atI xs i
def ixF : D → D → Option D
  | .list xs, .int i => L2.atI xs i
  | .tuple xs, .int i => L2.atI xs i
  | .str z, .int i => if z.length ≤ sizeLine then (L2.atI z.cps.toList i).map fun c => .str ⟨#[c]⟩ else none
  | .dict kvs, k => if SeqAt.shaped k then (kvs.find? fun z => PyData.eqv z.1 k).map (·.2) else none
  | _, _ => none
def cutD (xs : List D) (lo hi : Option Int) : List D := (xs.drop (HT.sIx xs.length 0 lo)).take (HT.sIx xs.length xs.length hi - HT.sIx xs.length 0 lo)
def slF : D → Option Int → Option Int → Option Out
  | .list xs, lo, hi => some (.lst (cutD xs lo hi))
  | .tuple xs, lo, hi => some (.tup (cutD xs lo hi))
  | .str z, lo, hi => if z.length ≤ sizeLine then some (.at (.str (L2.cutS z lo hi))) else none
  | _, _, _ => none
def revF : D → Option Out
  | .list xs => some (.lst xs.reverse)
  | .tuple xs => some (.tup xs.reverse)
  | _ => none
def tyF : Ty → D → Option Bool
  | _, .dict _ => none
  | .tuple, .tuple _ => some true
  | .list, .list _ => some true
  | .int, .int _ => some true
  | .int, .bool _ => some true
  | .bool, .bool _ => some true
  | .str, .str _ => some true
  | _, _ => some false
def boolsOf : List D → Option (List Bool)
  | [] => some []
  | .bool b :: r => (boolsOf r).map (b :: ·)
  | _ => none
def strsOf : List D → Option (List Str)
  | [] => some []
  | .str x :: r => (strsOf r).map (x :: ·)
  | _ => none
def blF : Bi → List D → Option Out
  | .len, [.list xs] => some (.at (.int xs.length))
  | .len, [.tuple xs] => some (.at (.int xs.length))
  | .len, [.str x] => if x.length ≤ sizeLine then some (.at (.int x.length)) else none
  | .len, [.dict kvs] => some (.at (.int kvs.length))
  | .tuple, [.list xs] => some (.tup xs)
  | .tuple, [.tuple xs] => some (.at (.tuple xs))
  | .list, [.list xs] => some (.lst xs)
  | .list, [.tuple xs] => some (.lst xs)
  | .list, [.dict kvs] => some (.lst (kvs.map (·.1)))
  | .all, [.list xs] => (boolsOf xs).map fun bs => .at (.bool (bs.all id))
  | .any, [.list xs] => (boolsOf xs).map fun bs => .at (.bool (bs.any id))
  | .sorted, [.list xs] => if sortOk xs then some (.lst (sortD xs)) else none
  | .int, [.int i] => some (.at (.int i))
  | .int, [.bool b] => some (.at (.int (if b then 1 else 0)))
  | .str, [.int i] => if i.natAbs.log2 < 1920 then some (.at (.str (toString i))) else none
  | .str, [.str x] => some (.at (.str x))
  | .bool, [.bool b] => some (.at (.bool b))
  | .min, [.int i, .int j] => some (.at (.int (if j < i then j else i)))
  | _, _ => none

def asInt : D → Option Int
  | .int i => some i
  | _ => none
def rgOk (i : Int) : Bool := decide (-(2 ^ 62) ≤ i) && decide (i < 2 ^ 62)
def rgD (a : Int) (n : Nat) : List D := (List.range n).map fun k => .int (a + (k : Nat))
def rg3 (i j k : Int) : Bool := decide (k ≠ 0) && decide (k.natAbs < 1073741824) && Builtin.Range.small i j k && decide (0 ≤ Builtin.Range.rangeSize i j k)
def rgS (a c : Int) (n : Nat) : List D := (List.range n).map fun k => .int (a + (k : Nat) * c)
def seqOf : D → Option (List D)
  | .list xs => some xs
  | .tuple xs => some xs
  | _ => none
def setAll : List Nat → List D → Env → Option Env
  | [], [], ρ => some ρ
  | i :: is, x :: xs, ρ => setAll is xs (ρ.set i (some (.d x)))
  | _, _, _ => none
/-- a target that gets data -/
def asgD (t : Tg) (x : D) (ρ : Env) : Option Env := match t with
  | .nm i => some (ρ.set i (some (.d x)))
  | .tp is => match x with
    | .tuple xs => setAll is xs ρ
    | _ => none
def wipeE (ρ : Env) : List Nat → Env
  | [] => ρ
  | v :: vs => (wipeE ρ vs).set v none
def allD : List Val → Option (List D)
  | [] => some []
  | .d x :: r => (allD r).map (x :: ·)
  | _ => none
def rdAll (m : Store) : List Val → Option (List D)
  | [] => some []
  | v :: r => match rd v m, rdAll m r with
    | some x, some xs => some (x :: xs)
    | _, _ => none

/-- the turns of a comprehension: what was made so far, a turn's item or none -/
def compLoop (f : D → Store → R (Option D)) : List D → List D → Store → R (List D)
  | [], acc, m => .ok acc m
  | x :: xs, acc, m => (f x m).bind fun o m1 => match o with
    | some y => compLoop f xs (acc ++ [y]) m1
    | none => compLoop f xs acc m1
/-- the turns of a for loop -/
inductive Fl where
  | nx (ρ : Env) | rt (v : Val)
def forLoop (f : D → Env → Store → R Fl) : List D → Env → Store → R Fl
  | [], ρ, m => .ok (.nx ρ) m
  | x :: xs, ρ, m => (f x ρ m).bind fun o m1 => match o with
    | .nx ρ1 => forLoop f xs ρ1 m1
    | .rt v => .ok (.rt v) m1
def whileLoop (c : Env → Store → R Bool) (f : Env → Store → R Fl) : Nat → Env → Store → R Fl
  | 0, _, _ => .no
  | n + 1, ρ, m => (c ρ m).bind fun b m1 => if b then (f ρ m1).bind fun o m2 => match o with
      | .nx ρ1 => whileLoop c f n ρ1 m2
      | .rt v => .ok (.rt v) m2
    else .ok (.nx ρ) m1
def put1 (m : Store) (n : Nat) (c : Cell) : Store := m.set n c
def opR (o : Op) (v w : Val) (m : Store) : R Val := match rd v m, rd w m with
  | some x, some y => match opF o x y with
    | some z => put z m
    | none => .no
  | _, _ => .no
def cmR (c : Cm) (v w : Val) (m : Store) : R Val := match rd v m, rd w m with
  | some x, some y => match cmF c x y with
    | some b => .ok (.d (.bool b)) m
    | none => .no
  | _, _ => .no
def truR (v : Val) (m : Store) : R Bool := match rd v m with
  | some x => match tru x with
    | some b => .ok b m
    | none => .no
  | none => .no
def partI (v : Val) (m : Store) : R (Option Int) := match rd v m with
  | some (.int i) => .ok (some i) m
  | _ => .no
def setAt (v i : Val) (x : D) (m : Store) : R Unit := match v, rd i m with
  | .r n, some (.int k) => match m[n]? with
    | some (.lst xs) => match L2.ixN xs.length k with
      | some j => .ok () (m.set n (.lst (xs.set j x)))
      | none => .no
    | _ => .no
  | _, _ => .no
def isLst (v : Val) (m : Store) : Bool := match rd v m with
  | some (.list _) => true
  | _ => false
/-- no exception -/
def R.calm {α : Type} : R α → R α
  | .ok a m => .ok a m
  | _ => .no
def app1 (v : Val) (x : D) (m : Store) : R Val := match v with
  | .r n => match m[n]? with
    | some (.lst xs) => if xs.length < sizeLine then .ok (.d .none) (m.set n (.lst (xs ++ [x]))) else .no
    | _ => .no
  | _ => .no
def pop1 (v : Val) (m : Store) : R Val := match v with
  | .r n => match m[n]? with
    | some (.lst xs) => match xs[xs.length - 1]? with
      | some y => .ok (.d y) (m.set n (.lst xs.dropLast))
      | none => .no
    | _ => .no
  | _ => .no
/-- a op= b at a name -/
def augR (o : Op) (v w : Val) (m : Store) : R Val := match o, v with
  | .add, .r n => match m[n]?, rd w m with
    | some (.lst xs), some (.list ys) => if xs.length + ys.length ≤ sizeLine then .ok (.r n) (m.set n (.lst (xs ++ ys))) else .no
    | _, _ => .no
  | .add, .d (.int i) => match rd w m with
    | some (.int j) => .ok (.d (.int (i + j))) m
    | _ => .no
  | _, _ => .no
def isiF (ts : List Ty) (x : D) : Option Bool := match ts with
  | [] => some false
  | t :: r => match tyF t x with
    | some true => some true
    | some false => isiF r x
    | none => none
def joinF : D → D → Option Str
  | .str sep, .list xs => match strsOf xs with
    | some ys => if (ys.map (·.length)).sum + ys.length * sep.length ≤ 16777216 then some (Txt.join sep ys) else none
    | none => none
  | _, _ => none
def splitF : D → D → Option (List Str)
  | .str a, .str b => if (b.length == 0) = false && decide (a.length + 2 ≤ sizeLine) then some (Txt.split a b) else none
  | _, _ => none
def firstIx (xs : List D) (x : D) : Option Nat := xs.findIdx? fun z => PyData.eqv z x

section
variable {F : Type} (Φ : F → List Val → Store → R Val) (L : Nat)
mutual
def ev : PX F → Env → Store → R Val
  | .lit x, _, m => .ok (.d x) m
  | .loc i, ρ, m => match ρ[i]? with
    | some (some v) => .ok v m
    | _ => .no
  | .tup es, ρ, m => (evs es ρ m).bind fun vs m1 => match allD vs with
    | some xs => put (.tup xs) m1
    | none => .no
  | .lst es, ρ, m => (evs es ρ m).bind fun vs m1 => match allD vs with
    | some xs => put (.lst xs) m1
    | none => .no
  | .dsp _ _, _, _ => .no
  | .bin o a b, ρ, m => (ev a ρ m).bind fun v m1 => (ev b ρ m1).bind fun w m2 => opR o v w m2
  | .neg a, ρ, m => (ev a ρ m).bind fun v m1 => match rd v m1 with
    | some (.int i) => .ok (.d (.int (-i))) m1
    | _ => .no
  | .not a, ρ, m => ((ev a ρ m).bind truR).bind fun b m1 => .ok (.d (.bool (!b))) m1
  | .and a b, ρ, m => (ev a ρ m).bind fun v m1 => (truR v m1).bind fun t m2 => if t then ev b ρ m2 else .ok v m2
  | .or a b, ρ, m => (ev a ρ m).bind fun v m1 => (truR v m1).bind fun t m2 => if t then .ok v m2 else ev b ρ m2
  | .cmp c a b, ρ, m => (ev a ρ m).bind fun v m1 => (ev b ρ m1).bind fun w m2 => cmR c v w m2
  | .chain c c' a b e, ρ, m => (ev a ρ m).bind fun v m1 => (ev b ρ m1).bind fun w m2 => (cmR c v w m2).bind fun t m3 => match t with
    | .d (.bool true) => (ev e ρ m3).bind fun u m4 => cmR c' w u m4
    | .d (.bool false) => .ok t m3
    | _ => .no
  | .ite c a b, ρ, m => ((ev c ρ m).bind truR).bind fun t m1 => if t then ev a ρ m1 else ev b ρ m1
  | .idx a i, ρ, m => (ev a ρ m).bind fun v m1 => (ev i ρ m1).bind fun w m2 => match rd v m2, rd w m2 with
    | some x, some y => match ixF x y with
      | some z => .ok (.d z) m2
      | none => .no
    | _, _ => .no
  | .sli a lo hi, ρ, m => (ev a ρ m).bind fun v m1 => (evO lo ρ m1).bind fun l m2 => (evO hi ρ m2).bind fun h m3 => match rd v m3 with
    | some x => match slF x l h with
      | some z => put z m3
      | none => .no
    | none => .no
  | .rev a, ρ, m => (ev a ρ m).bind fun v m1 => match rd v m1 with
    | some x => match revF x with
      | some z => put z m1
      | none => .no
    | none => .no
  | .call f es, ρ, m => (evs es ρ m).bind fun vs m1 => Φ f vs m1
  | .blt b es, ρ, m => (evs es ρ m).bind fun vs m1 => match rdAll m1 vs with
    | some xs => match blF b xs with
      | some z => put z m1
      | none => .no
    | none => .no
  | .isi e ts, ρ, m => (ev e ρ m).bind fun v m1 => match rd v m1 with
    | some x => match isiF ts x with
      | some b => .ok (.d (.bool b)) m1
      | none => .no
    | none => .no
  | .app o e, ρ, m => (ev o ρ m).bind fun v m1 => if isLst v m1 then (ev e ρ m1).bind fun w m2 => (fz w m2).bind fun x m3 => app1 v x m3 else .no
  | .mpop o, ρ, m => (ev o ρ m).bind fun v m1 => pop1 v m1
  | .mget o k x, ρ, m => (ev o ρ m).bind fun v m1 => (ev k ρ m1).bind fun w m2 => (ev x ρ m2).bind fun u m3 => match rd v m3, rd w m3, rd u m3 with
    | some (.dict kvs), some y, some z => match ixF (.dict kvs) y with
      | some t => .ok (.d t) m3
      | none => if SeqAt.shaped y then .ok (.d z) m3 else .no
    | _, _, _ => .no
  | .midx o e, ρ, m => (ev o ρ m).bind fun v m1 => match v with
    | .d (.str a) => (ev e ρ m1).bind fun w m2 => match rd w m2 with
      | some (.str b) => (match Builtin.Str.occurrences a b 0 a.length 1 with
        | i :: _ => .ok (.d (.int (i : Nat))) m2
        | [] => .no)
      | _ => .no
    | _ => .no
  | .join o e, ρ, m => (ev o ρ m).bind fun v m1 => match v with
    | .d (.str a) => (ev e ρ m1).bind fun w m2 => match rd w m2 with
      | some y => match joinF (.str a) y with
        | some z => .ok (.d (.str z)) m2
        | none => .no
      | none => .no
    | _ => .no
  | .split o e, ρ, m => (ev o ρ m).bind fun v m1 => match v with
    | .d (.str a) => (ev e ρ m1).bind fun w m2 => match rd w m2 with
      | some y => match splitF (.str a) y with
        | some zs => put (.lst (zs.map .str)) m2
        | none => .no
      | none => .no
    | _ => .no
  | .count _ _, _, _ => .no
  | .comp elt t it c own, ρ, m => (evI it ρ m).bind fun xs m1 =>
      (R.calm (compLoop (fun x m2 => match asgD t x (wipeE ρ own) with
        | some ρ1 => (evC c ρ1 m2).bind fun b m3 => if b then (ev elt ρ1 m3).bind fun v m4 => (fz v m4).bind fun y m5 => .ok (some y) m5 else .ok none m3
        | none => .no) xs [] m1)).bind fun ys m6 => put (.lst ys) m6
  | .comp2 .., _, _ => .no
  | .dcomp .., _, _ => .no
def evs : PXs F → Env → Store → R (List Val)
  | .nil, _, m => .ok [] m
  | .cons k e r, ρ, m => (ev e ρ m).bind fun v m1 => (if k then .ok v m1 else (fz v m1).bind fun x m2 => .ok (.d x) m2).bind fun w m3 => (evs r ρ m3).bind fun ws m4 => .ok (w :: ws) m4
def evO : PO F → Env → Store → R (Option Int)
  | .no, _, m => .ok none m
  | .so e, ρ, m => (ev e ρ m).bind fun v m1 => partI v m1
def evC : PO F → Env → Store → R Bool
  | .no, _, m => .ok true m
  | .so e, ρ, m => (ev e ρ m).bind truR
def evI : It F → Env → Store → R (List D)
  | .of e, ρ, m => (ev e ρ m).bind fun v m1 => (fz v m1).bind fun x m2 => ofO (seqOf x) m2
  | .rng1 e, ρ, m => (ev e ρ m).bind fun v m1 => match rd v m1 with
    | some (.int j) => if rgOk j then .ok (rgD 0 j.toNat) m1 else .no
    | _ => .no
  | .rng2 a b, ρ, m => (ev a ρ m).bind fun v m1 => (ev b ρ m1).bind fun w m2 => match rd v m2, rd w m2 with
    | some (.int i), some (.int j) => if rgOk i && rgOk j then .ok (rgD i (j - i).toNat) m2 else .no
    | _, _ => .no
  | .rng3 a b c, ρ, m => (ev a ρ m).bind fun v m1 => (ev b ρ m1).bind fun w m2 => (ev c ρ m2).bind fun u m3 => match rd v m3, rd w m3, rd u m3 with
    | some (.int i), some (.int j), some (.int k) => if rg3 i j k then .ok (rgS i k (Builtin.Range.rangeSize i j k).toNat) m3 else .no
    | _, _, _ => .no
  | .enum e, ρ, m => (ev e ρ m).bind fun v m1 => (fz v m1).bind fun x m2 => match seqOf x with
    | some xs => .ok ((List.range xs.length).zipWith (fun k y => .tuple [.int (k : Nat), y]) xs) m2
    | none => .no
  | .zip a b, ρ, m => (ev a ρ m).bind fun v m1 => (fz v m1).bind fun x m2 => (ev b ρ m2).bind fun w m3 => (fz w m3).bind fun y m4 => match seqOf x, seqOf y with
    | some xs, some ys => if isTupD x == isTupD y then .ok (xs.zipWith (fun a b => .tuple [a, b]) ys) m4 else .no
    | _, _ => .no
end
abbrev evT (e : PX F) (ρ : Env) (m : Store) : R Bool := (ev Φ e ρ m).bind truR
mutual
def evS : PS F → Env → Store → R Fl
  | .asg t e, ρ, m => (ev Φ e ρ m).bind fun v m1 => match t with
    | .nm i => .ok (.nx (ρ.set i (some v))) m1
    | .tp is => match rd v m1 with
      | some x => match asgD (.tp is) x ρ with
        | some ρ1 => .ok (.nx ρ1) m1
        | none => .no
      | none => .no
  | .set o i e, ρ, m => (ev Φ e ρ m).bind fun v m1 => (fz v m1).bind fun x m2 => (ev Φ o ρ m2).bind fun w m3 => (ev Φ i ρ m3).bind fun k m4 => (setAt w k x m4).bind fun _ m5 => .ok (.nx ρ) m5
  | .par is es, ρ, m => (evs Φ es ρ m).bind fun vs m1 => match is, vs with
    | [i, j], [v, w] => .ok (.nx ((ρ.set i (some v)).set j (some w))) m1
    | [i, j, k], [v, w, u] => .ok (.nx (((ρ.set i (some v)).set j (some w)).set k (some u))) m1
    | _, _ => .no
  | .aug i o e, ρ, m => match ρ[i]? with
    | some (some v) => (ev Φ e ρ m).bind fun w m1 => (augR o v w m1).bind fun u m2 => .ok (.nx (ρ.set i (some u))) m2
    | _ => .no
  | .ex e, ρ, m => (ev Φ e ρ m).bind fun _ m1 => .ok (.nx ρ) m1
  | .iff c a b, ρ, m => (evT Φ c ρ m).bind fun t m1 => if t then evSs a ρ m1 else evSs b ρ m1
  | .for t it b, ρ, m => (evI Φ it ρ m).bind fun xs m1 => forLoop (fun x ρ1 m2 => match asgD t x ρ1 with
    | some ρ2 => evSs b ρ2 m2
    | none => .no) xs ρ m1
  | .whl c b, ρ, m => whileLoop (fun ρ1 m1 => evT Φ c ρ1 m1) (fun ρ1 m1 => evSs b ρ1 m1) L ρ m
  | .ret e, ρ, m => (ev Φ e ρ m).bind fun v m1 => .ok (.rt v) m1
  | .ret0, _, m => .ok (.rt (.d .none)) m
  | .pass, ρ, m => .ok (.nx ρ) m
  | .rais _ _, _, _ => .no
def evSs : PSs F → Env → Store → R Fl
  | .nil, ρ, m => .ok (.nx ρ) m
  | .cons s r, ρ, m => (evS s ρ m).bind fun o m1 => match o with
    | .nx ρ1 => evSs r ρ1 m1
    | .rt v => .ok (.rt v) m1
end
end

/-! ### defs -/
structure Fn (F : Type) where
  ps : Nat
  ns : Nat
  body : PSs F
def leave (n : Nat) (v : Val) (m : Store) : R Val := match v with
  | .d x => .ok (.d x) (m.take n)
  | .r k => if k < n then .ok (.r k) (m.take n) else match m[k]? with
    | some (.fz x) => .ok (.d x) (m.take n)
    | some c => .ok (.r n) (m.take n ++ [c])
    | none => .no
def evFn {F : Type} (Φ : F → List Val → Store → R Val) (L : Nat) (f : Fn F) (vs : List Val) (m : Store) : R Val :=
  if vs.length = f.ps then
    match evSs (F := F) Φ L f.body (vs.map some ++ List.replicate (f.ns - f.ps) none) m with
    | .ok (.nx _) m1 => .ok (.d .none) (m1.take m.length)
    | .ok (.rt v) m1 => leave m.length v m1
    | .ex x m1 => .ex x (m1.take m.length)
    | .no => .no
  else .no
def callF {F : Type} (tab : F → Fn F) (L : Nat) : Nat → F → List Val → Store → R Val
  | 0, _, _, _ => .no
  | n + 1, f, vs, m => evFn (callF tab L n) L (tab f) vs m
end DL
end
section
set_option Elab.async false
set_option linter.all false
set_option maxRecDepth 100000
set_option autoImplicit false
/-! DL2: how the evaluator's values and store stand in the abstract heap; what is wanted behind an answer. -/
namespace DL
open PySem L2

def Cell.isFz : Cell → Bool
  | .fz _ => true
  | _ => false
/-- the cells that may still change -/
structure Ix where
  l : List Addr
  x : List Addr
def Ix.add (ι : Ix) (p : Addr) : Ix := ⟨ι.l ++ [p], ι.x⟩
def Live (ι : Ix) (m : Store) (a : Addr) : Prop := (∃ (n : Nat) (c : Cell), ι.l[n]? = some a ∧ m[n]? = some c ∧ c.isFz = false) ∨ a ∈ ι.x

/-- a list of the written part -/
def KL (K : PySem.W.Frag) (a : Addr) (xs : List V) : Prop := ∃ (o : Obj) (its : Array Value) (n : Nat), K.lookup a = some o ∧ o.cls = .type "list" ∧ o.dict = none ∧ o.data = .seq its n ∧ its.size ≤ sizeLine ∧ Vals xs its.toList
mutual
inductive Rep (K : PySem.W.Frag) (H : Hp) (Lv : Addr → Prop) : V → D → Prop
  | non : Rep K H Lv .non .none
  | bl (b : Bool) : Rep K H Lv (.bl b) (.bool b)
  | int (i : Int) : Rep K H Lv (.int i) (.int i)
  | str (x : Str) : Rep K H Lv (.str x) (.str x)
  | lst {a : Addr} {vs : List V} {ds : List D} : (Rd H a (.lst vs) ∧ ¬ Lv a) ∨ KL K a vs → RepAll K H Lv vs ds → Rep K H Lv (.ref a) (.list ds)
  | tup {a : Addr} {vs : List V} {ds : List D} : SqT K H a vs → RepAll K H Lv vs ds → Rep K H Lv (.ref a) (.tuple ds)
inductive RepAll (K : PySem.W.Frag) (H : Hp) (Lv : Addr → Prop) : List V → List D → Prop
  | nil : RepAll K H Lv [] []
  | cons {v : V} {vs : List V} {d : D} {ds : List D} : Rep K H Lv v d → RepAll K H Lv vs ds → RepAll K H Lv (v :: vs) (d :: ds)
end

/-- what is kept from one state to a later one -/
structure Le (ι : Ix) (m : Store) (H : Hp) (ι' : Ix) (m' : Store) (H' : Hp) : Prop where
  pre : ∃ l, ι'.l = ι.l ++ l
  ex : ∀ a ∈ ι.x, a ∈ ι'.x
  exk : ∀ a ∈ ι.x, H' a = H a
  keep : ∀ b o, H b = some o → ¬ Live ι m b → H' b = some o ∧ ¬ Live ι' m' b
  tups : ∀ b xs, H b = some (.tup xs) → H' b = some (.tup xs)
  frzs : ∀ b o u, H b = some (.frz o u) → H' b = some (.frz o u)
section
variable {ι ι1 ι' : Ix} {m m1 m' : Store} {H H1 H' : Hp}
theorem Le.refl : Le ι m H ι m H := ⟨⟨[], by simp⟩, fun _ h => h, fun _ _ => rfl, fun _ _ h l => ⟨h, l⟩, fun _ _ h => h, fun _ _ _ h => h⟩
theorem Le.trans (a : Le ι m H ι1 m1 H1) (b : Le ι1 m1 H1 ι' m' H') : Le ι m H ι' m' H' := by
  obtain ⟨l, e⟩ := a.pre
  obtain ⟨l', e'⟩ := b.pre
  exact ⟨⟨l ++ l', by rw [e', e, List.append_assoc]⟩, fun c hc => b.ex c (a.ex c hc), fun c hc => (b.exk c (a.ex c hc)).trans (a.exk c hc), fun c o h l => let ⟨h1, l1⟩ := a.keep c o h l; b.keep c o h1 l1, fun c xs h => b.tups c xs (a.tups c xs h), fun c o u h => b.frzs c o u (a.frzs c o u h)⟩
theorem Le.at (a : Le ι m H ι' m' H') {n : Nat} {x : Addr} (h : ι.l[n]? = some x) : ι'.l[n]? = some x := by
  obtain ⟨l, e⟩ := a.pre
  rw [e, List.getElem?_append_left (List.getElem?_eq_some_iff.mp h).1]
  exact h
end

section
variable {K : PySem.W.Frag} {H H' : Hp} {Lv Lv' : Addr → Prop}
/-- tuples and what is not live stay -/
structure Up (H H' : Hp) (Lv Lv' : Addr → Prop) : Prop where
  keep : ∀ b o, H b = some o → ¬ Lv b → H' b = some o ∧ ¬ Lv' b
  tups : ∀ b xs, H b = some (.tup xs) → H' b = some (.tup xs)
  frzs : ∀ b o u, H b = some (.frz o u) → H' b = some (.frz o u)
theorem Up.sqT (u : Up H H' Lv Lv') {a : Addr} {xs : List V} (h : SqT K H a xs) : SqT K H' a xs := by
  rcases h with (h | ⟨o, h⟩) | h
  · exact .inl (.inl (u.tups _ _ h))
  · exact .inl (.inr ⟨o, u.frzs _ _ _ h⟩)
  · exact .inr h
mutual
theorem Rep.up (u : Up H H' Lv Lv') : ∀ {v : V} {d : D}, Rep K H Lv v d → Rep K H' Lv' v d
  | _, _, .non => .non
  | _, _, .bl b => .bl b
  | _, _, .int i => .int i
  | _, _, .str x => .str x
  | _, _, .lst h r => .lst (by
      rcases h with ⟨h | ⟨o, h⟩, l⟩ | h
      · obtain ⟨h1, l1⟩ := u.keep _ _ h l
        exact .inl ⟨.inl h1, l1⟩
      · obtain ⟨h1, l1⟩ := u.keep _ _ h l
        exact .inl ⟨.inr ⟨o, h1⟩, l1⟩
      · exact .inr h) (RepAll.up u r)
  | _, _, .tup h r => .tup (u.sqT h) (RepAll.up u r)
theorem RepAll.up (u : Up H H' Lv Lv') : ∀ {vs : List V} {ds : List D}, RepAll K H Lv vs ds → RepAll K H' Lv' vs ds
  | _, _, .nil => .nil
  | _, _, .cons a b => .cons (Rep.up u a) (RepAll.up u b)
end
theorem Le.up {ι ι' : Ix} {m m' : Store} (a : Le ι m H ι' m' H') : Up H H' (Live ι m) (Live ι' m') := ⟨a.keep, a.tups, a.frzs⟩
theorem RepAll.length : ∀ {vs : List V} {ds : List D}, RepAll K H Lv vs ds → vs.length = ds.length
  | _, _, .nil => rfl
  | _, _, .cons _ b => by rw [List.length_cons, List.length_cons, RepAll.length b]
theorem RepAll.app : ∀ {vs ws : List V} {ds es : List D}, RepAll K H Lv vs ds → RepAll K H Lv ws es → RepAll K H Lv (vs ++ ws) (ds ++ es)
  | _, _, _, _, .nil, b => b
  | _, _, _, _, .cons a t, b => .cons a (RepAll.app t b)
theorem RepAll.get : ∀ {vs : List V} {ds : List D} {i : Nat} {d : D}, RepAll K H Lv vs ds → ds[i]? = some d → ∃ v, vs[i]? = some v ∧ Rep K H Lv v d
  | _, _, _, _, .nil, h => by simp at h
  | _, _, 0, _, .cons a _, h => by simp at h; subst h; exact ⟨_, rfl, a⟩
  | _, _, i + 1, d, .cons _ t, h => by
    obtain ⟨v, h1, h2⟩ := RepAll.get (i := i) (d := d) t (by simpa using h)
    exact ⟨v, by simpa using h1, h2⟩
theorem RepAll.getV : ∀ {vs : List V} {ds : List D} {i : Nat} {v : V}, RepAll K H Lv vs ds → vs[i]? = some v → ∃ d, ds[i]? = some d ∧ Rep K H Lv v d
  | _, _, _, _, .nil, h => by simp at h
  | _, _, 0, _, .cons a _, h => by simp at h; subst h; exact ⟨_, rfl, a⟩
  | _, _, i + 1, d, .cons _ t, h => by
    obtain ⟨v, h1, h2⟩ := RepAll.getV (i := i) (v := d) t (by simpa using h)
    exact ⟨v, by simpa using h1, h2⟩
theorem RepAll.take : ∀ {vs : List V} {ds : List D} (n : Nat), RepAll K H Lv vs ds → RepAll K H Lv (vs.take n) (ds.take n)
  | _, _, 0, _ => .nil
  | _, _, _ + 1, .nil => .nil
  | _, _, n + 1, .cons a t => .cons a (RepAll.take n t)
theorem RepAll.drop : ∀ {vs : List V} {ds : List D} (n : Nat), RepAll K H Lv vs ds → RepAll K H Lv (vs.drop n) (ds.drop n)
  | _, _, 0, r => r
  | _, _, _ + 1, .nil => .nil
  | _, _, n + 1, .cons _ t => RepAll.drop n t
theorem RepAll.set {v : V} {d : D} (r : Rep K H Lv v d) : ∀ {vs : List V} {ds : List D} (n : Nat), RepAll K H Lv vs ds → RepAll K H Lv (vs.set n v) (ds.set n d)
  | _, _, _, .nil => .nil
  | _, _, 0, .cons _ t => .cons r t
  | _, _, n + 1, .cons a t => .cons a (RepAll.set r n t)
theorem RepAll.rev {vs : List V} {ds : List D} (r : RepAll K H Lv vs ds) : RepAll K H Lv vs.reverse ds.reverse := by
  induction vs generalizing ds with
  | nil => cases r; exact .nil
  | cons v vs ih =>
    cases r with
    | cons a t =>
      rw [List.reverse_cons, List.reverse_cons]
      exact RepAll.app (ih t) (.cons a .nil)
theorem RepAll.flat {vs : List V} {ds : List D} (r : RepAll K H Lv vs ds) : ∀ n : Nat, RepAll K H Lv (List.replicate n vs).flatten (List.replicate n ds).flatten
  | 0 => .nil
  | n + 1 => by
    rw [List.replicate_succ, List.replicate_succ, List.flatten_cons, List.flatten_cons]
    exact RepAll.app r (RepAll.flat r n)
theorem sq_of {a : Addr} {vs : List V} (h : (Rd H a (.lst vs) ∧ ¬ Lv a) ∨ KL K a vs) : SqL K H a vs := h.imp (·.1) id
mutual
theorem Rep.dp : ∀ {v : V} {d : D}, Rep K H Lv v d → Dp K H v d
  | _, _, .non => .non
  | _, _, .bl b => .bl b
  | _, _, .int i => .int i
  | _, _, .str x => .str x
  | _, _, .lst h r => .lst (sq_of h) (RepAll.dp r)
  | _, _, .tup h r => .tup h (RepAll.dp r)
theorem RepAll.dp : ∀ {vs : List V} {ds : List D}, RepAll K H Lv vs ds → DpAll K H vs ds
  | _, _, .nil => .nil
  | _, _, .cons a b => .cons (Rep.dp a) (RepAll.dp b)
end
end

/-! ### cells, values, the environment -/
def CellOk (K : PySem.W.Frag) (H : Hp) (Lv : Addr → Prop) (a : Addr) : Cell → Prop
  | .lst xs => ∃ vs, H a = some (.lst vs) ∧ RepAll K H Lv vs xs
  | .dic _ => False
  | .fz d => Rep K H Lv (.ref a) d
def RepW (K : PySem.W.Frag) (ι : Ix) (m : Store) (H : Hp) (v : V) : Val → Prop
  | .d x => Rep K H (Live ι m) v x
  | .r n => ∃ a, ι.l[n]? = some a ∧ v = .ref a
structure StOk (K : PySem.W.Frag) (ι : Ix) (m : Store) (H : Hp) : Prop where
  len : ι.l.length = m.length
  nd : ι.l.Nodup
  dis : ∀ a ∈ ι.x, a ∉ ι.l
  trk : ∀ a ∈ ι.l, ∃ o, H a = some o
  trx : ∀ a ∈ ι.x, ∃ o, H a = some o
  ok : ∀ (n : Nat) (a : Addr) (c : Cell), ι.l[n]? = some a → m[n]? = some c → CellOk K H (Live ι m) a c
structure EnvOk (K : PySem.W.Frag) (ι : Ix) (m : Store) (H : Hp) (ρ : Env) (σ : L2.St) : Prop where
  len : ρ.length = σ.length
  ok : ∀ (i : Nat) (w : Val), ρ[i]? = some (some w) → ∃ v, σ[i]? = some (some v) ∧ RepW K ι m H v w
section
variable {K : PySem.W.Frag} {ι ι' : Ix} {m m' : Store} {H H' : Hp} {v : V} {w : Val} {ρ : Env} {σ : L2.St}
theorem RepW.le (a : Le ι m H ι' m' H') (r : RepW K ι m H v w) : RepW K ι' m' H' v w := by
  cases w with
  | d x => exact Rep.up a.up r
  | r n =>
    obtain ⟨b, h1, h2⟩ := r
    exact ⟨b, a.at h1, h2⟩
theorem EnvOk.le (a : Le ι m H ι' m' H') (e : EnvOk K ι m H ρ σ) : EnvOk K ι' m' H' ρ σ :=
  ⟨e.len, fun i w h => let ⟨v, h1, h2⟩ := e.ok i w h; ⟨v, h1, h2.le a⟩⟩
theorem EnvOk.set (e : EnvOk K ι m H ρ σ) (i : Nat) (r : RepW K ι m H v w) : EnvOk K ι m H (ρ.set i (some w)) (σ.set i (some v)) := by
  refine ⟨by rw [List.length_set, List.length_set]; exact e.len, fun j w' h => ?_⟩
  by_cases hj : i = j
  · subst hj
    by_cases hl : i < ρ.length
    · rw [List.getElem?_set_self hl] at h
      cases h
      exact ⟨v, List.getElem?_set_self (by rw [← e.len]; exact hl), r⟩
    · rw [List.getElem?_eq_none (by rw [List.length_set]; omega)] at h
      cases h
  · rw [List.getElem?_set_ne hj] at h
    rw [List.getElem?_set_ne hj]
    exact e.ok j w' h
theorem EnvOk.wipe (e : EnvOk K ι m H ρ σ) : ∀ own : List Nat, EnvOk K ι m H (wipeE ρ own) (wipe σ own)
  | [] => e
  | i :: own => by
    have ih := EnvOk.wipe e own
    refine ⟨by unfold wipeE L2.wipe; rw [List.length_set, List.length_set]; exact ih.len, fun j w' h => ?_⟩
    unfold wipeE at h
    unfold L2.wipe
    by_cases hj : i = j
    · subst hj
      by_cases hl : i < (wipeE ρ own).length
      · rw [List.getElem?_set_self hl] at h; cases h
      · rw [List.getElem?_eq_none (by rw [List.length_set]; omega)] at h; cases h
    · rw [List.getElem?_set_ne hj] at h
      rw [List.getElem?_set_ne hj]
      exact ih.ok j w' h
theorem StOk.cell (s : StOk K ι m H) {n : Nat} {a : Addr} (h : ι.l[n]? = some a) : ∃ c, m[n]? = some c := by
  have hl := (List.getElem?_eq_some_iff.mp h).1
  exact ⟨_, List.getElem?_eq_getElem (by rw [← s.len]; exact hl)⟩
theorem StOk.adr (s : StOk K ι m H) {n : Nat} {c : Cell} (h : m[n]? = some c) : ∃ a, ι.l[n]? = some a := by
  have hl := (List.getElem?_eq_some_iff.mp h).1
  exact ⟨_, List.getElem?_eq_getElem (by rw [s.len]; exact hl)⟩
theorem StOk.inj (s : StOk K ι m H) {i j : Nat} {a : Addr} (h1 : ι.l[i]? = some a) (h2 : ι.l[j]? = some a) : i = j := by
  obtain ⟨l1, e1⟩ := List.getElem?_eq_some_iff.mp h1
  obtain ⟨l2, e2⟩ := List.getElem?_eq_some_iff.mp h2
  exact (List.getElem_inj s.nd).mp (e1.trans e2.symm)
end

/-- what is read of a value: its top may still change -/
inductive RepT (K : PySem.W.Frag) (H : Hp) (Lv : Addr → Prop) : V → D → Prop
  | rep {v : V} {d : D} : Rep K H Lv v d → RepT K H Lv v d
  | lst {a : Addr} {vs : List V} {ds : List D} : H a = some (.lst vs) → RepAll K H Lv vs ds → RepT K H Lv (.ref a) (.list ds)
section
variable {K : PySem.W.Frag} {ι ι' : Ix} {m m' : Store} {H H' : Hp} {Lv : Addr → Prop} {v : V} {w : Val} {ρ : Env} {σ : L2.St} {d : D}
theorem RepT.of (s : StOk K ι m H) (r : RepW K ι m H v w) (h : rd w m = some d) : RepT K H (Live ι m) v d := by
  cases w with
  | d x => cases h; exact .rep r
  | r n =>
    obtain ⟨a, h1, rfl⟩ := r
    obtain ⟨c, hc⟩ := s.cell h1
    have h' : (m[n]?).map Cell.data = some d := h
    rw [hc] at h'
    cases h'
    have q := s.ok n a c h1 hc
    cases c with
    | lst xs => obtain ⟨vs, e, q⟩ := q; exact .lst e q
    | dic kvs => exact False.elim q
    | fz x => exact .rep q
theorem RepT.dp (r : RepT K H Lv v d) : Dp K H v d := by
  cases r with
  | rep r => exact r.dp
  | lst h r => exact .lst (.inl (.inl h)) r.dp
theorem RepT.list {ds : List D} (r : RepT K H Lv v (.list ds)) : ∃ a vs, v = .ref a ∧ SqL K H a vs ∧ RepAll K H Lv vs ds := by
  cases r with
  | rep r => cases r with | lst h r => exact ⟨_, _, rfl, sq_of h, r⟩
  | lst h r => exact ⟨_, _, rfl, .inl (.inl h), r⟩
theorem RepT.tuple {ds : List D} (r : RepT K H Lv v (.tuple ds)) : ∃ a vs, v = .ref a ∧ SqT K H a vs ∧ RepAll K H Lv vs ds := by
  cases r with
  | rep r => cases r with | tup h r => exact ⟨_, _, rfl, h, r⟩
theorem RepT.int {i : Int} (r : RepT K H Lv v (.int i)) : v = .int i := by
  cases r with
  | rep r => cases r; rfl
theorem RepT.bool {b : Bool} (r : RepT K H Lv v (.bool b)) : v = .bl b := by
  cases r with
  | rep r => cases r; rfl
theorem RepT.str {x : Str} (r : RepT K H Lv v (.str x)) : v = .str x := by
  cases r with
  | rep r => cases r; rfl
theorem RepT.non (r : RepT K H Lv v .none) : v = .non := by
  cases r with
  | rep r => cases r; rfl
theorem RepT.nodict {kvs : List (D × D)} (r : RepT K H Lv v (.dict kvs)) : False := by
  cases r with
  | rep r => cases r
theorem RepT.tupRep {ds : List D} (r : RepT K H Lv v (.tuple ds)) : Rep K H Lv v (.tuple ds) := by
  cases r with
  | rep r => exact r
end

/-! ### what is wanted behind an answer -/
/-- how an exception stands -/
abbrev RXT := Exn → Value → Option Addr → Hp → Prop
section
variable {α β : Type} (K : PySem.W.Frag) (RX : RXT) (W : WX)
def PostR (ι : Ix) (m : Store) (H : Hp) (r : R α) (G : α → Ix → Store → Hp → Prop) : Prop := match r with
  | .ok a m' => ∀ ι' H', Le ι m H ι' m' H' → StOk K ι' m' H' → G a ι' m' H'
  | .ex x m' => ∀ ι' H' c d σ, Le ι m H ι' m' H' → StOk K ι' m' H' → RX x c d H' → W c d σ H'
  | .no => False
end
section
variable {α β : Type} {K : PySem.W.Frag} {RX : RXT} {W : WX} {ι ι' : Ix} {m m' : Store} {H H' : Hp}
theorem PostR.shift {r : R α} {G : α → Ix → Store → Hp → Prop} (a : Le ι m H ι' m' H') (h : PostR K RX W ι m H r G) : PostR K RX W ι' m' H' r G := by
  cases r with
  | ok b m1 => exact fun ι1 H1 l s => h ι1 H1 (a.trans l) s
  | ex x m1 => exact fun ι1 H1 c d σ l s => h ι1 H1 c d σ (a.trans l) s
  | no => exact h
theorem PostR.bind {r : R α} {f : α → Store → R β} {G : β → Ix → Store → Hp → Prop} (h : PostR K RX W ι m H (r.bind f) G) :
    PostR K RX W ι m H r (fun a ι1 m1 H1 => PostR K RX W ι1 m1 H1 (f a m1) G) := by
  cases r with
  | ok b m1 =>
    intro ι1 H1 l s
    have h' : PostR K RX W ι m H (f b m1) G := h
    -- shift along l
    cases hf : f b m1 with
    | ok c m2 =>
      rw [hf] at h'
      exact fun ι2 H2 l2 s2 => h' ι2 H2 (l.trans l2) s2
    | ex x m2 =>
      rw [hf] at h'
      exact fun ι2 H2 c d σ l2 s2 => h' ι2 H2 c d σ (l.trans l2) s2
    | no =>
      rw [hf] at h'
      exact h'
  | ex x m1 => exact h
  | no => exact h
theorem PostR.mono {r : R α} {G G' : α → Ix → Store → Hp → Prop} (h : PostR K RX W ι m H r G)
    (g : ∀ a ι1 m1 H1, Le ι m H ι1 m1 H1 → StOk K ι1 m1 H1 → G a ι1 m1 H1 → G' a ι1 m1 H1) : PostR K RX W ι m H r G' := by
  cases r with
  | ok b m1 => exact fun ι1 H1 l s => g b ι1 m1 H1 l s (h ι1 H1 l s)
  | ex x m1 => exact h
  | no => exact h
theorem PostR.here {a : α} {G : α → Ix → Store → Hp → Prop} (s : StOk K ι m H) (h : PostR K RX W ι m H (.ok a m) G) : G a ι m H := h ι H .refl s
end

/-! ### the store changes -/
section
variable {K : PySem.W.Frag} {ι ι' : Ix} {m m' : Store} {H H' : Hp} {p : Addr} {vs : List V} {xs : List D}
theorem fresh_live (s : StOk K ι m H) (hp : H p = none) : ¬ Live ι m p := fun q => by
  rcases q with ⟨n, c, h1, _, _⟩ | q
  · obtain ⟨o, e⟩ := s.trk p (List.mem_of_getElem? h1)
    rw [hp] at e; cases e
  · obtain ⟨o, e⟩ := s.trx p q
    rw [hp] at e; cases e
theorem up_fresh {Lv : Addr → Prop} {o : HO} (hp : H p = none) : Up H (upd H p o) Lv Lv :=
  ⟨fun b u h l => ⟨by rw [upd_ne (ne_of_none h hp)]; exact h, l⟩, fun b xs h => by rw [upd_ne (ne_of_none h hp)]; exact h, fun b o u h => by rw [upd_ne (ne_of_none h hp)]; exact h⟩
theorem ex_ne (s : StOk K ι m H) (hp : H p = none) {a : Addr} (ha : a ∈ ι.x) : a ≠ p := fun e => by
  obtain ⟨o, q⟩ := s.trx a ha
  rw [e, hp] at q; cases q
theorem le_fresh {o : HO} (s : StOk K ι m H) (hp : H p = none) : Le ι m H ι m (upd H p o) := ⟨⟨[], by simp⟩, fun _ h => h, fun a ha => upd_ne (ex_ne s hp ha), (up_fresh (Lv := Live ι m) hp).keep, (up_fresh (Lv := Live ι m) hp).tups, (up_fresh (Lv := Live ι m) hp).frzs⟩
theorem CellOk.up {Lv Lv' : Addr → Prop} {a : Addr} {c : Cell} (u : Up H H' Lv Lv') (ha : ∀ vs, H a = some (.lst vs) → c.isFz = false → H' a = some (.lst vs)) (h : CellOk K H Lv a c) : CellOk K H' Lv' a c := by
  cases c with
  | lst xs => obtain ⟨vs, e, r⟩ := h; exact ⟨vs, ha vs e rfl, r.up u⟩
  | dic kvs => exact h
  | fz d => exact Rep.up u h
theorem StOk.fresh {o : HO} (s : StOk K ι m H) (hp : H p = none) : StOk K ι m (upd H p o) :=
  ⟨s.len, s.nd, s.dis, fun a ha => let ⟨u, e⟩ := s.trk a ha; ⟨u, by rw [upd_ne (ne_of_none e hp)]; exact e⟩, fun a ha => let ⟨u, e⟩ := s.trx a ha; ⟨u, by rw [upd_ne (ne_of_none e hp)]; exact e⟩, fun n a c h1 h2 => (s.ok n a c h1 h2).up (up_fresh hp) fun vs e _ => by rw [upd_ne (ne_of_none e hp)]; exact e⟩
/-- a new tuple -/
theorem rep_newTup (s : StOk K ι m H) (hp : H p = none) (r : RepAll K H (Live ι m) vs xs) : Rep K (upd H p (.tup vs)) (Live ι m) (.ref p) (.tuple xs) :=
  .tup (.inl (.inl upd_same)) (r.up (up_fresh hp))
theorem live_app {c : Cell} (s : ι.l.length = m.length) {a : Addr} : Live (ι.add p) (m ++ [c]) a ↔ Live ι m a ∨ (a = p ∧ c.isFz = false) := by
  constructor
  · rintro (⟨n, c', h1, h2, h3⟩ | q)
    · have h1 : (ι.l ++ [p])[n]? = some a := h1
      by_cases hn : n < ι.l.length
      · rw [List.getElem?_append_left hn] at h1
        rw [List.getElem?_append_left (by omega)] at h2
        exact .inl (.inl ⟨n, c', h1, h2, h3⟩)
      · rw [List.getElem?_append_right (by omega)] at h1
        rw [List.getElem?_append_right (by omega)] at h2
        have e0 : n - ι.l.length = 0 := by
          cases e : n - ι.l.length with
          | zero => rfl
          | succ k => rw [e] at h1; simp at h1
        have e1 : n - m.length = 0 := by omega
        rw [e0] at h1
        rw [e1] at h2
        simp at h1 h2
        subst h1 h2
        exact .inr ⟨rfl, h3⟩
    · exact .inl (.inr q)
  · rintro ((⟨n, c', h1, h2, h3⟩ | q) | ⟨rfl, h⟩)
    · refine .inl ⟨n, c', ?_, ?_, h3⟩
      · show (ι.l ++ [p])[n]? = some a
        rw [List.getElem?_append_left (List.getElem?_eq_some_iff.mp h1).1]; exact h1
      · rw [List.getElem?_append_left (List.getElem?_eq_some_iff.mp h2).1]; exact h2
    · exact .inr q
    · exact .inl ⟨ι.l.length, c, by show (ι.l ++ [a])[ι.l.length]? = some a; simp, by rw [s]; simp, h⟩
theorem le_new {o : HO} {c : Cell} (s : StOk K ι m H) (hp : H p = none) : Le ι m H (ι.add p) (m ++ [c]) (upd H p o) := by
  refine ⟨⟨[p], rfl⟩, fun _ h => h, fun a ha => upd_ne (ex_ne s hp ha), fun b u h l => ⟨by rw [upd_ne (ne_of_none h hp)]; exact h, fun q => ?_⟩, (up_fresh (Lv := fun _ => False) hp).tups, (up_fresh (Lv := fun _ => False) hp).frzs⟩
  rcases (live_app s.len).mp q with q | ⟨q, _⟩
  · exact l q
  · rw [q, hp] at h; cases h
theorem StOk.newL (s : StOk K ι m H) (hp : H p = none) (r : RepAll K H (Live ι m) vs xs) : StOk K (ι.add p) (m ++ [.lst xs]) (upd H p (.lst vs)) := by
  have l := le_new (o := .lst vs) (c := .lst xs) s hp
  have hnot : p ∉ ι.l := fun hm => by
    obtain ⟨o, e⟩ := s.trk p hm
    rw [hp] at e; cases e
  refine ⟨by simp [Ix.add, s.len], ?_, fun a ha hm => ?_, fun a ha => ?_, fun a ha => let ⟨u, e⟩ := s.trx a ha; ⟨u, by rw [upd_ne (ne_of_none e hp)]; exact e⟩, fun n a c h1 h2 => ?_⟩
  · show (ι.l ++ [p]).Nodup
    rw [List.nodup_append]
    exact ⟨s.nd, by simp, fun a ha b hb => by simp at hb; subst hb; exact fun e => hnot (e ▸ ha)⟩
  · rcases List.mem_append.mp (show a ∈ ι.l ++ [p] from hm) with h | h
    · exact s.dis a ha h
    · exact ex_ne s hp ha (by simpa using h)
  · rcases List.mem_append.mp (show a ∈ ι.l ++ [p] from ha) with ha | ha
    · obtain ⟨o, e⟩ := s.trk a ha
      exact ⟨o, by rw [upd_ne (ne_of_none e hp)]; exact e⟩
    · simp at ha
      subst ha
      exact ⟨_, upd_same⟩
  · have h1 : (ι.l ++ [p])[n]? = some a := h1
    by_cases hn : n < ι.l.length
    · rw [List.getElem?_append_left hn] at h1
      rw [List.getElem?_append_left (by rw [← s.len]; exact hn)] at h2
      exact (s.ok n a c h1 h2).up l.up fun vs e _ => by rw [upd_ne (ne_of_none e hp)]; exact e
    · have hl := (List.getElem?_eq_some_iff.mp h1).1
      have en : n = ι.l.length := by simp at hl; omega
      subst en
      rw [List.getElem?_append_right (Nat.le_refl _)] at h1
      rw [s.len, List.getElem?_append_right (Nat.le_refl _)] at h2
      simp at h1 h2
      subst h1 h2
      exact ⟨vs, upd_same, r.up l.up⟩
theorem live_set {n : Nat} {c c0 : Cell} {a b : Addr} (s : StOk K ι m H) (ha : ι.l[n]? = some a) (h0 : m[n]? = some c0) : Live ι (m.set n c) b ↔ (Live ι m b ∧ b ≠ a) ∨ (b = a ∧ c.isFz = false) := by
  have hn : n < m.length := (List.getElem?_eq_some_iff.mp h0).1
  constructor
  · rintro (⟨j, c', h1, h2, h3⟩ | q)
    · by_cases hj : n = j
      · subst hj
        rw [List.getElem?_set_self hn] at h2
        cases h2
        rw [ha] at h1
        exact .inr ⟨(Option.some.inj h1).symm, h3⟩
      · rw [List.getElem?_set_ne hj] at h2
        refine .inl ⟨.inl ⟨j, c', h1, h2, h3⟩, fun e => hj (s.inj ha (by rw [← e]; exact h1))⟩
    · exact .inl ⟨.inr q, fun e => s.dis b q (by rw [e]; exact List.mem_of_getElem? ha)⟩
  · rintro (⟨⟨j, c', h1, h2, h3⟩ | q, hb⟩ | ⟨rfl, h⟩)
    · have hj : n ≠ j := fun e => by subst e; rw [ha] at h1; exact hb (Option.some.inj h1).symm
      exact .inl ⟨j, c', h1, by rw [List.getElem?_set_ne hj]; exact h2, h3⟩
    · exact .inr q
    · exact .inl ⟨n, c, ha, List.getElem?_set_self hn, h⟩
/-- a live list is written -/
theorem le_write {n : Nat} {a : Addr} {xs0 ys : List D} {vs0 ws : List V} (s : StOk K ι m H) (ha : ι.l[n]? = some a) (h0 : m[n]? = some (.lst xs0)) (hH : H a = some (.lst vs0)) :
    Le ι m H ι (m.set n (.lst ys)) (upd H a (.lst ws)) := by
  have lv : Live ι m a := .inl ⟨n, _, ha, h0, rfl⟩
  have al : a ∈ ι.l := List.mem_of_getElem? ha
  have ls : ∀ b, Live ι (m.set n (.lst ys)) b ↔ Live ι m b := fun b => by
    rw [live_set s ha h0]
    constructor
    · rintro (⟨h, _⟩ | ⟨rfl, _⟩)
      · exact h
      · exact lv
    · intro h
      by_cases e : b = a
      · exact .inr ⟨e, rfl⟩
      · exact .inl ⟨h, e⟩
  refine ⟨⟨[], by simp⟩, fun _ h => h, fun b hb => upd_ne (fun e => s.dis b hb (e ▸ al)), fun b o h l => ?_, fun b xs h => ?_, fun b o u h => ?_⟩
  · have e : b ≠ a := fun e => l (e ▸ lv)
    exact ⟨by rw [upd_ne e]; exact h, fun q => l ((ls b).mp q)⟩
  · have e : b ≠ a := fun e => by rw [e, hH] at h; cases h
    rw [upd_ne e]; exact h
  · have e : b ≠ a := fun e => by rw [e, hH] at h; cases h
    rw [upd_ne e]; exact h
theorem StOk.write {n : Nat} {a : Addr} {xs0 ys : List D} {vs0 ws : List V} (s : StOk K ι m H) (ha : ι.l[n]? = some a) (h0 : m[n]? = some (.lst xs0)) (hH : H a = some (.lst vs0))
    (r : RepAll K H (Live ι m) ws ys) : StOk K ι (m.set n (.lst ys)) (upd H a (.lst ws)) := by
  have l := le_write (ys := ys) (ws := ws) s ha h0 hH
  have hn : n < m.length := (List.getElem?_eq_some_iff.mp h0).1
  refine ⟨by rw [List.length_set]; exact s.len, s.nd, s.dis, fun b hb => ?_, fun b hb => let ⟨o, q⟩ := s.trx b hb; ⟨o, by rw [upd_ne (fun e => s.dis b hb (by rw [e]; exact List.mem_of_getElem? ha))]; exact q⟩, fun j b c h1 h2 => ?_⟩
  · by_cases e : b = a
    · subst e; exact ⟨_, upd_same⟩
    · obtain ⟨o, q⟩ := s.trk b hb
      exact ⟨o, by rw [upd_ne e]; exact q⟩
  · by_cases hj : n = j
    · subst hj
      rw [List.getElem?_set_self hn] at h2
      cases h2
      rw [ha] at h1
      cases h1
      exact ⟨ws, upd_same, r.up l.up⟩
    · rw [List.getElem?_set_ne hj] at h2
      have e : b ≠ a := fun e => hj (s.inj ha (by rw [← e]; exact h1))
      exact (s.ok j b c h1 h2).up l.up fun vs q _ => by rw [upd_ne e]; exact q
/-- a cell changes no more -/
theorem le_fz {n : Nat} {a : Addr} {c : Cell} (s : StOk K ι m H) (ha : ι.l[n]? = some a) (h0 : m[n]? = some c) : Le ι m H ι (m.set n (.fz c.data)) H :=
  ⟨⟨[], by simp⟩, fun _ h => h, fun _ _ => rfl, fun b o h l => ⟨h, fun q => by
    rcases (live_set s ha h0).mp q with ⟨q, _⟩ | ⟨_, q⟩
    · exact l q
    · cases q⟩, fun _ _ h => h, fun _ _ _ h => h⟩
theorem rep_fz {n : Nat} {a : Addr} {c : Cell} (s : StOk K ι m H) (ha : ι.l[n]? = some a) (h0 : m[n]? = some c) : Rep K H (Live ι (m.set n (.fz c.data))) (.ref a) c.data := by
  have l := le_fz s ha h0
  have q := s.ok n a c ha h0
  cases c with
  | lst xs =>
    obtain ⟨vs, e, r⟩ := q
    refine .lst (.inl ⟨.inl e, fun q => ?_⟩) (r.up l.up)
    rcases (live_set s ha h0).mp q with ⟨_, q⟩ | ⟨_, q⟩
    · exact q rfl
    · cases q
  | dic kvs => exact False.elim q
  | fz d => exact Rep.up l.up q
theorem StOk.fz {n : Nat} {a : Addr} {c : Cell} (s : StOk K ι m H) (ha : ι.l[n]? = some a) (h0 : m[n]? = some c) : StOk K ι (m.set n (.fz c.data)) H := by
  have l := le_fz s ha h0
  have hn : n < m.length := (List.getElem?_eq_some_iff.mp h0).1
  refine ⟨by rw [List.length_set]; exact s.len, s.nd, s.dis, s.trk, s.trx, fun j b c' h1 h2 => ?_⟩
  by_cases hj : n = j
  · subst hj
    rw [List.getElem?_set_self hn] at h2
    cases h2
    rw [ha] at h1
    cases h1
    exact rep_fz s ha h0
  · rw [List.getElem?_set_ne hj] at h2
    exact (s.ok j b c' h1 h2).up l.up fun vs q _ => q
end
section
variable {K : PySem.W.Frag} {RX : RXT} {W : WX} {ι ι' : Ix} {m m' : Store} {H H' : Hp} {p : Addr} {vs : List V} {xs : List D} {v : V} {w : Val}
theorem post_fz {G : D → Ix → Store → Hp → Prop} (s : StOk K ι m H) (r : RepW K ι m H v w) (h : PostR K RX W ι m H (fz w m) G) :
    ∃ m' x, Le ι m H ι m' H ∧ StOk K ι m' H ∧ Rep K H (Live ι m') v x ∧ G x ι m' H := by
  cases w with
  | d x => exact ⟨m, x, .refl, s, r, h ι H .refl s⟩
  | r n =>
    obtain ⟨a, h1, rfl⟩ := r
    obtain ⟨c, hc⟩ := s.cell h1
    have h' : PostR K RX W ι m H (match m[n]? with | some c => R.ok c.data (m.set n (.fz c.data)) | none => .no) G := h
    rw [hc] at h'
    exact ⟨_, _, le_fz s h1 hc, s.fz h1 hc, rep_fz s h1 hc, h' ι H (le_fz s h1 hc) (s.fz h1 hc)⟩
/-- a value of data at hand -/
theorem post_at {d : D} {G : Val → Ix → Store → Hp → Prop} (s : StOk K ι m H) (h : PostR K RX W ι m H (put (.at d) m) G) : G (.d d) ι m H := h ι H .refl s
theorem post_tup {G : Val → Ix → Store → Hp → Prop} (s : StOk K ι m H) (h : PostR K RX W ι m H (put (.tup xs) m) G) (r : RepAll K H (Live ι m) vs xs) :
    vs.length ≤ sizeLine ∧ ∀ p, H p = none → RepW K ι m (upd H p (.tup vs)) (.ref p) (.d (.tuple xs)) ∧ G (.d (.tuple xs)) ι m (upd H p (.tup vs)) := by
  unfold put at h
  dsimp only at h
  by_cases hz : xs.length ≤ sizeLine
  · rw [if_pos hz] at h
    exact ⟨by rw [r.length]; exact hz, fun p hp => ⟨rep_newTup s hp r, h ι _ (le_fresh s hp) (s.fresh hp)⟩⟩
  · rw [if_neg hz] at h
    exact False.elim h
theorem post_lst {G : Val → Ix → Store → Hp → Prop} (s : StOk K ι m H) (h : PostR K RX W ι m H (put (.lst xs) m) G) (r : RepAll K H (Live ι m) vs xs) :
    vs.length ≤ sizeLine ∧ ∀ p, H p = none → RepW K (ι.add p) (m ++ [.lst xs]) (upd H p (.lst vs)) (.ref p) (.r m.length) ∧ G (.r m.length) (ι.add p) (m ++ [.lst xs]) (upd H p (.lst vs)) := by
  unfold put at h
  dsimp only at h
  by_cases hz : xs.length ≤ sizeLine
  · rw [if_pos hz] at h
    exact ⟨by rw [r.length]; exact hz, fun p hp => ⟨⟨p, by rw [← s.len]; show (ι.l ++ [p])[ι.l.length]? = some p; simp, rfl⟩, h _ _ (le_new s hp) (s.newL hp r)⟩⟩
  · rw [if_neg hz] at h
    exact False.elim h
end
end DL
end
section
set_option Elab.async false
set_option linter.all false
set_option maxRecDepth 100000
set_option autoImplicit false
set_option maxHeartbeats 1000000
/-! DL3: the operations by values. -/
namespace DL
open PySem PySem.Spec PyProof.Rows L2
section
variable {X : Cx} {pins : List (Addr × Obj)} {σ : L2.St} {H : Hp} {s : Shared} {l : Addr} {xs : List V}
theorem lstR (I : Inv X pins σ H s) (h : SqL X.K H l xs) : xs.length ≤ sizeLine ∧ ∃ (its : List Value) (n : Nat) (sl : Array (Option Value)), Vals xs its ∧ xs.length = its.length ∧ s.heap.get? l = some { cls := .type "list", dict := none, data := .seq its.toArray n, slots := sl } := by
  obtain ⟨its, r, ⟨⟨c, d, dt, sl⟩, n, e, hc, hd, hdt⟩, z⟩ := I.list h
  dsimp only at hc hd hdt
  subst hc hd hdt
  exact ⟨z, its, n, sl, r, r.length, e⟩
theorem meets_addS (l : Addr) (items : Array Value) (n : Nat) (sl : Array (Option Value)) (b : Addr) (items2 : Array Value) (n2 : Nat) (sl2 : Array (Option Value)) (hc0 : items.size + items2.size ≤ sizeLine) :
    Meets (Builtin.«list.__add__» ⟨[.ref l, .ref b], []⟩) (fun _ R s => s.heap.get? l = some { cls := .type "list", dict := none, data := .seq items n, slots := sl } ∧ s.heap.get? b = some { cls := .type "list", dict := none, data := .seq items2 n2, slots := sl2 } ∧
      R (.ok (.ret (Value.ref s.heap.objs.size))) { s with heap := s.heap.push { cls := Value.type "list", data := Data.seq (items ++ items2) }, toks := s.toks }) :=
  .of_wp fun prog w A R s h => by
    obtain ⟨hp, g, d, tk, os⟩ := s
    obtain ⟨hl, hb, h⟩ := h
    have f1 := AutoSeq1.idx_int
    have f2 := AutoSeq1.sub_tuple_tuple
    have f3 := AutoSeq1.sub_list_list
    have f4 := AutoSeq1.sub_tuple_list
    have f5 := AutoSeq1.sub_list_tuple
    wp_walk using AutoSeq1.wpAny_loadPart' hl, AutoSeq1.wpAny_loadPart' hb
    exact ⟨_, rfl, h⟩
theorem meets_iaddS (l : Addr) (items : Array Value) (n : Nat) (b : Addr) (items2 : Array Value) (n2 : Nat) (sl2 : Array (Option Value)) (hs0 : ¬(!items.isEmpty && Builtin.List.listTooLong (items.size + items2.size)) = true) (hs1 : items.size ≤ sizeLine) (hs2 : items.size + items2.size ≤ sizeLine + 1) :
    Meets (Builtin.«list.__iadd__» ⟨[.ref l, .ref b], []⟩) (fun _ R s => s.heap.get? l = some { cls := .type "list", dict := none, data := .seq items n, slots := #[] } ∧ s.heap.get? b = some { cls := .type "list", dict := none, data := .seq items2 n2, slots := sl2 } ∧
      R (.ok (.ret (Value.ref l))) { s with heap := s.heap.update l (Obj.mapSeq fun x => x ++ items2), toks := s.toks }) :=
  .of_wp fun prog w A R s h => by
    obtain ⟨hp, g, d, tk, os⟩ := s
    obtain ⟨hl, hb, h⟩ := h
    have f1 := AutoSeq1.idx_int
    have f2 := AutoSeq1.sub_tuple_tuple
    have f3 := AutoSeq1.sub_list_list
    have f4 := AutoSeq1.sub_tuple_list
    have f5 := AutoSeq1.sub_list_tuple
    have hz' : (items ++ items2).size ≤ sizeLine + 1 := by rw [Array.size_append]; exact hs2
    wp_walk using (wpAny_updateSeq hl rfl (hz := hs1) (_hz' := hz')), AutoSeq1.wpAny_loadPart' hl, AutoSeq1.wpAny_loadPart' hb
    exact ⟨_, rfl, h⟩
theorem meets_mulS (l : Addr) (items : Array Value) (n : Nat) (sl : Array (Option Value)) (x : Int) (u : Tok) (hc0 : ¬(!Builtin.List.listFitsIndex x) = true) (hc1 : ¬items.size * x.toNat > (2 ^ 63 - 1) / 8) (hc2 : ¬Builtin.List.listTooLong (items.size * x.toNat) = true) :
    Meets (Builtin.«list.__mul__» ⟨[.ref l, .int x u], []⟩) (fun _ R s => s.heap.get? l = some { cls := .type "list", dict := none, data := .seq items n, slots := sl } ∧
      R (.ok (.ret (Value.ref s.heap.objs.size))) { s with heap := s.heap.push { cls := Value.type "list", data := Data.seq (List.foldl (fun x1 x2 => x1 ++ x2) #[] (List.replicate (if items.isEmpty = true then 0 else x.toNat) items)) }, toks := s.toks }) :=
  .of_wp fun prog w A R s h => by
    obtain ⟨hp, g, d, tk, os⟩ := s
    obtain ⟨hl, h⟩ := h
    have hsz := AutoListH.joined_fits hc2
    wp_walk
    refine wpAny_ite_false (decide_eq_false (Nat.not_lt.mpr hsz)) ?_
    wp_walk
    exact ⟨_, rfl, h⟩
theorem meets_rmulS (a : Int) (t : Tok) (l : Addr) (items : Array Value) (n : Nat) (sl : Array (Option Value)) :
    Meets (Builtin.«int.__rmul__» ⟨[.int a t, .ref l], []⟩) (fun _ R s => s.heap.get? l = some { cls := .type "list", dict := none, data := .seq items n, slots := sl } ∧ R (.ok (.ret Value.notImplemented)) s) :=
  .of_wp fun prog w A R s h => by
    obtain ⟨hp, g, d, tk, os⟩ := s
    obtain ⟨hl, h⟩ := h
    wp_walk
    exact ⟨_, rfl, h⟩
def rCatR (K : PySem.W.Frag) : R2 := fun x y H Q => ∃ l b xs zs, x = .ref l ∧ y = .ref b ∧ SqL K H l xs ∧ SqL K H b zs ∧ xs.length + zs.length ≤ sizeLine ∧ ∀ p, H p = none → Q (.ref p) (upd H p (.lst (xs ++ zs)))
theorem op_catR : OpR X (binaryOp .Add) (rCatR X.K) := by
  intro pins s σ H x y v u Q I rx ry h
  obtain ⟨l, b, xs, zs, rfl, rfl, hH, hB, hz, q⟩ := h
  cases rx
  cases ry
  obtain ⟨z, its, n, sl, r, hl, e⟩ := lstR I hH
  obtain ⟨z2, its2, n2, sl2, r2, hl2, e2⟩ := lstR I hB
  refine concat_meets ⟨_, e, rfl⟩ ⟨_, e2, rfl⟩ noFill_list_add seq_list_add PySem.F.slot_list_add PySem.F.entry_list_add (PySem.F.args_list_add_2 _ _) (meets_addS l its.toArray n sl b its2.toArray n2 sl2 (by rw [List.size_toArray, List.size_toArray]; omega)) ⟨e, e2, ?_⟩
  have ea : its.toArray ++ its2.toArray = (its ++ its2).toArray := by simp
  rw [ea]
  exact ⟨.ref _, _, I.lnew (t' := s.toks) (r.append r2) (by rw [List.length_append]; omega), rfl, q _ I.fresh⟩
def rRepR (K : PySem.W.Frag) : R2 := fun x y H Q => ∃ l k xs, x = .ref l ∧ y = .int k ∧ SqL K H l xs ∧ -(2 ^ 63) ≤ k ∧ k < 2 ^ 63 ∧ xs.length * k.toNat ≤ sizeLine ∧
  ∀ p, H p = none → Q (.ref p) (upd H p (.lst (List.replicate k.toNat xs).flatten))
theorem op_repR : OpR X (binaryOp .Mult) (rRepR X.K) := by
  intro pins s σ H x y v u Q I rx ry h
  obtain ⟨l, k, xs, rfl, rfl, hH, h1, h2, hz, q⟩ := h
  cases rx
  obtain ⟨t, rfl⟩ := ry
  obtain ⟨z, its, n, sl, r, hl, e⟩ := lstR I hH
  have hlen : its.toArray.size * k.toNat ≤ sizeLine := by rw [List.size_toArray, ← hl]; exact hz
  have hcap : ¬ its.toArray.size * k.toNat > (2 ^ 63 - 1) / 8 := by
    have : (sizeLine : Nat) ≤ (2 ^ 63 - 1) / 8 := by decide
    omega
  have hfit : ¬ (!Builtin.List.listFitsIndex k) = true := by
    rw [fitsIndex_both h1 h2]
    exact Bool.false_ne_true
  have hlong : ¬ Builtin.List.listTooLong (its.toArray.size * k.toNat) = true := by
    rw [notLongL hlen]
    exact Bool.false_ne_true
  have hnew : List.foldl (fun x1 x2 => x1 ++ x2) #[] (List.replicate (if its.toArray.isEmpty = true then 0 else k.toNat) its.toArray) = (List.replicate k.toNat its).flatten.toArray := by
    have f0 : ∀ m : Nat, List.foldl (fun x1 x2 => x1 ++ x2) #[] (List.replicate m its.toArray) = (List.replicate m its).flatten.toArray := fun m => by
      have := foldl_rep its m []
      rw [List.nil_append] at this
      exact this
    rw [f0]
    cases its with
    | nil => simp
    | cons a r' => rw [if_neg (by simp)]
  refine wpAny_binaryOp_repeat_ref (T := "list") (U := "int") (by decide) ⟨_, e, rfl⟩ (fun s' => typeIs_int s' k t) noFill_list_mul F.fills_int_mul F.slot_int_rmul repeat_list F.slot_int_index.lookup
    (call_meets F.slot_int_rmul (typeIs_int s k t) F.entry_int_rmul (F.args_int_rmul_2 _ _) (meets_rmulS k t l its.toArray n sl)
      ⟨e, rfl, ⟨_, e, rfl⟩, call_meets F.slot_list_mul ⟨_, e, rfl⟩ F.entry_list_mul (F.args_list_mul_2 _ _) (meets_mulS l its.toArray n sl k t hfit hcap hlong) ⟨e, ?_⟩⟩)
  rw [hnew]
  exact ⟨.ref _, _, I.lnew (t' := s.toks) (r.rep k.toNat) (by rw [PyProof.Rows.lm_len_rep_flat, Nat.mul_comm]; exact hz), rfl, q _ I.fresh⟩
def rExtR (K : PySem.W.Frag) : R2 := fun x y H Q => ∃ l b xs zs, x = .ref l ∧ y = .ref b ∧ H l = some (.lst xs) ∧ SqL K H b zs ∧ xs.length + zs.length ≤ sizeLine ∧ Q (.ref l) (upd H l (.lst (xs ++ zs)))
theorem iop_extR : OpR X (inplaceOp .Add) (rExtR X.K) := by
  intro pins s σ H x y v u Q I rx ry h
  obtain ⟨l, b, xs, zs, rfl, rfl, hH, hB, hz, q⟩ := h
  cases rx
  cases ry
  obtain ⟨z, its, n, r, hl, e⟩ := I.lstM hH
  obtain ⟨z2, its2, n2, sl2, r2, hl2, e2⟩ := lstR I hB
  have hsz : its.toArray.size + its2.toArray.size ≤ sizeLine := by rw [List.size_toArray, List.size_toArray]; omega
  have hlong : ¬ (!its.toArray.isEmpty && Builtin.List.listTooLong (its.toArray.size + its2.toArray.size)) = true := by
    rw [notLongL hsz, Bool.and_false]
    exact Bool.false_ne_true
  refine iadd_road ⟨_, e, rfl⟩ ⟨_, e2, rfl⟩ (call_meets PySem.F.slot_list_iadd ⟨_, e, rfl⟩ PySem.F.entry_list_iadd (PySem.F.args_list_iadd_2 _ _)
    (meets_iaddS l its.toArray n b its2.toArray n2 sl2 hlong (by rw [List.size_toArray]; omega) (by omega)) ⟨e, e2, ?_⟩)
  refine ⟨.ref l, _, I.lset (its' := its ++ its2) (t' := s.toks) hH e (by simp) (r.append r2) ?_, rfl, q⟩
  rw [List.length_append]
  omega
end

/-! ### + - * // % ** -/
abbrev R2A := V → V → Hp → VK → Prop
def opPy : Op → Operator
  | .add => .Add | .sub => .Sub | .mul => .Mult | .fdiv => .FloorDiv | .mod => .Mod | .pow => .Pow
def rStrCat : R2 := fun x y H Q => ∃ i j, x = .str i ∧ y = .str j ∧ i.length + j.length ≤ sizeLine ∧ Q (.str (i ++ j)) H
def orR (r r' : R2) : R2 := fun x y H Q => r x y H Q ∨ r' x y H Q
def rOp (K : PySem.W.Frag) : Op → R2
  | .add => orR (rI0 fun i j => .int (i + j)) (orR rStrCat (orR (rCatA K) (rCatR K)))
  | .sub => rI0 fun i j => .int (i - j)
  | .mul => orR (rI CMul fun i j => .int (i * j)) (rRepR K)
  | .fdiv => rI CDiv fun i j => .int (i / j)
  | .mod => rI (fun _ j => 0 < j) fun i j => .int (i % j)
  | .pow => rI CPow fun i j => .int (i ^ j.toNat)
theorem op_ok {X : Cx} (o : Op) : OpR X (binaryOp (opPy o)) (rOp X.K o) := by
  cases o with
  | add => exact op_add.or (op_add_str.or (op_catA.or op_catR))
  | sub => exact op_sub
  | mul => exact op_mul.or op_repR
  | fdiv => exact op_fdiv
  | mod => exact op_mod
  | pow => exact op_pow
section
variable {K : PySem.W.Frag} {RX : RXT} {W : WX} {ι ι' : Ix} {m m' : Store} {H H' : Hp} {p : Addr} {x y : V} {v w : Val} {Q : VK}
/-- what the reading of an expression wants -/
abbrev GV (K : PySem.W.Frag) (Q : VK) : Val → Ix → Store → Hp → Prop := fun w ι m H => ∀ v, RepW K ι m H v w → Q v H
theorem smallI_ok {i : Int} (h : smallI i = true) : -(2 ^ 64) < i ∧ i < 2 ^ 64 := by
  unfold smallI at h
  rw [Bool.and_eq_true] at h
  exact ⟨of_decide_eq_true h.1, of_decide_eq_true h.2⟩
theorem RepT.listR {Lv : Addr → Prop} {v : V} {ds : List D} (r : RepT K H Lv v (.list ds)) : ∃ a vs, v = .ref a ∧ SqL K H a vs ∧ RepAll K H Lv vs ds := r.list
theorem opR_ok {o : Op} (s : StOk K ι m H) (rx : RepW K ι m H x v) (ry : RepW K ι m H y w) (h : PostR K RX W ι m H (opR o v w m) (GV K Q)) : rOp K o x y H Q := by
  unfold opR at h
  cases e1 : rd v m with
  | none => rw [e1] at h; exact False.elim h
  | some d1 =>
  cases e2 : rd w m with
  | none => rw [e1, e2] at h; exact False.elim h
  | some d2 =>
  rw [e1, e2] at h
  dsimp only at h
  have t1 := RepT.of s rx e1
  have t2 := RepT.of s ry e2
  cases e3 : opF o d1 d2 with
  | none => rw [e3] at h; exact False.elim h
  | some z =>
  rw [e3] at h
  dsimp only at h
  have atI : ∀ {k : Int}, PostR K RX W ι m H (put (.at (.int k)) m) (GV K Q) → Q (.int k) H := fun {k} h => post_at s h _ (.int k)
  cases o with
  | add =>
    cases d1 with
    | int i =>
      cases d2 with
      | int j => cases e3; rw [t1.int, t2.int]; exact .inl ⟨i, j, rfl, rfl, atI h⟩
      | _ => cases e3
    | str a =>
      cases d2 with
      | str b =>
        have e3' : (if a.length + b.length ≤ sizeLine then some (Out.at (.str (a ++ b))) else none) = some z := e3
        by_cases hz : a.length + b.length ≤ sizeLine
        · rw [if_pos hz] at e3'
          cases e3'
          rw [t1.str, t2.str]
          exact .inr (.inl ⟨a, b, rfl, rfl, hz, post_at s h _ (.str _)⟩)
        · rw [if_neg hz] at e3'; cases e3'
      | _ => cases e3
    | tuple a =>
      cases d2 with
      | tuple b =>
        have e3' : (if a.length + b.length ≤ sizeLine then some (Out.tup (a ++ b)) else none) = some z := e3
        by_cases hz : a.length + b.length ≤ sizeLine
        · rw [if_pos hz] at e3'
          cases e3'
          have r1 := t1.tupRep
          have r2 := t2.tupRep
          obtain ⟨pa, va, rfl, qa, ra⟩ := t1.tuple
          obtain ⟨pb, vb, rfl, qb, rb⟩ := t2.tuple
          obtain ⟨_, hp⟩ := post_tup s h (ra.app rb)
          have la := ra.length
          have lb := rb.length
          have hz2 : (a ++ b).length ≤ sizeLine := by rw [List.length_append]; exact hz
          have hh : PostR K RX W ι m H (R.ok (Val.d (.tuple (a ++ b))) m) (GV K Q) := by
            have h' : PostR K RX W ι m H (if (a ++ b).length ≤ sizeLine then R.ok (Val.d (.tuple (a ++ b))) m else .no) (GV K Q) := h
            rw [if_pos hz2] at h'
            exact h'
          refine .inr (.inr (.inl ⟨pa, pb, va, vb, rfl, rfl, qa, qb, by omega, fun e => ?_, fun e1 e2 => ?_, fun e1 e2 p hpn => ?_⟩))
          · subst e
            cases ra
            exact hh.here s _ r2
          · subst e2
            cases rb
            rw [List.append_nil] at hh
            exact hh.here s _ r1
          · obtain ⟨g1, g2⟩ := hp p hpn
            exact g2 _ g1
        · rw [if_neg hz] at e3'; cases e3'
      | _ => cases e3
    | list a =>
      cases d2 with
      | list b =>
        have e3' : (if a.length + b.length ≤ sizeLine then some (Out.lst (a ++ b)) else none) = some z := e3
        by_cases hz : a.length + b.length ≤ sizeLine
        · rw [if_pos hz] at e3'
          cases e3'
          obtain ⟨pa, va, rfl, qa, ra⟩ := t1.listR
          obtain ⟨pb, vb, rfl, qb, rb⟩ := t2.listR
          obtain ⟨_, hp⟩ := post_lst s h (ra.app rb)
          have la := ra.length
          have lb := rb.length
          refine .inr (.inr (.inr ⟨pa, pb, va, vb, rfl, rfl, qa, qb, by omega, fun p hpn => ?_⟩))
          obtain ⟨g1, g2⟩ := hp p hpn
          exact g2 _ g1
        · rw [if_neg hz] at e3'; cases e3'
      | _ => cases e3
    | _ => cases e3
  | sub =>
    cases d1 with
    | int i =>
      cases d2 with
      | int j => cases e3; rw [t1.int, t2.int]; exact ⟨i, j, rfl, rfl, atI h⟩
      | _ => cases e3
    | _ => cases e3
  | mul =>
    cases d1 with
    | int i =>
      cases d2 with
      | int j =>
        have e3' : (if (smallI i || smallI j) = true then some (Out.at (.int (i * j))) else none) = some z := e3
        by_cases hz : (smallI i || smallI j) = true
        · rw [if_pos hz] at e3'
          cases e3'
          rw [t1.int, t2.int]
          refine .inl ⟨i, j, rfl, rfl, ?_, atI h⟩
          rw [Bool.or_eq_true] at hz
          exact hz.elim (fun a => .inl (smallI_ok a)) fun a => .inr (smallI_ok a)
        · rw [if_neg hz] at e3'; cases e3'
      | _ => cases e3
    | list a =>
      cases d2 with
      | int k =>
        have e3' : (if (decide (-(2 ^ 63) ≤ k) && decide (k < 2 ^ 63) && decide (a.length * k.toNat ≤ sizeLine)) = true then some (Out.lst (List.replicate k.toNat a).flatten) else none) = some z := e3
        by_cases hz : (decide (-(2 ^ 63) ≤ k) && decide (k < 2 ^ 63) && decide (a.length * k.toNat ≤ sizeLine)) = true
        · rw [if_pos hz] at e3'
          cases e3'
          simp only [Bool.and_eq_true, decide_eq_true_eq] at hz
          rw [t2.int]
          obtain ⟨pa, va, rfl, qa, ra⟩ := t1.listR
          obtain ⟨_, hp⟩ := post_lst s h (ra.flat k.toNat)
          refine .inr ⟨pa, k, va, rfl, rfl, qa, hz.1.1, hz.1.2, by rw [ra.length]; exact hz.2, fun p hpn => ?_⟩
          obtain ⟨g1, g2⟩ := hp p hpn
          exact g2 _ g1
        · rw [if_neg hz] at e3'; cases e3'
      | _ => cases e3
    | _ => cases e3
  | fdiv =>
    cases d1 with
    | int i =>
      cases d2 with
      | int j =>
        have e3' : (if (decide (0 < j) && decide (j < 1073741824)) = true then some (Out.at (.int (i / j))) else none) = some z := e3
        by_cases hz : (decide (0 < j) && decide (j < 1073741824)) = true
        · rw [if_pos hz] at e3'
          cases e3'
          simp only [Bool.and_eq_true, decide_eq_true_eq] at hz
          rw [t1.int, t2.int]
          exact ⟨i, j, rfl, rfl, hz, atI h⟩
        · rw [if_neg hz] at e3'; cases e3'
      | _ => cases e3
    | _ => cases e3
  | mod =>
    cases d1 with
    | int i =>
      cases d2 with
      | int j =>
        have e3' : (if decide (0 < j) = true then some (Out.at (.int (i % j))) else none) = some z := e3
        by_cases hz : decide (0 < j) = true
        · rw [if_pos hz] at e3'
          cases e3'
          rw [t1.int, t2.int]
          exact ⟨i, j, rfl, rfl, of_decide_eq_true hz, atI h⟩
        · rw [if_neg hz] at e3'; cases e3'
      | _ => cases e3
    | _ => cases e3
  | pow =>
    cases d1 with
    | int i =>
      cases d2 with
      | int j =>
        have e3' : (if (decide (0 ≤ j) && decide (j ≤ 1000000) && decide (i.natAbs < 2 ^ 64)) = true then some (Out.at (.int (i ^ j.toNat))) else none) = some z := e3
        by_cases hz : (decide (0 ≤ j) && decide (j ≤ 1000000) && decide (i.natAbs < 2 ^ 64)) = true
        · rw [if_pos hz] at e3'
          cases e3'
          simp only [Bool.and_eq_true, decide_eq_true_eq] at hz
          rw [t1.int, t2.int]
          exact ⟨i, j, rfl, rfl, ⟨hz.1.1, hz.1.2, hz.2⟩, atI h⟩
        · rw [if_neg hz] at e3'; cases e3'
      | _ => cases e3
    | _ => cases e3
end
end DL
end
section
set_option Elab.async false
set_option linter.all false
set_option maxRecDepth 100000
set_option autoImplicit false
set_option maxHeartbeats 1000000
/-! DLc: < and sorted of data whose places are of one kind, or truth values beside whole numbers. -/
namespace DL
open PySem PySem.W PySem.SeqAt PySem.Calls PyProof.Rows

theorem near_all_cons {x y : PyData} {xs ys : List PyData} (h : nearAll (x :: xs) (y :: ys) = true) : near x y = true ∧ nearAll xs ys = true := by
  rw [nearAll, Bool.and_eq_true] at h
  exact h
theorem eqv_bi (a : Bool) (j : Int) : PyData.eqv (.bool a) (.int j) = ((if a then 1 else 0) == j) := by simp [PyData.eqv]
theorem eqv_ib (i : Int) (b : Bool) : PyData.eqv (.int i) (.bool b) = (i == (if b then 1 else 0)) := by simp [PyData.eqv]
mutual
theorem toks_near : ∀ (x y : PyData), near x y = true → (PyData.eqv x y = true → keyToks x = keyToks y) ∧ (PyData.eqv x y = false → ∀ l m, PyProof.Rows.lexLt itemOrd (keyToks x ++ l) (keyToks y ++ m) = PyProof.Rows.lexLt itemOrd (keyToks x) (keyToks y))
  | .none, y, h => by
    cases y with
    | none => exact ⟨fun _ => rfl, fun e => absurd e (by simp [PyData.eqv])⟩
    | _ => exact absurd h (by simp [near])
  | .bool a, y, h => by
    cases y with
    | bool b =>
      refine ⟨fun e => ?_, fun e l m => ?_⟩
      · have e' : a = b := by simpa [PyData.eqv] using e
        rw [e']
      · have hne : a ≠ b := fun q => by subst q; simp [PyData.eqv] at e
        simp only [keyToks, List.cons_append, List.nil_append]
        refine lex_atom (fun q => hne ?_) l m
        have q' := Sum.inl.inj q
        cases a <;> cases b <;> simp_all
    | int j =>
      refine ⟨fun e => ?_, fun e l m => ?_⟩
      · rw [eqv_bi] at e
        simp only [keyToks]
        rw [eq_of_beq e]
      · rw [eqv_bi] at e
        simp only [keyToks, List.cons_append, List.nil_append]
        exact lex_atom (fun q => absurd (Sum.inl.inj q) (by simpa using e)) l m
    | _ => exact absurd h (by simp [near])
  | .int a, y, h => by
    cases y with
    | int b =>
      refine ⟨fun e => ?_, fun e l m => ?_⟩
      · have e' : a = b := by simpa [PyData.eqv] using e
        rw [e']
      · have hne : a ≠ b := fun q => by subst q; simp [PyData.eqv] at e
        simp only [keyToks, List.cons_append, List.nil_append]
        exact lex_atom (fun q => hne (Sum.inl.inj q)) l m
    | bool b =>
      refine ⟨fun e => ?_, fun e l m => ?_⟩
      · rw [eqv_ib] at e
        simp only [keyToks]
        rw [eq_of_beq e]
      · rw [eqv_ib] at e
        simp only [keyToks, List.cons_append, List.nil_append]
        exact lex_atom (fun q => absurd (Sum.inl.inj q) (by simpa using e)) l m
    | _ => exact absurd h (by simp [near])
  | .str a, y, h => by
    cases y with
    | str b =>
      refine ⟨fun e => ?_, fun e l m => ?_⟩
      · have e' : a = b := by simpa [PyData.eqv] using e
        rw [e']
      · have hne : a ≠ b := fun q => by subst q; simp [PyData.eqv] at e
        simp only [keyToks, List.cons_append, List.nil_append]
        exact lex_atom (fun q => hne (str_of_cps (Sum.inr.inj q))) l m
    | _ => exact absurd h (by simp [near])
  | .list xs, y, h => by
    cases y with
    | list ys =>
      have t := toksAll_near xs ys (by simpa [near] using h)
      simp only [keyToks, PyData.eqv]
      exact t
    | _ => exact absurd h (by simp [near])
  | .tuple xs, y, h => by
    cases y with
    | tuple ys =>
      have t := toksAll_near xs ys (by simpa [near] using h)
      simp only [keyToks, PyData.eqv]
      exact t
    | _ => exact absurd h (by simp [near])
  | .dict _, y, h => absurd h (by cases y <;> simp [near])
theorem toksAll_near : ∀ (xs ys : List PyData), nearAll xs ys = true → (PyData.eqvAll xs ys = true → keyToksAll xs = keyToksAll ys) ∧ (PyData.eqvAll xs ys = false → ∀ l m, PyProof.Rows.lexLt itemOrd (keyToksAll xs ++ l) (keyToksAll ys ++ m) = PyProof.Rows.lexLt itemOrd (keyToksAll xs) (keyToksAll ys))
  | [], [], _ => ⟨fun _ => rfl, fun e => absurd e (by simp [PyData.eqvAll])⟩
  | [], y :: ys, _ => ⟨fun e => absurd e (by simp [PyData.eqvAll]), fun _ l m => by
      simp only [keyToksAll, List.cons_append, List.nil_append]
      exact (lex_atom (by simp) _ _).trans (lex_atom (by simp) _ _).symm⟩
  | x :: xs, [], _ => ⟨fun e => absurd e (by simp [PyData.eqvAll]), fun _ l m => by
      simp only [keyToksAll, List.cons_append, List.nil_append]
      exact (lex_atom (by simp) _ _).trans (lex_atom (by simp) _ _).symm⟩
  | x :: xs, y :: ys, h => by
    obtain ⟨a1, a2⟩ := toks_near x y (near_all_cons h).1
    obtain ⟨b1, b2⟩ := toksAll_near xs ys (near_all_cons h).2
    rw [eqv_all_cons, toks_all_cons, toks_all_cons]
    cases hx : PyData.eqv x y with
    | true =>
      rw [a1 hx, Bool.true_and]
      refine ⟨fun e => by rw [b1 e], fun e l m => ?_⟩
      simp only [List.cons_append, List.append_assoc]
      exact (lex_self (O := itemOrd) _ _ _).trans ((lex_pre _ _ _).trans ((b2 e l m).trans ((lex_pre _ _ _).symm.trans (lex_self (O := itemOrd) _ _ _).symm)))
    | false =>
      rw [Bool.false_and]
      refine ⟨fun e => absurd e Bool.false_ne_true, fun _ l m => ?_⟩
      simp only [List.cons_append, List.append_assoc]
      exact (lex_self (O := itemOrd) _ _ _).trans ((a2 hx _ _).trans ((a2 hx _ _).symm.trans (lex_self (O := itemOrd) _ _ _).symm))
end
theorem near_all_yes {x y : PyData} {xs ys : List PyData} (h : near x y = true) (e : PyData.eqv x y = true) : PyProof.Rows.lexLt itemOrd (keyToksAll (x :: xs)) (keyToksAll (y :: ys)) = PyProof.Rows.lexLt itemOrd (keyToksAll xs) (keyToksAll ys) := by
  rw [toks_all_cons, toks_all_cons, (toks_near x y h).1 e]
  exact (lex_self (O := itemOrd) _ _ _).trans (lex_pre _ _ _)
theorem near_all_no {x y : PyData} {xs ys : List PyData} (h : near x y = true) (e : PyData.eqv x y = false) : PyProof.Rows.lexLt itemOrd (keyToksAll (x :: xs)) (keyToksAll (y :: ys)) = dataLt x y := by
  rw [toks_all_cons, toks_all_cons]
  exact (lex_self (O := itemOrd) _ _ _).trans ((toks_near x y h).2 e _ _)
theorem firstLt_near : ∀ (xs ys : List PyData), nearAll xs ys = true →
    firstLt (pairEq xs ys) (fun j => dataLt (xs.getD j .none) (ys.getD j .none)) (decide (xs.length < ys.length)) (List.range (min xs.length ys.length)) = PyProof.Rows.lexLt itemOrd (keyToksAll xs) (keyToksAll ys)
  | [], [], _ => by simp [firstLt, keyToksAll, lex_irrefl]
  | [], y :: ys, _ => by
    rw [toks_all_cons]
    simp only [keyToksAll]
    rw [lex_diff (O := itemOrd) (by simp)]
    simp [firstLt, itemLt]
  | x :: xs, [], _ => by
    rw [toks_all_cons]
    simp only [keyToksAll]
    rw [lex_diff (O := itemOrd) (by simp)]
    simp [firstLt, itemLt]
  | x :: xs, y :: ys, h => by
    obtain ⟨h1, h2⟩ := near_all_cons h
    have ih := firstLt_near xs ys h2
    have em : min (x :: xs).length (y :: ys).length = min xs.length ys.length + 1 := by
      rw [List.length_cons, List.length_cons]
      omega
    have ed : decide ((x :: xs).length < (y :: ys).length) = decide (xs.length < ys.length) := by
      rw [List.length_cons, List.length_cons]
      exact decide_eq_decide.mpr (by omega)
    rw [em, ed, List.range_succ_eq_map]
    cases hx : PyData.eqv x y with
    | true =>
      rw [firstLt_yes (show pairEq (x :: xs) (y :: ys) 0 = true from hx), firstLt_map, near_all_yes h1 hx, ← ih]
      rfl
    | false =>
      rw [firstLt_no (show pairEq (x :: xs) (y :: ys) 0 = false from hx), near_all_no h1 hx]
      rfl
theorem near_ne_none {x y : PyData} (h : near x y = true) (e : PyData.eqv x y = false) : x ≠ .none := by
  rintro rfl
  cases y with
  | none => exact absurd e (by simp [PyData.eqv])
  | _ => exact absurd h (by simp [near])
theorem dataLt_bi (x : Bool) (y : Int) : dataLt (.bool x) (.int y) = decide ((if x = true then (1 : Int) else 0) < y) := by
  unfold dataLt
  simp only [keyToks]
  rw [lex_one]
  rfl
theorem dataLt_ib (x : Int) (y : Bool) : dataLt (.int x) (.bool y) = decide (x < (if y = true then (1 : Int) else 0)) := by
  unfold dataLt
  simp only [keyToks]
  rw [lex_one]
  rfl
theorem lt_bi_gives (a : Bool) (b : Int) (u : Tok) : Gives (Builtin.«int.__lt__» ⟨[.bool a, .int b u], []⟩) (.val (Value.bool (decide ((if a = true then (1 : Int) else 0) < b)))) :=
  .of_wp fun M A E s Q h => by obtain ⟨hp, g, d, tk, os⟩ := s; wp_walk; exact ⟨_, rfl, h⟩
theorem gt_bi_gives (a : Bool) (b : Int) (u : Tok) : Gives (Builtin.«int.__gt__» ⟨[.bool a, .int b u], []⟩) (.val (Value.bool (decide ((if a = true then (1 : Int) else 0) > b)))) :=
  .of_wp fun M A E s Q h => by obtain ⟨hp, g, d, tk, os⟩ := s; wp_walk; exact ⟨_, rfl, h⟩
theorem rcLt_bi {A : Around} {s : Shared} (a : Bool) (b : Int) (u : Tok) : RcLt A s (.bool a) (.int b u) (decide ((if a = true then (1 : Int) else 0) < b)) := fun prog w E Q h =>
  rc_left_or (op := .Lt) rfl (typeIs_int s b u) (by decide) F.sub_int_bool F.slot_bool_lt
    (call_gives F.slot_bool_lt rfl F.entry_int_lt (F.args_int_lt_2 _ _) (lt_bi_gives a b u) ⟨nofun, h⟩) (.inl rfl)
theorem rcLt_ib {A : Around} {s : Shared} (a : Int) (t : Tok) (b : Bool) : RcLt A s (.int a t) (.bool b) (decide (a < (if b = true then (1 : Int) else 0))) := fun prog w E Q h =>
  rc_sub_first_or (op := .Lt) (typeIs_int s a t) rfl (by decide) F.sub_bool_int F.slot_bool_gt
    (call_gives F.slot_bool_gt rfl F.entry_int_gt (F.args_int_gt_2 _ _) (gt_bi_gives b a t) ⟨nofun, h⟩) (.inl rfl)

theorem canLay_cons {x : PyData} {xs : List PyData} (h : PyData.canLayAll0 (x :: xs) = true) : x.canLay0 = true ∧ PyData.canLayAll0 xs = true := by
  simpa [PyData.canLayAll0] using h
mutual
theorem rcLt_near : ∀ (da db : PyData) (A : Around) (s : Shared) (a b : Value) (as bs : List Addr), Reads s.heap a da as → Reads s.heap b db bs → near da db = true → da.canLay0 = true → db.canLay0 = true → da ≠ .none → A.units + min da.depth db.depth < cLine → RcLt A s a b (dataLt da db)
  | .none, _, _, _, _, _, _, _, _, _, _, _, _, hn, _ => absurd rfl hn
  | .bool x, db, A, s, a, b, as, bs, ra, rb, h, _, _, e, _ => by
    cases db with
    | bool y =>
      cases ra
      cases rb
      intro prog w E Q hq
      rw [dataLt_bool] at hq
      exact lt_bool hq
    | int y =>
      cases ra
      cases rb
      rw [dataLt_bi]
      exact rcLt_bi _ _ _
    | _ => exact absurd h (by simp [near])
  | .int x, db, A, s, a, b, as, bs, ra, rb, h, _, _, e, _ => by
    cases db with
    | int y =>
      cases ra
      cases rb
      intro prog w E Q hq
      rw [dataLt_int] at hq
      exact P.lt_int hq
    | bool y =>
      cases ra
      cases rb
      rw [dataLt_ib]
      exact rcLt_ib _ _ _
    | _ => exact absurd h (by simp [near])
  | .str x, db, A, s, a, b, as, bs, ra, rb, h, _, _, e, _ => by
    cases db with
    | str y =>
      cases ra
      cases rb
      intro prog w E Q hq
      rw [dataLt_str] at hq
      exact P.lt_str hq
    | _ => exact absurd h (by simp [near])
  | .list xs, db, A, s, a, b, as, bs, ra, rb, h, ca, cb, e, hu => by
    cases db with
    | list ys =>
      have hal : nearAll xs ys = true := by simpa [near] using h
      have ca' : PyData.canLayAll0 xs = true := by simpa [PyData.canLay0] using ca
      have cb' : PyData.canLayAll0 ys = true := by simpa [PyData.canLay0] using cb
      cases ra with
      | @list l o vs n _ as₁ h1 h2 h3 h4 =>
        cases rb with
        | @list l' o' vs' n' _ bs₁ k1 k2 k3 k4 =>
          have n1 : vs.size = xs.length := by simpa using SeqAt.ReadsAll.length _ _ _ h4
          have n2 : vs'.size = ys.length := by simpa using SeqAt.ReadsAll.length _ _ _ k4
          rw [dataLt_list, ← firstLt_near xs ys hal, ← n1, ← n2]
          refine RcLt.lists ⟨_, h1, h2, _, h3⟩ ⟨_, k1, k2, _, k3⟩ (room_here hu) (fun j j1 j2 => ?_) fun j j1 j2 hj => ?_
          · have := eqAt_readsAll xs ys A.in1 s vs.toList vs'.toList _ _ h4 k4 ca' cb' (room_in hu) j (by simpa using j1) (by simpa using j2)
            simpa using this
          · have := rcLt_nearAll xs ys A.in1 s vs.toList vs'.toList _ _ h4 k4 hal ca' cb' (room_in hu) j (by simpa using j1) (by simpa using j2) hj
            simpa using this
    | _ => exact absurd h (by simp [near])
  | .tuple xs, db, A, s, a, b, as, bs, ra, rb, h, ca, cb, e, hu => by
    cases db with
    | tuple ys =>
      have hal : nearAll xs ys = true := by simpa [near] using h
      have ca' : PyData.canLayAll0 xs = true := by simpa [PyData.canLay0] using ca
      have cb' : PyData.canLayAll0 ys = true := by simpa [PyData.canLay0] using cb
      cases ra with
      | @tuple l o vs n _ as₁ h1 h2 h3 h4 =>
        cases rb with
        | @tuple l' o' vs' n' _ bs₁ k1 k2 k3 k4 =>
          have n1 : vs.size = xs.length := by simpa using SeqAt.ReadsAll.length _ _ _ h4
          have n2 : vs'.size = ys.length := by simpa using SeqAt.ReadsAll.length _ _ _ k4
          rw [dataLt_tuple, ← firstLt_near xs ys hal, ← n1, ← n2]
          refine RcLt.tuples ⟨_, h1, h2, _, h3⟩ ⟨_, k1, k2, _, k3⟩ (room_here hu) (fun j j1 j2 => ?_) fun j j1 j2 hj => ?_
          · have := eqAt_readsAll xs ys A.in1 s vs.toList vs'.toList _ _ h4 k4 ca' cb' (room_in hu) j (by simpa using j1) (by simpa using j2)
            simpa using this
          · have := rcLt_nearAll xs ys A.in1 s vs.toList vs'.toList _ _ h4 k4 hal ca' cb' (room_in hu) j (by simpa using j1) (by simpa using j2) hj
            simpa using this
    | _ => exact absurd h (by simp [near])
  | .dict _, db, _, _, _, _, _, _, _, _, h, _, _, _, _ => absurd h (by cases db <;> simp [near])
theorem rcLt_nearAll : ∀ (xs ys : List PyData) (A : Around) (s : Shared) (vs ws : List Value) (as bs : List Addr), ReadsAll s.heap vs xs as → ReadsAll s.heap ws ys bs → nearAll xs ys = true → PyData.canLayAll0 xs = true → PyData.canLayAll0 ys = true →
    A.units + min (PyData.depthAll xs) (PyData.depthAll ys) < cLine → ∀ j (h1 : j < vs.length) (h2 : j < ws.length), pairEq xs ys j = false → RcLt A s vs[j] ws[j] (dataLt (xs.getD j .none) (ys.getD j .none))
  | [], _, _, _, _, _, _, _, ra, _, _, _, _, _, j, h1, _, _ => by cases ra; exact absurd h1 (Nat.not_lt_zero _)
  | _ :: _, [], _, _, _, _, _, _, _, rb, _, _, _, _, j, _, h2, _ => by cases rb; exact absurd h2 (Nat.not_lt_zero _)
  | x :: xs, y :: ys, A, s, _, _, _, _, ra, rb, h, ca, cb, hu, j, h1, h2, hj => by
    cases ra with
    | cons r rs =>
      cases rb with
      | cons r' rs' =>
        cases j with
        | zero => exact rcLt_near x y A s _ _ _ _ r r' (near_all_cons h).1 (canLay_cons ca).1 (canLay_cons cb).1 (near_ne_none (near_all_cons h).1 hj) (room_head hu)
        | succ j => exact rcLt_nearAll xs ys A s _ _ _ _ rs rs' (near_all_cons h).2 (canLay_cons ca).2 (canLay_cons cb).2 (room_tail hu) j (Nat.lt_of_succ_lt_succ h1) (Nat.lt_of_succ_lt_succ h2) hj
end

/-! as sorting compares -/
section
variable {prog : Program} {w : World} {A : Around} {E : Value → Shared → Prop} {s : Shared}
theorem oneLt_near {f : Bool} {da db : PyData} {a b : Value} {as bs : List Addr} {Q : Bool → Shared → Prop} (hf : f = true → dataType da = dataType db ∧ isTupD da = false) (ra : Reads s.heap a da as) (rb : Reads s.heap b db bs) (h : near da db = true)
    (ca : da.canLay0 = true) (cb : db.canLay0 = true) (hn : da ≠ .none) (hu : A.units + min da.depth db.depth < cLine) (hq : Q (dataLt da db) s) : wpAny (model prog w) A (oneLt' f a b) Q E s := by
  cases f with
  | false =>
    rw [oneLt'_eq]
    simp only [Bool.false_eq_true, if_false]
    exact wpAny_bind (rcLt_near da db A s a b as bs ra rb h ca cb hn hu prog w E _ (wpAny_truthy_bool hq))
  | true =>
    obtain ⟨ht, hnt⟩ := hf rfl
    cases da with
    | none => exact absurd rfl hn
    | bool x =>
      cases db with
      | bool y =>
        cases ra
        cases rb
        rw [dataLt_bool] at hq
        exact oneLt_bool hq
      | int y => exact absurd ht (by simp [dataType])
      | _ => exact absurd h (by simp [near])
    | int x =>
      cases db with
      | int y =>
        cases ra
        cases rb
        rw [dataLt_int] at hq
        exact oneLt_int hq
      | bool y => exact absurd ht (by simp [dataType])
      | _ => exact absurd h (by simp [near])
    | str x =>
      cases db with
      | str y =>
        cases ra
        cases rb
        rw [dataLt_str] at hq
        exact oneLt_str hq
      | _ => exact absurd h (by simp [near])
    | list xs =>
      cases db with
      | list ys =>
        have hal : nearAll xs ys = true := by simpa [near] using h
        have ca' : PyData.canLayAll0 xs = true := by simpa [PyData.canLay0] using ca
        have cb' : PyData.canLayAll0 ys = true := by simpa [PyData.canLay0] using cb
        cases ra with
        | @list l o vs n _ as₁ h1 h2 h3 h4 =>
          cases rb with
          | @list l' o' vs' n' _ bs₁ k1 k2 k3 k4 =>
            have n1 : vs.size = xs.length := by simpa using SeqAt.ReadsAll.length _ _ _ h4
            have n2 : vs'.size = ys.length := by simpa using SeqAt.ReadsAll.length _ _ _ k4
            rw [dataLt_list, ← firstLt_near xs ys hal, ← n1, ← n2] at hq
            rw [oneLt'_eq]
            simp only [if_true]
            refine wpAny_bind (wpAny_cRoomFor (room_here hu) ?_)
            refine wpAny_bind (wpAny_callSpecialIfBound?_slot (T := "list") ⟨_, h1, h2⟩ F.slot_list_lt (call_list_lt (e := pairEq xs ys) (r := fun j => dataLt (xs.getD j .none) (ys.getD j .none)) ⟨_, h1, h2, _, h3⟩ ⟨_, k1, k2, _, k3⟩ (fun j j1 j2 => ?_) (fun j j1 j2 hj => ?_) ?_))
            · have := eqAt_readsAll xs ys A.in1 s vs.toList vs'.toList _ _ h4 k4 ca' cb' (room_in hu) j (by simpa using j1) (by simpa using j2)
              simpa using this
            · have := rcLt_nearAll xs ys A.in1 s vs.toList vs'.toList _ _ h4 k4 hal ca' cb' (room_in hu) j (by simpa using j1) (by simpa using j2) hj
              simpa using this
            · exact wpAny_truthy_bool hq
      | _ => exact absurd h (by simp [near])
    | tuple xs => exact absurd hnt (by simp [isTupD])
    | dict _ => exact absurd h (by cases db <;> simp [near])

theorem katLex_near {b fin : Bool} {Q : Bool → Shared → Prop} : ∀ (xs ys : List PyData) (i : Nat) (vs ws : List Value) (as bs : List Addr), ReadsAll s.heap vs xs as → ReadsAll s.heap ws ys bs → nearAll xs ys = true → PyData.canLayAll0 xs = true → PyData.canLayAll0 ys = true →
    A.units + min (PyData.depthAll xs) (PyData.depthAll ys) < cLine → (b = true → i = 0 → ∀ x r y t, xs = x :: r → ys = y :: t → dataType x = dataType y ∧ isTupD x = false) → fin = decide (xs.length < ys.length) → Q (PyProof.Rows.lexLt itemOrd (keyToksAll xs) (keyToksAll ys)) s → KatLex prog w A b fin Q (vs.zip ws) i s
  | [], [], i, _, _, _, _, ra, rb, _, _, _, _, _, hf, hq => by
    cases ra
    cases rb
    have e : fin = false := by rw [hf]; rfl
    subst e
    rw [lex_irrefl] at hq
    exact kat_nil hq
  | [], y :: ys, i, _, _, _, _, ra, rb, _, _, _, _, _, hf, hq => by
    cases ra
    have e : fin = true := by rw [hf]; exact decide_eq_true (Nat.succ_pos _)
    subst e
    rw [toks_all_cons] at hq
    simp only [keyToksAll] at hq
    rw [lex_diff (O := itemOrd) (by simp)] at hq
    rw [List.zip_nil_left]
    exact kat_nil (by simpa [itemLt] using hq)
  | x :: xs, [], i, _, _, _, _, ra, rb, _, _, _, _, _, hf, hq => by
    cases rb
    have e : fin = false := by rw [hf]; exact decide_eq_false (Nat.not_lt_zero _)
    subst e
    rw [toks_all_cons] at hq
    simp only [keyToksAll] at hq
    rw [lex_diff (O := itemOrd) (by simp)] at hq
    rw [List.zip_nil_right]
    exact kat_nil (by simpa [itemLt] using hq)
  | x :: xs, y :: ys, i, _, _, _, _, ra, rb, h, ca, cb, hu, hb, hf, hq => by
    obtain ⟨h1, h2⟩ := near_all_cons h
    obtain ⟨c1, c2⟩ := canLay_cons ca
    obtain ⟨d1, d2⟩ := canLay_cons cb
    have hf' : fin = decide (xs.length < ys.length) := by
      rw [hf]
      simp only [List.length_cons, Nat.add_lt_add_iff_right]
    cases ra with
    | cons r rs =>
      cases rb with
      | cons r' rs' =>
        rw [List.zip_cons_cons]
        refine kat_cons (eqAt_reads x y A s _ _ _ _ r r' c1 d1 (room_head hu) prog w _ _ ?_)
        cases hx : PyData.eqv x y with
        | true =>
          rw [near_all_yes h1 hx] at hq
          exact kat_yes (katLex_near xs ys (i + 1) _ _ _ _ rs rs' h2 c2 d2 (room_tail hu) (fun _ hi => absurd hi (Nat.succ_ne_zero i)) hf' hq)
        | false =>
          rw [near_all_no h1 hx] at hq
          refine kat_no (oneLt_near (fun hbi => ?_) r r' h1 c1 d1 (near_ne_none h1 hx) (room_head hu) hq)
          rw [Bool.and_eq_true] at hbi
          exact hb hbi.1 (by simpa using hbi.2) x xs y ys rfl rfl
end

/-! values that can be sorted -/
mutual
theorem reads_inj {h : Heap} : ∀ (d d' : PyData) (v : Value) (as as' : List Addr), d.canLay0 = true → Reads h v d as → Reads h v d' as' → d = d'
  | .none, _, _, _, _, _, r, r' => by cases r; cases r'; rfl
  | .bool _, _, _, _, _, _, r, r' => by cases r; cases r'; rfl
  | .int _, _, _, _, _, _, r, r' => by cases r; cases r'; rfl
  | .str _, _, _, _, _, _, r, r' => by cases r; cases r'; rfl
  | .list xs, d', _, _, _, ha, r, r' => by
    have c : PyData.canLayAll0 xs = true := by simpa [PyData.canLay0] using ha
    cases r with
    | list h1 h2 h3 h4 =>
      cases r' with
      | list k1 k2 k3 k4 =>
        rw [h1] at k1; cases k1
        rw [h3] at k3; cases k3
        rw [readsAll_inj xs _ _ _ _ c h4 k4]
      | tuple k1 k2 k3 k4 => rw [h1] at k1; cases k1; rw [h2] at k2; exact absurd k2 (by simp)
      | dict k1 k2 k3 k4 k5 => rw [h1] at k1; cases k1; rw [h2] at k2; exact absurd k2 (by simp)
  | .tuple xs, d', _, _, _, ha, r, r' => by
    have c : PyData.canLayAll0 xs = true := by simpa [PyData.canLay0] using ha
    cases r with
    | tuple h1 h2 h3 h4 =>
      cases r' with
      | tuple k1 k2 k3 k4 =>
        rw [h1] at k1; cases k1
        rw [h3] at k3; cases k3
        rw [readsAll_inj xs _ _ _ _ c h4 k4]
      | list k1 k2 k3 k4 => rw [h1] at k1; cases k1; rw [h2] at k2; exact absurd k2 (by simp)
      | dict k1 k2 k3 k4 k5 => rw [h1] at k1; cases k1; rw [h2] at k2; exact absurd k2 (by simp)
  | .dict _, _, _, _, _, ha, _, _ => absurd ha (by simp [PyData.canLay0])
theorem readsAll_inj {h : Heap} : ∀ (ds ds' : List PyData) (vs : List Value) (as as' : List Addr), PyData.canLayAll0 ds = true → ReadsAll h vs ds as → ReadsAll h vs ds' as' → ds = ds'
  | [], _, _, _, _, _, r, r' => by cases r; cases r'; rfl
  | d :: ds, _, _, _, _, ha, r, r' => by
    obtain ⟨c1, c2⟩ := canLay_cons ha
    cases r with
    | cons r1 r2 =>
      cases r' with
      | cons q1 q2 => rw [reads_inj d _ _ _ _ c1 r1 q1, readsAll_inj ds _ _ _ _ c2 r2 q2]
end
def AllNear (ds : List PyData) : Prop := ∀ d, d ∈ ds → ∀ d', d' ∈ ds → near d d' = true
/-- all are tuples whose first items are of one type, or all are of one other type -/
def Sortable2 (ds : List PyData) : Prop := ((∀ d, d ∈ ds → ∃ x r, d = .tuple (x :: r)) ∧ ∀ d, d ∈ ds → ∀ d', d' ∈ ds → dataType (firstD d) = dataType (firstD d')) ∨
  ((∀ d, d ∈ ds → d ≠ .none ∧ isTupD d = false) ∧ ∀ d, d ∈ ds → ∀ d', d' ∈ ds → dataType d = dataType d')
theorem dataKind_some2 {h : Heap} {ds : List PyData} (hc : ∀ d, d ∈ ds → d.canLay0 = true) {v : Value} {d : PyData} {as : List Addr} (hd : d ∈ ds) (r : Reads h v d as) : (dataKind h ds).keyOf v = some (keyToks d) := by
  have q : ∃ d, d ∈ ds ∧ ∃ as, Reads h v d as := ⟨d, hd, as, r⟩
  have e : (dataKind h ds).keyOf v = some (keyToks q.choose) := by
    show (open Classical in if q : ∃ d, d ∈ ds ∧ ∃ as, Reads h v d as then some (keyToks q.choose) else none) = _
    rw [dif_pos q]
  obtain ⟨h1, as', h2⟩ := q.choose_spec
  rw [e, reads_inj _ _ _ _ _ (hc _ h1) h2 r]
theorem each_keys2 {h : Heap} {ds : List PyData} (hc : ∀ d, d ∈ ds → d.canLay0 = true) {vs : List Value} (e : EachIs (fun v d => ∃ as, Reads h v d as) vs ds) : EachIs (fun v d => (dataKind h ds).keyOf v = some (keyToks d)) vs ds :=
  (each_mem e).mono fun _ _ ⟨⟨_, r⟩, hd⟩ => dataKind_some2 hc hd r
section
variable {prog : Program} {w : World} {A : Around} {s : Shared}
theorem isTup_type {x : PyData} (h : (dataType x != Value.type "tuple") = true) : isTupD x = false := by
  cases x with
  | tuple xs => exact absurd h (by simp [dataType])
  | _ => rfl
theorem type_isTup {x : PyData} (h : isTupD x = false) : (dataType x != Value.type "tuple") = true := by
  cases x with
  | tuple xs => exact absurd h (by simp [isTupD])
  | _ => first | rfl | decide
theorem sortsAt_near {vs : List Value} {ds : List PyData} (e : EachIs (fun v d => ∃ as, Reads s.heap v d as) vs ds) (hal : AllNear ds) (hc : ∀ d, d ∈ ds → d.canLay0 = true) (hk : Sortable2 ds) (hu : ∀ d, d ∈ ds → A.units + d.depth < cLine) :
    SortsAt prog w A s (dataKind s.heap ds) vs := by
  have room : ∀ {d d' : PyData}, d ∈ ds → A.units + min d.depth d'.depth < cLine := fun {d d'} hd => Nat.lt_of_le_of_lt (Nat.add_le_add_left (Nat.min_le_left _ _) _) (hu d hd)
  refine ⟨fun v hv => ?_, ?_⟩
  · obtain ⟨d, hd, as, r⟩ := e.left v hv
    exact ⟨_, dataKind_some2 hc hd r⟩
  · rcases hk with ⟨ht, hty⟩ | ⟨hn, hty⟩
    · cases ds with
      | nil =>
        cases e
        exact ⟨general', fun E x y a b Q ha _ _ => (by
          obtain ⟨d, _, hd, _⟩ := dataKind_inv ha
          exact absurd hd (by simp)), fun h2 => absurd h2 (by simp)⟩
      | cons d₀ ds₀ =>
        obtain ⟨x₀, r₀, e₀⟩ := ht d₀ (List.mem_cons_self ..)
        have hfirst : ∀ x r, PyData.tuple (x :: r) ∈ d₀ :: ds₀ → dataType x = dataType x₀ := by
          intro x r hm
          have q := hty _ hm d₀ (List.mem_cons_self ..)
          rw [e₀] at q
          exact q
        refine ⟨tuples' (dataType x₀ != Value.type "tuple"), ?_, fun h2 E Q hq => ?_⟩
        · intro E x y a b Q ha hb hq
          obtain ⟨d, as, hd, ra, rfl⟩ := dataKind_inv ha
          obtain ⟨d', as', hd', rb, rfl⟩ := dataKind_inv hb
          have hdd := hal d hd d' hd'
          have hroom := room (d' := d') hd
          have c1 := hc d hd
          have c2 := hc d' hd'
          obtain ⟨x1, r1, rfl⟩ := ht d hd
          obtain ⟨x2, r2, rfl⟩ := ht d' hd'
          have hq' : Q (dataLt (.tuple (x1 :: r1)) (.tuple (x2 :: r2))) s := hq
          rw [dataLt_tuple] at hq'
          cases ra with
          | @tuple l o xs n _ _ h1 h2 h3 h4 =>
            cases rb with
            | @tuple l' o' xs' n' _ _ k1 k2 k3 k4 =>
              have n1 : xs.size = (x1 :: r1).length := by simpa using SeqAt.ReadsAll.length _ _ _ h4
              have n2 : xs'.size = (x2 :: r2).length := by simpa using SeqAt.ReadsAll.length _ _ _ k4
              refine kat_lt h1 h3 k1 k3 (katLex_near (x1 :: r1) (x2 :: r2) 0 _ _ _ _ h4 k4 (by simpa [near] using hdd) (by simpa [PyData.canLay0] using c1) (by simpa [PyData.canLay0] using c2) (by have q := SeqAt.room_in hroom; omega) (fun hb _ x r y t ex ey => ?_) (by rw [n1, n2]) hq')
              obtain ⟨rfl, rfl⟩ := List.cons.inj ex
              obtain ⟨rfl, rfl⟩ := List.cons.inj ey
              refine ⟨(hfirst _ _ hd).trans (hfirst _ _ hd').symm, isTup_type ?_⟩
              rw [hfirst _ _ hd]
              exact hb
        · obtain ⟨fs, t1, t2, t3⟩ := each_katTups e ht
          refine kat_kind (T := dataType x₀) t1 (by omega) (fun f hf => ?_) (beq_self_eq_true _) hq
          obtain ⟨x, r, as, m1, m2⟩ := t3 f hf
          rw [← hfirst x r m1]
          exact looks_reads m2
    · refine ⟨oneType', ?_, fun h2 E Q hq => ?_⟩
      · intro E x y a b Q ha hb hq
        obtain ⟨d, as, hd, ra, rfl⟩ := dataKind_inv ha
        obtain ⟨d', as', hd', rb, rfl⟩ := dataKind_inv hb
        rw [keyLt'_oneType]
        exact oneLt_near (fun _ => ⟨hty d hd d' hd', (hn d hd).2⟩) ra rb (hal d hd d' hd') (hc d hd) (hc d' hd') (hn d hd).1 (room hd) hq
      · cases ds with
        | nil =>
          cases e
          exact absurd h2 (by simp)
        | cons d₀ ds₀ =>
          refine kas_kind (T := dataType d₀) h2 (fun v hv => ?_) (type_isTup (hn d₀ (List.mem_cons_self ..)).2) (beq_self_eq_true _) hq
          obtain ⟨d, hd, as, r⟩ := e.left v hv
          rw [← hty d hd d₀ (List.mem_cons_self ..)]
          exact looks_reads r
end
end DL
end
section
set_option Elab.async false
set_option linter.all false
set_option maxRecDepth 100000
set_option autoImplicit false
set_option maxHeartbeats 1000000
/-! DLd: comparisons, sorted, by values. -/
namespace DL
open PySem PySem.Spec PyProof.Rows L2

theorem canLay_of {d : D} (h : SeqAt.shaped d = true) : d.canLay0 = true := SeqAt.canLay_of_shaped h
/-! ### sorted -/
def rSortD (K : PySem.W.Frag) : List V → Hp → VK → Prop := fun xs H Q => ∃ (a : Addr) (vs : List V) (ds : List D), xs = [.ref a] ∧ SqL K H a vs ∧ DpAll K H vs ds ∧ AllNear ds ∧ (∀ d ∈ ds, SeqAt.shaped d = true) ∧ Sortable2 ds ∧
  ∀ p, H p = none → Q (.ref p) (upd H p (.lst (((vs.zip ds).mergeSort (PySem.W.dataLe false (·.2))).map (·.1))))
theorem each_pairs {K : PySem.W.Frag} {H : Hp} {X : Cx} {pins : List (Addr × Obj)} {σ : L2.St} {s : Shared} (I : Inv X pins σ H s) : ∀ {vs : List V} {ds : List D} {us : List Value}, DpAll X.K H vs ds → Vals vs us →
    PySem.W.EachIs (fun u (p : V × D) => RelV p.1 u ∧ ∃ as, Reads s.heap u p.2 as) us (vs.zip ds)
  | [], [], [], .nil, .nil => .nil
  | v :: vs, d :: ds, u :: us, .cons h1 h2, .cons r1 r2 => .cons ⟨r1, Dp.reads I d v u h1 r1⟩ (each_pairs (K := K) I h2 r2)
theorem vals_of_each : ∀ {us : List Value} {ps : List (V × D)}, PySem.W.EachIs (fun u (p : V × D) => RelV p.1 u) us ps → Vals (ps.map (·.1)) us
  | _, _, .nil => .nil
  | _, _, .cons h t => .cons h (vals_of_each t)
theorem zip_snd {α β : Type} : ∀ {xs : List α} {ys : List β}, xs.length = ys.length → (xs.zip ys).map (·.2) = ys
  | [], [], _ => rfl
  | _ :: _, _ :: _, h => by
    rw [List.zip_cons_cons, List.map_cons, zip_snd (by simpa using h)]
theorem zip_fst {α β : Type} : ∀ {xs : List α} {ys : List β}, xs.length = ys.length → (xs.zip ys).map (·.1) = xs
  | [], [], _ => rfl
  | _ :: _, _ :: _, h => by
    rw [List.zip_cons_cons, List.map_cons, zip_fst (by simpa using h)]
theorem dpAll_length {K : PySem.W.Frag} {H : Hp} : ∀ {vs : List V} {ds : List D}, DpAll K H vs ds → vs.length = ds.length
  | _, _, .nil => rfl
  | _, _, .cons _ b => by rw [List.length_cons, List.length_cons, dpAll_length b]
theorem cr_sortD {X : Cx} (hu : X.A.units + 200 < cLine) : CallR X (.builtin "sorted") (rSortD X.K) := by
  intro pins s σ H xs us Q I r h
  obtain ⟨a, vs, ds, rfl, hq, hd, hal, hsh, hk, q⟩ := h
  obtain ⟨its, rv, hl, hz⟩ := I.list hq
  rw [Vals.ref1 r]
  have hlen := dpAll_length hd
  have ez : (vs.zip ds).map (·.2) = ds := zip_snd hlen
  have e := each_pairs (K := X.K) I hd rv
  have old : ∀ b o, s.heap.get? b = some o → (PySem.W.sortingHeap (PySem.W.copyHeap s.heap its) (s.heap.objs.size + 1) its).get? b = some o := fun _ _ => PySem.W.sorting_copy_old
  have er : PySem.W.EachIs (fun u d => ∃ as, Reads (PySem.W.sortingHeap (PySem.W.copyHeap s.heap its) (s.heap.objs.size + 1) its) u d as) its ds := by
    have e2 := PySem.W.each_map (R := fun u d => ∃ as, Reads (PySem.W.sortingHeap (PySem.W.copyHeap s.heap its) (s.heap.objs.size + 1) its) u d as) (fun p : V × D => p.2)
      (e.mono fun _ _ ⟨_, as, rr⟩ => ⟨as, PyProof.Rows.Reads.keeps old rr⟩)
    rw [ez] at e2
    exact e2
  have S := sortsAt_near (prog := X.prog) (w := X.w) (A := X.A.in1.in1) (s := { s with heap := PySem.W.sortingHeap (PySem.W.copyHeap s.heap its) (s.heap.objs.size + 1) its }) er hal (fun d h => canLay_of (hsh d h)) hk
    (fun d h => by have := SeqAt.depth_of_shaped (hsh d h); show X.A.units + 1 + 1 + _ < _; omega)
  refine PySem.W.sorted_vals hl.isList S (by rw [← rv.length]; exact hz) ?_
  have ks : PySem.W.EachIs (fun v b => (PySem.W.dataKind (PySem.W.sortingHeap (PySem.W.copyHeap s.heap its) (s.heap.objs.size + 1) its) ds).keyOf v = some (PySem.W.keyToks b.2)) its (vs.zip ds) := by
    have k := each_keys2 (fun d h => canLay_of (hsh d h)) er
    rw [← ez] at k
    exact PySem.W.each_of_map (fun p : V × D => p.2) (by rw [ez] at k; rw [ez]; exact k)
  have out := PySem.W.sortVals_each (κ := PySem.W.dataKind (PySem.W.sortingHeap (PySem.W.copyHeap s.heap its) (s.heap.objs.size + 1) its) ds) (R := fun u (p : V × D) => RelV p.1 u) (rev := false) (fun p : V × D => PySem.W.keyToks p.2) (e.mono fun _ _ z => z.1) ks
  obtain ⟨ep, he'⟩ := PyProof.Rows.sortedAll_at s.heap its (PySem.W.sortVals (PySem.W.dataKind (PySem.W.sortingHeap (PySem.W.copyHeap s.heap its) (s.heap.objs.size + 1) its) ds) false its its).toArray
  have vo := vals_of_each out
  have hlen2 : (((vs.zip ds).mergeSort (PySem.W.dataLe false (·.2))).map (·.1)).length ≤ sizeLine := by
    rw [List.length_map, List.length_mergeSort, List.length_zip, hlen, Nat.min_self, ← hlen]
    exact hz
  exact ⟨.ref _, upd H (s.heap.objs.size + 1) (.lst (((vs.zip ds).mergeSort (PySem.W.dataLe false (·.2))).map (·.1))), I.laid (t' := s.toks) (fun _ _ => PyProof.Rows.sortedAll_old) (Nat.le_succ _) ⟨hlen2, _, ep, vo, he'⟩, rfl, q _ (I.hok.fresh (Nat.le_succ _))⟩

theorem map_sort {α β : Type} (f : α → β) (le : β → β → Bool) : ∀ l : List α, (l.mergeSort fun a b => le (f a) (f b)).map f = (l.map f).mergeSort le := fun l =>
  List.map_mergeSort (r := fun a b => le (f a) (f b)) (s := le) (f := f) fun _ _ _ _ => rfl
theorem repAll_sorted {K : PySem.W.Frag} {H : Hp} {Lv : Addr → Prop} {vs : List V} {ds : List D} (r : RepAll K H Lv vs ds) :
    RepAll K H Lv (((vs.zip ds).mergeSort (PySem.W.dataLe false (·.2))).map (·.1)) (sortD ds) := by
  have e : sortD ds = ((vs.zip ds).mergeSort (PySem.W.dataLe false (·.2))).map (·.2) := by
    unfold sortD
    have q := map_sort (fun p : V × D => p.2) (PySem.W.dataLe false id) (vs.zip ds)
    rw [zip_snd r.length] at q
    exact q.symm
  rw [e]
  have hp := List.mergeSort_perm (vs.zip ds) (PySem.W.dataLe false (·.2))
  have mem : ∀ {vs : List V} {ds : List D}, RepAll K H Lv vs ds → ∀ p ∈ vs.zip ds, Rep K H Lv p.1 p.2 := by
    intro vs ds r
    induction r using RepAll.rec (motive_1 := fun _ _ _ => True) with
    | nil => intro p hp; simp at hp
    | cons a t _ ih =>
      intro p hp
      rw [List.zip_cons_cons] at hp
      rcases List.mem_cons.mp hp with e | hp
      · rw [e]; exact a
      · exact ih p hp
    | _ => trivial
  have all : ∀ l : List (V × D), (∀ p ∈ l, Rep K H Lv p.1 p.2) → RepAll K H Lv (l.map (·.1)) (l.map (·.2)) := by
    intro l
    induction l with
    | nil => intro _; exact .nil
    | cons p l ih => intro h; exact .cons (h p List.mem_cons_self) (ih fun q hq => h q (List.mem_cons_of_mem _ hq))
  exact all _ fun p h => mem r p (hp.mem_iff.mp h)
theorem tyNo_type {x y : D} (h : tyNo x = tyNo y) : PySem.W.dataType x = PySem.W.dataType y := by
  cases x <;> cases y <;> first | rfl | exact absurd h (by simp [tyNo])
theorem sortOk_ok {xs : List D} (h : sortOk xs = true) : AllNear xs ∧ (∀ d ∈ xs, SeqAt.shaped d = true) ∧ Sortable2 xs := by
  unfold sortOk allSame at h
  simp only [Bool.and_eq_true, Bool.or_eq_true, List.all_eq_true, beq_iff_eq] at h
  obtain ⟨⟨h1, h2⟩, h3⟩ := h
  refine ⟨h2, h1, ?_⟩
  rcases h3 with ⟨a, b⟩ | ⟨a, b⟩
  · refine .inl ⟨fun d hd => ?_, fun d hd d' hd' => tyNo_type (b d hd d' hd')⟩
    have q := a d hd
    cases d with
    | tuple zs =>
      cases zs with
      | nil => exact absurd q (by simp [isTup1])
      | cons z zs => exact ⟨z, zs, rfl⟩
    | _ => exact absurd q (by simp [isTup1])
  · refine .inr ⟨fun d hd => ?_, fun d hd d' hd' => tyNo_type (b d hd d' hd')⟩
    obtain ⟨q1, q2⟩ := a d hd
    refine ⟨fun e => ?_, by simpa using q2⟩
    rw [e] at q1
    exact absurd q1 (by simp [notNone])

/-! ### comparisons -/
def cmPy : Cm → CmpOp
  | .eq => .Eq | .ne => .NotEq | .lt => .Lt | .le => .LtE | .gt => .Gt | .ge => .GtE | .isin => .In | .notin => .NotIn | .is => .Is | .isnot => .IsNot
def rLtD (K : PySem.W.Frag) : R2 := fun x y H Q => ∃ d e, Dp K H x d ∧ Dp K H y e ∧ SeqAt.shaped d = true ∧ SeqAt.shaped e = true ∧ near d e = true ∧ d ≠ .none ∧ Q (.bl (PySem.W.dataLt d e)) H
theorem op_ltD {X : Cx} (hu : X.A.units + 64 < cLine) : OpR X (compareOp .Lt) (rLtD X.K) := by
  intro pins s σ H x y v u Q I rx ry h
  obtain ⟨d, e, hd, he, sd, se, hn, hnn, q⟩ := h
  obtain ⟨as, r1⟩ := Dp.reads I d x v hd rx
  obtain ⟨bs, r2⟩ := Dp.reads I e y u he ry
  exact rcLt_near d e X.A s v u as bs r1 r2 hn (canLay_of sd) (canLay_of se) hnn (by have := SeqAt.depth_of_shaped sd; have := Nat.min_le_left d.depth e.depth; omega) X.prog X.w _ _ ⟨.bl _, H, I, rfl, q⟩
def rInT (K : PySem.W.Frag) : R2 := fun x y H Q => ∃ d ds, Dp K H x d ∧ Dp K H y (.tuple ds) ∧ SeqAt.shaped d = true ∧ SeqAt.shaped (.tuple ds) = true ∧ Q (.bl (ds.any fun z => PyData.eqv z d)) H
def rNotInT (K : PySem.W.Frag) : R2 := fun x y H Q => ∃ d ds, Dp K H x d ∧ Dp K H y (.tuple ds) ∧ SeqAt.shaped d = true ∧ SeqAt.shaped (.tuple ds) = true ∧ Q (.bl (!ds.any fun z => PyData.eqv z d)) H
theorem room_inT {A : Around} {d : D} {n : Nat} (sd : SeqAt.shaped d = true) (hu : A.units + 65 < cLine) : A.units + 1 + min n d.depth < cLine := by
  have := SeqAt.depth_of_shaped sd
  have := Nat.min_le_right n d.depth
  omega
theorem op_inT {X : Cx} (hu : X.A.units + 65 < cLine) : OpR X (compareOp .In) (rInT X.K) := by
  intro pins s σ H x y v u Q I rx ry h
  obtain ⟨d, ds, hd, he, sd, se, q⟩ := h
  obtain ⟨as, r1⟩ := Dp.reads I d x v hd rx
  obtain ⟨bs, r2⟩ := Dp.reads I (.tuple ds) y u he ry
  exact SeqAt.in_tuple_reads r2 r1 (SeqAt.canLay_of_shaped se) (SeqAt.canLay_of_shaped sd) (room_inT sd hu) ⟨.bl _, H, I, rfl, q⟩
theorem op_notInT {X : Cx} (hu : X.A.units + 65 < cLine) : OpR X (compareOp .NotIn) (rNotInT X.K) := by
  intro pins s σ H x y v u Q I rx ry h
  obtain ⟨d, ds, hd, he, sd, se, q⟩ := h
  obtain ⟨as, r1⟩ := Dp.reads I d x v hd rx
  obtain ⟨bs, r2⟩ := Dp.reads I (.tuple ds) y u he ry
  exact SeqAt.notIn_tuple_reads r2 r1 (SeqAt.canLay_of_shaped se) (SeqAt.canLay_of_shaped sd) (room_inT sd hu) ⟨.bl _, H, I, rfl, q⟩
def rCm (K : PySem.W.Frag) : Cm → R2
  | .eq => rEqD K
  | .ne => rNeD K
  | .lt => rLtD K
  | .le => rI0 fun i j => .bl (decide (i ≤ j))
  | .gt => rI0 fun i j => .bl (decide (j < i))
  | .ge => rI0 fun i j => .bl (decide (j ≤ i))
  | .isin => orR (rInD K) (rInT K)
  | .notin => orR (rNotInD K) (rNotInT K)
  | .is => orR (fun x y H Q => y = .non ∧ Q (.bl (decide (x = .non))) H) rIsB
  | .isnot => orR (fun x y H Q => y = .non ∧ Q (.bl (!decide (x = .non))) H) rNotB
theorem cm_ok {X : Cx} (c : Cm) (hu : X.A.units + 200 < cLine) : OpR X (compareOp (cmPy c)) (rCm X.K c) := by
  have h1 : X.A.units + 64 < cLine := by omega
  have h2 : X.A.units + 65 < cLine := by omega
  cases c with
  | eq => exact op_eqD h1
  | ne => exact op_neD h1
  | lt => exact op_ltD h1
  | le => exact op_le
  | gt => exact op_gt
  | ge => exact op_ge
  | isin => exact (op_inD h2).or (op_inT h2)
  | notin => exact (op_notInD h2).or (op_notInT h2)
  | is => exact op_isN.or op_isBl
  | isnot => exact op_notN.or op_notBl
end DL
end
section
set_option Elab.async false
set_option linter.all false
set_option maxRecDepth 100000
set_option autoImplicit false
set_option maxHeartbeats 1000000
/-! DLe: readings by the evaluator, for each form of an expression. -/
namespace DL
open PySem PySem.Spec PyProof.Rows L2

inductive RepWs (K : PySem.W.Frag) (ι : Ix) (m : Store) (H : Hp) : List V → List Val → Prop
  | nil : RepWs K ι m H [] []
  | cons {v : V} {vs : List V} {w : Val} {ws : List Val} : RepW K ι m H v w → RepWs K ι m H vs ws → RepWs K ι m H (v :: vs) (w :: ws)
section
variable {K : PySem.W.Frag} {ι ι' : Ix} {m m' : Store} {H H' : Hp}
theorem RepWs.le (a : Le ι m H ι' m' H') : ∀ {vs : List V} {ws : List Val}, RepWs K ι m H vs ws → RepWs K ι' m' H' vs ws
  | _, _, .nil => .nil
  | _, _, .cons h t => .cons (h.le a) (RepWs.le a t)
theorem RepWs.length : ∀ {vs : List V} {ws : List Val}, RepWs K ι m H vs ws → vs.length = ws.length
  | _, _, .nil => rfl
  | _, _, .cons _ t => by rw [List.length_cons, List.length_cons, RepWs.length t]
theorem RepWs.allD : ∀ {vs : List V} {ws : List Val} {xs : List D}, RepWs K ι m H vs ws → DL.allD ws = some xs → RepAll K H (Live ι m) vs xs
  | _, _, _, .nil, h => by cases h; exact .nil
  | _, w :: ws, xs, .cons r t, h => by
    cases w with
    | r n => cases h
    | d x =>
      have h' : (DL.allD ws).map (x :: ·) = some xs := h
      cases e : DL.allD ws with
      | none => rw [e] at h'; cases h'
      | some ys => rw [e] at h'; cases h'; exact .cons r (RepWs.allD t e)
end

section
variable (K : PySem.W.Frag) (RX : RXT) (W : WX)
def tX (f : Env → Store → R Val) : TE := fun σ H Q => ∃ ρ m ι, EnvOk K ι m H ρ σ ∧ StOk K ι m H ∧ PostR K RX W ι m H (f ρ m) (GV K Q)
def tT (f : Env → Store → R Bool) : TT := fun σ H Q => ∃ ρ m ι, EnvOk K ι m H ρ σ ∧ StOk K ι m H ∧ PostR K RX W ι m H (f ρ m) (fun b _ _ H' => Q b H')
def tA (f : Env → Store → R (List Val)) : TA := fun σ H Q => ∃ ρ m ι, EnvOk K ι m H ρ σ ∧ StOk K ι m H ∧ PostR K RX W ι m H (f ρ m) (fun ws ι' m' H' => ∀ vs, RepWs K ι' m' H' vs ws → Q vs H')
def tO (f : Env → Store → R (Option Int)) : TO := fun σ H Q => ∃ ρ m ι, EnvOk K ι m H ρ σ ∧ StOk K ι m H ∧ PostR K RX W ι m H (f ρ m) (fun o _ _ H' => Q o H')
end
theorem PE.imp {X : Cx} {e : Expr} {t t' : TE} (h : PE X e t) (i : ∀ σ H Q, t' σ H Q → t σ H Q) : PE X e t' := ⟨fun pins s σ H Q I hw => h.run pins s σ H Q I (i σ H Q hw)⟩
theorem PT.imp {X : Cx} {e : Expr} {t t' : TT} (h : PT X e t) (i : ∀ σ H Q, t' σ H Q → t σ H Q) : PT X e t' := ⟨fun pins s σ H Q I hw => h.run pins s σ H Q I (i σ H Q hw)⟩
theorem PW.imp {X : Cx} {e : Expr} {t t' : TT} (h : PW X e t) (i : ∀ σ H Q, t' σ H Q → t σ H Q) : PW X e t' := ⟨fun whole pins s σ H Q I hw => h.run whole pins s σ H Q I (i σ H Q hw)⟩
theorem PA.imp {X : Cx} {es : List Expr} {t t' : TA} (h : PA X es t) (i : ∀ σ H Q, t' σ H Q → t σ H Q) : PA X es t' := ⟨fun pos pins s σ H Q I hw => h.run pos pins s σ H Q I (i σ H Q hw)⟩
theorem PO.imp {X : Cx} {e : Option Expr} {t t' : TO} (h : L2.PO X e t) (i : ∀ σ H Q, t' σ H Q → t σ H Q) : L2.PO X e t' := ⟨fun pins s σ H Q I hw => h.run pins s σ H Q I (i σ H Q hw)⟩

theorem R.bind_assoc {α β γ : Type} (r : R α) (f : α → Store → R β) (g : β → Store → R γ) : (r.bind f).bind g = r.bind fun a m => (f a m).bind g := by
  cases r <;> rfl
theorem truR_ok {v : Val} {m m' : Store} {b : Bool} (h : truR v m = .ok b m') : m' = m := by
  unfold truR at h
  cases e : rd v m with
  | none => rw [e] at h; cases h
  | some x =>
    rw [e] at h
    dsimp only at h
    cases e2 : tru x with
    | none => rw [e2] at h; cases h
    | some k => rw [e2] at h; cases h; rfl

section
variable {X : Cx} {RX : RXT} {W : WX} {F : Type} {Φ : F → List Val → Store → R Val} {L : Nat} {e a b c : Expr} {es : List Expr} {pos : Pos}
  {ι : Ix} {m : Store} {H : Hp} {Q : VK} {x y : V} {v w : Val}
/-- a value's truth -/
theorem truV_of {t : Bool} {d : D} {K : PySem.W.Frag} {Lv : Addr → Prop} (r : RepT K H Lv x d) (h : tru d = some t) : TruV K x H t := by
  cases d with
  | none => cases h; rw [r.non]; exact rfl
  | bool b => cases h; rw [r.bool]; exact rfl
  | int i => cases h; rw [r.int]; exact rfl
  | str z =>
    have h' : (if z.length ≤ sizeLine then some ((z.length : Int) != 0) else none) = some t := h
    by_cases hz : z.length ≤ sizeLine
    · rw [if_pos hz] at h'; cases h'; rw [r.str]; exact ⟨hz, rfl⟩
    · rw [if_neg hz] at h'; cases h'
  | list xs =>
    cases h
    obtain ⟨a, vs, rfl, q, ra⟩ := r.list
    refine .inl ⟨vs, q, ?_⟩
    cases ra <;> rfl
  | tuple xs =>
    cases h
    obtain ⟨a, vs, rfl, q, ra⟩ := r.tuple
    refine .inr (.inl ⟨vs, q, ?_⟩)
    cases ra <;> rfl
  | dict kvs => exact False.elim r.nodict
theorem post_tru {K : PySem.W.Frag} {G : Bool → Ix → Store → Hp → Prop} (s : StOk K ι m H) (r : RepW K ι m H x v) (h : PostR K RX W ι m H (truR v m) G) : ∃ t, truR v m = .ok t m ∧ TruV K x H t ∧ G t ι m H := by
  cases e1 : rd v m with
  | none => unfold truR at h; rw [e1] at h; exact False.elim h
  | some d =>
    cases e2 : tru d with
    | none => unfold truR at h; rw [e1] at h; dsimp only at h; rw [e2] at h; exact False.elim h
    | some t =>
      have e3 : truR v m = .ok t m := by unfold truR; rw [e1]; dsimp only; rw [e2]
      rw [e3] at h
      exact ⟨t, e3, truV_of (RepT.of s r e1) e2, h.here s⟩

/-- data that stand wherever they are read -/
theorem ok_lit {d : D} {t : TE} (ht : PE X e t) (h : ∀ σ H Q, (∀ v, (∀ Lv, Rep X.K H Lv v d) → Q v H) → t σ H Q) : PE X e (tX X.K RX W (ev Φ (.lit d : PX F))) := by
  refine PE.imp ht fun σ H Q ⟨ρ, m, ι, en, st, p⟩ => h σ H Q fun v r => ?_
  exact p.here st v (r _)
theorem ok_loc {i : Nat} (ht : PE X e (tVar i)) : PE X e (tX X.K RX W (ev Φ (.loc i : PX F))) := by
  refine PE.imp ht fun σ H Q ⟨ρ, m, ι, en, st, p⟩ => ?_
  have p' : PostR X.K RX W ι m H (match ρ[i]? with | some (some v) => R.ok v m | _ => .no) (GV X.K Q) := p
  cases h : ρ[i]? with
  | none => rw [h] at p'; exact False.elim p'
  | some o =>
    cases o with
    | none => rw [h] at p'; exact False.elim p'
    | some w =>
      rw [h] at p'
      obtain ⟨v, e, r⟩ := en.ok i w h
      exact ⟨v, e, p'.here st v r⟩
/-! ### lists of expressions -/
theorem ok_nil : PA X [] (tA X.K RX W (evs Φ (.nil : PXs F))) := PA.imp pa_nil fun σ H Q ⟨ρ, m, ι, en, st, p⟩ => p.here st [] .nil
theorem ok_cons {k : Bool} {p : PX F} {ps : PXs F} (he : PE X e (tX X.K RX W (ev Φ p))) (hs : PA X es (tA X.K RX W (evs Φ ps))) (hst : starEach (e :: es) X.env = (false, eval e X.env) :: starEach es X.env) :
    PA X (e :: es) (tA X.K RX W (evs Φ (.cons k p ps))) := by
  refine PA.imp (pa_cons he hs hst) fun σ H Q ⟨ρ, m, ι, en, st, q⟩ => ?_
  have q' : PostR X.K RX W ι m H ((ev Φ p ρ m).bind fun v m1 => (if k then .ok v m1 else (fz v m1).bind fun x m2 => .ok (.d x) m2).bind fun w m3 => (evs Φ ps ρ m3).bind fun ws m4 => .ok (w :: ws) m4) (fun ws ι' m' H' => ∀ vs, RepWs X.K ι' m' H' vs ws → Q vs H') := q
  refine ⟨ρ, m, ι, en, st, q'.bind.mono fun w ι1 m1 H1 l1 s1 g x r => ?_⟩
  have rest : ∀ {w' : Val} {m3 : Store}, Le ι1 m1 H1 ι1 m3 H1 → StOk X.K ι1 m3 H1 → RepW X.K ι1 m3 H1 x w' → PostR X.K RX W ι1 m3 H1 ((evs Φ ps ρ m3).bind fun ws m4 => R.ok (w' :: ws) m4) (fun ws ι' m' H' => ∀ vs, RepWs X.K ι' m' H' vs ws → Q vs H') →
      tA X.K RX W (evs Φ ps) σ H1 fun xs H2 => Q (x :: xs) H2 := fun {w' m3} l3 s3 r3 g3 =>
    ⟨ρ, m3, ι1, en.le (l1.trans l3), s3, g3.bind.mono fun ws ι4 m4 H4 l4 s4 g4 vs rs => g4.here s4 (x :: vs) (.cons (r3.le l4) rs)⟩
  cases k with
  | true =>
    have g' : PostR X.K RX W ι1 m1 H1 ((evs Φ ps ρ m1).bind fun ws m4 => R.ok (w :: ws) m4) (fun ws ι' m' H' => ∀ vs, RepWs X.K ι' m' H' vs ws → Q vs H') := g
    exact rest .refl s1 r g'
  | false =>
    have g' : PostR X.K RX W ι1 m1 H1 (((fz w m1).bind fun x m2 => R.ok (Val.d x) m2).bind fun w m3 => (evs Φ ps ρ m3).bind fun ws m4 => R.ok (w :: ws) m4) (fun ws ι' m' H' => ∀ vs, RepWs X.K ι' m' H' vs ws → Q vs H') := g
    rw [R.bind_assoc] at g'
    obtain ⟨m3, y, l3, s3, r3, g3⟩ := post_fz s1 r g'.bind
    exact rest (w' := .d y) l3 s3 r3 g3
theorem ok_tup {ps : PXs F} {k : Nat} (hs : PA X es (tA X.K RX W (evs Φ ps))) : PE X (.Tuple es k pos) (tX X.K RX W (ev Φ (.tup ps))) := by
  refine PE.imp (pe_tup hs) fun σ H Q ⟨ρ, m, ι, en, st, q⟩ => ?_
  have q' : PostR X.K RX W ι m H ((evs Φ ps ρ m).bind fun vs m1 => match allD vs with | some xs => put (.tup xs) m1 | none => .no) (GV X.K Q) := q
  refine ⟨ρ, m, ι, en, st, q'.bind.mono fun ws ι1 m1 H1 l1 s1 g vs r => ?_⟩
  cases h : allD ws with
  | none => rw [h] at g; exact False.elim g
  | some xs =>
    rw [h] at g
    obtain ⟨z, hp⟩ := post_tup s1 g (r.allD h)
    exact ⟨z, fun p hn => let ⟨a, b⟩ := hp p hn; b _ a⟩
theorem ok_lst {ps : PXs F} (hs : PA X es (tA X.K RX W (evs Φ ps))) : PE X (.List es pos) (tX X.K RX W (ev Φ (.lst ps))) := by
  refine PE.imp (pe_lst hs) fun σ H Q ⟨ρ, m, ι, en, st, q⟩ => ?_
  have q' : PostR X.K RX W ι m H ((evs Φ ps ρ m).bind fun vs m1 => match allD vs with | some xs => put (.lst xs) m1 | none => .no) (GV X.K Q) := q
  refine ⟨ρ, m, ι, en, st, q'.bind.mono fun ws ι1 m1 H1 l1 s1 g vs r => ?_⟩
  cases h : allD ws with
  | none => rw [h] at g; exact False.elim g
  | some xs =>
    rw [h] at g
    obtain ⟨z, hp⟩ := post_lst s1 g (r.allD h)
    exact ⟨z, fun p hn => let ⟨a, b⟩ := hp p hn; b _ a⟩
/-! ### operators -/
section
variable {pa pb pc pd : PX F}
/-- two expressions, one after another -/
theorem two {G : Val → Val → Ix → Store → Hp → Prop} {f : Val → Val → Store → R Val} {R2' : V → V → Hp → Prop} {σ : L2.St} {ρ : Env} (en : EnvOk X.K ι m H ρ σ) (st : StOk X.K ι m H)
    (q : PostR X.K RX W ι m H ((ev Φ pa ρ m).bind fun v m1 => (ev Φ pb ρ m1).bind fun w m2 => f v w m2) (GV X.K Q))
    (k : ∀ x y v w ι2 m2 H2, StOk X.K ι2 m2 H2 → Le ι m H ι2 m2 H2 → RepW X.K ι2 m2 H2 x v → RepW X.K ι2 m2 H2 y w → PostR X.K RX W ι2 m2 H2 (f v w m2) (GV X.K Q) → R2' x y H2) :
    tX X.K RX W (ev Φ pa) σ H fun x H1 => tX X.K RX W (ev Φ pb) σ H1 fun y H2 => R2' x y H2 :=
  ⟨ρ, m, ι, en, st, q.bind.mono fun v ι1 m1 H1 l1 s1 g x r1 => ⟨ρ, m1, ι1, en.le l1, s1, g.bind.mono fun w ι2 m2 H2 l2 s2 g2 y r2 => k x y v w ι2 m2 H2 s2 (l1.trans l2) (r1.le l2) r2 g2⟩⟩
theorem ok_bin {o : Op} (ha : PE X a (tX X.K RX W (ev Φ pa))) (hb : PE X b (tX X.K RX W (ev Φ pb))) : PE X (.BinOp a (opPy o) b pos) (tX X.K RX W (ev Φ (.bin o pa pb))) := by
  refine PE.imp (pe_op (op_ok o) ha hb) fun σ H Q ⟨ρ, m, ι, en, st, q⟩ => ?_
  exact two (G := fun _ _ _ _ _ => True) en st q fun x y v w ι2 m2 H2 s2 _ r1 r2 g => opR_ok s2 r1 r2 g
theorem ok_neg (ha : PE X a (tX X.K RX W (ev Φ pa))) : PE X (.UnaryOp .USub a pos) (tX X.K RX W (ev Φ (.neg pa))) := by
  refine PE.imp (pe_un un_neg ha) fun σ H Q ⟨ρ, m, ι, en, st, q⟩ => ?_
  have q' : PostR X.K RX W ι m H ((ev Φ pa ρ m).bind fun v m1 => match rd v m1 with | some (.int i) => R.ok (Val.d (.int (-i))) m1 | _ => .no) (GV X.K Q) := q
  refine ⟨ρ, m, ι, en, st, q'.bind.mono fun v ι1 m1 H1 l1 s1 g x r1 => ?_⟩
  cases h : rd v m1 with
  | none => rw [h] at g; exact False.elim g
  | some d =>
    have t := RepT.of s1 r1 h
    cases d with
    | int i => rw [h] at g; rw [t.int]; exact ⟨i, rfl, g.here s1 _ (.int _)⟩
    | _ => rw [h] at g; exact False.elim g
theorem ok_not (ha : PE X a (tX X.K RX W (ev Φ pa))) : PE X (.UnaryOp .Not a pos) (tX X.K RX W (ev Φ (.not pa))) := by
  refine PE.imp (pe_notT ha) fun σ H Q ⟨ρ, m, ι, en, st, q⟩ => ?_
  have q' : PostR X.K RX W ι m H (((ev Φ pa ρ m).bind truR).bind fun b m1 => R.ok (Val.d (.bool (!b))) m1) (GV X.K Q) := q
  rw [R.bind_assoc] at q'
  refine ⟨ρ, m, ι, en, st, q'.bind.mono fun v ι1 m1 H1 l1 s1 g x r1 => ?_⟩
  obtain ⟨t, e, tv, g'⟩ := post_tru s1 r1 g.bind
  exact ⟨t, tv, g'.here s1 _ (.bl _)⟩
theorem ok_and {rest : List Expr} (ha : PE X a (tX X.K RX W (ev Φ pa))) (hb : PE X (.BoolOp .And (b :: rest) pos) (tX X.K RX W (ev Φ pb))) : PE X (.BoolOp .And (a :: b :: rest) pos) (tX X.K RX W (ev Φ (.and pa pb))) := by
  refine PE.imp (pe_andT ha hb) fun σ H Q ⟨ρ, m, ι, en, st, q⟩ => ?_
  have q' : PostR X.K RX W ι m H ((ev Φ pa ρ m).bind fun v m1 => (truR v m1).bind fun t m2 => if t then ev Φ pb ρ m2 else R.ok v m2) (GV X.K Q) := q
  refine ⟨ρ, m, ι, en, st, q'.bind.mono fun v ι1 m1 H1 l1 s1 g x r1 => ?_⟩
  obtain ⟨t, e, tv, g'⟩ := post_tru s1 r1 g.bind
  refine ⟨t, tv, ?_⟩
  cases t with
  | true => exact ⟨ρ, m1, ι1, en.le l1, s1, g'⟩
  | false => exact PostR.here (RX := RX) (W := W) s1 g' x r1
theorem ok_or {rest : List Expr} (ha : PE X a (tX X.K RX W (ev Φ pa))) (hb : PE X (.BoolOp .Or (b :: rest) pos) (tX X.K RX W (ev Φ pb))) : PE X (.BoolOp .Or (a :: b :: rest) pos) (tX X.K RX W (ev Φ (.or pa pb))) := by
  refine PE.imp (pe_orT ha hb) fun σ H Q ⟨ρ, m, ι, en, st, q⟩ => ?_
  have q' : PostR X.K RX W ι m H ((ev Φ pa ρ m).bind fun v m1 => (truR v m1).bind fun t m2 => if t then R.ok v m2 else ev Φ pb ρ m2) (GV X.K Q) := q
  refine ⟨ρ, m, ι, en, st, q'.bind.mono fun v ι1 m1 H1 l1 s1 g x r1 => ?_⟩
  obtain ⟨t, e, tv, g'⟩ := post_tru s1 r1 g.bind
  refine ⟨t, tv, ?_⟩
  cases t with
  | false => exact ⟨ρ, m1, ι1, en.le l1, s1, g'⟩
  | true => exact PostR.here (RX := RX) (W := W) s1 g' x r1
/-- a comparison's answer -/
theorem cmR_bool {c : Cm} {v w u : Val} {m m' : Store} (h : cmR c v w m = .ok u m') : m' = m ∧ ∃ b, u = .d (.bool b) := by
  unfold cmR at h
  cases e1 : rd v m with
  | none => rw [e1] at h; cases h
  | some x =>
    cases e2 : rd w m with
    | none => rw [e1, e2] at h; cases h
    | some y =>
      rw [e1, e2] at h
      dsimp only at h
      cases e3 : cmF c x y with
      | none => rw [e3] at h; cases h
      | some b => rw [e3] at h; cases h; exact ⟨rfl, b, rfl⟩
theorem cmR_ok {c : Cm} {G : Val → Ix → Store → Hp → Prop} (s : StOk X.K ι m H) (rx : RepW X.K ι m H x v) (ry : RepW X.K ι m H y w) (h : PostR X.K RX W ι m H (cmR c v w m) G) :
    ∃ b, cmR c v w m = .ok (.d (.bool b)) m ∧ G (.d (.bool b)) ι m H ∧ ∀ Q : VK, Q (.bl b) H → rCm X.K c x y H Q := by
  unfold cmR at h ⊢
  cases e1 : rd v m with
  | none => rw [e1] at h; exact False.elim h
  | some d1 =>
  cases e2 : rd w m with
  | none => rw [e1, e2] at h; exact False.elim h
  | some d2 =>
  rw [e1, e2] at h
  dsimp only at h ⊢
  have t1 := RepT.of s rx e1
  have t2 := RepT.of s ry e2
  cases e3 : cmF c d1 d2 with
  | none => rw [e3] at h; exact False.elim h
  | some b =>
  rw [e3] at h
  dsimp only at h ⊢
  refine ⟨b, rfl, h.here s, fun Q q => ?_⟩
  clear h
  have shp : ∀ {z : Bool} {α : Type} {u : Option α} {r : α}, (if z = true then u else none) = some r → z = true ∧ u = some r := fun {z α u r} e => by
    cases z with
    | true => exact ⟨rfl, e⟩
    | false => cases e
  cases c with
  | eq =>
    obtain ⟨h1, h2⟩ := shp (show (if (SeqAt.shaped d1 && SeqAt.shaped d2) = true then some (PyData.eqv d1 d2) else none) = some b from e3)
    rw [Bool.and_eq_true] at h1
    cases h2
    exact ⟨d1, d2, t1.dp, t2.dp, h1.1, h1.2, q⟩
  | ne =>
    have e4 : (eqD d1 d2).map not = some b := e3
    cases e5 : eqD d1 d2 with
    | none => rw [e5] at e4; cases e4
    | some k =>
      rw [e5] at e4
      cases e4
      obtain ⟨h1, h2⟩ := shp (show (if (SeqAt.shaped d1 && SeqAt.shaped d2) = true then some (PyData.eqv d1 d2) else none) = some k from e5)
      rw [Bool.and_eq_true] at h1
      cases h2
      exact ⟨d1, d2, t1.dp, t2.dp, h1.1, h1.2, q⟩
  | lt =>
    obtain ⟨h1, h2⟩ := shp (show (if (near d1 d2 && SeqAt.shaped d1 && SeqAt.shaped d2 && notNone d1) = true then some (PySem.W.dataLt d1 d2) else none) = some b from e3)
    simp only [Bool.and_eq_true] at h1
    cases h2
    refine ⟨d1, d2, t1.dp, t2.dp, h1.1.1.2, h1.1.2, h1.1.1.1, fun e => ?_, q⟩
    have := h1.2
    rw [e] at this
    exact absurd this (by simp [notNone])
  | le =>
    cases d1 with
    | int i =>
      cases d2 with
      | int j => cases e3; rw [t1.int, t2.int]; exact ⟨i, j, rfl, rfl, q⟩
      | _ => cases e3
    | _ => cases e3
  | gt =>
    cases d1 with
    | int i =>
      cases d2 with
      | int j => cases e3; rw [t1.int, t2.int]; exact ⟨i, j, rfl, rfl, q⟩
      | _ => cases e3
    | _ => cases e3
  | ge =>
    cases d1 with
    | int i =>
      cases d2 with
      | int j => cases e3; rw [t1.int, t2.int]; exact ⟨i, j, rfl, rfl, q⟩
      | _ => cases e3
    | _ => cases e3
  | isin =>
    cases d2 with
    | list ys =>
      obtain ⟨h1, h2⟩ := shp (show (if (SeqAt.shaped d1 && SeqAt.shaped (.list ys)) = true then some (ys.any fun z => PyData.eqv z d1) else none) = some b from by cases d1 <;> exact e3)
      rw [Bool.and_eq_true] at h1
      cases h2
      exact .inl ⟨d1, ys, t1.dp, t2.dp, h1.1, h1.2, q⟩
    | tuple ys =>
      obtain ⟨h1, h2⟩ := shp (show (if (SeqAt.shaped d1 && SeqAt.shaped (.tuple ys)) = true then some (ys.any fun z => PyData.eqv z d1) else none) = some b from by cases d1 <;> exact e3)
      rw [Bool.and_eq_true] at h1
      cases h2
      exact .inr ⟨d1, ys, t1.dp, t2.dp, h1.1, h1.2, q⟩
    | dict kvs => exact False.elim t2.nodict
    | _ => cases d1 <;> cases e3
  | notin =>
    cases d2 with
    | list ys =>
      obtain ⟨h1, h2⟩ := shp (show (if (SeqAt.shaped d1 && SeqAt.shaped (.list ys)) = true then some (!ys.any fun z => PyData.eqv z d1) else none) = some b from by cases d1 <;> exact e3)
      rw [Bool.and_eq_true] at h1
      cases h2
      exact .inl ⟨d1, ys, t1.dp, t2.dp, h1.1, h1.2, q⟩
    | tuple ys =>
      obtain ⟨h1, h2⟩ := shp (show (if (SeqAt.shaped d1 && SeqAt.shaped (.tuple ys)) = true then some (!ys.any fun z => PyData.eqv z d1) else none) = some b from by cases d1 <;> exact e3)
      rw [Bool.and_eq_true] at h1
      cases h2
      exact .inr ⟨d1, ys, t1.dp, t2.dp, h1.1, h1.2, q⟩
    | dict kvs => exact False.elim t2.nodict
    | _ => cases d1 <;> cases e3
  | is =>
    cases d2 with
    | none =>
      refine .inl ⟨t2.non, ?_⟩
      cases d1 with
      | none => cases e3; rw [t1.non]; exact q
      | bool a => cases e3; rw [t1.bool]; exact q
      | int a => cases e3; rw [t1.int]; exact q
      | str a => cases e3; rw [t1.str]; exact q
      | list a => cases e3; obtain ⟨p, vs, rfl, _⟩ := t1.list; exact q
      | tuple a => cases e3; obtain ⟨p, vs, rfl, _⟩ := t1.tuple; exact q
      | dict a => exact False.elim t1.nodict
    | bool k =>
      cases d1 with
      | bool a =>
        cases e3
        rw [t1.bool, t2.bool]
        refine .inr ⟨a, k, rfl, rfl, ?_⟩
        have e : decide (a = k) = (a == k) := by cases a <;> cases k <;> rfl
        rw [e]
        exact q
      | _ => cases e3
    | _ => cases d1 <;> cases e3
  | isnot =>
    cases d2 with
    | none =>
      refine .inl ⟨t2.non, ?_⟩
      cases d1 with
      | none => cases e3; rw [t1.non]; exact q
      | bool a => cases e3; rw [t1.bool]; exact q
      | int a => cases e3; rw [t1.int]; exact q
      | str a => cases e3; rw [t1.str]; exact q
      | list a => cases e3; obtain ⟨p, vs, rfl, _⟩ := t1.list; exact q
      | tuple a => cases e3; obtain ⟨p, vs, rfl, _⟩ := t1.tuple; exact q
      | dict a => exact False.elim t1.nodict
    | bool k =>
      cases d1 with
      | bool a =>
        cases e3
        rw [t1.bool, t2.bool]
        refine .inr ⟨a, k, rfl, rfl, ?_⟩
        have e : decide (a = k) = (a == k) := by cases a <;> cases k <;> rfl
        rw [e]
        exact q
      | _ => cases e3
    | _ => cases d1 <;> cases e3
theorem ok_cmp {c : Cm} (hu : X.A.units + 200 < cLine) (ha : PE X a (tX X.K RX W (ev Φ pa))) (hb : PE X b (tX X.K RX W (ev Φ pb))) (hm : behindInMarks (cmPy c) b = false) : PE X (.Compare a [cmPy c] [b] pos) (tX X.K RX W (ev Φ (.cmp c pa pb))) := by
  refine PE.imp (pe_cmpR (cm_ok c hu) ha hb hm) fun σ H Q ⟨ρ, m, ι, en, st, q⟩ => ?_
  refine two (G := fun _ _ _ _ _ => True) en st q fun x y v w ι2 m2 H2 s2 _ r1 r2 g => ?_
  obtain ⟨b, _, g2, g3⟩ := cmR_ok s2 r1 r2 g
  exact g3 _ (g2 _ (.bl _))
theorem ok_cmpT {c : Cm} (hu : X.A.units + 200 < cLine) (ha : PE X a (tX X.K RX W (ev Φ pa))) (hb : PE X b (tX X.K RX W (ev Φ pb))) (hm : behindInMarks (cmPy c) b = false) : PT X (.Compare a [cmPy c] [b] pos) (tT X.K RX W (evT Φ (.cmp c pa pb))) := by
  refine PT.imp (pt_cmpR (cm_ok c hu) ha hb hm) fun σ H Q ⟨ρ, m, ι, en, st, q⟩ => ?_
  have q' : PostR X.K RX W ι m H (((ev Φ pa ρ m).bind fun v m1 => (ev Φ pb ρ m1).bind fun w m2 => cmR c v w m2).bind truR) (fun b _ _ H' => Q b H') := q
  rw [R.bind_assoc] at q'
  refine ⟨ρ, m, ι, en, st, q'.bind.mono fun v ι1 m1 H1 l1 s1 g x r1 => ?_⟩
  rw [R.bind_assoc] at g
  refine ⟨ρ, m1, ι1, en.le l1, s1, g.bind.mono fun w ι2 m2 H2 l2 s2 g2 y r2 => ?_⟩
  obtain ⟨b, e, g3, g4⟩ := cmR_ok s2 (r1.le l2) r2 g2.bind
  exact g4 _ ⟨b, rfl, PostR.here (RX := RX) (W := W) s2 g3⟩
theorem ok_chain {c c' : Cm} (hu : X.A.units + 200 < cLine) {e3 : Expr} (ha : PE X a (tX X.K RX W (ev Φ pa))) (hb : PE X b (tX X.K RX W (ev Φ pb))) (hc : PE X e3 (tX X.K RX W (ev Φ pc)))
    (h : ∀ {r r' : R2}, OpR X (compareOp (cmPy c)) r → OpR X (compareOp (cmPy c')) r' → PE X (.Compare a [cmPy c, cmPy c'] [b, e3] pos) (tChain r r' (tX X.K RX W (ev Φ pa)) (tX X.K RX W (ev Φ pb)) (tX X.K RX W (ev Φ pc)))) :
    PE X (.Compare a [cmPy c, cmPy c'] [b, e3] pos) (tX X.K RX W (ev Φ (.chain c c' pa pb pc))) := by
  refine PE.imp (h (cm_ok c hu) (cm_ok c' hu)) fun σ H Q ⟨ρ, m, ι, en, st, q⟩ => ?_
  have q' : PostR X.K RX W ι m H ((ev Φ pa ρ m).bind fun v m1 => (ev Φ pb ρ m1).bind fun w m2 => (cmR c v w m2).bind fun t m3 => match t with
    | .d (.bool true) => (ev Φ pc ρ m3).bind fun u m4 => cmR c' w u m4
    | .d (.bool false) => R.ok t m3
    | _ => .no) (GV X.K Q) := q
  refine ⟨ρ, m, ι, en, st, q'.bind.mono fun v ι1 m1 H1 l1 s1 g x r1 => ?_⟩
  refine ⟨ρ, m1, ι1, en.le l1, s1, g.bind.mono fun w ι2 m2 H2 l2 s2 g2 y r2 => ?_⟩
  obtain ⟨k, e, g3, g4⟩ := cmR_ok s2 (r1.le l2) r2 g2.bind
  refine g4 _ ⟨k, rfl, ?_⟩
  cases k with
  | true =>
    rw [if_pos rfl]
    refine ⟨ρ, m2, ι2, en.le (l1.trans l2), s2, PostR.mono (PostR.bind (RX := RX) (W := W) g3) fun u ι3 m3 H3 l3 s3 g5 z r3 => ?_⟩
    obtain ⟨k', _, g6, g7⟩ := cmR_ok s3 (r2.le l3) r3 g5
    exact g7 _ (g6 _ (.bl _))
  | false =>
    rw [if_neg Bool.false_ne_true]
    exact PostR.here (RX := RX) (W := W) s2 g3 _ (.bl _)
theorem ok_chainT {c c' : Cm} (hu : X.A.units + 200 < cLine) {e3 : Expr} (ha : PE X a (tX X.K RX W (ev Φ pa))) (hb : PE X b (tX X.K RX W (ev Φ pb))) (hc : PE X e3 (tX X.K RX W (ev Φ pc))) (hm : lastMarks [cmPy c, cmPy c'] [b, e3] = false) :
    PT X (.Compare a [cmPy c, cmPy c'] [b, e3] pos) (tT X.K RX W (evT Φ (.chain c c' pa pb pc))) := by
  refine PT.imp (pt_chain (cm_ok c hu) (cm_ok c' hu) ha hb hc hm) fun σ H Q ⟨ρ, m, ι, en, st, q⟩ => ?_
  have q' : PostR X.K RX W ι m H (((ev Φ pa ρ m).bind fun v m1 => (ev Φ pb ρ m1).bind fun w m2 => (cmR c v w m2).bind fun t m3 => match t with
    | .d (.bool true) => (ev Φ pc ρ m3).bind fun u m4 => cmR c' w u m4
    | .d (.bool false) => R.ok t m3
    | _ => .no).bind truR) (fun b _ _ H' => Q b H') := q
  rw [R.bind_assoc] at q'
  refine ⟨ρ, m, ι, en, st, q'.bind.mono fun v ι1 m1 H1 l1 s1 g x r1 => ?_⟩
  rw [R.bind_assoc] at g
  refine ⟨ρ, m1, ι1, en.le l1, s1, g.bind.mono fun w ι2 m2 H2 l2 s2 g2 y r2 => ?_⟩
  rw [R.bind_assoc] at g2
  obtain ⟨k, e, g3, g4⟩ := cmR_ok s2 (r1.le l2) r2 g2.bind
  refine g4 _ ⟨k, rfl, ?_⟩
  cases k with
  | true =>
    rw [if_pos rfl]
    have g3 : PostR X.K RX W ι2 m2 H2 (((ev Φ pc ρ m2).bind fun u m4 => cmR c' w u m4).bind truR) (fun b _ _ H' => Q b H') := g3
    rw [R.bind_assoc] at g3
    refine ⟨ρ, m2, ι2, en.le (l1.trans l2), s2, g3.bind.mono fun u ι3 m3 H3 l3 s3 g5 z r3 => ?_⟩
    obtain ⟨k', _, g6, g7⟩ := cmR_ok s3 (r2.le l3) r3 g5.bind
    exact g7 _ ⟨k', rfl, PostR.here (RX := RX) (W := W) (G := fun b _ _ H' => Q b H') s3 g6⟩
  | false =>
    rw [if_neg Bool.false_ne_true]
    have g3 : PostR X.K RX W ι2 m2 H2 (truR (.d (.bool false)) m2) (fun b _ _ H' => Q b H') := g3
    exact ⟨false, rfl, PostR.here (RX := RX) (W := W) (G := fun b _ _ H' => Q b H') s2 g3⟩
theorem ok_ite (hc : PT X c (tT X.K RX W (evT Φ pc))) (ha : PE X a (tX X.K RX W (ev Φ pa))) (hb : PE X b (tX X.K RX W (ev Φ pb))) : PE X (.IfExp c a b pos) (tX X.K RX W (ev Φ (.ite pc pa pb))) := by
  refine PE.imp (pe_ifExp hc ha hb) fun σ H Q ⟨ρ, m, ι, en, st, q⟩ => ?_
  have q' : PostR X.K RX W ι m H ((evT Φ pc ρ m).bind fun t m1 => if t then ev Φ pa ρ m1 else ev Φ pb ρ m1) (GV X.K Q) := q
  refine ⟨ρ, m, ι, en, st, q'.bind.mono fun t ι1 m1 H1 l1 s1 g => ?_⟩
  cases t with
  | true => rw [if_pos rfl]; exact ⟨ρ, m1, ι1, en.le l1, s1, g⟩
  | false => rw [if_neg Bool.false_ne_true]; exact ⟨ρ, m1, ι1, en.le l1, s1, g⟩
/-! ### tests -/
theorem ok_truth (ha : PE X a (tX X.K RX W (ev Φ pa))) (he : ∀ whole, isTrue a X.env whole = (do let v ← whole; standAt a.pos; holding [v] (truthy v))) : PT X a (tT X.K RX W (evT Φ pa)) := by
  refine PT.imp (pt_truth ha he) fun σ H Q ⟨ρ, m, ι, en, st, q⟩ => ?_
  refine ⟨ρ, m, ι, en, st, q.bind.mono fun v ι1 m1 H1 l1 s1 g x r1 => ?_⟩
  obtain ⟨t, e, tv, g'⟩ := post_tru s1 r1 g
  exact ⟨t, tv, g'⟩
theorem ok_notT (ha : PT X a (tT X.K RX W (evT Φ pa))) : PT X (.UnaryOp .Not a pos) (tT X.K RX W (evT Φ (.not pa))) := by
  refine PT.imp (pt_not ha) fun σ H Q ⟨ρ, m, ι, en, st, q⟩ => ?_
  have q' : PostR X.K RX W ι m H (((evT Φ pa ρ m).bind fun b m1 => R.ok (Val.d (.bool (!b))) m1).bind truR) (fun b _ _ H' => Q b H') := q
  rw [R.bind_assoc] at q'
  refine ⟨ρ, m, ι, en, st, q'.bind.mono fun t ι1 m1 H1 l1 s1 g => ?_⟩
  exact PostR.here (RX := RX) (W := W) s1 g
theorem ok_andT {rest : List Expr} (ha : PT X a (tT X.K RX W (evT Φ pa))) (hb : PW X (.BoolOp .And (b :: rest) pos) (tT X.K RX W (evT Φ pb))) : PW X (.BoolOp .And (a :: b :: rest) pos) (tT X.K RX W (evT Φ (.and pa pb))) := by
  refine PW.imp (pw_and ha hb) fun σ H Q ⟨ρ, m, ι, en, st, q⟩ => ?_
  have q' : PostR X.K RX W ι m H (((ev Φ pa ρ m).bind fun v m1 => (truR v m1).bind fun t m2 => if t then ev Φ pb ρ m2 else R.ok v m2).bind truR) (fun b _ _ H' => Q b H') := q
  have e : ((ev Φ pa ρ m).bind fun v m1 => (truR v m1).bind fun t m2 => if t then ev Φ pb ρ m2 else R.ok v m2).bind truR = (evT Φ pa ρ m).bind fun t m1 => if t then evT Φ pb ρ m1 else .ok false m1 := by
    show _ = ((ev Φ pa ρ m).bind truR).bind _
    rw [R.bind_assoc, R.bind_assoc]
    congr 1
    funext v m1
    rw [R.bind_assoc]
    cases ht : truR v m1 with
    | ok t m2 =>
      have em := truR_ok ht
      subst em
      cases t with
      | true => rfl
      | false => show truR v m2 = _; rw [ht]; rfl
    | ex _ _ => rfl
    | no => rfl
  rw [e] at q'
  refine ⟨ρ, m, ι, en, st, q'.bind.mono fun t ι1 m1 H1 l1 s1 g => ?_⟩
  cases t with
  | true => rw [if_pos rfl]; exact ⟨ρ, m1, ι1, en.le l1, s1, g⟩
  | false => rw [if_neg Bool.false_ne_true]; exact PostR.here (RX := RX) (W := W) s1 g
theorem ok_orT {rest : List Expr} (ha : PT X a (tT X.K RX W (evT Φ pa))) (hb : PW X (.BoolOp .Or (b :: rest) pos) (tT X.K RX W (evT Φ pb))) : PW X (.BoolOp .Or (a :: b :: rest) pos) (tT X.K RX W (evT Φ (.or pa pb))) := by
  refine PW.imp (pw_or ha hb) fun σ H Q ⟨ρ, m, ι, en, st, q⟩ => ?_
  have q' : PostR X.K RX W ι m H (((ev Φ pa ρ m).bind fun v m1 => (truR v m1).bind fun t m2 => if t then R.ok v m2 else ev Φ pb ρ m2).bind truR) (fun b _ _ H' => Q b H') := q
  have e : ((ev Φ pa ρ m).bind fun v m1 => (truR v m1).bind fun t m2 => if t then R.ok v m2 else ev Φ pb ρ m2).bind truR = (evT Φ pa ρ m).bind fun t m1 => if t then .ok true m1 else evT Φ pb ρ m1 := by
    show _ = ((ev Φ pa ρ m).bind truR).bind _
    rw [R.bind_assoc, R.bind_assoc]
    congr 1
    funext v m1
    rw [R.bind_assoc]
    cases ht : truR v m1 with
    | ok t m2 =>
      have em := truR_ok ht
      subst em
      cases t with
      | false => rfl
      | true => show truR v m2 = _; rw [ht]; rfl
    | ex _ _ => rfl
    | no => rfl
  rw [e] at q'
  refine ⟨ρ, m, ι, en, st, q'.bind.mono fun t ι1 m1 H1 l1 s1 g => ?_⟩
  cases t with
  | false => rw [if_neg Bool.false_ne_true]; exact ⟨ρ, m1, ι1, en.le l1, s1, g⟩
  | true => rw [if_pos rfl]; exact PostR.here (RX := RX) (W := W) s1 g
end
end
end DL
end
section
set_option Elab.async false
set_option linter.all false
set_option maxRecDepth 100000
set_option autoImplicit false
set_option maxHeartbeats 2000000
/-! DLf: subscripts, slices, [::-1]. -/
namespace DL
open PySem PySem.Spec PyProof.Rows L2 HT
section
variable {prog : Program} {w : World} {A : Around} {E : Value → Shared → Prop} {s : Shared}
theorem rev_places (n : Nat) : Builtin.Slice.slicePlaces ((n : Int) - 1) (-1) (-1) = n := by
  unfold Builtin.Slice.slicePlaces
  rw [if_neg (by decide)]
  by_cases h : (n : Int) - 1 > -1
  · rw [if_pos h, show (-(-1) : Int) = 1 by decide, Int.ediv_one]
    omega
  · rw [if_neg h]
    omega
theorem fm_congr {α β : Type} {f g : α → Option β} : ∀ l : List α, (∀ x ∈ l, f x = g x) → l.filterMap f = l.filterMap g
  | [], _ => rfl
  | x :: l, h => by
    rw [List.filterMap_cons, List.filterMap_cons, h x List.mem_cons_self, fm_congr l fun y hy => h y (List.mem_cons_of_mem _ hy)]
theorem rev_pick (items : Array Value) : ((List.range items.size).filterMap fun (k : Nat) => items[(((items.size : Int) - 1) + (k : Int) * (-1)).toNat]?).toArray = items.toList.reverse.toArray := by
  have e : (List.range items.size).filterMap (fun (k : Nat) => items[(((items.size : Int) - 1) + (k : Int) * (-1)).toNat]?) = ((List.range items.size).map fun k => items.size - 1 - k).filterMap (items[·]?) := by
    rw [List.filterMap_map]
    refine fm_congr _ fun k hk => ?_
    have := List.mem_range.mp hk
    show items[_]? = items[_]?
    have e2 : (((items.size : Int) - 1) + (k : Int) * (-1)).toNat = items.size - 1 - k := by omega
    rw [e2]
  rw [e, PySem.W.krv_range, List.filterMap_reverse, PySem.W.krv_all]
theorem getItem_tuple_rev {t sl : Addr} {items : Array Value} {vk : Value} {Q : Value → Shared → Prop} (ht : IsTup s.heap t items) (hs : s.heap.IsSliceOf sl .none .none vk) (pk : IsPart vk (some (-1)))
    (h : Q (.ref s.heap.objs.size) { s with heap := s.heap.push { cls := .type "tuple", data := .seq items.toList.reverse.toArray } })
    (hsz : items.size ≤ sizeLine) : wpAny (model prog w) A (getItem (.ref t) (.ref sl)) Q E s := by
  have htake : sizeOk (.seq items.toList.reverse.toArray) := by
    show items.toList.reverse.toArray.size ≤ sizeLine
    rw [List.size_toArray, List.length_reverse, Array.length_toList]
    exact hsz
  obtain ⟨os, hos, hcs, hds⟩ := id hs
  have hTs : s.TypeIs (.ref sl) "slice" := ⟨os, hos, hcs⟩
  unfold getItem
  try with_reducible refine wpAny_holding ?_
  first | refine wpAny_bind (wpAny_pure ?_) | skip
  refine wpAny_bind (wpAny_sequenceKey ht.typeIs (by decide) ?_)
  refine wpAny_bind (wpAny_callSpecial?_slot (name := Str.ofString "__getitem__") ht.typeIs PyProof.Rows.slot_tuple_getitem
    (wpAny_call_entry PyProof.Rows.slot_tuple_getitem ht.typeIs entry_tuple_getitem ?_ (args_tuple_getitem _ _)))
  show wpAny _ _ (Builtin.Tuple.tupleItemsOf (.ref t) >>= _) _ _ s
  refine wpAny_bind (tupleItemsOf_ ht ?_)
  refine wpAny_bind (wpAny_typeOf hTs ?_)
  rw [if_pos (by decide)]
  refine wpAny_bind (wpAny_mono (Q := fun r s' => r = ((items.size : Int) - 1, -1, items.size) ∧ s' = s) (E := fun e s' => ∃ x, e = x ∧ False) (by
    refine wpAny_mono (E := fun _ _ => False) ?_ (fun _ _ h => h) (fun e s' h => h.elim)
    unfold Builtin.Slice.sliceApplied Builtin.Slice.sliceFields
    refine wpAny_bind (wpAny_bind (wpAny_field hos hds (x := .none) rfl (wpAny_bind (wpAny_field hos hds (x := .none) rfl (wpAny_bind (wpAny_field hos hds (x := vk) rfl (wpAny_pure ?_)))))))
    cases pk with
    | int i t =>
      refine wpAny_bind (slicePart_int ?_)
      show wpAny _ _ (if ((-1 : Int) == 0) = true then _ else _) _ _ s
      rw [if_neg (by decide)]
      refine wpAny_bind (slicePart_none (wpAny_bind (slicePart_none (wpAny_bind (wpAny_pure ?_)))))
      refine wpAny_pure ⟨?_, rfl⟩
      show ((items.size : Int) - 1, (-1 : Int), Builtin.Slice.slicePlaces ((items.size : Int) - 1) (-1) (-1)) = _
      rw [rev_places]) (fun r s' hr => ?_) (fun e s' he => by obtain ⟨_, _, f⟩ := he; exact f.elim))
  obtain ⟨rfl, rfl⟩ := hr
  show wpAny _ _ (if (((items.size : Int) - 1) == 0 && (-1 : Int) == 1 && items.size == items.size) = true then _ else _) _ _ s'
  rw [if_neg (by simp), rev_pick]
  first
    | exact wpAny_bind (m := Builtin.Tuple.tupleExact _) (wpAny_newObj_type (wpAny_pure ⟨_, rfl, wpAny_pure h⟩) htake)
    | exact wpAny_bind (m := Builtin.Tuple.tupleExact _) (wpAny_newObj_type (wpAny_bind (wpAny_pure (wpAny_pure ⟨_, rfl, wpAny_pure h⟩))) htake)
    | exact wpAny_bind (wpAny_bind (m := Builtin.Tuple.tupleExact _) (wpAny_newObj_type (wpAny_pure (wpAny_pure ⟨_, rfl, wpAny_pure h⟩)) htake))
    | exact wpAny_bind (wpAny_bind (m := Builtin.Tuple.tupleExact _) (wpAny_newObj_type (wpAny_pure ⟨_, rfl, wpAny_pure h⟩) htake))
end
section
variable {X : Cx}
def tRevA (K : PySem.W.Frag) (te : TE) : TE := fun σ H Q => te σ H fun x H1 => (∃ a xs, x = .ref a ∧ SqL K H1 a xs ∧ ∀ p, H1 p = none → Q (.ref p) (upd H1 p (.lst xs.reverse))) ∨
  ∃ a xs, x = .ref a ∧ SqT K H1 a xs ∧ ∀ p, H1 p = none → Q (.ref p) (upd H1 p (.tup xs.reverse))
theorem pe_revA {e : Expr} {te : TE} {k : Nat} {p1 p2 p3 pos : Pos} (he : PE X e te) : PE X (.Subscript e (.Slice none none (some (.UnaryOp .USub (.Constant (.int 1) k p1) p2)) p3) pos) (tRevA X.K te) := by
  refine ⟨fun pins s σ H Q I h => ?_⟩
  refine Subscript_ (thn (he.run pins s σ H _ I h) fun v s1 ⟨x, H1, I1, r1, q1⟩ => ?_)
  have hst : L2.PO X (some (.UnaryOp .USub (.Constant (.int 1) k p1) p2)) (tPart (tUn (rU fun i => .int (-i)) (tC (.int 1)))) := po_some (pe_un un_neg pe_int)
  refine wpAny_Slice (thn (po_none.run pins s1 σ H1 (fun o H2 => o = none ∧ H2 = H1) I1 ⟨rfl, rfl⟩) fun vl s2 ⟨l, H2, I2, pl, el, e2⟩ => ?_)
  subst el e2
  refine thn (po_none.run pins s2 σ H2 (fun o H3 => o = none ∧ H3 = H2) I2 ⟨rfl, rfl⟩) fun vu s3 ⟨u, H3, I3, pu, eu, e3⟩ => ?_
  subst eu e3
  refine thn (hst.run pins s3 σ H3 (fun o H4 => o = some (-1) ∧ H4 = H3) I3 ⟨1, rfl, -1, rfl, rfl, rfl⟩) fun vs s4 ⟨o, H4, I4, ps, eo, e4⟩ => ?_
  subst eo e4
  have I5 : Inv X pins σ H4 { s4 with heap := s4.heap.push { cls := .type "slice", data := .fields #[vl, vu, vs] } } := I4.kept (t' := s4.toks) fun b ob q => Heap.get?_push_of_some _ q
  rcases q1 with ⟨a, xs, ex, hx, q⟩ | ⟨a, xs, ex, hx, q⟩
  · subst ex
    cases r1
    obtain ⟨its, r, ht, hz⟩ := I5.list hx
    have hlen := r.length
    show wpAny (model X.prog X.w) X.A (subscriptTail e (.Slice none none (some (.UnaryOp .USub (.Constant (.int 1) k p1) p2)) p3) (.ref a) (.ref s4.heap.objs.size)) (EP X pins σ Q) X.xe { s4 with heap := s4.heap.push { cls := .type "slice", data := .fields #[vl, vu, vs] } }
    refine tail_any (ops := [.ref a, .ref s4.heap.objs.size]) ht.isList.typeIs (PySem.slot_list_getitem.lookup) ?_ (by with_unfolding_all rfl)
    refine wpAny_getItem_list_slice ht.isList (Heap.IsSliceOf.new _ vl vu vs) pl pu ps (by decide) ?_ (by rw [List.size_toArray]; omega)
    rw [PySem.W.krv_pick]
    refine ⟨.ref _, _, I5.laid (t' := s4.toks) (o := .lst xs.reverse) (fun b ob q => Heap.get?_push_of_some _ q) (Nat.le_refl _) ?_, rfl, q _ (I5.hok.fresh (Nat.le_refl _))⟩
    exact ⟨by rw [List.length_reverse]; exact hz, _, 0, r.reverse, Heap.get?_push_size _ rfl⟩
  · subst ex
    cases r1
    obtain ⟨its, r, ht, hz⟩ := I5.tuple hx
    have hlen := r.length
    show wpAny (model X.prog X.w) X.A (subscriptTail e (.Slice none none (some (.UnaryOp .USub (.Constant (.int 1) k p1) p2)) p3) (.ref a) (.ref s4.heap.objs.size)) (EP X pins σ Q) X.xe { s4 with heap := s4.heap.push { cls := .type "slice", data := .fields #[vl, vu, vs] } }
    refine tail_any (ops := [.ref a, .ref s4.heap.objs.size]) ht.typeIs (PyProof.Rows.slot_tuple_getitem.lookup) ?_ (by with_unfolding_all rfl)
    cases pl
    cases pu
    refine getItem_tuple_rev ht (Heap.IsSliceOf.new _ .none .none vs) ps ?_ (by rw [List.size_toArray]; omega)
    refine ⟨.ref _, _, I5.laid (t' := s4.toks) (o := .tup xs.reverse) (fun b ob q => Heap.get?_push_of_some _ q) (Nat.le_refl _) ?_, rfl, q _ (I5.hok.fresh (Nat.le_refl _))⟩
    exact ⟨by rw [List.length_reverse]; exact hz, _, r.reverse, IsTup.new _ _⟩
end
section
variable {X : Cx} {RX : RXT} {W : WX} {F : Type} {Φ : F → List Val → Store → R Val} {L : Nat} {e a b c : Expr} {es : List Expr} {pos : Pos}
  {ι : Ix} {m : Store} {H : Hp} {Q : VK} {x y : V} {v w : Val} {pa pb pc : PX F}
theorem atI_some {α : Type} {xs : List α} {i : Int} {d : α} (h : atI xs i = some d) : ∃ j, ixN xs.length i = some j ∧ xs[j]? = some d := by
  unfold atI at h
  cases e : ixN xs.length i with
  | none => rw [e] at h; cases h
  | some j => rw [e] at h; exact ⟨j, rfl, h⟩
theorem atI_rep {K : PySem.W.Frag} {Lv : Addr → Prop} {vs : List V} {ds : List D} {i : Int} {d : D} (r : RepAll K H Lv vs ds) (h : atI ds i = some d) : ∃ v, atI vs i = some v ∧ Rep K H Lv v d := by
  obtain ⟨j, h1, h2⟩ := atI_some h
  obtain ⟨v, h3, h4⟩ := r.get h2
  refine ⟨v, ?_, h4⟩
  unfold atI
  rw [r.length, h1]
  exact h3
theorem ok_idx (ha : PE X a (tX X.K RX W (ev Φ pa))) (hb : PE X b (tX X.K RX W (ev Φ pb))) (hs : PlainIx b) : PE X (.Subscript a b pos) (tX X.K RX W (ev Φ (.idx pa pb))) := by
  refine PE.imp (pe_ix ix_seq ha hb hs) fun σ H Q ⟨ρ, m, ι, en, st, q⟩ => ?_
  have q' : PostR X.K RX W ι m H ((ev Φ pa ρ m).bind fun v m1 => (ev Φ pb ρ m1).bind fun w m2 => match rd v m2, rd w m2 with
    | some x, some y => match ixF x y with
      | some z => R.ok (Val.d z) m2
      | none => .no
    | _, _ => .no) (GV X.K Q) := q
  refine two (G := fun _ _ _ _ _ => True) en st q' fun x y v w ι2 m2 H2 s2 _ r1 r2 g => ?_
  cases e1 : rd v m2 with
  | none => rw [e1] at g; exact False.elim g
  | some d1 =>
  cases e2 : rd w m2 with
  | none => rw [e1, e2] at g; exact False.elim g
  | some d2 =>
  rw [e1, e2] at g
  dsimp only at g
  have t1 := RepT.of s2 r1 e1
  have t2 := RepT.of s2 r2 e2
  cases e3 : ixF d1 d2 with
  | none => rw [e3] at g; exact False.elim g
  | some z =>
  rw [e3] at g
  have fin : ∀ v, Rep X.K H2 (Live ι2 m2) v z → Q v H2 := fun v r => PostR.here (RX := RX) (W := W) s2 g v r
  cases d1 with
  | list xs =>
    cases d2 with
    | int i =>
      obtain ⟨p, vs, rfl, hq, ra⟩ := t1.list
      obtain ⟨u, h1, h2⟩ := atI_rep ra (show atI xs i = some z from e3)
      rw [t2.int]
      exact .inl ⟨p, vs, i, u, rfl, rfl, hq, h1, fin u h2⟩
    | _ => cases e3
  | tuple xs =>
    cases d2 with
    | int i =>
      obtain ⟨p, vs, rfl, hq, ra⟩ := t1.tuple
      obtain ⟨u, h1, h2⟩ := atI_rep ra (show atI xs i = some z from e3)
      rw [t2.int]
      exact .inr (.inl ⟨p, vs, i, u, rfl, rfl, hq, h1, fin u h2⟩)
    | _ => cases e3
  | str t =>
    cases d2 with
    | int i =>
      have e3' : (if t.length ≤ sizeLine then (atI t.cps.toList i).map fun c => PyData.str ⟨#[c]⟩ else none) = some z := e3
      by_cases hz : t.length ≤ sizeLine
      · rw [if_pos hz] at e3'
        cases e4 : atI t.cps.toList i with
        | none => rw [e4] at e3'; cases e3'
        | some c =>
          rw [e4] at e3'
          cases e3'
          rw [t1.str, t2.int]
          exact .inr (.inr ⟨t, i, c, rfl, rfl, hz, e4, fin _ (.str _)⟩)
      · rw [if_neg hz] at e3'; cases e3'
    | _ => cases e3
  | dict kvs => exact False.elim t1.nodict
  | _ => cases e3
/-- a part of a slice -/
theorem ok_poNo : L2.PO X none (tO X.K RX W (evO Φ (.no : PO F))) := PO.imp po_none fun σ H Q ⟨ρ, m, ι, en, st, p⟩ => p.here st
theorem ok_poSo (ha : PE X a (tX X.K RX W (ev Φ pa))) : L2.PO X (some a) (tO X.K RX W (evO Φ (.so pa))) := by
  refine PO.imp (po_some ha) fun σ H Q ⟨ρ, m, ι, en, st, q⟩ => ?_
  have q' : PostR X.K RX W ι m H ((ev Φ pa ρ m).bind fun v m1 => partI v m1) (fun o _ _ H' => Q o H') := q
  refine ⟨ρ, m, ι, en, st, q'.bind.mono fun v ι1 m1 H1 l1 s1 g x r1 => ?_⟩
  unfold partI at g
  cases h : rd v m1 with
  | none => rw [h] at g; exact False.elim g
  | some d =>
    have t := RepT.of s1 r1 h
    cases d with
    | int i => rw [h] at g; rw [t.int]; exact ⟨i, rfl, PostR.here (RX := RX) (W := W) s1 g⟩
    | _ => rw [h] at g; exact False.elim g
theorem cut_rep {K : PySem.W.Frag} {Lv : Addr → Prop} {vs : List V} {ds : List D} (r : RepAll K H Lv vs ds) (lo hi : Option Int) : RepAll K H Lv (cutV vs lo hi) (cutD ds lo hi) := by
  unfold cutV cutD
  rw [r.length]
  exact (r.drop _).take _
def rSlF (K : PySem.W.Frag) : V → Option Int → Option Int → Hp → VK → Prop := fun x lo hi H Q => rSlL K x lo hi H Q ∨ rSlA K x lo hi H Q ∨ rSlS x lo hi H Q
theorem sl_all : SlR X (rSlF X.K) := sl_list.or (sl_tupA.or sl_str)
theorem cut_whole {α : Type} {xs : List α} {lo hi : Option Int} (h : sIx xs.length 0 lo = 0 ∧ sIx xs.length xs.length hi = xs.length) : (xs.drop (sIx xs.length 0 lo)).take (sIx xs.length xs.length hi - sIx xs.length 0 lo) = xs := by
  rw [h.1, h.2, List.drop_zero, Nat.sub_zero, List.take_length]
theorem ok_sli {lo hi : Option Expr} {plo phi : PO F} {p2 : Pos} (ha : PE X a (tX X.K RX W (ev Φ pa))) (hl : L2.PO X lo (tO X.K RX W (evO Φ plo))) (hh : L2.PO X hi (tO X.K RX W (evO Φ phi))) :
    PE X (.Subscript a (.Slice lo hi none p2) pos) (tX X.K RX W (ev Φ (.sli pa plo phi))) := by
  refine PE.imp (pe_slice sl_all ha hl hh) fun σ H Q ⟨ρ, m, ι, en, st, q⟩ => ?_
  have q' : PostR X.K RX W ι m H ((ev Φ pa ρ m).bind fun v m1 => (evO Φ plo ρ m1).bind fun l m2 => (evO Φ phi ρ m2).bind fun h m3 => match rd v m3 with
    | some x => match slF x l h with
      | some z => put z m3
      | none => .no
    | none => .no) (GV X.K Q) := q
  refine ⟨ρ, m, ι, en, st, q'.bind.mono fun v ι1 m1 H1 l1 s1 g x r1 => ⟨ρ, m1, ι1, en.le l1, s1, g.bind.mono fun l ι2 m2 H2 l2 s2 g2 => ⟨ρ, m2, ι2, en.le (l1.trans l2), s2, g2.bind.mono fun h ι3 m3 H3 l3 s3 g3 => ?_⟩⟩⟩
  have r3 := r1.le (l2.trans l3)
  cases e1 : rd v m3 with
  | none => rw [e1] at g3; exact False.elim g3
  | some d =>
  rw [e1] at g3
  dsimp only at g3
  have t := RepT.of s3 r3 e1
  cases e2 : slF d l h with
  | none => rw [e2] at g3; exact False.elim g3
  | some z =>
  rw [e2] at g3
  cases d with
  | list xs =>
    cases e2
    obtain ⟨p, vs, rfl, hq, ra⟩ := t.list
    obtain ⟨_, hp⟩ := post_lst s3 g3 (cut_rep ra l h)
    exact .inl ⟨p, vs, rfl, hq, fun q hn => let ⟨a, b⟩ := hp q hn; b _ a⟩
  | tuple xs =>
    cases e2
    have tr := t.tupRep
    obtain ⟨p, vs, rfl, hq, ra⟩ := t.tuple
    obtain ⟨_, hp⟩ := post_tup s3 g3 (cut_rep ra l h)
    refine .inr (.inl ⟨p, vs, rfl, hq, fun hw => ?_, fun _ q hn => let ⟨a, b⟩ := hp q hn; b _ a⟩)
    rw [ra.length] at hw
    have e : cutD xs l h = xs := cut_whole hw
    rw [e] at g3
    have g4 : PostR X.K RX W ι3 m3 H3 (if xs.length ≤ sizeLine then R.ok (Val.d (.tuple xs)) m3 else .no) (GV X.K Q) := g3
    by_cases hz : xs.length ≤ sizeLine
    · rw [if_pos hz] at g4; exact g4.here s3 _ tr
    · rw [if_neg hz] at g4; exact False.elim g4
  | str z' =>
    have e3 : (if z'.length ≤ sizeLine then some (Out.at (.str (cutS z' l h))) else none) = some z := e2
    by_cases hz : z'.length ≤ sizeLine
    · rw [if_pos hz] at e3
      cases e3
      rw [t.str]
      exact .inr (.inr ⟨z', rfl, hz, post_at s3 g3 _ (.str _)⟩)
    · rw [if_neg hz] at e3; cases e3
  | dict _ => exact False.elim t.nodict
  | _ => cases e2
theorem ok_rev {k : Nat} {p1 p2 p3 : Pos} (ha : PE X a (tX X.K RX W (ev Φ pa))) : PE X (.Subscript a (.Slice none none (some (.UnaryOp .USub (.Constant (.int 1) k p1) p2)) p3) pos) (tX X.K RX W (ev Φ (.rev pa))) := by
  refine PE.imp (pe_revA ha) fun σ H Q ⟨ρ, m, ι, en, st, q⟩ => ?_
  have q' : PostR X.K RX W ι m H ((ev Φ pa ρ m).bind fun v m1 => match rd v m1 with
    | some x => match revF x with
      | some z => put z m1
      | none => .no
    | none => .no) (GV X.K Q) := q
  refine ⟨ρ, m, ι, en, st, q'.bind.mono fun v ι1 m1 H1 l1 s1 g x r1 => ?_⟩
  cases e1 : rd v m1 with
  | none => rw [e1] at g; exact False.elim g
  | some d =>
  rw [e1] at g
  dsimp only at g
  have t := RepT.of s1 r1 e1
  cases d with
  | list xs =>
    obtain ⟨p, vs, rfl, hq, ra⟩ := t.list
    obtain ⟨_, hp⟩ := post_lst s1 g ra.rev
    exact .inl ⟨p, vs, rfl, hq, fun q hn => let ⟨a, b⟩ := hp q hn; b _ a⟩
  | tuple xs =>
    obtain ⟨p, vs, rfl, hq, ra⟩ := t.tuple
    obtain ⟨_, hp⟩ := post_tup s1 g ra.rev
    exact .inr ⟨p, vs, rfl, hq, fun q hn => let ⟨a, b⟩ := hp q hn; b _ a⟩
  | _ => exact False.elim g
end
end DL
end
section
set_option Elab.async false
set_option linter.all false
set_option maxRecDepth 100000
set_option autoImplicit false
set_option maxHeartbeats 2000000
/-! DLg: calls: defs, built-in functions, isinstance, methods. -/
namespace DL
open PySem PySem.Spec PyProof.Rows L2

/-! ### what is asked of a list of written expressions: none is starred -/
def noStar : Expr → Bool
  | .Starred _ _ => false
  | _ => true
theorem star_cons {e : Expr} {es : List Expr} {env : PySem.Env} (h : noStar e = true) : starEach (e :: es) env = (false, eval e env) :: starEach es env := by
  cases e <;> first | rfl | cases h
theorem star_any {pos : Pos} {env : PySem.Env} : ∀ {es : List Expr}, es.all noStar = true → (backTo pos (starEach es env)).any (·.1) = false
  | [], _ => rfl
  | e :: es, h => by
    rw [List.all_cons, Bool.and_eq_true] at h
    rw [star_cons h.1]
    show (false || (backTo pos (starEach es env)).any (·.1)) = false
    rw [star_any h.2]
    rfl
theorem star_none {pos : Pos} {env : PySem.Env} : ∀ {es : List Expr}, es.all noStar = true → (backTo pos (starEach es env)).all (fun x => !x.1) = true
  | [], _ => rfl
  | e :: es, h => by
    rw [List.all_cons, Bool.and_eq_true] at h
    rw [star_cons h.1]
    show (true && (backTo pos (starEach es env)).all (fun x => !x.1)) = true
    rw [star_none h.2]
    rfl

/-! ### defs -/
def spOf (K : PySem.W.Frag) (RX : RXT) (φ : List Val → Store → R Val) : Sp := fun vs H Q E => ∃ ws m ι, StOk K ι m H ∧ RepWs K ι m H vs ws ∧ PostR K RX (fun c d _ H => E c d H) ι m H (φ ws m) (GV K Q)
section
variable {X : Cx} {RX : RXT} {W : WX} {F : Type} {Φ : F → List Val → Store → R Val} {L : Nat}
theorem PostR.wx {α : Type} {K : PySem.W.Frag} {W W' : WX} {ι : Ix} {m : Store} {H : Hp} {r : R α} {G : α → Ix → Store → Hp → Prop} (σ : L2.St) (h : PostR K RX W ι m H r G) (hw : ∀ c d σ' H, W c d σ H → W' c d σ' H) : PostR K RX W' ι m H r G := by
  cases r with
  | ok b m1 => exact h
  | ex x m1 => exact fun ι1 H1 c d σ' l s x => hw c d σ' H1 (h ι1 H1 c d σ l s x)
  | no => exact h
theorem PostR.wxF {α : Type} {K : PySem.W.Frag} {W W' : WX} {ι : Ix} {m : Store} {H : Hp} {r : R α} {G : α → Ix → Store → Hp → Prop} (h : PostR K RX W ι m H r G) (hw : ∀ c d H, (∀ σ, W c d σ H) → ∀ σ, W' c d σ H) : PostR K RX W' ι m H r G := by
  cases r with
  | ok b m1 => exact h
  | ex x m1 => exact fun ι1 H1 c d σ' l s x => hw c d H1 (fun σ => h ι1 H1 c d σ l s x) σ'
  | no => exact h
theorem ok_call {x : Str} {p pos : Pos} {e : Expr} {es : List Expr} {k : Nat} {f : Addr} {fd : FuncData} {ps : List Str} {i : F} {qs : PXs F} (tk : Takes X W) (Fn : FnOk X.prog X.w X.K X.mg X.base (L2.CX X.prog X.w) k f fd ps (spOf X.K RX (Φ i))) (hr : Room k X.A)
    (hg : Gl X x) (hm : X.mg x = some (.ref f)) (hk : PySem.W.keepIn X.K (.ref f) = true) (hb : Binds X.K fd ps []) (hn : (e :: es).all noStar = true) (hd : (x == ("__debug__" : Str)) = false)
    (ha : PA X (e :: es) (tA X.K RX W (evs Φ qs))) : PE X (.Call (.Name x p) (e :: es) [] pos) (tX X.K RX W (ev Φ (.call i qs))) := by
  rw [List.all_cons, Bool.and_eq_true] at hn
  refine PE.imp (pe_callS Fn hr hg hm hk hb (fun σ => passAt tk σ) ha hd (star_cons hn.1) (star_any hn.2)) fun σ H Q ⟨ρ, m, ι, en, st, q⟩ => ?_
  have q' : PostR X.K RX W ι m H ((evs Φ qs ρ m).bind fun vs m1 => Φ i vs m1) (GV X.K Q) := q
  refine ⟨ρ, m, ι, en, st, q'.bind.mono fun ws ι1 m1 H1 l1 s1 g vs r => ?_⟩
  exact ⟨ws, m1, ι1, s1, r, g.wx σ fun c d σ' H h => h⟩
theorem ok_call0 {x : Str} {p pos : Pos} {k : Nat} {f : Addr} {fd : FuncData} {ps : List Str} {i : F} (tk : Takes X W) (Fn : FnOk X.prog X.w X.K X.mg X.base (L2.CX X.prog X.w) k f fd ps (spOf X.K RX (Φ i))) (hr : Room k X.A)
    (hg : Gl X x) (hm : X.mg x = some (.ref f)) (hk : PySem.W.keepIn X.K (.ref f) = true) (hb : Binds X.K fd ps []) (hd : (x == ("__debug__" : Str)) = false) :
    PE X (.Call (.Name x p) [] [] pos) (tX X.K RX W (ev Φ (.call i .nil))) := by
  refine ⟨fun pins s σ H Q I ⟨ρ, m, ι, en, st, q⟩ => ?_⟩
  refine wpAny_Call_Name_kw (ld_glob I hg hm ?_ hd)
  refine PySem.W.callWith_K0 I.kIn hk (run_fnS (us := []) (vs := []) (E := WE W) Fn hr hb (passAt tk σ) I .nil ?_)
  have q' : PostR X.K RX W ι m H (Φ i [] m) (GV X.K Q) := q
  exact ⟨[], m, ι, st, .nil, q'.wx σ fun c d σ' H h => h⟩
end

/-! ### built-in functions -/
inductive RepTs (K : PySem.W.Frag) (H : Hp) (Lv : Addr → Prop) : List V → List D → Prop
  | nil : RepTs K H Lv [] []
  | cons {v : V} {vs : List V} {d : D} {ds : List D} : RepT K H Lv v d → RepTs K H Lv vs ds → RepTs K H Lv (v :: vs) (d :: ds)
theorem rdAll_ok {K : PySem.W.Frag} {ι : Ix} {m : Store} {H : Hp} (s : StOk K ι m H) : ∀ {vs : List V} {ws : List Val} {xs : List D}, RepWs K ι m H vs ws → rdAll m ws = some xs → RepTs K H (Live ι m) vs xs
  | _, _, _, .nil, h => by cases h; exact .nil
  | _, w :: ws, xs, .cons r t, h => by
    unfold rdAll at h
    cases e1 : rd w m with
    | none => rw [e1] at h; cases h
    | some x =>
      cases e2 : rdAll m ws with
      | none => rw [e1, e2] at h; cases h
      | some ys => rw [e1, e2] at h; cases h; exact .cons (RepT.of s r e1) (rdAll_ok s t e2)
def biNm : Bi → String
  | .len => "len" | .tuple => "tuple" | .list => "list" | .all => "all" | .any => "any" | .sorted => "sorted" | .int => "int" | .str => "str" | .bool => "bool" | .min => "min" | .set => "set"
def biTy : Bi → Bool
  | .tuple => true | .list => true | .int => true | .str => true | .bool => true | .set => true
  | _ => false
def biVal (b : Bi) : Value := if biTy b then .type (biNm b) else .builtin (biNm b)
def blR (b : Bi) (ws : List Val) (m : Store) : R Val := match rdAll m ws with
  | some xs => match blF b xs with
    | some z => put z m
    | none => .no
  | none => .no
def rBl (K : PySem.W.Frag) (RX : RXT) (W : WX) (b : Bi) : List V → Hp → VK → Prop := fun vs H Q => ∃ ws m ι, StOk K ι m H ∧ RepWs K ι m H vs ws ∧ PostR K RX W ι m H (blR b ws m) (GV K Q)
theorem bools_rep {K : PySem.W.Frag} {H : Hp} {Lv : Addr → Prop} : ∀ {vs : List V} {ds : List D} {bs : List Bool}, RepAll K H Lv vs ds → boolsOf ds = some bs → vs = bs.map V.bl
  | _, _, _, .nil, h => by cases h; rfl
  | _, _, _, .cons (d := d) (ds := ds) r t, h => by
    cases d with
    | bool b =>
      have h' : (boolsOf ds).map (b :: ·) = some _ := h
      cases e : boolsOf ds with
      | none => rw [e] at h'; cases h'
      | some cs =>
        rw [e] at h'
        cases h'
        cases r
        rw [bools_rep t e]
        rfl
    | _ => cases h
theorem strs_rep {K : PySem.W.Frag} {H : Hp} {Lv : Addr → Prop} : ∀ {vs : List V} {ds : List D} {bs : List Str}, RepAll K H Lv vs ds → strsOf ds = some bs → vs = bs.map V.str
  | _, _, _, .nil, h => by cases h; rfl
  | _, _, _, .cons (d := d) (ds := ds) r t, h => by
    cases d with
    | str b =>
      have h' : (strsOf ds).map (b :: ·) = some _ := h
      cases e : strsOf ds with
      | none => rw [e] at h'; cases h'
      | some cs =>
        rw [e] at h'
        cases h'
        cases r
        rw [strs_rep t e]
        rfl
    | _ => cases h
theorem rep_strs {K : PySem.W.Frag} {H : Hp} {Lv : Addr → Prop} : ∀ ys : List Str, RepAll K H Lv (ys.map V.str) (ys.map PyData.str)
  | [] => .nil
  | y :: ys => .cons (.str y) (rep_strs ys)
section
variable {X : Cx} {RX : RXT} {W : WX}
theorem call_str_str : CallR X (.type "str") (fun xs H Q => ∃ x, xs = [.str x] ∧ Q (.str x) H) := by
  intro pins s σ H xs us Q I r h
  obtain ⟨x, rfl, q⟩ := h
  obtain ⟨u, rfl, t, rfl⟩ := vals1 r
  exact PySem.P.str_of_str ⟨.str _, H, I, ⟨_, rfl⟩, q⟩
theorem bi_ok (b : Bi) (hc : X.calm = true) (hu : X.A.units + 200 < cLine) : CallR X (biVal b) (rBl X.K RX W b) := by
  intro pins s σ H vs us Q I r h
  obtain ⟨ws, m, ι, st, rw', q⟩ := h
  unfold blR at q
  cases e1 : rdAll m ws with
  | none => rw [e1] at q; exact False.elim q
  | some xs =>
  rw [e1] at q
  dsimp only at q
  have rt := rdAll_ok st rw' e1
  cases e2 : blF b xs with
  | none => rw [e2] at q; exact False.elim q
  | some z =>
  rw [e2] at q
  dsimp only at q
  cases b with
  | len =>
    refine call_len pins s σ H vs us Q I r ?_
    cases rt with
    | nil => cases e2
    | @cons v vs' d ds t rt =>
    cases rt with
    | cons _ _ => cases d <;> cases e2
    | nil =>
    cases d with
    | list xs =>
      cases e2
      obtain ⟨a, us, rfl, hs, ra⟩ := t.list
      exact ⟨_, us.length, rfl, .inl ⟨us, hs, rfl⟩, by rw [ra.length]; exact q.here st _ (.int _)⟩
    | tuple xs =>
      cases e2
      obtain ⟨a, us, rfl, hs, ra⟩ := t.tuple
      exact ⟨_, us.length, rfl, .inr ⟨us, hs, rfl⟩, by rw [ra.length]; exact q.here st _ (.int _)⟩
    | str x =>
      have e3 : (if x.length ≤ sizeLine then some (Out.at (.int x.length)) else none) = some z := e2
      by_cases hz : x.length ≤ sizeLine
      · rw [if_pos hz] at e3
        cases e3
        rw [t.str]
        exact ⟨_, x.length, rfl, ⟨hz, rfl⟩, q.here st _ (.int _)⟩
      · rw [if_neg hz] at e3
        cases e3
    | dict kvs => exact False.elim t.nodict
    | _ => cases e2
  | tuple =>
    refine call_tuple_of pins s σ H vs us Q I r ?_
    cases rt with
    | nil => cases e2
    | @cons v vs' d ds t rt =>
    cases rt with
    | cons _ _ => cases d <;> cases e2
    | nil =>
    cases d with
    | list xs =>
      cases e2
      obtain ⟨a, us, rfl, hs, ra⟩ := t.list
      obtain ⟨hz, g⟩ := post_tup st q ra
      exact ⟨a, us, rfl, .inl ⟨hs, fun p hp => let ⟨r, g⟩ := g p hp; g _ r⟩⟩
    | tuple xs =>
      cases e2
      have tr := t.tupRep
      obtain ⟨a, us, rfl, hs, ra⟩ := t.tuple
      exact ⟨a, us, rfl, .inr ⟨hs, q.here st _ tr⟩⟩
    | _ => cases e2
  | list =>
    refine call_list_of pins s σ H vs us Q I r ?_
    cases rt with
    | nil => cases e2
    | @cons v vs' d ds t rt =>
    cases rt with
    | cons _ _ => cases d <;> cases e2
    | nil =>
    cases d with
    | list xs =>
      cases e2
      obtain ⟨a, us, rfl, hs, ra⟩ := t.list
      obtain ⟨hz, g⟩ := post_lst st q ra
      exact ⟨a, us, rfl, .inl hs, fun p hp => let ⟨r, g⟩ := g p hp; g _ r⟩
    | tuple xs =>
      cases e2
      obtain ⟨a, us, rfl, hs, ra⟩ := t.tuple
      obtain ⟨hz, g⟩ := post_lst st q ra
      exact ⟨a, us, rfl, .inr hs, fun p hp => let ⟨r, g⟩ := g p hp; g _ r⟩
    | dict kvs => exact False.elim t.nodict
    | _ => cases e2
  | all =>
    refine cr_all hc pins s σ H vs us Q I r ?_
    cases rt with
    | nil => cases e2
    | @cons v vs' d ds t rt =>
    cases rt with
    | cons _ _ => cases d <;> cases e2
    | nil =>
    cases d with
    | list xs =>
      obtain ⟨a, us, rfl, hs, ra⟩ := t.list
      have e3 : (boolsOf xs).map (fun bs => Out.at (.bool (bs.all id))) = some z := e2
      cases e4 : boolsOf xs with
      | none => rw [e4] at e3; cases e3
      | some bs =>
        rw [e4] at e3
        cases e3
        exact ⟨a, bs, rfl, by rw [← bools_rep ra e4]; exact hs, q.here st _ (.bl _)⟩
    | _ => cases e2
  | any =>
    refine cr_any hc pins s σ H vs us Q I r ?_
    cases rt with
    | nil => cases e2
    | @cons v vs' d ds t rt =>
    cases rt with
    | cons _ _ => cases d <;> cases e2
    | nil =>
    cases d with
    | list xs =>
      obtain ⟨a, us, rfl, hs, ra⟩ := t.list
      have e3 : (boolsOf xs).map (fun bs => Out.at (.bool (bs.any id))) = some z := e2
      cases e4 : boolsOf xs with
      | none => rw [e4] at e3; cases e3
      | some bs =>
        rw [e4] at e3
        cases e3
        exact ⟨a, bs, rfl, by rw [← bools_rep ra e4]; exact hs, q.here st _ (.bl _)⟩
    | _ => cases e2
  | sorted =>
    refine cr_sortD hu pins s σ H vs us Q I r ?_
    cases rt with
    | nil => cases e2
    | @cons v vs' d ds t rt =>
    cases rt with
    | cons _ _ => cases d <;> cases e2
    | nil =>
    cases d with
    | list xs =>
      obtain ⟨a, us, rfl, hs, ra⟩ := t.list
      have e3 : (if sortOk xs = true then some (Out.lst (sortD xs)) else none) = some z := e2
      by_cases hz : sortOk xs = true
      · rw [if_pos hz] at e3
        cases e3
        obtain ⟨h1, h2, h3⟩ := sortOk_ok hz
        obtain ⟨h4, g⟩ := post_lst st q (repAll_sorted ra)
        exact ⟨a, us, xs, rfl, hs, ra.dp, h1, h2, h3, fun p hp => let ⟨r, g⟩ := g p hp; g _ r⟩
      · rw [if_neg hz] at e3
        cases e3
    | _ => cases e2
  | int =>
    refine call_int1 pins s σ H vs us Q I r ?_
    cases rt with
    | nil => cases e2
    | @cons v vs' d ds t rt =>
    cases rt with
    | cons _ _ => cases d <;> cases e2
    | nil =>
    cases d with
    | int i => cases e2; rw [t.int]; exact .inl ⟨i, rfl, q.here st _ (.int _)⟩
    | bool b => cases e2; rw [t.bool]; exact .inr ⟨b, rfl, q.here st _ (.int _)⟩
    | _ => cases e2
  | str =>
    cases rt with
    | nil => cases e2
    | @cons v vs' d ds t rt =>
    cases rt with
    | cons _ _ => cases d <;> cases e2
    | nil =>
    cases d with
    | int i =>
      refine call_str_int pins s σ H _ us Q I r ?_
      have e3 : (if i.natAbs.log2 < 1920 then some (Out.at (.str (toString i))) else none) = some z := e2
      by_cases hz : i.natAbs.log2 < 1920
      · rw [if_pos hz] at e3
        cases e3
        rw [t.int]
        exact ⟨i, rfl, hz, q.here st _ (.str _)⟩
      · rw [if_neg hz] at e3
        cases e3
    | str x =>
      refine call_str_str pins s σ H _ us Q I r ?_
      cases e2
      rw [t.str]
      exact ⟨x, rfl, q.here st _ (.str _)⟩
    | _ => cases e2
  | bool =>
    refine call_bool1 pins s σ H vs us Q I r ?_
    cases rt with
    | nil => cases e2
    | @cons v vs' d ds t rt =>
    cases rt with
    | cons _ _ => cases d <;> cases e2
    | nil =>
    cases d with
    | bool b => cases e2; rw [t.bool]; exact .inr ⟨b, rfl, q.here st _ (.bl _)⟩
    | _ => cases e2
  | min =>
    refine call_min2 hc pins s σ H vs us Q I r ?_
    cases rt with
    | nil => cases e2
    | @cons v vs' d ds t rt =>
    cases rt with
    | nil => cases d <;> cases e2
    | @cons v2 vs2 d2 ds2 t2 rt =>
    cases rt with
    | cons _ _ => cases d <;> first | (cases d2 <;> cases e2) | cases e2
    | nil =>
    cases d with
    | int i =>
      cases d2 with
      | int j => cases e2; rw [t.int, t2.int]; exact ⟨i, j, rfl, q.here st _ (.int _)⟩
      | _ => cases e2
    | _ => cases e2
  | set => cases e2
end
end DL
end
section
set_option Elab.async false
set_option linter.all false
set_option maxRecDepth 100000
set_option autoImplicit false
set_option maxHeartbeats 2000000
/-! DLh: built-in calls as expressions, isinstance, methods. -/
namespace DL
open PySem PySem.Spec PyProof.Rows L2

section
variable {X : Cx} {RX : RXT} {W : WX} {F : Type} {Φ : F → List Val → Store → R Val} {L : Nat}
theorem boot_bi (b : Bi) : bootBuiltins (biNm b) = some (biVal b) := by cases b <;> decide +kernel
theorem bi_nm (b : Bi) : ((biNm b : String) : Str) ≠ "__name__" := by cases b <;> decide
theorem bi_db (b : Bi) : (((biNm b : String) : Str) == ("__debug__" : Str)) = false := by cases b <;> decide
theorem ok_blt {b : Bi} {x : Str} {p pos : Pos} {e : Expr} {es : List Expr} {qs : PXs F} (hx : x = (biNm b : String)) (hc : X.calm = true) (hu : X.A.units + 200 < cLine) (hg : Gl X x) (hm : X.mg x = none) (hn : (e :: es).all noStar = true)
    (ha : PA X (e :: es) (tA X.K RX W (evs Φ qs))) : PE X (.Call (.Name x p) (e :: es) [] pos) (tX X.K RX W (ev Φ (.blt b qs))) := by
  rw [List.all_cons, Bool.and_eq_true] at hn
  subst hx
  have main : PE X (.Call (.Name (biNm b : String) p) (e :: es) [] pos) (tCB (rBl X.K RX W b) (tA X.K RX W (evs Φ qs))) := by
    by_cases ht : biTy b = true
    · have ev : biVal b = .type (biNm b) := by unfold biVal; rw [if_pos ht]
      exact pe_callTy (by rw [← ev]; exact bi_ok b hc hu) hg hm (by rw [← ev]; exact boot_bi b) ha (bi_nm b) (bi_db b) (star_cons hn.1) (star_any hn.2)
    · have ev : biVal b = .builtin (biNm b) := by unfold biVal; rw [if_neg ht]
      exact pe_callB (by rw [← ev]; exact bi_ok b hc hu) hg hm (by rw [← ev]; exact boot_bi b) ha (bi_nm b) (bi_db b) (star_cons hn.1) (star_any hn.2)
  refine PE.imp main fun σ H Q ⟨ρ, m, ι, en, st, q⟩ => ?_
  have q' : PostR X.K RX W ι m H ((evs Φ qs ρ m).bind fun vs m1 => blR b vs m1) (GV X.K Q) := q
  exact ⟨ρ, m, ι, en, st, q'.bind.mono fun ws ι1 m1 H1 l1 s1 g vs r => ⟨ws, m1, ι1, s1, r, g⟩⟩

/-! ### isinstance -/
def tyNm : Ty → String
  | .tuple => "tuple" | .list => "list" | .int => "int" | .bool => "bool" | .str => "str"
def dNm : D → String
  | .none => "NoneType" | .bool _ => "bool" | .int _ => "int" | .str _ => "str" | .list _ => "list" | .tuple _ => "tuple" | .dict _ => "dict"
theorem boot_ty (t : Ty) : bootBuiltins (tyNm t) = some (.type (tyNm t)) := by cases t <;> decide +kernel
theorem ty_nm (b : Ty) : ((tyNm b : String) : Str) ≠ "__name__" := by cases b <;> decide
theorem ty_db (b : Ty) : (((tyNm b : String) : Str) == ("__debug__" : Str)) = false := by cases b <;> decide
theorem kit_of_ty {K : PySem.W.Frag} {t : Ty} {d : D} {b : Bool} (h : tyF t d = some b) : PySem.W.kitOne K (.type (dNm d)) (.type (tyNm t)) = some b := by
  refine kit_ty ?_
  cases t <;> cases d <;> first | (cases h; done) | (cases h; dsimp only [dNm, tyNm]; decide +kernel)
theorem ty_of {K : PySem.W.Frag} {H : Hp} {Lv : Addr → Prop} {v : V} {d : D} (r : RepT K H Lv v d) : TyX K H v (.type (dNm d)) := by
  cases d with
  | none => rw [r.non]; exact .base .non
  | bool b => rw [r.bool]; exact .base (.bl b)
  | int i => rw [r.int]; exact .base (.int i)
  | str x => rw [r.str]; exact .base (.str x)
  | list xs =>
    obtain ⟨a, vs, rfl, hs, _⟩ := r.list
    rcases hs with (h | ⟨o, h⟩) | ⟨o, _, _, h, c, _⟩
    · exact .base (.lst h)
    · exact .base (.frz h)
    · exact .kList h c
  | tuple xs =>
    obtain ⟨a, vs, rfl, hs, _⟩ := r.tuple
    rcases hs with (h | ⟨o, h⟩) | ⟨o, _, _, h, c, _⟩
    · exact .base (.tup h)
    · exact .fTuple h
    · exact .kTuple h c
  | dict kvs => exact False.elim r.nodict
theorem kitAny_of {K : PySem.W.Frag} {d : D} : ∀ {ts : List Ty} {b : Bool}, isiF ts d = some b → PySem.W.kitAny K (.type (dNm d)) (ts.map fun t => Value.type (tyNm t)) = some b
  | [], _, h => by cases h; exact kitAny_nil
  | t :: ts, b, h => by
    unfold isiF at h
    cases e : tyF t d with
    | none => rw [e] at h; cases h
    | some k =>
      rw [e] at h
      cases k with
      | true => cases h; exact kitAny_cons (kit_of_ty e) (fun z => nomatch z) fun _ => rfl
      | false => exact kitAny_cons (kit_of_ty e) (fun _ => kitAny_of h) fun z => nomatch z
theorem pe_tyv {x : Str} {p : Pos} (t : Ty) (hx : x = (tyNm t : String)) (hg : Gl X x) (hm : X.mg x = none) : PE X (.Name x p) (tC (.ty (tyNm t))) := by
  subst hx
  exact pe_bltn hg hm (boot_ty t) rfl (ty_nm t) (ty_db t)
theorem boot_isi : bootBuiltins "isinstance" = some (.builtin "isinstance") := by decide +kernel
theorem ok_isi {t : Ty} {x y : Str} {p p2 pos : Pos} {e : Expr} {q : PX F} (hx : x = "isinstance") (hy : y = (tyNm t : String)) (hg : Gl X x) (hm : X.mg x = none) (hgy : Gl X y) (hmy : X.mg y = none) (hn : noStar e = true)
    (ha : PE X e (tX X.K RX W (ev Φ q))) : PE X (.Call (.Name x p) [e, .Name y p2] [] pos) (tX X.K RX W (ev Φ (.isi q [t]))) := by
  subst hx
  refine PE.imp (pe_callB (call_isi (X := X)) hg hm boot_isi (pa_cons ha (pa_cons (pe_tyv t hy hgy hmy) pa_nil (star_cons rfl)) (star_cons hn)) (he := star_cons hn) (hpl := star_any rfl)) fun σ H Q ⟨ρ, m, ι, en, st, h⟩ => ?_
  have h' : PostR X.K RX W ι m H ((ev Φ q ρ m).bind fun v m1 => match rd v m1 with | some x => (match isiF [t] x with | some b => R.ok (.d (.bool b)) m1 | none => .no) | none => .no) (GV X.K Q) := h
  refine ⟨ρ, m, ι, en, st, h'.bind.mono fun v ι1 m1 H1 l1 s1 g x r => ?_⟩
  cases e1 : rd v m1 with
  | none => rw [e1] at g; exact False.elim g
  | some d =>
    rw [e1] at g
    dsimp only at g
    cases e2 : isiF [t] d with
    | none => rw [e2] at g; exact False.elim g
    | some b =>
      rw [e2] at g
      have e3 : tyF t d = some b := by
        unfold isiF at e2
        cases e4 : tyF t d with
        | none => rw [e4] at e2; cases e2
        | some k =>
          rw [e4] at e2
          cases k with
          | true => exact e2
          | false => exact e2
      exact ⟨x, .ty (tyNm t), _, _, b, rfl, .ty _, ty_of (RepT.of s1 r e1), kit_of_ty e3, g.here s1 _ (.bl _)⟩
theorem ok_isi2 {t1 t2 : Ty} {x y1 y2 : Str} {p p1 p2 tp pos : Pos} {k : Nat} {e : Expr} {q : PX F} (hx : x = "isinstance") (hy1 : y1 = (tyNm t1 : String)) (hy2 : y2 = (tyNm t2 : String)) (hg : Gl X x) (hm : X.mg x = none) (hg1 : Gl X y1) (hm1 : X.mg y1 = none) (hg2 : Gl X y2) (hm2 : X.mg y2 = none) (hn : noStar e = true)
    (ha : PE X e (tX X.K RX W (ev Φ q))) : PE X (.Call (.Name x p) [e, .Tuple [.Name y1 p1, .Name y2 p2] k tp] [] pos) (tX X.K RX W (ev Φ (.isi q [t1, t2]))) := by
  subst hx
  refine PE.imp (pe_callB (call_isiT (X := X)) hg hm boot_isi (pa_cons ha (pa_cons (pe_tup (pa_cons (pe_tyv t1 hy1 hg1 hm1) (pa_cons (pe_tyv t2 hy2 hg2 hm2) pa_nil (star_cons rfl)) (star_cons rfl))) pa_nil (star_cons rfl)) (star_cons hn)) (he := star_cons hn) (hpl := star_any rfl)) fun σ H Q ⟨ρ, m, ι, en, st, h⟩ => ?_
  have h' : PostR X.K RX W ι m H ((ev Φ q ρ m).bind fun v m1 => match rd v m1 with | some x => (match isiF [t1, t2] x with | some b => R.ok (.d (.bool b)) m1 | none => .no) | none => .no) (GV X.K Q) := h
  refine ⟨ρ, m, ι, en, st, h'.bind.mono fun v ι1 m1 H1 l1 s1 g x r => ?_⟩
  cases e1 : rd v m1 with
  | none => rw [e1] at g; exact False.elim g
  | some d =>
    rw [e1] at g
    dsimp only at g
    cases e2 : isiF [t1, t2] d with
    | none => rw [e2] at g; exact False.elim g
    | some b =>
      rw [e2] at g
      refine ⟨by rw [sizeLine_eq]; show 2 ≤ 16777216; decide, fun p hp => ?_⟩
      have s2 : StOk X.K ι1 m1 (upd H1 p (.tup [.ty (tyNm t1), .ty (tyNm t2)])) := s1.fresh hp
      have rt := RepT.of s2 (r.le (le_fresh s1 hp)) e1
      exact ⟨x, p, _, _, _, b, rfl, upd_same, .cons (.ty _) (.cons (.ty _) .nil), ty_of rt, kitAny_of e2, g ι1 _ (le_fresh s1 hp) s2 _ (.bl _)⟩

/-! ### methods -/
def noSup : Expr → Bool
  | .Call (.Name _ _) [] [] _ => false
  | _ => true
theorem base_of {o : Expr} {m : Str} {env : PySem.Env} (h : noSup o = true) : attributeBase o m env (eval o env) = eval o env := by
  unfold attributeBase
  split
  · cases h
  · rfl
theorem post_app {v : Val} {xs : D} {ι : Ix} {m : Store} {H : Hp} {x y : V} {G : Val → Ix → Store → Hp → Prop} (s : StOk X.K ι m H) (r : RepW X.K ι m H x v) (ry : Rep X.K H (Live ι m) y xs) (h : PostR X.K RX W ι m H (app1 v xs m) G) :
    ∃ l ws, x = .ref l ∧ H l = some (.lst ws) ∧ ws.length < sizeLine ∧ ∃ m', G (.d .none) ι m' (upd H l (.lst (ws ++ [y]))) := by
  unfold app1 at h
  cases v with
  | d _ => exact False.elim h
  | r n =>
    dsimp only at h
    obtain ⟨l, h1, rfl⟩ := r
    cases e1 : m[n]? with
    | none => rw [e1] at h; exact False.elim h
    | some c =>
      rw [e1] at h
      cases c with
      | lst zs =>
        dsimp only at h
        obtain ⟨ws, hH, ra⟩ := s.ok n l _ h1 e1
        by_cases hz : zs.length < sizeLine
        · rw [if_pos hz] at h
          exact ⟨l, ws, rfl, hH, by rw [ra.length]; exact hz, _, h ι _ (le_write s h1 e1 hH) (s.write h1 e1 hH (ra.app (.cons ry .nil)))⟩
        · rw [if_neg hz] at h; exact False.elim h
      | dic _ => exact False.elim h
      | fz _ => exact False.elim h
theorem ok_app {o e : Expr} {apos pos : Pos} {po pe : PX F} (ho : PE X o (tX X.K RX W (ev Φ po))) (he : PE X e (tX X.K RX W (ev Φ pe))) (hn : noStar e = true) (hs : noSup o = true) (hl : (apos.endLine == pos.line) = true) :
    PE X (.Call (.Attribute o "append" apos) [e] [] pos) (tX X.K RX W (ev Φ (.app po pe))) := by
  have hb : [e].all noStar = true := by rw [List.all_cons, hn]; rfl
  refine PE.imp (pe_bm PySem.F.plainAttrs_list PySem.F.slot_list_append PySem.F.type_list_append mt_append ho (pa_cons he pa_nil (star_cons hn)) (base_of hs) (by rw [star_none hb]; rfl) hl (star_cons hn) (star_any rfl)) fun σ H Q ⟨ρ, m, ι, en, st, h⟩ => ?_
  have h' : PostR X.K RX W ι m H ((ev Φ po ρ m).bind fun v m1 => if isLst v m1 then (ev Φ pe ρ m1).bind fun w m2 => (fz w m2).bind fun x m3 => app1 v x m3 else .no) (GV X.K Q) := h
  refine ⟨ρ, m, ι, en, st, h'.bind.mono fun v ι1 m1 H1 l1 s1 g x r => ?_⟩
  cases e0 : isLst v m1 with
  | false => rw [e0] at g; exact False.elim g
  | true =>
    rw [e0, if_pos rfl] at g
    refine ⟨?_, ρ, m1, ι1, en.le l1, s1, g.bind.mono fun w ι2 m2 H2 l2 s2 g2 y ry => ?_⟩
    · unfold isLst at e0
      cases e1 : rd v m1 with
      | none => rw [e1] at e0; cases e0
      | some d =>
        rw [e1] at e0
        cases d with
        | list xs =>
          obtain ⟨a, vs, rfl, hq, _⟩ := (RepT.of s1 r e1).list
          exact .inl ⟨rfl, vs, hq⟩
        | _ => cases e0
    · obtain ⟨m3, d, l3, s3, r3, g3⟩ := post_fz s2 ry g2.bind
      obtain ⟨l, ws, ex, hH, hz, m', g4⟩ := post_app s3 ((r.le l2).le l3) r3 g3
      exact ⟨l, ws, y, ex, rfl, hH, hz, g4 _ .non⟩
theorem repAll_dropLast {K : PySem.W.Frag} {H : Hp} {Lv : Addr → Prop} {vs : List V} {ds : List D} (r : RepAll K H Lv vs ds) : RepAll K H Lv vs.dropLast ds.dropLast := by
  rw [List.dropLast_eq_take, List.dropLast_eq_take, r.length]
  exact r.take _
theorem ok_pop {o : Expr} {apos pos : Pos} {po : PX F} (ho : PE X o (tX X.K RX W (ev Φ po))) (hs : noSup o = true) (hl : (apos.endLine == pos.line) = true) :
    PE X (.Call (.Attribute o "pop" apos) [] [] pos) (tX X.K RX W (ev Φ (.mpop po))) := by
  refine PE.imp (pe_bm0 PySem.F.plainAttrs_list PySem.F.slot_list_pop PySem.F.type_list_pop mt_pop ho (base_of hs) hl) fun σ H Q ⟨ρ, m, ι, en, st, h⟩ => ?_
  have h' : PostR X.K RX W ι m H ((ev Φ po ρ m).bind fun v m1 => pop1 v m1) (GV X.K Q) := h
  refine ⟨ρ, m, ι, en, st, h'.bind.mono fun v ι1 m1 H1 l1 s g x r => ?_⟩
  unfold pop1 at g
  cases v with
  | d _ => exact False.elim g
  | r n =>
    dsimp only at g
    obtain ⟨l, h1, rfl⟩ := r
    cases e1 : m1[n]? with
    | none => rw [e1] at g; exact False.elim g
    | some c =>
      rw [e1] at g
      cases c with
      | lst zs =>
        dsimp only at g
        obtain ⟨ws, hH, ra⟩ := s.ok n l _ h1 e1
        cases e2 : zs[zs.length - 1]? with
        | none => rw [e2] at g; exact False.elim g
        | some y =>
          rw [e2] at g
          dsimp only at g
          obtain ⟨v, hv, rv⟩ := ra.get e2
          refine ⟨.inl ⟨rfl, ws, .inl (.inl hH)⟩, l, ws, v, rfl, rfl, hH, by rw [ra.length]; exact hv, ?_⟩
          have le := le_write (ys := zs.dropLast) (ws := ws.dropLast) s h1 e1 hH
          exact g ι1 _ le (s.write h1 e1 hH (repAll_dropLast ra)) v (Rep.up le.up rv)
      | dic _ => exact False.elim g
      | fz _ => exact False.elim g
theorem ok_join {o e : Expr} {apos pos : Pos} {po pe : PX F} (ho : PE X o (tX X.K RX W (ev Φ po))) (he : PE X e (tX X.K RX W (ev Φ pe))) (hn : noStar e = true) (hs : noSup o = true) (hl : (apos.endLine == pos.line) = true) :
    PE X (.Call (.Attribute o "join" apos) [e] [] pos) (tX X.K RX W (ev Φ (.join po pe))) := by
  refine PE.imp (pe_join ho he (star_cons hn) (base_of hs) hl) fun σ H Q ⟨ρ, m, ι, en, st, h⟩ => ?_
  have h' : PostR X.K RX W ι m H ((ev Φ po ρ m).bind fun v m1 => match v with
    | .d (.str a) => (ev Φ pe ρ m1).bind fun w m2 => (match rd w m2 with
      | some y => (match joinF (.str a) y with
        | some z => R.ok (.d (.str z)) m2
        | none => .no)
      | none => .no)
    | _ => .no) (GV X.K Q) := h
  refine ⟨ρ, m, ι, en, st, h'.bind.mono fun v ι1 m1 H1 l1 s1 g x r => ?_⟩
  cases v with
  | r n => exact False.elim g
  | d dv =>
  cases dv with
  | str a =>
    dsimp only at g
    cases r
    refine ⟨⟨a, rfl⟩, ρ, m1, ι1, en.le l1, s1, g.bind.mono fun w ι2 m2 H2 l2 s2 g2 y ry => ?_⟩
    cases e1 : rd w m2 with
    | none => rw [e1] at g2; exact False.elim g2
    | some d =>
      rw [e1] at g2
      dsimp only at g2
      cases e2 : joinF (.str a) d with
      | none => rw [e2] at g2; exact False.elim g2
      | some z =>
        rw [e2] at g2
        have t := RepT.of s2 ry e1
        cases d with
        | list xs =>
          unfold joinF at e2
          cases e3 : strsOf xs with
          | none => simp only [e3] at e2; cases e2
          | some ys =>
            simp only [e3] at e2
            by_cases hz : (ys.map (·.length)).sum + ys.length * a.length ≤ 16777216
            · rw [if_pos hz] at e2
              cases e2
              obtain ⟨p, vs, rfl, hq, ra⟩ := t.list
              rw [strs_rep ra e3] at hq
              exact ⟨a, p, ys, rfl, rfl, .inl hq, hz, g2.here s2 _ (.str _)⟩
            · rw [if_neg hz] at e2
              cases e2
        | _ => cases e2
  | _ => exact False.elim g
theorem ok_split {o e : Expr} {apos pos : Pos} {po pe : PX F} (ho : PE X o (tX X.K RX W (ev Φ po))) (he : PE X e (tX X.K RX W (ev Φ pe))) (hn : noStar e = true) (hs : noSup o = true) (hl : (apos.endLine == pos.line) = true) :
    PE X (.Call (.Attribute o "split" apos) [e] [] pos) (tX X.K RX W (ev Φ (.split po pe))) := by
  refine PE.imp (pe_split ho he (star_cons hn) (base_of hs) hl) fun σ H Q ⟨ρ, m, ι, en, st, h⟩ => ?_
  have h' : PostR X.K RX W ι m H ((ev Φ po ρ m).bind fun v m1 => match v with
    | .d (.str a) => (ev Φ pe ρ m1).bind fun w m2 => (match rd w m2 with
      | some y => (match splitF (.str a) y with
        | some zs => put (.lst (zs.map .str)) m2
        | none => .no)
      | none => .no)
    | _ => .no) (GV X.K Q) := h
  refine ⟨ρ, m, ι, en, st, h'.bind.mono fun v ι1 m1 H1 l1 s1 g x r => ?_⟩
  cases v with
  | r n => exact False.elim g
  | d dv =>
  cases dv with
  | str a =>
    dsimp only at g
    cases r
    refine ⟨⟨a, rfl⟩, ρ, m1, ι1, en.le l1, s1, g.bind.mono fun w ι2 m2 H2 l2 s2 g2 y ry => ?_⟩
    cases e1 : rd w m2 with
    | none => rw [e1] at g2; exact False.elim g2
    | some d =>
      rw [e1] at g2
      dsimp only at g2
      cases e2 : splitF (.str a) d with
      | none => rw [e2] at g2; exact False.elim g2
      | some zs =>
        rw [e2] at g2
        have t := RepT.of s2 ry e1
        cases d with
        | str b =>
          have e3 : (if ((b.length == 0) = false && decide (a.length + 2 ≤ sizeLine)) = true then some (Txt.split a b) else none) = some zs := e2
          by_cases hz : ((b.length == 0) = false && decide (a.length + 2 ≤ sizeLine)) = true
          · rw [if_pos hz] at e3
            cases e3
            rw [Bool.and_eq_true, decide_eq_true_eq, decide_eq_true_eq] at hz
            rw [t.str]
            obtain ⟨_, g3⟩ := post_lst s2 g2 (rep_strs _)
            exact ⟨a, b, rfl, rfl, hz.1, hz.2, fun p hp => let ⟨r, g⟩ := g3 p hp; g _ r⟩
          · rw [if_neg hz] at e3
            cases e3
        | _ => cases e2
  | _ => exact False.elim g
theorem ok_midx {o e : Expr} {apos pos : Pos} {po pe : PX F} (ho : PE X o (tX X.K RX W (ev Φ po))) (he : PE X e (tX X.K RX W (ev Φ pe))) (hn : noStar e = true) (hs : noSup o = true) (hl : (apos.endLine == pos.line) = true) :
    PE X (.Call (.Attribute o "index" apos) [e] [] pos) (tX X.K RX W (ev Φ (.midx po pe))) := by
  refine PE.imp (pe_m1 PySem.F.slot_str_index PySem.F.type_str_index mt_sindex ho he (star_cons hn) (base_of hs) hl) fun σ H Q ⟨ρ, m, ι, en, st, h⟩ => ?_
  have h' : PostR X.K RX W ι m H ((ev Φ po ρ m).bind fun v m1 => match v with
    | .d (.str a) => (ev Φ pe ρ m1).bind fun w m2 => (match rd w m2 with
      | some (.str b) => (match Builtin.Str.occurrences a b 0 a.length 1 with
        | i :: _ => R.ok (.d (.int (i : Nat))) m2
        | [] => .no)
      | _ => .no)
    | _ => .no) (GV X.K Q) := h
  refine ⟨ρ, m, ι, en, st, h'.bind.mono fun v ι1 m1 H1 l1 s1 g x r => ?_⟩
  cases v with
  | r n => exact False.elim g
  | d dv =>
  cases dv with
  | str a =>
    dsimp only at g
    cases r
    refine ⟨⟨a, rfl⟩, ρ, m1, ι1, en.le l1, s1, g.bind.mono fun w ι2 m2 H2 l2 s2 g2 y ry => ?_⟩
    cases e1 : rd w m2 with
    | none => rw [e1] at g2; exact False.elim g2
    | some d =>
      rw [e1] at g2
      have t := RepT.of s2 ry e1
      cases d with
      | str b =>
        dsimp only at g2
        cases e2 : Builtin.Str.occurrences a b 0 a.length 1 with
        | nil => rw [e2] at g2; exact False.elim g2
        | cons i rest =>
          rw [e2] at g2
          rw [t.str]
          exact ⟨a, b, i, rest, rfl, rfl, e2, g2.here s2 _ (.int _)⟩
      | _ => exact False.elim g2
  | _ => exact False.elim g
end
end DL
end
section
set_option Elab.async false
set_option linter.all false
set_option maxRecDepth 100000
set_option autoImplicit false
set_option maxHeartbeats 2000000
/-! DLi: what loops walk, targets, list comprehensions. -/
namespace DL
open PySem PySem.Spec PyProof.Rows L2

/-- the iterator yields these data, at any later state -/
structure Feeds (K : PySem.W.Frag) (ι : Ix) (m : Store) (H : Hp) (J : L2.It) (xs : List D) : Prop where
  go : ∀ (i : Nat) ι' m' H', i < xs.length → Le ι m H ι' m' H' → StOk K ι' m' H' → J.go i H'
  stop : ∀ ι' m' H', Le ι m H ι' m' H' → StOk K ι' m' H' → J.stop xs.length H'
  yld : ∀ (i : Nat) (d : D) ι' m' H' v H'', xs[i]? = some d → Le ι m H ι' m' H' → StOk K ι' m' H' → J.yld i H' v H'' → Le ι' m' H' ι' m' H'' ∧ StOk K ι' m' H'' ∧ Rep K H'' (Live ι' m') v d
section
variable (K : PySem.W.Frag) (RX : RXT) (W : WX)
def tI (f : Env → Store → R (List D)) : TI := fun σ H Rr => ∃ ρ m ι, EnvOk K ι m H ρ σ ∧ StOk K ι m H ∧ PostR K RX W ι m H (f ρ m) (fun xs ι' m' H' => ∀ J, Feeds K ι' m' H' J xs → Rr J H')
end
theorem PI.imp {X : Cx} {tg it : Expr} {t t' : TI} (h : PI X tg it t) (i : ∀ σ H Q, t' σ H Q → t σ H Q) : PI X tg it t' := ⟨fun pins s σ H Q I hw => h.run pins s σ H Q I (i σ H Q hw)⟩
section
variable {X : Cx} {K : PySem.W.Frag} {ι : Ix} {m : Store} {H : Hp}
theorem feeds_lst {a : Addr} {ds : List D} (r : Rep K H (Live ι m) (.ref a) (.list ds)) : Feeds K ι m H (Itl K a) ds where
  go := fun i ι' m' H' hi l s => by
    cases Rep.up l.up r with
    | lst h ra => exact ⟨_, _, sq_of h, List.getElem?_eq_getElem (by rw [ra.length]; exact hi)⟩
  stop := fun ι' m' H' l s => by
    cases Rep.up l.up r with
    | lst h ra => exact ⟨_, sq_of h, by rw [ra.length]; exact Nat.le_refl _⟩
  yld := fun i d ι' m' H' v H'' hd l s y => by
    obtain ⟨rfl, y⟩ := y
    cases Rep.up l.up r with
    | lst h ra =>
      obtain ⟨v', hv, rv⟩ := ra.get hd
      have := y _ (sq_of h)
      rw [hv] at this
      cases this
      exact ⟨.refl, s, rv⟩
theorem feeds_tup {a : Addr} {ds : List D} (r : Rep K H (Live ι m) (.ref a) (.tuple ds)) : Feeds K ι m H (Itt K a) ds where
  go := fun i ι' m' H' hi l s => by
    cases Rep.up l.up r with
    | tup h ra => exact ⟨_, _, h, List.getElem?_eq_getElem (by rw [ra.length]; exact hi)⟩
  stop := fun ι' m' H' l s => by
    cases Rep.up l.up r with
    | tup h ra => exact ⟨_, h, by rw [ra.length]; exact Nat.le_refl _⟩
  yld := fun i d ι' m' H' v H'' hd l s y => by
    obtain ⟨rfl, y⟩ := y
    cases Rep.up l.up r with
    | tup h ra =>
      obtain ⟨v', hv, rv⟩ := ra.get hd
      have := y _ h
      rw [hv] at this
      cases this
      exact ⟨.refl, s, rv⟩
theorem feeds_rng {lo : Int} {n : Nat} : Feeds K ι m H (Itr lo n) (rgD lo n) where
  go := fun i ι' m' H' hi l s => by
    have : (rgD lo n).length = n := by unfold rgD; rw [List.length_map, List.length_range]
    rw [this] at hi
    exact hi
  stop := fun ι' m' H' l s => by
    show n ≤ _
    unfold rgD
    rw [List.length_map, List.length_range]
    exact Nat.le_refl _
  yld := fun i d ι' m' H' v H'' hd l s y => by
    obtain ⟨rfl, rfl⟩ := y
    unfold rgD at hd
    rw [List.getElem?_map] at hd
    cases e : (List.range n)[i]? with
    | none => rw [e] at hd; cases hd
    | some k =>
      rw [e] at hd
      obtain ⟨hl, e⟩ := List.getElem?_eq_some_iff.mp e
      rw [List.getElem_range] at e
      subst e
      cases hd
      exact ⟨.refl, s, .int _⟩
def iSeq (K : PySem.W.Frag) (tl : TE) : TI := fun σ H Rr => tl σ H fun x H1 => ∃ a, x = .ref a ∧ (((∃ xs, SqL K H1 a xs) ∧ Rr (Itl K a) H1) ∨ ((∃ xs, SqT K H1 a xs) ∧ Rr (Itt K a) H1))
theorem pi_seq {tg l : Expr} {tl : TE} (hl : PE X l tl) : PI X tg l (iSeq X.K tl) := by
  refine ⟨fun pins s σ H Rr I h => ?_⟩
  refine thn (hl.run pins s σ H _ I h) fun v s1 ⟨x, H1, I1, r1, q1⟩ => ?_
  obtain ⟨a, e, q⟩ := q1
  subst e
  cases r1
  have fp : ∀ b ∈ [s1.heap.objs.size], FpOk X pins H1 b := fun b hb => by
    have e : b = s1.heap.objs.size := by simpa using hb
    subst e
    exact I1.fpOk (Nat.le_refl _) (I1.hok.fresh (Nat.le_refl _))
  rcases q with ⟨⟨xs, hq⟩, q⟩ | ⟨⟨xs, hq⟩, q⟩
  · obtain ⟨its, rv, p, hz⟩ := I1.list hq
    refine wpAny_pyIter_list p.isList ?_
    exact ⟨s1.heap.objs.size, [s1.heap.objs.size], _, _, H1, rfl, I1.kept (t' := s1.toks) fun b o e => Heap.get?_push_of_some _ e, turn_list a _, ⟨_, Heap.get?_push_size _ rfl, rfl, rfl⟩, fp, q⟩
  · obtain ⟨its, rv, p, hz⟩ := I1.tuple hq
    refine wpAny_pyIter_tuple (show s1.heap.IsTuple a its.toArray from p) ?_
    exact ⟨s1.heap.objs.size, [s1.heap.objs.size], _, _, H1, rfl, I1.kept (t' := s1.toks) fun b o e => Heap.get?_push_of_some _ e, turn_tuple a _, ⟨_, Heap.get?_push_size _ rfl, rfl, rfl⟩, fp, q⟩
end

section
variable {X : Cx} {RX : RXT} {W : WX} {F : Type} {Φ : F → List Val → Store → R Val} {L : Nat} {tg : Expr} {ι : Ix} {m : Store} {H : Hp}
theorem post_of {α : Type} {o : Option α} {G : α → Ix → Store → Hp → Prop} (s : StOk X.K ι m H) (h : PostR X.K RX W ι m H (ofO o m) G) : ∃ a, o = some a ∧ G a ι m H := by
  cases o with
  | none => exact False.elim h
  | some a => exact ⟨a, rfl, h.here s⟩
theorem ok_iof {e : Expr} {pe : PX F} (he : PE X e (tX X.K RX W (ev Φ pe))) : PI X tg e (tI X.K RX W (evI Φ (.of pe))) := by
  refine PI.imp (pi_seq he) fun σ H Rr ⟨ρ, m, ι, en, st, h⟩ => ?_
  have h' : PostR X.K RX W ι m H ((ev Φ pe ρ m).bind fun v m1 => (fz v m1).bind fun x m2 => ofO (seqOf x) m2) (fun xs ι' m' H' => ∀ J, Feeds X.K ι' m' H' J xs → Rr J H') := h
  refine ⟨ρ, m, ι, en, st, h'.bind.mono fun v ι1 m1 H1 l1 s1 g x r => ?_⟩
  obtain ⟨m2, d, l2, s2, r2, g2⟩ := post_fz s1 r g.bind
  obtain ⟨xs, e1, g3⟩ := post_of s2 g2
  cases d with
  | list ys =>
    cases e1
    cases r2 with
    | lst h ra => exact ⟨_, rfl, .inl ⟨⟨_, sq_of h⟩, g3 _ (feeds_lst (.lst h ra))⟩⟩
  | tuple ys =>
    cases e1
    cases r2 with
    | tup h ra => exact ⟨_, rfl, .inr ⟨⟨_, h⟩, g3 _ (feeds_tup (.tup h ra))⟩⟩
  | _ => cases e1
theorem rg_ok {i : Int} (h : rgOk i = true) : -(2 ^ 62) ≤ i ∧ i < 2 ^ 62 := by
  unfold rgOk at h
  rw [Bool.and_eq_true, decide_eq_true_eq, decide_eq_true_eq] at h
  exact h
theorem pa1 {e : Expr} {pe : PX F} (he : PE X e (tX X.K RX W (ev Φ pe))) (hn : noStar e = true) : PA X [e] (fun σ H Q => tX X.K RX W (ev Φ pe) σ H fun x H1 => Q [x] H1) :=
  PA.imp (pa_cons he pa_nil (star_cons hn)) fun σ H Q h => h
theorem ok_rng1 {x : Str} {e : Expr} {p pos : Pos} {pe : PX F} (hx : x = "range") (hg : Gl X x) (hm : X.mg x = none) (he : PE X e (tX X.K RX W (ev Φ pe))) (hn : noStar e = true) : PI X tg (.Call (.Name x p) [e] [] pos) (tI X.K RX W (evI Φ (.rng1 pe))) := by
  subst hx
  refine PI.imp (pi_range1 hg hm (pa1 he hn) (star_cons hn)) fun σ H Rr ⟨ρ, m, ι, en, st, h⟩ => ?_
  have h' : PostR X.K RX W ι m H ((ev Φ pe ρ m).bind fun v m1 => match rd v m1 with
    | some (.int j) => if rgOk j then R.ok (rgD 0 j.toNat) m1 else .no
    | _ => .no) (fun xs ι' m' H' => ∀ J, Feeds X.K ι' m' H' J xs → Rr J H') := h
  refine ⟨ρ, m, ι, en, st, h'.bind.mono fun v ι1 m1 H1 l1 s1 g x r => ?_⟩
  cases e1 : rd v m1 with
  | none => rw [e1] at g; exact False.elim g
  | some d =>
    rw [e1] at g
    have t := RepT.of s1 r e1
    cases d with
    | int j =>
      dsimp only at g
      by_cases hj : rgOk j = true
      · rw [if_pos hj] at g
        obtain ⟨h1, h2⟩ := rg_ok hj
        rw [t.int]
        exact ⟨j, rfl, h1, h2, g.here s1 _ feeds_rng⟩
      · rw [if_neg hj] at g
        exact False.elim g
    | _ => exact False.elim g
theorem ok_rng2 {x : Str} {a b : Expr} {p pos : Pos} {pa pb : PX F} (hx : x = "range") (hg : Gl X x) (hm : X.mg x = none) (ha : PE X a (tX X.K RX W (ev Φ pa))) (hb : PE X b (tX X.K RX W (ev Φ pb))) (hna : noStar a = true) (hnb : noStar b = true) :
    PI X tg (.Call (.Name x p) [a, b] [] pos) (tI X.K RX W (evI Φ (.rng2 pa pb))) := by
  subst hx
  refine PI.imp (pi_range2 hg hm (pa_cons ha (pa1 hb hnb) (star_cons hna)) (by rw [star_cons hna, star_cons hnb]; rfl) (star_cons hnb)) fun σ H Rr ⟨ρ, m, ι, en, st, h⟩ => ?_
  have h' : PostR X.K RX W ι m H ((ev Φ pa ρ m).bind fun v m1 => (ev Φ pb ρ m1).bind fun w m2 => match rd v m2, rd w m2 with
    | some (.int i), some (.int j) => if rgOk i && rgOk j then R.ok (rgD i (j - i).toNat) m2 else .no
    | _, _ => .no) (fun xs ι' m' H' => ∀ J, Feeds X.K ι' m' H' J xs → Rr J H') := h
  refine ⟨ρ, m, ι, en, st, h'.bind.mono fun v ι1 m1 H1 l1 s1 g x r => ?_⟩
  refine ⟨ρ, m1, ι1, en.le l1, s1, g.bind.mono fun w ι2 m2 H2 l2 s2 g2 y ry => ?_⟩
  cases e1 : rd v m2 with
  | none => rw [e1] at g2; exact False.elim g2
  | some d1 =>
  cases e2 : rd w m2 with
  | none => rw [e1, e2] at g2; cases d1 <;> exact False.elim g2
  | some d2 =>
    rw [e1, e2] at g2
    have t1 := RepT.of s2 (r.le l2) e1
    have t2 := RepT.of s2 ry e2
    cases d1 with
    | int i =>
      cases d2 with
      | int j =>
        dsimp only at g2
        by_cases hj : (rgOk i && rgOk j) = true
        · rw [if_pos hj] at g2
          rw [Bool.and_eq_true] at hj
          obtain ⟨h1, h2⟩ := rg_ok hj.1
          obtain ⟨h3, h4⟩ := rg_ok hj.2
          rw [t1.int, t2.int]
          exact ⟨i, j, rfl, ⟨h1, h2, h3, h4⟩, g2.here s2 _ feeds_rng⟩
        · rw [if_neg hj] at g2
          exact False.elim g2
      | _ => exact False.elim g2
    | _ => exact False.elim g2

theorem feeds_rgS {K : PySem.W.Frag} {lo c : Int} {n : Nat} : Feeds K ι m H (Itc lo c n) (rgS lo c n) where
  go := fun i ι' m' H' hi l s => by
    have : (rgS lo c n).length = n := by unfold rgS; rw [List.length_map, List.length_range]
    rw [this] at hi
    exact hi
  stop := fun ι' m' H' l s => by
    show n ≤ _
    unfold rgS
    rw [List.length_map, List.length_range]
    exact Nat.le_refl _
  yld := fun i d ι' m' H' v H'' hd l s y => by
    obtain ⟨rfl, rfl⟩ := y
    unfold rgS at hd
    rw [List.getElem?_map] at hd
    cases e : (List.range n)[i]? with
    | none => rw [e] at hd; cases hd
    | some k =>
      rw [e] at hd
      obtain ⟨hl, e⟩ := List.getElem?_eq_some_iff.mp e
      rw [List.getElem_range] at e
      subst e
      cases hd
      exact ⟨.refl, s, .int _⟩
theorem ok_rng3 {x : Str} {a b c : Expr} {p pos : Pos} {pa pb pc : PX F} (hx : x = "range") (hg : Gl X x) (hm : X.mg x = none) (ha : PE X a (tX X.K RX W (ev Φ pa))) (hb : PE X b (tX X.K RX W (ev Φ pb))) (hc : PE X c (tX X.K RX W (ev Φ pc))) (hna : noStar a = true) (hnb : noStar b = true) (hnc : noStar c = true) :
    PI X tg (.Call (.Name x p) [a, b, c] [] pos) (tI X.K RX W (evI Φ (.rng3 pa pb pc))) := by
  subst hx
  refine PI.imp (pi_range3 hg hm (pa_cons ha (pa_cons hb (pa1 hc hnc) (star_cons hnb)) (star_cons hna)) (star_cons hna) (star_any (by rw [List.all_cons, List.all_cons, hnb, hnc]; rfl))) fun σ H Rr ⟨ρ, m, ι, en, st, h⟩ => ?_
  have h' : PostR X.K RX W ι m H ((ev Φ pa ρ m).bind fun v m1 => (ev Φ pb ρ m1).bind fun w m2 => (ev Φ pc ρ m2).bind fun u m3 => match rd v m3, rd w m3, rd u m3 with
    | some (.int i), some (.int j), some (.int k) => if rg3 i j k then R.ok (rgS i k (Builtin.Range.rangeSize i j k).toNat) m3 else .no
    | _, _, _ => .no) (fun xs ι' m' H' => ∀ J, Feeds X.K ι' m' H' J xs → Rr J H') := h
  refine ⟨ρ, m, ι, en, st, h'.bind.mono fun v ι1 m1 H1 l1 s1 g x r => ?_⟩
  refine ⟨ρ, m1, ι1, en.le l1, s1, g.bind.mono fun w ι2 m2 H2 l2 s2 g2 y ry => ?_⟩
  refine ⟨ρ, m2, ι2, en.le (l1.trans l2), s2, g2.bind.mono fun u ι3 m3 H3 l3 s3 g3 z rz => ?_⟩
  cases e1 : rd v m3 with
  | none => rw [e1] at g3; exact False.elim g3
  | some d1 =>
  cases e2 : rd w m3 with
  | none => rw [e1, e2] at g3; cases d1 <;> exact False.elim g3
  | some d2 =>
  cases e3 : rd u m3 with
  | none => rw [e1, e2, e3] at g3; cases d1 <;> cases d2 <;> exact False.elim g3
  | some d3 =>
    rw [e1, e2, e3] at g3
    have t1 := RepT.of s3 (r.le (l2.trans l3)) e1
    have t2 := RepT.of s3 (ry.le l3) e2
    have t3 := RepT.of s3 rz e3
    cases d1 with
    | int i =>
      cases d2 with
      | int j =>
        cases d3 with
        | int k =>
          dsimp only at g3
          by_cases hj : rg3 i j k = true
          · rw [if_pos hj] at g3
            unfold rg3 at hj
            simp only [Bool.and_eq_true, decide_eq_true_eq] at hj
            obtain ⟨⟨⟨h1, h2⟩, h3⟩, h4⟩ := hj
            rw [t1.int, t2.int, t3.int]
            exact ⟨i, j, k, _, rfl, ⟨h1, h2, h3, (Int.toNat_of_nonneg h4).symm⟩, g3.here s3 _ feeds_rgS⟩
          · rw [if_neg hj] at g3
            exact False.elim g3
        | _ => exact False.elim g3
      | _ => exact False.elim g3
    | _ => exact False.elim g3

/-! ### targets -/
def gNs : List Nat → TGs
  | [] => gNil
  | i :: is => gCons (gName i) (gNs is)
def gOf (K : PySem.W.Frag) : Tg → TG
  | .nm i => gName i
  | .tp is => gTup K is.length (gNs is)
theorem set_all {K : PySem.W.Frag} : ∀ {is : List Nat} {vs : List V} {ds : List D} {ρ ρ1 : Env} {σ : L2.St} {Q : L2.St → Hp → Prop}, RepAll K H (Live ι m) vs ds → setAll is ds ρ = some ρ1 → EnvOk K ι m H ρ σ → (∀ σ1, EnvOk K ι m H ρ1 σ1 → (∀ own : List Nat, (∀ i ∈ is, i ∈ own) → L2.wipe σ1 own = L2.wipe σ own) → Q σ1 H) → gNs is vs σ H Q
  | [], _, _, ρ, ρ1, σ, Q, .nil, h, en, k => by
    cases h
    exact ⟨rfl, k σ en fun _ _ => rfl⟩
  | [], _, _, _, _, _, _, .cons _ _, h, _, _ => by cases h
  | i :: is, _, _, _, _, _, _, .nil, h, _, _ => by cases h
  | i :: is, _, _, ρ, ρ1, σ, Q, .cons (v := v) (vs := vs) (d := d) (ds := ds) r rs, h, en, k => by
    refine ⟨v, vs, rfl, ?_⟩
    have h' : setAll is ds (ρ.set i (some (.d d))) = some ρ1 := h
    exact set_all (Q := Q) rs h' (en.set i (show RepW K ι m H v (.d d) from r)) fun σ1 e1 hw => k σ1 e1 fun own ho => by
      rw [hw own fun j hj => ho j (List.mem_cons_of_mem _ hj)]
      exact wipe_set (ho i List.mem_cons_self)
where
  wipe_set {σ : L2.St} {i : Nat} {x : Option V} : ∀ {own : List Nat}, i ∈ own → L2.wipe (σ.set i x) own = L2.wipe σ own
  | [], h => by cases h
  | j :: own, h => by
    unfold L2.wipe
    by_cases hj : i ∈ own
    · rw [wipe_set hj]
    · have e : i = j := by
        rcases List.mem_cons.mp h with e | e
        · exact e
        · exact absurd e hj
      subst e
      rw [wipe_out hj]
      rw [List.set_set]
  wipe_out {σ : L2.St} {i : Nat} {x : Option V} : ∀ {own : List Nat}, i ∉ own → L2.wipe (σ.set i x) own = (L2.wipe σ own).set i x
  | [], _ => rfl
  | j :: own, h => by
    unfold L2.wipe
    rw [wipe_out fun e => h (List.mem_cons_of_mem _ e)]
    exact List.set_comm _ _ fun e => h (e ▸ List.mem_cons_self)
def Tg.ns : Tg → List Nat
  | .nm i => [i]
  | .tp is => is
theorem asg_ok {K : PySem.W.Frag} {t : Tg} {v : V} {d : D} {ρ ρ1 : Env} {σ : L2.St} {Q : L2.St → Hp → Prop} (r : Rep K H (Live ι m) v d) (h : asgD t d ρ = some ρ1) (en : EnvOk K ι m H ρ σ)
    (k : ∀ σ1, EnvOk K ι m H ρ1 σ1 → (∀ own : List Nat, (∀ i ∈ t.ns, i ∈ own) → L2.wipe σ1 own = L2.wipe σ own) → Q σ1 H) : gOf K t v σ H Q := by
  cases t with
  | nm i =>
    cases h
    exact k _ (en.set i (show RepW K ι m H v (.d d) from r)) fun own ho => set_all.wipe_set (ho i List.mem_cons_self)
  | tp is =>
    cases d with
    | tuple ds =>
      cases r with
      | tup hs ra =>
        have h' : setAll is ds ρ = some ρ1 := h
        refine ⟨_, _, rfl, hs, ?_, set_all ra h' en k⟩
        rw [ra.length]
        clear en k ra hs h
        induction is generalizing ds ρ with
        | nil => cases ds with
          | nil => rfl
          | cons _ _ => cases h'
        | cons i is ih => cases ds with
          | nil => cases h'
          | cons d ds => rw [List.length_cons, List.length_cons, ih ds (show setAll is ds (ρ.set i (some (.d d))) = some ρ1 from h')]
    | _ => cases h
end
end DL
end
section
set_option Elab.async false
set_option linter.all false
set_option maxRecDepth 100000
set_option autoImplicit false
set_option maxHeartbeats 2000000
/-! DLi2: enumerate of a list or a tuple. -/
namespace DL
open PySem PySem.Spec PyProof.Rows L2
theorem meets_enum1 {v : Value} {o : Obj} {H : Heap → Prop} (B : Begins v o H) :
    Meets (Builtin.«enumerate.__new__» ⟨[.type "enumerate", v], []⟩) (fun _ R s => H s.heap ∧
      R (.ok (.ret (.ref (s.heap.push o).objs.size))) { s with heap := (s.heap.push o).push { cls := .type "enumerate", data := .fields #[.none, .bool false, .ref s.heap.objs.size, rawInt 0, .none, .none] } }) :=
  .of_wp fun prog w A R s h => by
    obtain ⟨hp, g, d, tk, os⟩ := s; obtain ⟨h1, h⟩ := h
    have hsub := sub_enumerate
    have q1 : ∀ {A' : Around} {E : Value → Shared → Prop} {Q : Value → Shared → Prop}, Q (.ref hp.objs.size) ⟨hp.push o, g, d, tk, os⟩ → wpAny (model prog w) A' (pyIter v) Q E ⟨hp, g, d, tk, os⟩ :=
      fun q => B.iter prog w _ _ ⟨hp, g, d, tk, os⟩ _ h1 q
    wp_walk using q1
    refine wpAny_stack_any fun st => wpAny_pure ?_
    split
    · rename_i c _ _ _ _ _
      cases (c == Value.type "enumerate")
      · wp_walk using q1
        exact ⟨_, rfl, h⟩
      · wp_walk using q1
        exact ⟨_, rfl, h⟩
    · wp_walk using q1
      exact ⟨_, rfl, h⟩
theorem call_enumT {prog : Program} {w : World} {A : Around} {E : Value → Shared → Prop} {s : Shared} {t : Addr} {items : Array Value} {Q : Value → Shared → Prop} (ht : s.heap.IsTuple t items)
    (h : ∀ h', IsEnum h' (s.heap.objs.size + 1) s.heap.objs.size 0 .none → h'.IsTupleIter s.heap.objs.size t 0 → h'.objs.size = s.heap.objs.size + 2 →
      (∀ b o, s.heap.get? b = some o → h'.get? b = some o) → Q (.ref (s.heap.objs.size + 1)) { s with heap := h' }) : wpAny (model prog w) A (call (.type "enumerate") [.ref t]) Q E s := by
  have B := begins_tuple t items
  refine callType_new F.called_enumerate (by decide) (F.typeCall_enumerate_1 _) (F.newCall_enumerate_1 _) (fun obj => F.args_object_init_2 obj _) F.entry_enumerate_new (meets_enum1 B) ⟨ht, ?_⟩
  have hz : (s.heap.push { cls := .type "tuple_iterator", data := .fields #[.ref t, .int 0 0] }).objs.size = s.heap.objs.size + 1 := Heap.size_push ..
  show _ ∧ _
  rw [hz]
  have he : IsEnum ((s.heap.push { cls := .type "tuple_iterator", data := .fields #[.ref t, .int 0 0] }).push { cls := .type "enumerate", data := .fields #[.none, .bool false, .ref s.heap.objs.size, rawInt 0, .none, .none] }) (s.heap.objs.size + 1) s.heap.objs.size 0 .none := by
    have q := Heap.get?_push_size (s.heap.push { cls := .type "tuple_iterator", data := .fields #[.ref t, .int 0 0] }) (o := { cls := .type "enumerate", data := .fields #[.none, .bool false, .ref s.heap.objs.size, rawInt 0, .none, .none] }) rfl
    rw [hz] at q; exact q
  exact ⟨⟨_, he, rfl⟩, h _ he ⟨_, Heap.get?_push_of_some _ (Heap.get?_push_size _ rfl), rfl, rfl⟩ (by rw [Heap.size_push, hz]) fun b o x => Heap.get?_push_of_some _ (Heap.get?_push_of_some _ x)⟩
/-- the tuple at a, each item in a new pair -/
def IteT (K : PySem.W.Frag) (a : Addr) : L2.It :=
  ⟨fun i H => ∃ (xs : List V) (x : V), SqT K H a xs ∧ xs[i]? = some x, fun i H v H' => ∃ T x, v = .ref T ∧ H T = none ∧ H' = upd H T (.tup [.int (i : Nat), x]) ∧ ∀ xs, SqT K H a xs → xs[i]? = some x, fun i H => ∃ xs : List V, SqT K H a xs ∧ xs.length = i⟩
theorem turn_enumT {P : Program} {w : World} {K : PySem.W.Frag} {elts : List Expr} {kk : Nat} {tpos : Pos} (a e it : Addr) :
    Turn P w K (.Tuple elts kk tpos) (IteT K a) [e, it] e (fun i h => (∃ old, IsEnum h e it ((i : Nat) : Int) old) ∧ h.IsTupleIter it a i ∧ e ≠ it ∧ a ≠ it ∧ a ≠ e) where
  mem := by simp
  obj := fun i h st b hb => by
    obtain ⟨⟨old, he⟩, ⟨o, ho, hc, hd⟩, _⟩ := st
    have e' : b = e ∨ b = it := by simpa using hb
    rcases e' with z | z
    · rw [z]; exact ⟨_, he, fun v q => nomatch q⟩
    · rw [z]; exact ⟨o, ho, fun v q => by rw [hd] at q; cases q⟩
  keep := fun i h h' st k => let ⟨⟨old, he⟩, hi, hne⟩ := st; ⟨⟨old, k e (by simp) _ he⟩, hi.at fun o q => k it (by simp) o q, hne⟩
  item := by
    intro X hP hw hK hc i pins s σ H E I hf st hg
    subst hP hw hK
    obtain ⟨⟨old, he⟩, hit, hne, hai, hae⟩ := st
    obtain ⟨xs, x, hq, hx⟩ := hg
    obtain ⟨its, rv, p, hz⟩ := I.tuple hq
    obtain ⟨u, hu, ru⟩ := rv.get hx
    have hel : e < s.heap.objs.size := Heap.lt_size he
    have hil : it < s.heap.objs.size := by obtain ⟨_, q, _⟩ := hit; exact Heap.lt_size q
    have hp : s.heap.IsTuple a its.toArray := p
    have hlt : i < its.toArray.size := by
      have := (List.getElem?_eq_some_iff.mp hu).1
      simpa using this
    refine wpAny_pyNext_enum_itemD (Draws.tuple (A := X.A.in1) (I.ok.hd hc) it a hai its.toArray) he ⟨hit, hp⟩ hlt hne (by simp; exact ⟨hne, Ne.symm hae⟩) fun x' h' tk hP ho hit' hT hsz hk => ?_
    have hP : its.toArray[i]? = some x' := hP
    have ex : x' = u := by
      have : its.toArray[i]? = some u := by simpa using hu
      rw [this] at hP
      exact (Option.some.inj hP).symm
    subst ex
    refine ⟨_, rfl, wpAny_letOwnedTupleGo_enum (s := { s with heap := h', toks := tk + 1 }) ho fun h'' he' sb => ?_⟩
    have hT2 : h''.get? s.heap.objs.size = some { cls := .type "tuple", data := .seq #[.int i tk, x'] } := (sb.2 _ (Nat.ne_of_gt hel)).trans hT
    have new : ObjOk X.prog X.w (upd H s.heap.objs.size (.tup [.int (i : Nat), x])) h'' s.heap.objs.size (.tup [.int (i : Nat), x]) :=
      ⟨by show 2 ≤ sizeLine; rw [sizeLine_eq]; decide, [.int i tk, x'], .cons ⟨_, rfl⟩ (.cons ru .nil), ⟨_, hT2, rfl, _, rfl⟩⟩
    have I1 : Inv X pins σ (upd H s.heap.objs.size (.tup [.int (i : Nat), x])) { s with heap := h'', toks := tk + 1 } :=
      I.turnedNew (ch := [e, it]) (fun b ob hb q => (sb.2 b (fun z => hb (by simp [z]))).trans (hk b ob (fun z => hb (by simp [z])) (fun z => hb (by simp [z])) q)) hf (Nat.le_refl _) new
    refine ⟨.ref s.heap.objs.size, _, I1, rfl, ⟨_, x, rfl, I.hok.fresh (Nat.le_refl _), rfl, fun ys hy => by rw [I.tuple_inj hy hq]; exact hx⟩, ⟨⟨x', ?_⟩, hit'.1.at fun o q => (sb.2 it (Ne.symm hne)).trans q, hne, hai, hae⟩, fun b hb => ?_⟩
    · have e1 : ((i + 1 : Nat) : Int) = (i : Int) + 1 := by omega
      rw [e1]; exact he'
    · have hb' : b < s.heap.objs.size := by
        have e' : b = e ∨ b = it := by simpa using hb
        rcases e' with z | z
        · rw [z]; exact hel
        · rw [z]; exact hil
      rw [upd_ne (Nat.ne_of_lt hb')]
      exact (hf b hb).1
  done := by
    intro X hP hw hK hc i pins s σ H E I hf st hg
    subst hP hw hK
    obtain ⟨⟨old, he⟩, hit, hne, hai, hae⟩ := st
    obtain ⟨xs, hq, hx⟩ := hg
    obtain ⟨its, rv, p, hz⟩ := I.tuple hq
    obtain ⟨f0, f1, f2, f3, f4, f5⟩ := hf it (by simp)
    have hl := rv.length
    have hp : s.heap.IsTuple a its.toArray := p
    have hi : i = its.toArray.size := by simp; omega
    subst hi
    exact wpAny_pyNext_enum_endD (Draws.tuple (A := X.A.in1) (I.ok.hd hc) it a hai its.toArray) he ⟨hit, hp⟩ fun h' eb => ⟨rfl, I.turned (t' := s.toks) (fun b o hb q => eb b o hb q) f0 f1 f3 f4 f5⟩
  self := fun A i s Q E st h => let ⟨⟨_, he⟩, _⟩ := st; wpAny_pyIter_enum he h
def iEnumA (K : PySem.W.Frag) (ta : TA) : TI := fun σ H Rr => ta σ H fun vs H1 => ∃ a xs, vs = [.ref a] ∧ ((SqL K H1 a xs ∧ Rr (Ite K a) H1) ∨ (SqT K H1 a xs ∧ Rr (IteT K a) H1))
theorem pi_enumA {X : Cx} {e : Expr} {ta : TA} {p pos tpos : Pos} {elts : List Expr} {kk : Nat} (hg : Gl X "enumerate") (hm : X.mg "enumerate" = none) (ha : PA X [e] ta) (hs : starEach [e] X.env = [(false, eval e X.env)] := by rfl) :
    PI X (.Tuple elts kk tpos) (.Call (.Name "enumerate" p) [e] [] pos) (iEnumA X.K ta) := by
  refine ⟨fun pins s σ H Rr I h => ?_⟩
  refine Call_ (ld_blt I hg hm boot_enumerate (PyProof.Rows.callWith_type1 (thn (ha.run pos pins s σ H _ I h) fun us s1 ⟨vs, H1, I1, r1, q1⟩ => ?_) hs rfl))
  obtain ⟨a, xs, ex, q1⟩ := q1
  subst ex
  cases r1 with
  | cons r rr =>
    cases rr
    cases r
    have fp : ∀ b ∈ [s1.heap.objs.size + 1, s1.heap.objs.size], FpOk X pins H1 b := fun b hb => by
      have e' : b = s1.heap.objs.size + 1 ∨ b = s1.heap.objs.size := by simpa using hb
      have hle : s1.heap.objs.size ≤ b := by
        rcases e' with z | z
        · rw [z]; exact Nat.le_add_right _ _
        · rw [z]; exact Nat.le_refl _
      exact I1.fpOk hle (I1.hok.fresh hle)
    rcases q1 with ⟨hq, q⟩ | ⟨hq, q⟩
    · obtain ⟨its, rv, p', hz⟩ := I1.list hq
      refine call_enumerate_list p'.isList fun h' he hit hsz hk => wpAny_pyIter_enum he ?_
      have I2 : Inv X pins σ H1 { s1 with heap := h' } := I1.kept (t' := s1.toks) hk
      exact ⟨s1.heap.objs.size + 1, [s1.heap.objs.size + 1, s1.heap.objs.size], _, _, H1, rfl, I2, turn_enum a (s1.heap.objs.size + 1) s1.heap.objs.size, ⟨⟨.none, he⟩, hit, Nat.succ_ne_self _⟩, fp, q⟩
    · obtain ⟨its, rv, p', hz⟩ := I1.tuple hq
      have p' : s1.heap.IsTuple a its.toArray := p'
      have la : a < s1.heap.objs.size := by obtain ⟨o, e, _⟩ := id p'; exact Heap.lt_size e
      refine call_enumT p' fun h' he hit hsz hk => wpAny_pyIter_enum he ?_
      have I2 : Inv X pins σ H1 { s1 with heap := h' } := I1.kept (t' := s1.toks) hk
      exact ⟨s1.heap.objs.size + 1, [s1.heap.objs.size + 1, s1.heap.objs.size], _, _, H1, rfl, I2, turn_enumT a (s1.heap.objs.size + 1) s1.heap.objs.size, ⟨⟨.none, he⟩, hit, Nat.succ_ne_self _, Nat.ne_of_lt la, Nat.ne_of_lt (Nat.lt_succ_of_lt la)⟩, fp, q⟩
def enD (xs : List D) : List D := (List.range xs.length).zipWith (fun k y => .tuple [.int (k : Nat), y]) xs
theorem enD_len (xs : List D) : (enD xs).length = xs.length := by unfold enD; simp
theorem enD_get {xs : List D} {i : Nat} {d : D} (h : (enD xs)[i]? = some d) : ∃ y, xs[i]? = some y ∧ d = .tuple [.int (i : Nat), y] := by
  have hi : i < xs.length := by
    have := (List.getElem?_eq_some_iff.mp h).1
    rwa [enD_len] at this
  refine ⟨xs[i], List.getElem?_eq_getElem hi, ?_⟩
  unfold enD at h
  rw [List.getElem?_zipWith, List.getElem?_range hi, List.getElem?_eq_getElem hi] at h
  exact (Option.some.inj h).symm
theorem le_freshT {K : PySem.W.Frag} {ι : Ix} {m : Store} {H : Hp} {T : Addr} {o : HO} (s : StOk K ι m H) (h : H T = none) : Le ι m H ι m (upd H T o) ∧ StOk K ι m (upd H T o) := ⟨le_fresh s h, s.fresh h⟩
section
variable {K : PySem.W.Frag} {ι : Ix} {m : Store} {H : Hp}
theorem pair_rep {T : Addr} {x : V} {y : D} {i : Nat} {ι' : Ix} {m' : Store} {H' : Hp} (s : StOk K ι' m' H') (h : H' T = none) (r : Rep K H' (Live ι' m') x y) : Rep K (upd H' T (.tup [.int (i : Nat), x])) (Live ι' m') (.ref T) (.tuple [.int (i : Nat), y]) :=
  rep_newTup s h (.cons (.int _) (.cons r .nil))
theorem feeds_enL {a : Addr} {ds : List D} (r : Rep K H (Live ι m) (.ref a) (.list ds)) : Feeds K ι m H (Ite K a) (enD ds) where
  go := fun i ι' m' H' hi l s => by
    rw [enD_len] at hi
    cases Rep.up l.up r with
    | lst h ra => exact ⟨_, _, sq_of h, List.getElem?_eq_getElem (by rw [ra.length]; exact hi)⟩
  stop := fun ι' m' H' l s => by
    cases Rep.up l.up r with
    | lst h ra => exact ⟨_, sq_of h, by rw [ra.length, enD_len]; exact Nat.le_refl _⟩
  yld := fun i d ι' m' H' v H'' hd l s y => by
    obtain ⟨T, x, rfl, hT, rfl, y⟩ := y
    obtain ⟨d', e1, rfl⟩ := enD_get hd
    cases Rep.up l.up r with
    | lst h ra =>
      obtain ⟨v', hv, rv⟩ := ra.get e1
      have := y _ (sq_of h)
      rw [hv] at this
      cases this
      exact ⟨le_fresh s hT, s.fresh hT, pair_rep s hT rv⟩
theorem feeds_enT {a : Addr} {ds : List D} (r : Rep K H (Live ι m) (.ref a) (.tuple ds)) : Feeds K ι m H (IteT K a) (enD ds) where
  go := fun i ι' m' H' hi l s => by
    rw [enD_len] at hi
    cases Rep.up l.up r with
    | tup h ra => exact ⟨_, _, h, List.getElem?_eq_getElem (by rw [ra.length]; exact hi)⟩
  stop := fun ι' m' H' l s => by
    cases Rep.up l.up r with
    | tup h ra => exact ⟨_, h, by rw [ra.length, enD_len]⟩
  yld := fun i d ι' m' H' v H'' hd l s y => by
    obtain ⟨T, x, rfl, hT, rfl, y⟩ := y
    obtain ⟨d', e1, rfl⟩ := enD_get hd
    cases Rep.up l.up r with
    | tup h ra =>
      obtain ⟨v', hv, rv⟩ := ra.get e1
      have := y _ h
      rw [hv] at this
      cases this
      exact ⟨le_fresh s hT, s.fresh hT, pair_rep s hT rv⟩
end
section
variable {X : Cx} {RX : RXT} {W : WX} {F : Type} {Φ : F → List Val → Store → R Val} {L : Nat}
theorem ok_enum {x : Str} {e : Expr} {p pos tpos : Pos} {elts : List Expr} {kk : Nat} {pe : PX F} (hx : x = "enumerate") (hg : Gl X x) (hm : X.mg x = none) (he : PE X e (tX X.K RX W (ev Φ pe))) (hn : noStar e = true) :
    PI X (.Tuple elts kk tpos) (.Call (.Name x p) [e] [] pos) (tI X.K RX W (evI Φ (.enum pe))) := by
  subst hx
  refine PI.imp (pi_enumA hg hm (pa1 he hn) (star_cons hn)) fun σ H Rr ⟨ρ, m, ι, en, st, h⟩ => ?_
  have h' : PostR X.K RX W ι m H ((ev Φ pe ρ m).bind fun v m1 => (fz v m1).bind fun x m2 => match seqOf x with
    | some xs => R.ok (enD xs) m2
    | none => .no) (fun xs ι' m' H' => ∀ J, Feeds X.K ι' m' H' J xs → Rr J H') := h
  refine ⟨ρ, m, ι, en, st, h'.bind.mono fun v ι1 m1 H1 l1 s1 g x r => ?_⟩
  obtain ⟨m2, d, l2, s2, r2, g2⟩ := post_fz s1 r g.bind
  cases d with
  | list ys =>
    have g2 := PostR.here (RX := RX) (W := W) s2 g2
    cases r2 with
    | lst h ra => exact ⟨_, _, rfl, .inl ⟨sq_of h, g2 _ (feeds_enL (.lst h ra))⟩⟩
  | tuple ys =>
    have g2 := PostR.here (RX := RX) (W := W) s2 g2
    cases r2 with
    | tup h ra => exact ⟨_, _, rfl, .inr ⟨h, g2 _ (feeds_enT (.tup h ra))⟩⟩
  | _ => exact False.elim g2

/-! ### zip -/
def zpD (xs ys : List D) : List D := xs.zipWith (fun a b => .tuple [a, b]) ys
theorem zpD_get {xs ys : List D} {i : Nat} {d : D} (h : (zpD xs ys)[i]? = some d) : ∃ a b, xs[i]? = some a ∧ ys[i]? = some b ∧ d = .tuple [a, b] := by
  unfold zpD at h
  rw [List.getElem?_zipWith] at h
  cases e1 : xs[i]? with
  | none => rw [e1] at h; cases h
  | some a =>
    cases e2 : ys[i]? with
    | none => rw [e1, e2] at h; cases h
    | some b => rw [e1, e2] at h; cases h; exact ⟨a, b, rfl, rfl, rfl⟩
theorem zpD_len (xs ys : List D) : (zpD xs ys).length = min xs.length ys.length := by unfold zpD; rw [List.length_zipWith]
section
variable {K : PySem.W.Frag} {ι : Ix} {m : Store} {H : Hp}
theorem feeds_zL {a b : Addr} {ds es : List D} (r : Rep K H (Live ι m) (.ref a) (.list ds)) (r2 : Rep K H (Live ι m) (.ref b) (.list es)) : Feeds K ι m H (Itz K a b) (zpD ds es) where
  go := fun i ι' m' H' hi l s => by
    rw [zpD_len] at hi
    cases Rep.up l.up r with
    | lst h ra => cases Rep.up l.up r2 with
      | lst h2 ra2 => exact ⟨_, _, _, _, sq_of h, sq_of h2, List.getElem?_eq_getElem (by rw [ra.length]; omega), List.getElem?_eq_getElem (by rw [ra2.length]; omega)⟩
  stop := fun ι' m' H' l s => by
    cases Rep.up l.up r with
    | lst h ra => cases Rep.up l.up r2 with
      | lst h2 ra2 => exact ⟨_, _, sq_of h, sq_of h2, by rw [ra.length, ra2.length, zpD_len]; omega⟩
  yld := fun i d ι' m' H' v H'' hd l s y => by
    obtain ⟨T, x, z, rfl, hT, rfl, y1, y2⟩ := y
    obtain ⟨d1, d2, e1, e2, rfl⟩ := zpD_get hd
    cases Rep.up l.up r with
    | lst h ra => cases Rep.up l.up r2 with
      | lst h2 ra2 =>
        obtain ⟨v1, hv1, rv1⟩ := ra.get e1
        obtain ⟨v2, hv2, rv2⟩ := ra2.get e2
        have q1 := y1 _ (sq_of h)
        have q2 := y2 _ (sq_of h2)
        rw [hv1] at q1
        rw [hv2] at q2
        cases q1
        cases q2
        exact ⟨le_fresh s hT, s.fresh hT, rep_newTup s hT (.cons rv1 (.cons rv2 .nil))⟩
theorem feeds_zT {a b : Addr} {ds es : List D} (r : Rep K H (Live ι m) (.ref a) (.tuple ds)) (r2 : Rep K H (Live ι m) (.ref b) (.tuple es)) : Feeds K ι m H (RZ.ItzT K a b) (zpD ds es) where
  go := fun i ι' m' H' hi l s => by
    rw [zpD_len] at hi
    cases Rep.up l.up r with
    | tup h ra => cases Rep.up l.up r2 with
      | tup h2 ra2 => exact ⟨_, _, _, _, h, h2, List.getElem?_eq_getElem (by rw [ra.length]; omega), List.getElem?_eq_getElem (by rw [ra2.length]; omega)⟩
  stop := fun ι' m' H' l s => by
    cases Rep.up l.up r with
    | tup h ra => cases Rep.up l.up r2 with
      | tup h2 ra2 => exact ⟨_, _, h, h2, by rw [ra.length, ra2.length, zpD_len]; omega⟩
  yld := fun i d ι' m' H' v H'' hd l s y => by
    obtain ⟨T, x, z, rfl, hT, rfl, y1, y2⟩ := y
    obtain ⟨d1, d2, e1, e2, rfl⟩ := zpD_get hd
    cases Rep.up l.up r with
    | tup h ra => cases Rep.up l.up r2 with
      | tup h2 ra2 =>
        obtain ⟨v1, hv1, rv1⟩ := ra.get e1
        obtain ⟨v2, hv2, rv2⟩ := ra2.get e2
        have q1 := y1 _ h
        have q2 := y2 _ h2
        rw [hv1] at q1
        rw [hv2] at q2
        cases q1
        cases q2
        exact ⟨le_fresh s hT, s.fresh hT, rep_newTup s hT (.cons rv1 (.cons rv2 .nil))⟩
end
theorem ok_zip {x : Str} {a b : Expr} {p pos tpos : Pos} {elts : List Expr} {kk : Nat} {pa pb : PX F} (hx : x = "zip") (hg : Gl X x) (hm : X.mg x = none) (ha : PE X a (tX X.K RX W (ev Φ pa))) (hb : PE X b (tX X.K RX W (ev Φ pb))) (hna : noStar a = true) (hnb : noStar b = true) :
    PI X (.Tuple elts kk tpos) (.Call (.Name x p) [a, b] [] pos) (tI X.K RX W (evI Φ (.zip pa pb))) := by
  subst hx
  refine PI.imp (RZ.pi_zipA hg hm (pa_cons ha (pa1 hb hnb) (star_cons hna)) (star_cons hna) (by rw [star_cons hnb]; rfl)) fun σ H Rr ⟨ρ, m, ι, en, st, h⟩ => ?_
  have h' : PostR X.K RX W ι m H ((ev Φ pa ρ m).bind fun v m1 => (fz v m1).bind fun x m2 => (ev Φ pb ρ m2).bind fun w m3 => (fz w m3).bind fun y m4 => match seqOf x, seqOf y with
    | some xs, some ys => if isTupD x == isTupD y then R.ok (zpD xs ys) m4 else .no
    | _, _ => .no) (fun xs ι' m' H' => ∀ J, Feeds X.K ι' m' H' J xs → Rr J H') := h
  refine ⟨ρ, m, ι, en, st, h'.bind.mono fun v ι1 m1 H1 l1 s1 g x r => ?_⟩
  obtain ⟨m2, d, l2, s2, r2, g2⟩ := post_fz s1 r g.bind
  refine ⟨ρ, m2, ι1, en.le (l1.trans l2), s2, g2.bind.mono fun w ι3 m3 H3 l3 s3 g3 y ry => ?_⟩
  obtain ⟨m4, d', l4, s4, r4, g4⟩ := post_fz s3 ry g3.bind
  have r2 := Rep.up (l3.trans l4).up r2
  cases d with
  | list xs =>
    cases d' with
    | list ys =>
      have g4 := PostR.here (RX := RX) (W := W) s4 g4
      cases r2 with
      | lst h ra => cases r4 with
        | lst h' ra' => exact ⟨_, _, _, _, rfl, .inl ⟨sq_of h, sq_of h', g4 _ (feeds_zL (.lst h ra) (.lst h' ra'))⟩⟩
    | _ => exact False.elim g4
  | tuple xs =>
    cases d' with
    | tuple ys =>
      have g4 := PostR.here (RX := RX) (W := W) s4 g4
      cases r2 with
      | tup h ra => cases r4 with
        | tup h' ra' => exact ⟨_, _, _, _, rfl, .inr ⟨h, h', g4 _ (feeds_zT (.tup h ra) (.tup h' ra'))⟩⟩
    | _ => exact False.elim g4
  | _ => exact False.elim g4
end
end DL
end
section
set_option Elab.async false
set_option linter.all false
set_option maxRecDepth 100000
set_option autoImplicit false
set_option maxHeartbeats 2000000
/-! DLj: list comprehensions. -/
namespace DL
open PySem PySem.Spec PyProof.Rows L2

section
variable {K : PySem.W.Frag} {ι ι' : Ix} {m m' : Store} {H H' : Hp} {D : Addr}
theorem upd_again {H : Hp} {a : Addr} {o o' : HO} : upd (upd H a o) a o' = upd H a o' := by
  funext b
  unfold upd
  by_cases h : b = a
  · rw [if_pos h, if_pos h]
  · rw [if_neg h, if_neg h, if_neg h]
/-- a hidden address more -/
def Ix.hide (ι : Ix) (D : Addr) : Ix := ⟨ι.l, D :: ι.x⟩
theorem live_hide {a : Addr} : Live (ι.hide D) m a ↔ Live ι m a ∨ a = D := by
  constructor
  · rintro (h | h)
    · exact .inl (.inl h)
    · rcases List.mem_cons.mp (show a ∈ D :: ι.x from h) with h | h
      · exact .inr h
      · exact .inl (.inr h)
  · rintro ((h | h) | h)
    · exact .inl h
    · exact .inr (List.mem_cons_of_mem _ h)
    · exact .inr (h ▸ List.mem_cons_self)
theorem le_hide {o : HO} (s : StOk K ι m H) (hD : H D = none) : Le ι m H (ι.hide D) m (upd H D o) :=
  ⟨⟨[], by simp [Ix.hide]⟩, fun a h => List.mem_cons_of_mem _ h, fun a ha => upd_ne (ex_ne s hD ha),
    fun b u h l => ⟨by rw [upd_ne (ne_of_none h hD)]; exact h, fun q => by
      rcases live_hide.mp q with q | q
      · exact l q
      · rw [q, hD] at h; cases h⟩,
    fun b xs h => by rw [upd_ne (ne_of_none h hD)]; exact h, fun b o u h => by rw [upd_ne (ne_of_none h hD)]; exact h⟩
theorem StOk.hide {o : HO} (s : StOk K ι m H) (hD : H D = none) : StOk K (ι.hide D) m (upd H D o) := by
  have l := le_hide (o := o) s hD
  refine ⟨s.len, s.nd, fun a ha hm => ?_, fun a ha => ?_, fun a ha => ?_, fun n a c h1 h2 => ?_⟩
  · rcases List.mem_cons.mp (show a ∈ D :: ι.x from ha) with e | e
    · obtain ⟨u, q⟩ := s.trk a hm
      rw [e, hD] at q; cases q
    · exact s.dis a e hm
  · obtain ⟨u, q⟩ := s.trk a ha
    exact ⟨u, by rw [upd_ne (ne_of_none q hD)]; exact q⟩
  · rcases List.mem_cons.mp (show a ∈ D :: ι.x from ha) with e | e
    · exact ⟨o, by rw [e]; exact upd_same⟩
    · obtain ⟨u, q⟩ := s.trx a e
      exact ⟨u, by rw [upd_ne (ne_of_none q hD)]; exact q⟩
  · exact (s.ok n a c h1 h2).up l.up fun vs e _ => by rw [upd_ne (ne_of_none e hD)]; exact e
/-- a hidden list changes -/
theorem up_hid {vs ws : List V} (hx : D ∈ ι.x) (hD : H D = some (.lst vs)) : Up H (upd H D (.lst ws)) (Live ι m) (Live ι m) := by
  have ne : ∀ b, ¬ Live ι m b → b ≠ D := fun b l e => l (.inr (e ▸ hx))
  refine ⟨fun b o h l => ⟨by rw [upd_ne (ne b l)]; exact h, l⟩, fun b xs h => ?_, fun b o u h => ?_⟩
  · have e : b ≠ D := fun e => by rw [e, hD] at h; cases h
    rw [upd_ne e]; exact h
  · have e : b ≠ D := fun e => by rw [e, hD] at h; cases h
    rw [upd_ne e]; exact h
theorem StOk.hid {vs ws : List V} (s : StOk K ι m H) (hx : D ∈ ι.x) (hD : H D = some (.lst vs)) : StOk K ι m (upd H D (.lst ws)) := by
  refine ⟨s.len, s.nd, s.dis, fun a ha => ?_, fun a ha => ?_, fun n a c h1 h2 => ?_⟩
  · obtain ⟨u, q⟩ := s.trk a ha
    exact ⟨u, by rw [upd_ne (fun e => s.dis D hx (by rw [← e]; exact ha))]; exact q⟩
  · by_cases e : a = D
    · exact ⟨_, by rw [e]; exact upd_same⟩
    · obtain ⟨u, q⟩ := s.trx a ha
      exact ⟨u, by rw [upd_ne e]; exact q⟩
  · exact (s.ok n a c h1 h2).up (up_hid hx hD) fun vs e _ => by
      rw [upd_ne (fun e => s.dis D hx (by rw [← e]; exact List.mem_of_getElem? h1))]; exact e
theorem Le.hid {ws : List V} {vs : List V} (l : Le ι m H ι' m' H') (hn : H D = none) (hD : H' D = some (.lst vs)) (st : StOk K ι m H) : Le ι m H ι' m' (upd H' D (.lst ws)) := by
  refine ⟨l.pre, l.ex, fun a ha => by rw [upd_ne (ex_ne st hn ha)]; exact l.exk a ha, fun b o h lv => ?_, fun b xs h => ?_, fun b o u h => ?_⟩
  · obtain ⟨h1, h2⟩ := l.keep b o h lv
    exact ⟨by rw [upd_ne (ne_of_none h hn)]; exact h1, h2⟩
  · rw [upd_ne (ne_of_none h hn)]; exact l.tups b xs h
  · rw [upd_ne (ne_of_none h hn)]; exact l.frzs b o u h
/-- the hidden list becomes a cell -/
def Ix.show (ι : Ix) (D : Addr) : Ix := ⟨ι.l ++ [D], ι.x.filter (· ≠ D)⟩
theorem live_show {xs : List PyData} {a : Addr} (s : StOk K ι m H) (hx : D ∈ ι.x) : Live (ι.show D) (m ++ [.lst xs]) a ↔ Live ι m a := by
  have e : Live (ι.show D) (m ++ [.lst xs]) a ↔ Live ((⟨ι.l, ι.x.filter (· ≠ D)⟩ : Ix).add D) (m ++ [.lst xs]) a := Iff.rfl
  rw [e, live_app (ι := ⟨ι.l, ι.x.filter (· ≠ D)⟩) s.len]
  constructor
  · rintro ((h | h) | ⟨rfl, _⟩)
    · exact .inl h
    · exact .inr (List.mem_filter.mp h).1
    · exact .inr hx
  · rintro (h | h)
    · exact .inl (.inl h)
    · by_cases ha : a = D
      · exact .inr ⟨ha, rfl⟩
      · exact .inl (.inr (List.mem_filter.mpr ⟨h, by simpa using ha⟩))
theorem StOk.show {xs : List PyData} {vs : List V} (s : StOk K ι m H) (hx : D ∈ ι.x) (hD : H D = some (.lst vs)) (r : RepAll K H (Live ι m) vs xs) : StOk K (ι.show D) (m ++ [.lst xs]) H := by
  have u : Up H H (Live ι m) (Live (ι.show D) (m ++ [.lst xs])) := ⟨fun b o h l => ⟨h, fun q => l ((live_show s hx).mp q)⟩, fun _ _ h => h, fun _ _ _ h => h⟩
  have nl := s.dis D hx
  refine ⟨by show (ι.l ++ [D]).length = _; rw [List.length_append, List.length_append, s.len]; rfl, ?_, fun a ha hm => ?_, fun a ha => ?_, fun a ha => s.trx a (List.mem_filter.mp ha).1, fun n a c h1 h2 => ?_⟩
  · show (ι.l ++ [D]).Nodup
    rw [List.nodup_append]
    exact ⟨s.nd, by simp, fun a ha b hb => by simp at hb; subst hb; exact fun e => nl (e ▸ ha)⟩
  · obtain ⟨h1, h2⟩ := List.mem_filter.mp ha
    rcases List.mem_append.mp (show a ∈ ι.l ++ [D] from hm) with h | h
    · exact s.dis a h1 h
    · have e : a = D := by simpa using h
      simp [e] at h2
  · rcases List.mem_append.mp (show a ∈ ι.l ++ [D] from ha) with h | h
    · exact s.trk a h
    · have e : a = D := by simpa using h
      exact ⟨_, by rw [e]; exact hD⟩
  · have h1 : (ι.l ++ [D])[n]? = some a := h1
    by_cases hn : n < ι.l.length
    · rw [List.getElem?_append_left hn] at h1
      rw [List.getElem?_append_left (by rw [← s.len]; exact hn)] at h2
      exact (s.ok n a c h1 h2).up u fun vs e _ => e
    · have hl := (List.getElem?_eq_some_iff.mp h1).1
      have en : n = ι.l.length := by simp at hl; omega
      subst en
      rw [List.getElem?_append_right (Nat.le_refl _)] at h1
      rw [s.len, List.getElem?_append_right (Nat.le_refl _)] at h2
      simp at h1 h2
      subst h1 h2
      exact ⟨vs, hD, r.up u⟩
theorem Le.show {ι1 : Ix} {m1 : Store} {H1 : Hp} {xs : List PyData} (l : Le ι1 m1 H1 ι m H) (s1 : StOk K ι1 m1 H1) (s : StOk K ι m H) (hn : H1 D = none) (hx : D ∈ ι.x) : Le ι1 m1 H1 (ι.show D) (m ++ [.lst xs]) H := by
  obtain ⟨k, e⟩ := l.pre
  refine ⟨⟨k ++ [D], by show ι.l ++ [D] = _; rw [e, List.append_assoc]⟩, fun a ha => List.mem_filter.mpr ⟨l.ex a ha, ?_⟩, l.exk, fun b o h lv => ?_, l.tups, l.frzs⟩
  · simpa using ex_ne s1 hn ha
  · obtain ⟨h1, h2⟩ := l.keep b o h lv
    exact ⟨h1, fun q => h2 ((live_show s hx).mp q)⟩
end

theorem bind_ok {α β : Type} {r : R α} {f : α → Store → R β} {b : β} {m : Store} (h : r.bind f = .ok b m) : ∃ a m1, r = .ok a m1 ∧ f a m1 = .ok b m := by
  cases r with
  | ok a m1 => exact ⟨a, m1, rfl, h⟩
  | ex _ _ => cases h
  | no => cases h
theorem compLoop_len {f : D → Store → R (Option D)} : ∀ {xs acc ys : List D} {m m6 : Store}, compLoop f xs acc m = .ok ys m6 → acc.length ≤ ys.length
  | [], _, _, _, _, h => by cases h; exact Nat.le_refl _
  | x :: xs, acc, ys, m, m6, h => by
    obtain ⟨o, m1, _, h2⟩ := bind_ok (show (f x m).bind _ = _ from h)
    cases o with
    | none => exact compLoop_len h2
    | some y =>
      have := compLoop_len (acc := acc ++ [y]) h2
      rw [List.length_append] at this
      omega
theorem wipe_wipe {σ : L2.St} {own : List Nat} : ∀ {own' : List Nat}, (∀ i ∈ own', i ∈ own) → L2.wipe (L2.wipe σ own') own = L2.wipe σ own
  | [], _ => rfl
  | i :: own', h => by
    show L2.wipe ((L2.wipe σ own').set i none) own = _
    rw [set_all.wipe_set (h i List.mem_cons_self)]
    exact wipe_wipe fun j hj => h j (List.mem_cons_of_mem _ hj)

section
variable {X : Cx} {RX : RXT} {W : WX} {F : Type} {Φ : F → List Val → Store → R Val} {L : Nat}
abbrev W0 : WX := fun _ _ _ _ => False
theorem post_val {α : Type} {K : PySem.W.Frag} {W : WX} {ι : Ix} {m m1 : Store} {H : Hp} {a : α} {r : R α} {G : α → Ix → Store → Hp → Prop} (e : r = .ok a m1) (h : ∀ ι' H', Le ι m H ι' m1 H' → StOk K ι' m1 H' → G a ι' m1 H') : PostR K RX W ι m H r G := by
  rw [e]
  exact h
theorem fz_of {K : PySem.W.Frag} {ι : Ix} {m m1 : Store} {H : Hp} {x : V} {v : Val} {y : D} (s : StOk K ι m H) (r : RepW K ι m H x v) (e : fz v m = .ok y m1) : Le ι m H ι m1 H ∧ StOk K ι m1 H ∧ Rep K H (Live ι m1) x y := by
  obtain ⟨m', d, h1, h2, h3, h4, h5⟩ := post_fz (RX := fun _ _ _ _ => False) (W := fun _ _ _ _ => False) (G := fun d _ m' _ => d = y ∧ m' = m1) s r (by rw [e]; exact fun _ _ _ _ => ⟨rfl, rfl⟩)
  subst h4 h5
  exact ⟨h1, h2, h3⟩
def turnF (t : Tg) (own : List Nat) (c : PO F) (elt : PX F) (ρ : Env) (x : D) (m2 : Store) : R (Option D) := match asgD t x (wipeE ρ own) with
  | some ρ1 => (evC Φ c ρ1 m2).bind fun b m3 => if b then (ev Φ elt ρ1 m3).bind fun v m4 => (fz v m4).bind fun y m5 => .ok (some y) m5 else .ok none m3
  | none => .no
theorem read_comp {t : Tg} {it : It F} {c : PO F} {elt : PX F} {own : List Nat} (ho : ∀ i ∈ t.ns, i ∈ own) (σ : L2.St) (H : Hp) (Q : VK) (h : tX X.K RX W (ev Φ (.comp elt t it c own)) σ H Q) :
    tLc (tI X.K RX W (evI Φ it)) (gOf X.K t) (tT X.K RX W0 (evC Φ c)) (tX X.K RX W0 (ev Φ elt)) own σ H Q := by
  obtain ⟨ρ, m, ι, en, st, h⟩ := h
  have h' : PostR X.K RX W ι m H ((evI Φ it ρ m).bind fun xs m1 => (R.calm (compLoop (turnF (Φ := Φ) t own c elt ρ) xs [] m1)).bind fun ys m6 => put (.lst ys) m6) (GV X.K Q) := h
  refine ⟨ρ, m, ι, en, st, h'.bind.mono fun xs ι1 m1 H1 l1 s1 g J fd D hD => ?_⟩
  cases hc : compLoop (turnF (Φ := Φ) t own c elt ρ) xs [] m1 with
  | no => rw [hc] at g; exact False.elim g
  | ex _ _ => rw [hc] at g; exact False.elim g
  | ok ys m6 =>
  rw [hc] at g
  have g : PostR X.K RX W ι1 m1 H1 (put (.lst ys) m6) (GV X.K Q) := g
  unfold put at g
  dsimp only at g
  by_cases hz : ys.length ≤ sizeLine
  · rw [if_pos hz] at g
    refine ⟨fun i n Hi => n = xs.length - i ∧ i ≤ xs.length ∧ ∃ acc vs mi ιi, Hi D = some (.lst vs) ∧ D ∈ ιi.x ∧ RepAll X.K Hi (Live ιi mi) vs acc ∧ Le ι1 m1 H1 ιi mi Hi ∧ StOk X.K ιi mi Hi ∧ compLoop (turnF (Φ := Φ) t own c elt ρ) (xs.drop i) acc mi = .ok ys m6,
      ⟨xs.length, rfl, Nat.zero_le _, [], [], m1, ι1.hide D, upd_same, List.mem_cons_self, .nil, le_hide s1 hD, s1.hide hD, hc⟩, ?_⟩
    rintro i n Hi ⟨rfl, hi, acc, vs, mi, ιi, hDi, hx, ra, li, si, hci⟩
    by_cases hlt : i < xs.length
    · refine .inr ⟨fd.go i _ _ _ hlt li si, fun H' => i + 1 ≤ xs.length ∧ ∃ acc vs mi ιi, H' D = some (.lst vs) ∧ D ∈ ιi.x ∧ RepAll X.K H' (Live ιi mi) vs acc ∧ Le ι1 m1 H1 ιi mi H' ∧ StOk X.K ιi mi H' ∧ compLoop (turnF (Φ := Φ) t own c elt ρ) (xs.drop (i + 1)) acc mi = .ok ys m6,
        fun H' w => ⟨xs.length - (i + 1), by omega, rfl, w⟩, fun v H' y => ?_⟩
      have hxi : xs[i]? = some xs[i] := List.getElem?_eq_getElem hlt
      obtain ⟨ly, sy, rv⟩ := fd.yld i _ _ _ _ v H' hxi li si y
      rw [List.drop_eq_getElem_cons hlt] at hci
      obtain ⟨o, m', hf, hrest⟩ := bind_ok (show (turnF (Φ := Φ) t own c elt ρ xs[i] mi).bind _ = _ from hci)
      have lall := li.trans ly
      unfold turnF at hf
      cases hasg : asgD t xs[i] (wipeE ρ own) with
      | none => rw [hasg] at hf; cases hf
      | some ρ1 =>
      rw [hasg] at hf
      dsimp only at hf
      obtain ⟨b, m3, hb, hf2⟩ := bind_ok hf
      refine asg_ok rv hasg (((en.le l1).le lall).wipe own) fun σ1 e1 hw => ⟨(hw own ho).trans (wipe_wipe fun _ h => h), ?_⟩
      refine ⟨ρ1, mi, ιi, e1, sy, post_val hb fun ι3 H3 l3 s3 => ?_⟩
      have hD3 : H3 D = some (.lst vs) := by rw [l3.exk D hx, ly.exk D hx]; exact hDi
      cases b with
      | false =>
        cases hf2
        exact ⟨hlt, acc, vs, _, ι3, hD3, l3.ex D hx, (ra.up ly.up).up l3.up, lall.trans l3, s3, hrest⟩
      | true =>
        rw [if_pos rfl] at hf2
        dsimp only
        rw [if_pos rfl]
        obtain ⟨w, m4, hw4, hf3⟩ := bind_ok hf2
        refine ⟨ρ1, m3, ι3, e1.le l3, s3, post_val hw4 fun ι4 H4 l4 s4 x rx => ?_⟩
        obtain ⟨d, m5, hfz, hf4⟩ := bind_ok hf3
        cases hf4
        obtain ⟨l5, s5, r5⟩ := fz_of s4 rx hfz
        have hD4 : H4 D = some (.lst vs) := by rw [l4.exk D (l3.ex D hx)]; exact hD3
        have hx4 : D ∈ ι4.x := l4.ex D (l3.ex D hx)
        have ra5 : RepAll X.K H4 (Live ι4 m') vs acc := (((ra.up ly.up).up l3.up).up l4.up).up l5.up
        have hlen := compLoop_len hrest
        rw [List.length_append] at hlen
        refine ⟨vs, hD4, by rw [ra.length]; simp at hlen; omega, hlt, acc ++ [d], vs ++ [x], m', ι4, upd_same, hx4, (ra5.app (.cons r5 .nil)).up (up_hid hx4 hD4), ?_, s5.hid hx4 hD4, hrest⟩
        exact ((((lall.trans l3).trans l4).trans l5)).hid hD hD4 s1
    · have ei : i = xs.length := by omega
      subst ei
      refine .inl ⟨fd.stop _ _ _ li si, ?_⟩
      rw [List.drop_length] at hci
      cases hci
      exact g _ _ (li.show s1 si hD hx) (si.show hx hDi ra) _ ⟨D, by show (ιi.l ++ [D])[_]? = some D; rw [← si.len]; simp, rfl⟩
  · rw [if_neg hz] at g
    exact False.elim g
end
end DL
end
section
set_option Elab.async false
set_option linter.all false
set_option maxRecDepth 100000
set_option autoImplicit false
set_option maxHeartbeats 2000000
/-! DLk: comprehensions as expressions, statements. -/
namespace DL
open PySem PySem.Spec PyProof.Rows L2

def noSet : Expr → Bool
  | .Set _ _ _ => false
  | _ => true
theorem folded_of {e : Expr} {env : PySem.Env} (h : noSet e = true) : ∀ x, foldedSetIterable e env x = pure x := by
  intro x
  cases e <;> first | rfl | cases h
def noComp : Expr → Bool
  | .ListComp .. => false | .SetComp .. => false | .DictComp .. => false
  | _ => true
theorem swaps_of {e : Expr} {t : Option Expr} {l : Nat} {env : PySem.Env} (h : noComp e = true) : swapsWith e t l env = pure false := by
  cases e <;> first | rfl | cases h
theorem PTs.imp {X : Cx} {e : List Expr} {t t' : TT} (h : PTs X e t) (i : ∀ σ H Q, t' σ H Q → t σ H Q) : PTs X e t' := ⟨fun pins s σ H Q I hw => h.run pins s σ H Q I (i σ H Q hw)⟩
theorem PS.imp {X : Cx} {e : Stmt} {t t' : TS} (h : L2.PS X e t) (i : ∀ D σ H, t' D σ H → t D σ H) : L2.PS X e t' := ⟨fun pins s σ H D I hw => h.run pins s σ H D I (i D σ H hw)⟩
theorem PSs.imp {X : Cx} {e : List Stmt} {t t' : TS} (h : L2.PSs X e t) (i : ∀ D σ H, t' D σ H → t D σ H) : L2.PSs X e t' := ⟨fun pins s σ H D I hw => h.run pins s σ H D I (i D σ H hw)⟩
section
variable {X : Cx} {RX : RXT} {W : WX} {F : Type} {Φ : F → List Val → Store → R Val} {L : Nat} {pos : Pos}
theorem ok_ifs0 : PTs X [] (tT X.K RX W (evC Φ (.no : PO F))) := PTs.imp pts_nil fun σ H Q ⟨ρ, m, ι, en, st, h⟩ => PostR.here (RX := RX) (W := W) (G := fun b _ _ H' => Q b H') st h
theorem ok_ifs1 {c : Expr} {pc : PX F} (h : PT X c (tT X.K RX W (evT Φ pc))) : PTs X [c] (tT X.K RX W (evC Φ (.so pc))) := pts_one h
theorem ok_comp {elt tg iter : Expr} {ifs : List Expr} {scope : Scope} {own : List (Str × Nat)} {pt : Tg} {pit : It F} {pc : PO F} {pe : PX F} (hc : X.calm = true) (hN : X.N.Nodup) (hi : PI X tg iter (tI X.K RX W (evI Φ pit))) (ok : BlkOk X.N X.env.scope scope own)
    (ho : ∀ i ∈ pt.ns, i ∈ own.map (·.2))
    (hg : ∀ (s : Shared) (H : Hp) (C : Addr) (cl : List (Str × Addr)) (fp : List Addr), PG (X.blk s H scope (compEnvC scope cl C X.env) fp) tg (gOf X.K pt)) (ht : ∀ (s : Shared) (H : Hp) (C : Addr) (cl : List (Str × Addr)) (fp : List Addr), PTs (X.blk s H scope (compEnvC scope cl C X.env) fp) ifs (tT X.K RX W0 (evC Φ pc)))
    (he : ∀ (s : Shared) (H : Hp) (C : Addr) (cl : List (Str × Addr)) (fp : List Addr), PE (X.blk s H scope (compEnvC scope cl C X.env) fp) elt (tX X.K RX W0 (ev Φ pe))) (hs : noSet iter = true) :
    PE X (.ListComp elt [⟨tg, iter, ifs, 0⟩] scope pos) (tX X.K RX W (ev Φ (.comp pe pt pit pc (own.map (·.2))))) :=
  PE.imp (pe_lc hc hN hi ok hg ht he (folded_of hs)) fun σ H Q h => read_comp ho σ H Q h

/-! ### statements -/
def GS (K : PySem.W.Frag) (Dn : Ends) : Fl → Ix → Store → Hp → Prop := fun o ι' m' H' => match o with
  | .nx ρ' => ∀ σ', EnvOk K ι' m' H' ρ' σ' → Dn.nx σ' H'
  | .rt v => ∀ x, RepW K ι' m' H' x v → Dn.rt x H'
def tS (K : PySem.W.Frag) (RX : RXT) (W : WX) (f : Env → Store → R Fl) : TS := fun Dn σ H => ∃ ρ m ι, EnvOk K ι m H ρ σ ∧ StOk K ι m H ∧ PostR K RX W ι m H (f ρ m) (GS K Dn)
theorem ok_expr {e : Expr} {pe : PX F} (he : PE X e (tX X.K RX W (ev Φ pe))) (hs : noComp e = true) : L2.PS X (.Expr e pos) (tS X.K RX W (evS Φ L (.ex pe))) := by
  refine PS.imp (ps_expr he (swaps_of hs)) fun Dn σ H ⟨ρ, m, ι, en, st, h⟩ => ?_
  have h' : PostR X.K RX W ι m H ((ev Φ pe ρ m).bind fun _ m1 => R.ok (Fl.nx ρ) m1) (GS X.K Dn) := h
  refine ⟨ρ, m, ι, en, st, h'.bind.mono fun v ι1 m1 H1 l1 s1 g x r => ?_⟩
  exact PostR.here (RX := RX) (W := W) s1 g σ (en.le l1)
theorem ok_pass : L2.PS X (.Pass pos) (tS X.K RX W (evS Φ L (.pass : PS F))) := PS.imp ps_pass fun Dn σ H ⟨ρ, m, ι, en, st, h⟩ => by
  have h' : PostR X.K RX W ι m H (R.ok (Fl.nx ρ) m) (GS X.K Dn) := h
  exact PostR.here (RX := RX) (W := W) st h' σ en
theorem ok_doc {x : Str} {j : Nat} {pos' : Pos} : L2.PS X (.Expr (.Constant (.str x) j pos) pos') (tS X.K RX W (evS Φ L (.pass : PS F))) := PS.imp ps_doc fun Dn σ H ⟨ρ, m, ι, en, st, h⟩ => by
  have h' : PostR X.K RX W ι m H (R.ok (Fl.nx ρ) m) (GS X.K Dn) := h
  exact PostR.here (RX := RX) (W := W) st h' σ en
theorem ok_ret {e : Expr} {pe : PX F} (he : PE X e (tX X.K RX W (ev Φ pe))) : L2.PS X (.Return (some e) pos) (tS X.K RX W (evS Φ L (.ret pe))) := by
  refine PS.imp (ps_ret he) fun Dn σ H ⟨ρ, m, ι, en, st, h⟩ => ?_
  have h' : PostR X.K RX W ι m H ((ev Φ pe ρ m).bind fun v m1 => R.ok (Fl.rt v) m1) (GS X.K Dn) := h
  refine ⟨ρ, m, ι, en, st, h'.bind.mono fun v ι1 m1 H1 l1 s1 g x r => ?_⟩
  exact PostR.here (RX := RX) (W := W) s1 g x r
theorem ok_ret0 : L2.PS X (.Return none pos) (tS X.K RX W (evS Φ L (.ret0 : PS F))) := PS.imp ps_retN fun Dn σ H ⟨ρ, m, ι, en, st, h⟩ => by
  have h' : PostR X.K RX W ι m H (R.ok (Fl.rt (.d .none)) m) (GS X.K Dn) := h
  exact PostR.here (RX := RX) (W := W) st h' .non .non
theorem ok_if {c : Expr} {a b : List Stmt} {pc : PX F} {pa pb : PSs F} (hc : PT X c (tT X.K RX W (evT Φ pc))) (ha : L2.PSs X a (tS X.K RX W (evSs Φ L pa))) (hb : L2.PSs X b (tS X.K RX W (evSs Φ L pb))) :
    L2.PS X (.If c a b pos) (tS X.K RX W (evS Φ L (.iff pc pa pb))) := by
  refine PS.imp (ps_if hc ha hb) fun Dn σ H ⟨ρ, m, ι, en, st, h⟩ => ?_
  have h' : PostR X.K RX W ι m H ((evT Φ pc ρ m).bind fun t m1 => if t then evSs Φ L pa ρ m1 else evSs Φ L pb ρ m1) (GS X.K Dn) := h
  refine ⟨ρ, m, ι, en, st, h'.bind.mono fun t ι1 m1 H1 l1 s1 g => ?_⟩
  cases t with
  | true => rw [if_pos rfl]; exact ⟨ρ, m1, ι1, en.le l1, s1, g⟩
  | false => rw [if_neg Bool.false_ne_true]; exact ⟨ρ, m1, ι1, en.le l1, s1, g⟩
theorem ok_snil : L2.PSs X [] (tS X.K RX W (evSs Φ L (.nil : PSs F))) := PSs.imp pss_nil fun Dn σ H ⟨ρ, m, ι, en, st, h⟩ => by
  have h' : PostR X.K RX W ι m H (R.ok (Fl.nx ρ) m) (GS X.K Dn) := h
  exact PostR.here (RX := RX) (W := W) st h' σ en
theorem ok_scons {a : Stmt} {b : List Stmt} {pa : PS F} {pb : PSs F} (ha : L2.PS X a (tS X.K RX W (evS Φ L pa))) (hb : L2.PSs X b (tS X.K RX W (evSs Φ L pb))) : L2.PSs X (a :: b) (tS X.K RX W (evSs Φ L (.cons pa pb))) := by
  refine PSs.imp (pss_cons ha hb) fun Dn σ H ⟨ρ, m, ι, en, st, h⟩ => ?_
  have h' : PostR X.K RX W ι m H ((evS Φ L pa ρ m).bind fun o m1 => match o with | .nx ρ1 => evSs Φ L pb ρ1 m1 | .rt v => R.ok (Fl.rt v) m1) (GS X.K Dn) := h
  refine ⟨ρ, m, ι, en, st, h'.bind.mono fun o ι1 m1 H1 l1 s1 g => ?_⟩
  cases o with
  | nx ρ1 => exact fun σ' e' => ⟨ρ1, m1, ι1, e', s1, g⟩
  | rt v => exact PostR.here (RX := RX) (W := W) (G := GS X.K Dn) s1 g
/-! assignments -/
theorem ok_set {i : Nat} {x : Str} {e : Expr} {pe : PX F} {pos' : Pos} (hN : X.N.Nodup) (hi : X.N[i]? = some x) (hx : Loc X.env.scope x) (hf : X.fn x = true ∨ X.env.scope.names.lookup x = some .local) (he : PE X e (tX X.K RX W (ev Φ pe))) (hs : swapsWith e (some (.Name x pos')) pos.line X.env = pure false) :
    L2.PS X (.Assign [.Name x pos'] e pos) (tS X.K RX W (evS Φ L (.asg (.nm i) pe))) := by
  refine PS.imp (ps_set hN hi hx he hs hf) fun Dn σ H ⟨ρ, m, ι, en, st, h⟩ => ?_
  have h' : PostR X.K RX W ι m H ((ev Φ pe ρ m).bind fun v m1 => R.ok (Fl.nx (ρ.set i (some v))) m1) (GS X.K Dn) := h
  refine ⟨ρ, m, ι, en, st, h'.bind.mono fun v ι1 m1 H1 l1 s1 g x r => ?_⟩
  exact PostR.here (RX := RX) (W := W) s1 g _ ((en.le l1).set i r)
theorem ok_setLc {i : Nat} {y : Str} {py : Pos} {elt tg iter : Expr} {ifs : List Expr} {scope : Scope} {own : List (Str × Nat)} {spos : Pos} {pt : Tg} {pit : It F} {pc : PO F} {pe : PX F} (hc : X.calm = true) (hN : X.N.Nodup) (hy : X.N[i]? = some y) (hyl : X.env.scope.names.lookup y = some .local)
    (hsw : swapsWith (.ListComp elt [⟨tg, iter, ifs, 0⟩] scope pos) (some (.Name y py)) spos.line X.env = pure true) (hi : PI X tg iter (tI X.K RX W (evI Φ pit))) (ok : BlkOk X.N X.env.scope scope own) (ho : ∀ i ∈ pt.ns, i ∈ own.map (·.2))
    (hg : ∀ (s : Shared) (H : Hp) (C : Addr) (cl : List (Str × Addr)) (fp : List Addr), PG (X.blk s H scope (compEnvC scope cl C X.env) fp) tg (gOf X.K pt)) (ht : ∀ (s : Shared) (H : Hp) (C : Addr) (cl : List (Str × Addr)) (fp : List Addr), PTs (X.blk s H scope (compEnvC scope cl C X.env) fp) ifs (tT X.K RX W0 (evC Φ pc)))
    (he : ∀ (s : Shared) (H : Hp) (C : Addr) (cl : List (Str × Addr)) (fp : List Addr), PE (X.blk s H scope (compEnvC scope cl C X.env) fp) elt (tX X.K RX W0 (ev Φ pe))) (hs : noSet iter = true) :
    L2.PS X (.Assign [.Name y py] (.ListComp elt [⟨tg, iter, ifs, 0⟩] scope pos) spos) (tS X.K RX W (evS Φ L (.asg (.nm i) (.comp pe pt pit pc (own.map (·.2)))))) := by
  refine PS.imp (ps_setLc hc hN hy hyl hsw hi ok hg ht he (folded_of hs)) fun Dn σ H ⟨ρ, m, ι, en, st, h⟩ => ?_
  have h' : PostR X.K RX W ι m H ((ev Φ (.comp pe pt pit pc (own.map (·.2))) ρ m).bind fun v m1 => R.ok (Fl.nx (ρ.set i (some v))) m1) (GS X.K Dn) := h
  refine read_comp ho σ H _ ⟨ρ, m, ι, en, st, h'.bind.mono fun v ι1 m1 H1 l1 s1 g x r => ?_⟩
  exact PostR.here (RX := RX) (W := W) s1 g _ ((en.le l1).set i r)
theorem asg_tup {K : PySem.W.Frag} {ι : Ix} {m : Store} {H : Hp} {is : List Nat} {v : V} {d : D} {ρ ρ1 : Env} {σ : L2.St} {Q : L2.St → Hp → Prop} (r : RepT K H (Live ι m) v d) (h : asgD (.tp is) d ρ = some ρ1) (en : EnvOk K ι m H ρ σ)
    (k : ∀ σ1, EnvOk K ι m H ρ1 σ1 → Q σ1 H) : gOf K (.tp is) v σ H Q := by
  cases d with
  | tuple ds => exact asg_ok (t := .tp is) r.tupRep h en fun σ1 e1 _ => k σ1 e1
  | _ => cases h
theorem ok_unp {is : List Nat} {tg e : Expr} {pe : PX F} (he : PE X e (tX X.K RX W (ev Φ pe))) (hg : PG X tg (gOf X.K (.tp is))) (hs : swapsWithSole [tg] e pos.line X.env = pure false) (hw : swappedStores [tg] e X.env = pure none) (h1 : (assignEach [tg] X.env).map (·.2) = [assign tg X.env]) :
    L2.PS X (.Assign [tg] e pos) (tS X.K RX W (evS Φ L (.asg (.tp is) pe))) := by
  refine PS.imp (ps_asg he hg hs hw h1) fun Dn σ H ⟨ρ, m, ι, en, st, h⟩ => ?_
  have h' : PostR X.K RX W ι m H ((ev Φ pe ρ m).bind fun v m1 => match rd v m1 with
      | some x => (match asgD (.tp is) x ρ with
        | some ρ1 => R.ok (Fl.nx ρ1) m1
        | none => .no)
      | none => .no) (GS X.K Dn) := h
  refine ⟨ρ, m, ι, en, st, h'.bind.mono fun v ι1 m1 H1 l1 s1 g x r => ?_⟩
  cases e1 : rd v m1 with
  | none => rw [e1] at g; exact False.elim g
  | some d =>
    rw [e1] at g
    dsimp only at g
    cases e2 : asgD (.tp is) d ρ with
    | none => rw [e2] at g; exact False.elim g
    | some ρ1 =>
      rw [e2] at g
      exact asg_tup (RepT.of s1 r e1) e2 (en.le l1) fun σ1 en1 => PostR.here (RX := RX) (W := W) s1 g σ1 en1
theorem ok_par2 {i j : Nat} {x y : Str} {a b : Expr} {qs : PXs F} {px py pt : Pos} {kt k2 pt2} (hc : X.calm = true) (hN : X.N.Nodup) (hi : X.N[i]? = some x) (hj : X.N[j]? = some y) (hij : i ≠ j)
    (hx : X.env.scope.names.lookup x = some .local) (hy : X.env.scope.names.lookup y = some .local) (ha : PA X [a, b] (tA X.K RX W (evs Φ qs)))
    (hw : swappedStores [.Tuple [.Name x px, .Name y py] kt pt] (.Tuple [a, b] k2 pt2) X.env = pure (some [x, y])) :
    L2.PS X (.Assign [.Tuple [.Name x px, .Name y py] kt pt] (.Tuple [a, b] k2 pt2) pos) (tS X.K RX W (evS Φ L (.par [i, j] qs))) := by
  refine PS.imp (ps_par hc hN hi hj hij hx hy ha hw rfl) fun Dn σ H ⟨ρ, m, ι, en, st, h⟩ => ?_
  have h' : PostR X.K RX W ι m H ((evs Φ qs ρ m).bind fun vs m1 => match [i, j], vs with
    | [i, j], [v, w] => R.ok (Fl.nx ((ρ.set i (some v)).set j (some w))) m1
    | [i, j, k], [v, w, u] => R.ok (Fl.nx (((ρ.set i (some v)).set j (some w)).set k (some u))) m1
    | _, _ => .no) (GS X.K Dn) := h
  refine ⟨ρ, m, ι, en, st, h'.bind.mono fun ws ι1 m1 H1 l1 s1 g vs r => ?_⟩
  cases r with
  | nil => exact False.elim g
  | cons r1 r =>
  cases r with
  | nil => exact False.elim g
  | cons r2 r =>
  cases r with
  | nil => exact ⟨_, _, rfl, PostR.here (RX := RX) (W := W) s1 g _ (((en.le l1).set i r1).set j r2)⟩
  | cons _ _ => exact False.elim g
theorem ok_par3 {i j l : Nat} {x y z : Str} {a b c : Expr} {qs : PXs F} {px py pz pt : Pos} {kt k2 pt2} (hc : X.calm = true) (hN : X.N.Nodup) (hi : X.N[i]? = some x) (hj : X.N[j]? = some y) (hl : X.N[l]? = some z) (hij : i ≠ j) (hil : i ≠ l) (hjl : j ≠ l)
    (hx : X.env.scope.names.lookup x = some .local) (hy : X.env.scope.names.lookup y = some .local) (hz : X.env.scope.names.lookup z = some .local) (ha : PA X [a, b, c] (tA X.K RX W (evs Φ qs)))
    (hw : swappedStores [.Tuple [.Name x px, .Name y py, .Name z pz] kt pt] (.Tuple [a, b, c] k2 pt2) X.env = pure (some [x, y, z])) :
    L2.PS X (.Assign [.Tuple [.Name x px, .Name y py, .Name z pz] kt pt] (.Tuple [a, b, c] k2 pt2) pos) (tS X.K RX W (evS Φ L (.par [i, j, l] qs))) := by
  refine PS.imp (ps_par3 hc hN hi hj hl hij hil hjl hx hy hz ha hw rfl) fun Dn σ H ⟨ρ, m, ι, en, st, h⟩ => ?_
  have h' : PostR X.K RX W ι m H ((evs Φ qs ρ m).bind fun vs m1 => match [i, j, l], vs with
    | [i, j], [v, w] => R.ok (Fl.nx ((ρ.set i (some v)).set j (some w))) m1
    | [i, j, k], [v, w, u] => R.ok (Fl.nx (((ρ.set i (some v)).set j (some w)).set k (some u))) m1
    | _, _ => .no) (GS X.K Dn) := h
  refine ⟨ρ, m, ι, en, st, h'.bind.mono fun ws ι1 m1 H1 l1 s1 g vs r => ?_⟩
  cases r with
  | nil => exact False.elim g
  | cons r1 r =>
  cases r with
  | nil => exact False.elim g
  | cons r2 r =>
  cases r with
  | nil => exact False.elim g
  | cons r3 r =>
  cases r with
  | nil => exact ⟨_, _, _, rfl, PostR.here (RX := RX) (W := W) s1 g _ ((((en.le l1).set i r1).set j r2).set l r3)⟩
  | cons _ _ => exact False.elim g
def rAug (K : PySem.W.Frag) : TIp := fun x y H Q => (∃ i j, x = .int i ∧ y = .int j ∧ Q (.int (i + j)) H) ∨ rExtR K x y H Q
theorem aug_ok : PIp X .Add (rAug X.K) := by
  intro pins s σ H x y v u Q I r1 r2 h
  rcases h with h | h
  · exact iop_add pins s σ H x y v u Q I r1 r2 h
  · exact iop_extR pins s σ H x y v u Q I r1 r2 h
theorem ok_aug {i : Nat} {x : Str} {e : Expr} {pe : PX F} {pos' : Pos} (hN : X.N.Nodup) (hi : X.N[i]? = some x) (hx : Loc X.env.scope x) (hf : X.fn x = true ∨ X.env.scope.names.lookup x = some .local) (he : PE X e (tX X.K RX W (ev Φ pe))) :
    L2.PS X (.AugAssign (.Name x pos') .Add e pos) (tS X.K RX W (evS Φ L (.aug i .add pe))) := by
  refine PS.imp (ps_aug hN hi hx he aug_ok hf) fun Dn σ H ⟨ρ, m, ι, en, st, h⟩ => ?_
  have h' : PostR X.K RX W ι m H (match ρ[i]? with
    | some (some v) => (ev Φ pe ρ m).bind fun w m1 => (augR .add v w m1).bind fun u m2 => R.ok (Fl.nx (ρ.set i (some u))) m2
    | _ => .no) (GS X.K Dn) := h
  cases e1 : ρ[i]? with
  | none => rw [e1] at h'; exact False.elim h'
  | some o =>
  cases o with
  | none => rw [e1] at h'; exact False.elim h'
  | some v =>
  rw [e1] at h'
  dsimp only at h'
  obtain ⟨x1, hx1, r1⟩ := en.ok i v e1
  refine ⟨x1, hx1, ρ, m, ι, en, st, h'.bind.mono fun w ι1 m1 H1 l1 s1 g y r => ?_⟩
  have r1 := r1.le l1
  cases v with
  | d d1 =>
    cases d1 with
    | int k =>
      cases r1
      have g : PostR X.K RX W ι1 m1 H1 ((match rd w m1 with | some (.int j) => R.ok (Val.d (.int (k + j))) m1 | _ => .no : R Val).bind fun u m2 => R.ok (Fl.nx (ρ.set i (some u))) m2) (GS X.K Dn) := g
      cases e2 : rd w m1 with
      | none => rw [e2] at g; exact False.elim g
      | some d2 =>
        rw [e2] at g
        cases d2 with
        | int j =>
          have t := RepT.of s1 r e2
          rw [t.int]
          exact .inl ⟨k, j, rfl, rfl, PostR.here (RX := RX) (W := W) s1 g _ ((en.le l1).set i (.int _))⟩
        | _ => exact False.elim g
    | _ => exact False.elim g
  | r n =>
    obtain ⟨a, h1, rfl⟩ := r1
    have g : PostR X.K RX W ι1 m1 H1 ((match m1[n]?, rd w m1 with
      | some (.lst xs), some (.list ys) => if xs.length + ys.length ≤ sizeLine then R.ok (Val.r n) (m1.set n (.lst (xs ++ ys))) else .no
      | _, _ => .no : R Val).bind fun u m2 => R.ok (Fl.nx (ρ.set i (some u))) m2) (GS X.K Dn) := g
    cases e2 : m1[n]? with
    | none => rw [e2] at g; exact False.elim g
    | some c =>
    rw [e2] at g
    cases c with
    | lst xs =>
      cases e3 : rd w m1 with
      | none => rw [e3] at g; exact False.elim g
      | some d2 =>
        rw [e3] at g
        cases d2 with
        | list ys =>
          dsimp only at g
          by_cases hz : xs.length + ys.length ≤ sizeLine
          · rw [if_pos hz] at g
            obtain ⟨vs, hH, ra⟩ := s1.ok n a _ h1 e2
            obtain ⟨b, zs, rfl, hq, rb⟩ := (RepT.of s1 r e3).listR
            have le := le_write (ys := xs ++ ys) (ws := vs ++ zs) s1 h1 e2 hH
            have sw := s1.write h1 e2 hH (ra.app rb)
            refine .inr ⟨a, b, vs, zs, rfl, rfl, hH, hq, by rw [ra.length, rb.length]; exact hz, ?_⟩
            exact g ι1 _ le sw _ (((en.le l1).le le).set i ⟨a, h1, rfl⟩)
          · rw [if_neg hz] at g
            exact False.elim g
        | _ => exact False.elim g
    | _ => exact False.elim g
end
end DL
end
section
set_option Elab.async false
set_option linter.all false
set_option maxRecDepth 100000
set_option autoImplicit false
set_option maxHeartbeats 2000000
/-! DLl: o[i] = e, loops; a def's body. -/
namespace DL
open PySem PySem.Spec PyProof.Rows L2
section
variable {X : Cx} {RX : RXT} {W : WX} {F : Type} {Φ : F → List Val → Store → R Val} {L : Nat} {pos : Pos}
def noSlice : Expr → Bool
  | .Slice .. => false
  | _ => true
theorem ok_setI {o i e : Expr} {po pi pe : PX F} {tpos : Pos} (he : PE X e (tX X.K RX W (ev Φ pe))) (ho : PE X o (tX X.K RX W (ev Φ po))) (hi : PE X i (tX X.K RX W (ev Φ pi))) (hs : noSlice i = true) (hn : noComp e = true) :
    L2.PS X (.Assign [.Subscript o i tpos] e pos) (tS X.K RX W (evS Φ L (.set po pi pe))) := by
  have pg : PG X (.Subscript o i tpos) (gSub (tX X.K RX W (ev Φ po)) (tX X.K RX W (ev Φ pi)) rSetL) := pg_sub ho hi set_list (by intro v; cases i <;> first | rfl | cases hs)
  refine PS.imp (ps_asg he pg (by unfold swapsWithSole; exact swaps_of hn)) fun Dn σ H ⟨ρ, m, ι, en, st, h⟩ => ?_
  have h' : PostR X.K RX W ι m H ((ev Φ pe ρ m).bind fun v m1 => (fz v m1).bind fun x m2 => (ev Φ po ρ m2).bind fun w m3 => (ev Φ pi ρ m3).bind fun k m4 => (setAt w k x m4).bind fun _ m5 => R.ok (Fl.nx ρ) m5) (GS X.K Dn) := h
  refine ⟨ρ, m, ι, en, st, h'.bind.mono fun v ι1 m1 H1 l1 s1 g x r => ?_⟩
  obtain ⟨m2, d, l2, s2, r2, g2⟩ := post_fz s1 r g.bind
  refine ⟨ρ, m2, ι1, en.le (l1.trans l2), s2, g2.bind.mono fun w ι3 m3 H3 l3 s3 g3 y ry => ?_⟩
  refine ⟨ρ, m3, ι3, en.le ((l1.trans l2).trans l3), s3, g3.bind.mono fun k ι4 m4 H4 l4 s4 g4 z rz => ?_⟩
  have ry4 := ry.le l4
  unfold setAt at g4
  cases w with
  | d _ => exact False.elim g4
  | r n =>
  cases e1 : rd k m4 with
  | none => rw [e1] at g4; exact False.elim g4
  | some dk =>
  rw [e1] at g4
  cases dk with
  | int kk =>
    dsimp only at g4
    obtain ⟨a, h1, rfl⟩ := ry4
    cases e2 : m4[n]? with
    | none => rw [e2] at g4; exact False.elim g4
    | some c =>
    rw [e2] at g4
    cases c with
    | lst xs =>
      dsimp only at g4
      cases e3 : L2.ixN xs.length kk with
      | none => rw [e3] at g4; exact False.elim g4
      | some j =>
        rw [e3] at g4
        dsimp only at g4
        obtain ⟨vs, hH, ra⟩ := s4.ok n a _ h1 e2
        have t := (RepT.of s4 rz e1).int
        have rx := Rep.up (l3.trans l4).up r2
        have le := le_write (ys := xs.set j d) (ws := vs.set j x) s4 h1 e2 hH
        have sw := s4.write h1 e2 hH (ra.set rx j)
        exact ⟨a, vs, kk, j, rfl, t, hH, by rw [ra.length]; exact e3, g4 ι4 _ le sw _ ((en.le (((l1.trans l2).trans l3).trans l4)).le le)⟩
    | _ => exact False.elim g4
  | _ => exact False.elim g4
theorem ok_whl {c : Expr} {body : List Stmt} {pc : PX F} {pb : PSs F} (hp : PassesOwn (model X.prog X.w) X.A X.env X.xe) (hc : PT X c (tT X.K RX W (evT Φ pc))) (hb : L2.PSs X body (tS X.K RX W (evSs Φ L pb))) :
    L2.PS X (.While c body [] pos) (tS X.K RX W (evS Φ L (.whl pc pb))) := by
  refine PS.imp (ps_while hp hc hb) fun Dn σ H ⟨ρ, m, ι, en, st, h⟩ => ?_
  have h' : PostR X.K RX W ι m H (whileLoop (fun ρ1 m1 => evT Φ pc ρ1 m1) (fun ρ1 m1 => evSs Φ L pb ρ1 m1) L ρ m) (GS X.K Dn) := h
  refine ⟨fun k σ H => ∃ ρ m ι, EnvOk X.K ι m H ρ σ ∧ StOk X.K ι m H ∧ PostR X.K RX W ι m H (whileLoop (fun ρ1 m1 => evT Φ pc ρ1 m1) (fun ρ1 m1 => evSs Φ L pb ρ1 m1) k ρ m) (GS X.K Dn), ⟨L, ρ, m, ι, en, st, h'⟩, ?_⟩
  rintro k σ H ⟨ρ, m, ι, en, st, h⟩
  cases k with
  | zero => exact False.elim h
  | succ k =>
    have h' : PostR X.K RX W ι m H ((evT Φ pc ρ m).bind fun b m1 => if b then (evSs Φ L pb ρ m1).bind fun o m2 => match o with
        | .nx ρ1 => whileLoop (fun ρ1 m1 => evT Φ pc ρ1 m1) (fun ρ1 m1 => evSs Φ L pb ρ1 m1) k ρ1 m2
        | .rt v => .ok (.rt v) m2
      else .ok (.nx ρ) m1) (GS X.K Dn) := h
    refine ⟨ρ, m, ι, en, st, h'.bind.mono fun t ι1 m1 H1 l1 s1 g => ?_⟩
    cases t with
    | true =>
      rw [if_pos rfl] at g
      rw [if_pos rfl]
      refine ⟨fun σ H => ∃ ρ m ι, EnvOk X.K ι m H ρ σ ∧ StOk X.K ι m H ∧ PostR X.K RX W ι m H (whileLoop (fun ρ1 m1 => evT Φ pc ρ1 m1) (fun ρ1 m1 => evSs Φ L pb ρ1 m1) k ρ m) (GS X.K Dn), fun σ' H' w => ⟨k, Nat.lt_succ_self _, w⟩, ?_⟩
      refine ⟨ρ, m1, ι1, en.le l1, s1, g.bind.mono fun o ι2 m2 H2 l2 s2 g2 => ?_⟩
      cases o with
      | nx ρ1 => exact fun σ' e' => ⟨ρ1, m2, ι2, e', s2, g2⟩
      | rt v => exact PostR.here (RX := RX) (W := W) (G := GS X.K Dn) s2 g2
    | false =>
      rw [if_neg Bool.false_ne_true] at g
      rw [if_neg Bool.false_ne_true]
      exact PostR.here (RX := RX) (W := W) (G := GS X.K Dn) s1 g σ (en.le l1)
theorem ok_for {tg iter : Expr} {body : List Stmt} {pt : Tg} {pit : It F} {pb : PSs F} (hp : PassesOwn (model X.prog X.w) X.A X.env X.xe) (hc : X.calm = true) (hi : PI X tg iter (tI X.K RX W (evI Φ pit))) (hg : PG X tg (gOf X.K pt)) (hb : L2.PSs X body (tS X.K RX W (evSs Φ L pb)))
    (hs : noSet iter = true) : L2.PS X (.For tg iter body [] pos) (tS X.K RX W (evS Φ L (.for pt pit pb))) := by
  refine PS.imp (ps_for hp hc hi hg hb (folded_of hs)) fun Dn σ H ⟨ρ, m, ι, en, st, h⟩ => ?_
  let f : D → Env → Store → R Fl := fun x ρ1 m2 => match asgD pt x ρ1 with
    | some ρ2 => evSs Φ L pb ρ2 m2
    | none => .no
  have h' : PostR X.K RX W ι m H ((evI Φ pit ρ m).bind fun xs m1 => forLoop f xs ρ m1) (GS X.K Dn) := h
  refine ⟨ρ, m, ι, en, st, h'.bind.mono fun xs ι1 m1 H1 l1 s1 g J fd => ?_⟩
  refine ⟨fun i n σ H => n = xs.length - i ∧ i ≤ xs.length ∧ ∃ ρ m ι, EnvOk X.K ι m H ρ σ ∧ StOk X.K ι m H ∧ Le ι1 m1 H1 ι m H ∧ PostR X.K RX W ι m H (forLoop f (xs.drop i) ρ m) (GS X.K Dn), ⟨_, rfl, Nat.zero_le _, ρ, m1, ι1, en.le l1, s1, .refl, g⟩, ?_⟩
  rintro i n σ H ⟨rfl, hi, ρ, m, ι, en, st, le, h⟩
  by_cases hlt : i < xs.length
  · rw [List.drop_eq_getElem_cons hlt] at h
    have h : PostR X.K RX W ι m H ((f xs[i] ρ m).bind fun o m1 => match o with
      | .nx ρ1 => forLoop f (xs.drop (i + 1)) ρ1 m1
      | .rt v => .ok (.rt v) m1) (GS X.K Dn) := h
    refine .inr ⟨fd.go i _ _ _ hlt le st, fun σ H => i + 1 ≤ xs.length ∧ ∃ ρ m ι, EnvOk X.K ι m H ρ σ ∧ StOk X.K ι m H ∧ Le ι1 m1 H1 ι m H ∧ PostR X.K RX W ι m H (forLoop f (xs.drop (i + 1)) ρ m) (GS X.K Dn),
      fun σ' H' w => ⟨xs.length - (i + 1), by omega, rfl, w⟩, fun v H' y => ?_⟩
    obtain ⟨ly, sy, rv⟩ := fd.yld i _ _ _ _ v H' (List.getElem?_eq_getElem hlt) le st y
    have h := h.shift ly
    cases e1 : asgD pt xs[i] ρ with
    | none =>
      have : f xs[i] ρ m = .no := by show (match asgD pt xs[i] ρ with | some ρ2 => evSs Φ L pb ρ2 m | none => .no) = _; rw [e1]
      rw [this] at h
      exact False.elim h
    | some ρ2 =>
      have : f xs[i] ρ m = evSs Φ L pb ρ2 m := by show (match asgD pt xs[i] ρ with | some ρ2 => evSs Φ L pb ρ2 m | none => .no) = _; rw [e1]
      rw [this] at h
      refine asg_ok rv e1 (en.le ly) fun σ2 e2 _ => ?_
      refine ⟨ρ2, m, ι, e2, sy, h.bind.mono fun o ι3 m3 H3 l3 s3 g3 => ?_⟩
      cases o with
      | nx ρ3 => exact fun σ' e' => ⟨hlt, ρ3, m3, ι3, e', s3, (le.trans ly).trans l3, g3⟩
      | rt v => exact PostR.here (RX := RX) (W := W) (G := GS X.K Dn) s3 g3
  · have ei : i = xs.length := by omega
    subst ei
    rw [List.drop_length] at h
    have h : PostR X.K RX W ι m H (R.ok (Fl.nx ρ) m) (GS X.K Dn) := h
    exact .inl ⟨fd.stop _ _ _ le st, PostR.here (RX := RX) (W := W) (G := GS X.K Dn) st h σ en⟩
end

/-! ### a def -/
section
variable {K : PySem.W.Frag} {ι ι' : Ix} {m m' : Store} {H H' : Hp}
def Ix.cut (ι : Ix) (n : Nat) : Ix := ⟨ι.l.take n, ι.x⟩
theorem live_cut {n : Nat} {a : Addr} (h : Live (ι.cut n) (m.take n) a) : Live ι m a := by
  rcases h with ⟨k, c, h1, h2, h3⟩ | h
  · have h1 : (ι.l.take n)[k]? = some a := h1
    rw [List.getElem?_take] at h1
    rw [List.getElem?_take] at h2
    by_cases hk : k < n
    · rw [if_pos hk] at h1 h2
      exact .inl ⟨k, c, h1, h2, h3⟩
    · rw [if_neg hk] at h1
      cases h1
  · exact .inr h
theorem up_cut {n : Nat} : Up H H (Live ι m) (Live (ι.cut n) (m.take n)) := ⟨fun b o h l => ⟨h, fun q => l (live_cut q)⟩, fun _ _ h => h, fun _ _ _ h => h⟩
theorem StOk.cut (s : StOk K ι m H) (n : Nat) : StOk K (ι.cut n) (m.take n) H := by
  refine ⟨by show (ι.l.take n).length = _; rw [List.length_take, List.length_take, s.len], ?_, fun a ha hm => s.dis a ha (List.mem_of_mem_take hm), fun a ha => s.trk a (List.mem_of_mem_take ha), s.trx, fun k a c h1 h2 => ?_⟩
  · exact s.nd.sublist (List.take_sublist _ _)
  · have h1 : (ι.l.take n)[k]? = some a := h1
    rw [List.getElem?_take] at h1
    rw [List.getElem?_take] at h2
    by_cases hk : k < n
    · rw [if_pos hk] at h1 h2
      exact (s.ok k a c h1 h2).up up_cut fun vs e _ => e
    · rw [if_neg hk] at h1
      cases h1
theorem Le.cut (l : Le ι m H ι' m' H') (s : StOk K ι m H) : Le ι m H (ι'.cut m.length) (m'.take m.length) H' := by
  obtain ⟨k, e⟩ := l.pre
  refine ⟨⟨[], ?_⟩, l.ex, l.exk, fun b o h lv => let ⟨h1, h2⟩ := l.keep b o h lv; ⟨h1, fun q => h2 (live_cut q)⟩, l.tups, l.frzs⟩
  show ι'.l.take m.length = _
  rw [e, ← s.len, List.take_left, List.append_nil]
end
end DL
end
section
set_option Elab.async false
set_option linter.all false
set_option maxRecDepth 100000
set_option autoImplicit false
set_option maxHeartbeats 2000000
/-! DLm: a def keeps the evaluator's promise. -/
namespace DL
open PySem PySem.Spec PyProof.Rows L2
section
variable {P : Program} {w : World} {K : PySem.W.Frag} {mg : Str → Option Value} {base : Heap} {RX : RXT} {F : Type} {Φ : F → List Val → Store → R Val} {L : Nat}
theorem env_start {ι : Ix} {m : Store} {H : Hp} {vs : List V} {ws : List Val} {N : List Str} {k : Nat} (r : RepWs K ι m H vs ws) (hk : k = N.length - vs.length) : EnvOk K ι m H (ws.map some ++ List.replicate k none) (L2.start N vs) := by
  subst hk
  unfold L2.start
  have hl := r.length
  refine ⟨by rw [List.length_append, List.length_append, List.length_map, List.length_map, List.length_replicate, List.length_replicate, hl], fun i w h => ?_⟩
  by_cases hi : i < ws.length
  · rw [List.getElem?_append_left (by simpa using hi), List.getElem?_map] at h
    rw [List.getElem?_append_left (by simpa [hl] using hi), List.getElem?_map]
    clear hl hi
    induction r generalizing i with
    | nil => simp at h
    | @cons v vs w' ws' r1 r2 ih =>
      cases i with
      | zero => simp at h; subst h; exact ⟨v, by simp, r1⟩
      | succ i =>
        obtain ⟨v', h1, h2⟩ := ih i (by simpa using h)
        exact ⟨v', by simpa using h1, h2⟩
  · rw [List.getElem?_append_right (by simpa using hi), List.getElem?_replicate] at h
    split at h <;> cases h
theorem moved {ι : Ix} {m : Store} {H : Hp} {k n : Nat} {a : Addr} {c : Cell} (s : StOk K ι m H) (hk : n ≤ k) (ha : ι.l[k]? = some a) (hc : m[k]? = some c) :
    StOk K ((ι.cut n).add a) (m.take n ++ [c]) H ∧ ∀ b, Live ((ι.cut n).add a) (m.take n ++ [c]) b → Live ι m b := by
  have sc := s.cut n
  have lv : ∀ b, Live ((ι.cut n).add a) (m.take n ++ [c]) b → Live ι m b := fun b h => by
    rcases (live_app sc.len).mp h with h | ⟨e, h⟩
    · exact live_cut h
    · exact .inl ⟨k, c, by rw [e]; exact ha, hc, h⟩
  have up : Up H H (Live ι m) (Live ((ι.cut n).add a) (m.take n ++ [c])) := ⟨fun b o h l => ⟨h, fun q => l (lv b q)⟩, fun _ _ h => h, fun _ _ _ h => h⟩
  have hnot : a ∉ (ι.cut n).l := fun hm => by
    obtain ⟨j, hj⟩ := List.getElem?_of_mem hm
    have hj : (ι.l.take n)[j]? = some a := hj
    rw [List.getElem?_take] at hj
    by_cases q : j < n
    · rw [if_pos q] at hj
      have := s.inj hj ha
      omega
    · rw [if_neg q] at hj; cases hj
  refine ⟨⟨by show ((ι.cut n).l ++ [a]).length = _; rw [List.length_append, List.length_append, sc.len]; rfl, ?_, fun b hb hm => ?_, fun b hb => ?_, s.trx, fun j b c' h1 h2 => ?_⟩, lv⟩
  · show ((ι.cut n).l ++ [a]).Nodup
    rw [List.nodup_append]
    exact ⟨sc.nd, by simp, fun x hx b hb => by simp at hb; subst hb; exact fun e => hnot (e ▸ hx)⟩
  · rcases List.mem_append.mp (show b ∈ (ι.cut n).l ++ [a] from hm) with h | h
    · exact sc.dis b hb h
    · have e : b = a := by simpa using h
      exact s.dis b hb (by rw [e]; exact List.mem_of_getElem? ha)
  · rcases List.mem_append.mp (show b ∈ (ι.cut n).l ++ [a] from hb) with h | h
    · exact sc.trk b h
    · have e : b = a := by simpa using h
      exact s.trk b (by rw [e]; exact List.mem_of_getElem? ha)
  · have h1 : ((ι.cut n).l ++ [a])[j]? = some b := h1
    by_cases hn : j < (ι.cut n).l.length
    · rw [List.getElem?_append_left hn] at h1
      rw [List.getElem?_append_left (by rw [← sc.len]; exact hn)] at h2
      have h1' : (ι.l.take n)[j]? = some b := h1
      rw [List.getElem?_take] at h1' h2
      by_cases q : j < n
      · rw [if_pos q] at h1' h2
        exact (s.ok j b c' h1' h2).up up fun vs e _ => e
      · rw [if_neg q] at h1'; cases h1'
    · have hl := (List.getElem?_eq_some_iff.mp h1).1
      have en : j = (ι.cut n).l.length := by simp at hl; omega
      subst en
      rw [List.getElem?_append_right (Nat.le_refl _)] at h1
      rw [sc.len, List.getElem?_append_right (Nat.le_refl _)] at h2
      simp at h1 h2
      subst h1 h2
      exact (s.ok k a c ha hc).up up fun vs e _ => e
theorem leave_ok {W : WX} {ι ι' : Ix} {m m' : Store} {H H' : Hp} {v : Val} {x : V} {Q : VK} (s0 : StOk K ι m H) (l : Le ι m H ι' m' H') (s : StOk K ι' m' H') (r : RepW K ι' m' H' x v) (h : PostR K RX W ι m H (leave m.length v m') (GV K Q)) : Q x H' := by
  have lc := l.cut s0
  have sc := s.cut m.length
  cases v with
  | d d => exact h _ _ lc sc x (Rep.up up_cut r)
  | r k =>
    obtain ⟨a, ha, rfl⟩ := r
    have h' : PostR K RX W ι m H (if k < m.length then R.ok (.r k) (m'.take m.length) else match m'[k]? with
      | some (.fz x) => .ok (.d x) (m'.take m.length)
      | some c => .ok (.r m.length) (m'.take m.length ++ [c])
      | none => .no) (GV K Q) := h
    by_cases hk : k < m.length
    · rw [if_pos hk] at h'
      exact h' _ _ lc sc _ ⟨a, by show (ι'.l.take m.length)[k]? = _; rw [List.getElem?_take, if_pos hk]; exact ha, rfl⟩
    · rw [if_neg hk] at h'
      cases hc : m'[k]? with
      | none => rw [hc] at h'; exact False.elim h'
      | some c =>
        have last : c.isFz = false → PostR K RX W ι m H (R.ok (.r m.length) (m'.take m.length ++ [c])) (GV K Q) → Q (.ref a) H' := fun _ h' => by
          obtain ⟨sm, lv⟩ := moved s (Nat.le_of_not_lt hk) ha hc
          obtain ⟨j, e⟩ := l.pre
          have hm : (ι'.cut m.length).l = ι.l := by show ι'.l.take m.length = _; rw [e, ← s0.len, List.take_left]
          refine h' ((ι'.cut m.length).add a) H' ⟨⟨[a], by show (ι'.cut m.length).l ++ [a] = _; rw [hm]⟩, l.ex, l.exk, fun b o h lx => let ⟨h1, h2⟩ := l.keep b o h lx; ⟨h1, fun q => h2 (lv b q)⟩, l.tups, l.frzs⟩ sm _ ⟨a, ?_, rfl⟩
          show ((ι'.cut m.length).l ++ [a])[m.length]? = _
          rw [hm, ← s0.len]
          simp
        rw [hc] at h'
        cases c with
        | fz d => exact h' _ _ lc sc _ (Rep.up up_cut (s.ok k a _ ha hc))
        | lst xs => exact last rfl h'
        | dic kvs => exact last rfl h'
theorem body_post {E : XK} {ι : Ix} {m : Store} {H : Hp} {fn : Fn F} {ws : List Val} {Q : VK} (s0 : StOk K ι m H) (h : PostR K RX (fun c d _ H => E c d H) ι m H (evFn Φ L fn ws m) (GV K Q)) :
    ws.length = fn.ps ∧ PostR K RX (fun c d _ H => E c d H) ι m H (evSs Φ L fn.body (ws.map some ++ List.replicate (fn.ns - fn.ps) none) m) (GS K { nx := fun _ H' => Q .non H', rt := Q }) := by
  unfold evFn at h
  by_cases hl : ws.length = fn.ps
  · rw [if_pos hl] at h
    refine ⟨hl, ?_⟩
    cases e : evSs Φ L fn.body (ws.map some ++ List.replicate (fn.ns - fn.ps) none) m with
    | no => rw [e] at h; exact False.elim h
    | ex x m1 =>
      rw [e] at h
      intro ι' H' c d σ l s rx
      exact h _ H' c d σ (l.cut s0) (s.cut _) rx
    | ok o m1 =>
      rw [e] at h
      intro ι' H' l s
      cases o with
      | nx ρ => exact fun σ' _ => h _ H' (l.cut s0) (s.cut _) .non .non
      | rt v => exact fun x r => leave_ok s0 l s r h
  · rw [if_neg hl] at h
    exact False.elim h
theorem fn_ok {x qual : Str} {st : Stmt} {f : Addr} {fd : FuncData} {N ps : List Str} {k : Nat} {fn : Fn F} (Fu : Fun K x qual st f fd) (S : FnScope N ps (defScope st)) (hp : fn.ps = ps.length) (hn : fn.ns = N.length)
    (hb : ∀ (cdv : Value) (A : Around) (outer : List PySem.Env) (s : Shared) (H : Hp) (E : XK), Room k (A.deeper (envOfC qual (defScope st) s.heap.objs.size f cdv)) →
      L2.PSs (cxOf (L2.CX P w) P w K mg base N qual (defScope st) f cdv A outer s H E) (defBody st) (tS K RX (fun c d _ H => E c d H) (evSs Φ L fn.body))) :
    FnOk P w K mg base (L2.CX P w) (k + 1) f fd ps (spOf K RX (evFn Φ L fn)) := by
  refine Fun.okX Fu S (fun vs H Q E ⟨ws, m, ι, st, r, h⟩ => ?_) fun cdv A outer s H vs Q E hr ⟨ws, m, ι, st, r, h⟩ => ⟨_, hb cdv A outer s H E hr, ?_⟩
  · rw [r.length, (body_post st h).1, hp]
  · obtain ⟨hl, h⟩ := body_post st h
    exact ⟨_, m, ι, env_start r (by rw [hn, hp, r.length, hl, hp]), st, h⟩
theorem takes_def {N : List Str} {qual : Str} {scope : Scope} {f : Addr} {cdv : Value} {A : Around} {outer : List PySem.Env} {s : Shared} {H : Hp} {E : XK} : Takes (cxOf (L2.CX P w) P w K mg base N qual scope f cdv A outer s H E) (fun c d _ H => E c d H) :=
  takes_of rfl rfl rfl rfl
theorem own_def {N : List Str} {qual : Str} {scope : Scope} {f : Addr} {cdv : Value} {A : Around} {outer : List PySem.Env} {s : Shared} {H : Hp} {E : XK} :
    PassesOwn (model P w) (cxOf (L2.CX P w) P w K mg base N qual scope f cdv A outer s H E).A (cxOf (L2.CX P w) P w K mg base N qual scope f cdv A outer s H E).env (cxOf (L2.CX P w) P w K mg base N qual scope f cdv A outer s H E).xe :=
  passes_of (X := cxOf (L2.CX P w) P w K mg base N qual scope f cdv A outer s H E) rfl
end
end DL
end
section
set_option Elab.async false
set_option linter.all false
set_option maxRecDepth 100000
set_option autoImplicit false
set_option maxHeartbeats 2000000
/-! DLn: from the model's syntax to the evaluator's. -/
namespace DL
open PySem PySem.Spec PyProof.Rows L2

def sEq (a b : Str) : Bool := a.cps.toList == b.cps.toList
theorem sEq_eq {a b : Str} (h : sEq a b = true) : a = b := by
  cases a; cases b
  have := eq_of_beq (show (_ == _) = true from h)
  exact congrArg Str.mk (Array.toList_inj.mp this)
theorem sEq_self (a : Str) : sEq a a = true := by unfold sEq; exact beq_self_eq_true _
theorem sEq_ne {a b : Str} (h : sEq a b = false) : a ≠ b := fun e => by rw [e, sEq_self] at h; cases h
theorem sEq_beq {a b : Str} (h : sEq a b = false) : (a == b) = false := beq_eq_false_iff_ne.mpr (sEq_ne h)
def lkS {α : Type} : List (Str × α) → Str → Option α
  | [], _ => none
  | (y, a) :: r, x => if sEq x y then some a else lkS r x
theorem lkS_lookup {α : Type} {x : Str} {a : α} : ∀ {l : List (Str × α)}, lkS l x = some a → l.lookup x = some a
  | [], h => by cases h
  | (y, b) :: r, h => by
    unfold lkS at h
    rw [List.lookup_cons]
    cases e : sEq x y with
    | true =>
      rw [e, if_pos rfl] at h
      rw [sEq_eq e, beq_self_eq_true]
      exact h
    | false =>
      rw [e, if_neg Bool.false_ne_true] at h
      rw [sEq_beq e]
      exact lkS_lookup h
def ixOf : List Str → Str → Option Nat
  | [], _ => none
  | y :: ys, x => if sEq x y then some 0 else (ixOf ys x).map (· + 1)
theorem ixOf_get {x : Str} : ∀ {N : List Str} {i : Nat}, ixOf N x = some i → N[i]? = some x
  | [], _, h => by cases h
  | y :: ys, i, h => by
    unfold ixOf at h
    cases e : sEq x y with
    | true =>
      rw [e, if_pos rfl] at h
      cases h
      rw [sEq_eq e]
      rfl
    | false =>
      rw [e, if_neg Bool.false_ne_true] at h
      cases e2 : ixOf ys x with
      | none => rw [e2] at h; cases h
      | some j =>
        rw [e2] at h
        cases h
        show (y :: ys)[j + 1]? = some x
        rw [List.getElem?_cons_succ]
        exact ixOf_get e2

structure CE (F : Type) where
  N : List Str
  sc : Scope
  fb : Str → Bool
  fn : Str → Option (F × List Bool)
  cs : Str → Option D
  fr : Str → Bool
section
variable {F : Type}
def CE.kd (c : CE F) (x : Str) : Option NameKind := lkS c.sc.names x
def CE.gl (c : CE F) (x : Str) : Bool := match c.kd x with
  | some .globalImplicit => true
  | _ => false
def CE.vis (c : CE F) (x : Str) : Bool := match c.kd x with
  | some .local => true | some .cell => true | some .free => true
  | _ => false
def CE.loc (c : CE F) (x : Str) : Bool := match c.kd x with
  | some .local => true | some .cell => true
  | _ => false
def CE.st (c : CE F) (x : Str) : Bool := c.loc x && (c.fb x || match c.kd x with | some .local => true | _ => false)
def CE.lcl (c : CE F) (x : Str) : Bool := match c.kd x with
  | some .local => true
  | _ => false
def opOf : Operator → Option Op
  | .Add => some .add | .Sub => some .sub | .Mult => some .mul | .FloorDiv => some .fdiv | .Mod => some .mod | .Pow => some .pow
  | _ => none
def cmOf : CmpOp → Option Cm
  | .Eq => some .eq | .NotEq => some .ne | .Lt => some .lt | .LtE => some .le | .Gt => some .gt | .GtE => some .ge | .In => some .isin | .NotIn => some .notin | .Is => some .is | .IsNot => some .isnot
theorem opOf_py {o : Operator} {p : Op} (h : opOf o = some p) : o = opPy p := by cases o <;> cases h <;> rfl
theorem cmOf_py {o : CmpOp} {p : Cm} (h : cmOf o = some p) : o = cmPy p := by cases o <;> cases h <;> rfl
def biOf (x : Str) : Option Bi :=
  if sEq x "len" then some .len else if sEq x "tuple" then some .tuple else if sEq x "list" then some .list else if sEq x "all" then some .all else if sEq x "any" then some .any else
  if sEq x "sorted" then some .sorted else if sEq x "int" then some .int else if sEq x "str" then some .str else if sEq x "bool" then some .bool else if sEq x "min" then some .min else none
theorem biOf_nm {x : Str} {b : Bi} (h : biOf x = some b) : x = (biNm b : String) := by
  unfold biOf at h
  repeat' (split at h)
  all_goals first
    | (cases h; exact sEq_eq (by assumption))
    | cases h
def tyOf (x : Str) : Option Ty :=
  if sEq x "tuple" then some .tuple else if sEq x "list" then some .list else if sEq x "int" then some .int else if sEq x "bool" then some .bool else if sEq x "str" then some .str else none
theorem tyOf_nm {x : Str} {b : Ty} (h : tyOf x = some b) : x = (tyNm b : String) := by
  unfold tyOf at h
  repeat' (split at h)
  all_goals first
    | (cases h; exact sEq_eq (by assumption))
    | cases h
def noDbg (x : Str) : Bool := !sEq x "__debug__" && !sEq x "__classdict__"
def plainIx : Expr → Bool
  | .Slice .. => false
  | .Constant .. => true
  | _ => true
/-- a test is its value's truth, its parts' truth -/
def tst : Nat → Expr → Bool
  | 0, _ => false
  | n + 1, e => match e with
    | .IfExp .. => false
    | .UnaryOp .Not a _ => tst n a
    | .BoolOp _ vs _ => vs.all (tst n)
    | .Compare _ [_] [_] _ => true
    | .Compare _ [_, _] [_, _] _ => true
    | .Compare .. => false
    | _ => true
def ownOf (N : List Str) : List (Str × NameKind) → List (Str × Nat)
  | [] => []
  | (n, k) :: r => match k with
    | .local => (match ixOf N n with | some i => (n, i) :: ownOf N r | none => ownOf N r)
    | .cell => (match ixOf N n with | some i => (n, i) :: ownOf N r | none => ownOf N r)
    | _ => ownOf N r
def CE.block (c : CE F) (scope : Scope) : CE F := { c with sc := relS scope c.sc, fb := fun x => match lkS scope.names x with | some .cell => true | _ => false }
def cNm (c : CE F) : Expr → Option Nat
  | .Name x _ => if c.st x then ixOf c.N x else none
  | _ => none
def cNms (c : CE F) : List Expr → Option (List Nat)
  | [] => some []
  | e :: es => match cNm c e, cNms c es with
    | some i, some is => some (i :: is)
    | _, _ => none
def cTg (c : CE F) : Expr → Option Tg
  | .Tuple es _ _ => (cNms c es).map .tp
  | e => (cNm c e).map .nm
mutual
def cE (c : CE F) : Nat → Expr → Option (PX F)
  | 0, _ => none
  | n + 1, e => match e with
    | .Constant k _ _ => (match k with
      | .none => some (.lit .none) | .bool b => some (.lit (.bool b)) | .int i => some (.lit (.int i)) | .str s => some (.lit (.str s))
      | _ => none)
    | .Name x _ => if noDbg x then (if c.vis x then (ixOf c.N x).map .loc else if c.gl x then (c.cs x).map .lit else none) else none
    | .Tuple es _ _ => if es.all noStar then (cEs c n [] es).map .tup else none
    | .List es _ => if es.all noStar then (cEs c n [] es).map .lst else none
    | .BinOp a op b _ => (match opOf op, cE c n a, cE c n b with
      | some o, some p, some q => some (.bin o p q)
      | _, _, _ => none)
    | .UnaryOp op a _ => (match op, cE c n a with
      | .USub, some p => some (.neg p)
      | .Not, some p => some (.not p)
      | _, _ => none)
    | .BoolOp op vs _ => cB c n op vs
    | .Compare a ops es _ => (match ops, es with
      | [o], [b] => (match cmOf o, cE c n a, cE c n b with
        | some k, some p, some q => if behindInMarks o b then none else some (.cmp k p q)
        | _, _, _ => none)
      | [o, o'], [b, e] => (match cmOf o, cmOf o', cE c n a, cE c n b, cE c n e with
        | some k, some k', some p, some q, some r => if lastMarks [o, o'] [b, e] then none else some (.chain k k' p q r)
        | _, _, _, _, _ => none)
      | _, _ => none)
    | .IfExp t a b _ => if tst n t then (match cE c n t, cE c n a, cE c n b with
      | some p, some q, some r => some (.ite p q r)
      | _, _, _ => none) else none
    | .Subscript a s _ => (match s with
      | .Slice lo hi st _ => (match st with
        | none => (match cE c n a, cO c n lo, cO c n hi with
          | some p, some q, some r => some (.sli p q r)
          | _, _, _ => none)
        | some (.UnaryOp .USub (.Constant (.int 1) _ _) _) => (match lo, hi with
          | none, none => (cE c n a).map .rev
          | _, _ => none)
        | _ => none)
      | s => (match cE c n a, cE c n s with
        | some p, some q => if plainIx s then some (.idx p q) else none
        | _, _ => none))
    | .Call f args kws pos => (match kws with
      | [] => cC c n f args pos
      | _ => none)
    | .ListComp elt gs scope _ => (match gs with
      | [⟨tg, iter, ifs, a⟩] => if a == 0 && noSet iter && blkC c.N c.sc scope (ownOf c.N scope.names) then
          (match cTg (c.block scope) tg, cI c n tg iter, cF (c.block scope) n ifs, cE (c.block scope) n elt with
          | some t, some i, some q, some p => if t.ns.all fun j => ((ownOf c.N scope.names).map (·.2)).contains j then some (.comp p t i q ((ownOf c.N scope.names).map (·.2))) else none
          | _, _, _, _ => none) else none
      | _ => none)
    | _ => none
def cEs (c : CE F) : Nat → List Bool → List Expr → Option (PXs F)
  | 0, _, _ => none
  | n + 1, ks, es => match es with
    | [] => some .nil
    | e :: r => (match cE c n e, cEs c n ks.tail r with
      | some p, some q => some (.cons (ks.headD false) p q)
      | _, _ => none)
def cB (c : CE F) : Nat → BoolOp → List Expr → Option (PX F)
  | 0, _, _ => none
  | n + 1, op, es => match es with
    | [] => none
    | [a] => cE c n a
    | a :: r => (match cE c n a, cB c n op r with
      | some p, some q => some (match op with | .And => .and p q | .Or => .or p q)
      | _, _ => none)
def cO (c : CE F) : Nat → Option Expr → Option (PO F)
  | 0, _ => none
  | n + 1, o => match o with
    | none => some .no
    | some e => (cE c n e).map .so
def cF (c : CE F) : Nat → List Expr → Option (PO F)
  | 0, _ => none
  | n + 1, es => match es with
    | [] => some .no
    | [e] => if tst n e then (cE c n e).map .so else none
    | _ => none
def cC (c : CE F) : Nat → Expr → List Expr → Pos → Option (PX F)
  | 0, _, _, _ => none
  | n + 1, f, args, pos => match f with
    | .Name x _ => if c.gl x && noDbg x then (match c.fn x with
      | some (i, ks) => if args.all noStar then (cEs c n ks args).map (.call i) else none
      | none => if c.fr x then (match biOf x with
        | some b => if args.all noStar && !args.isEmpty then (cEs c n [] args).map (.blt b) else none
        | none => if sEq x "isinstance" then (match args with
          | [e, .Name y _] => (match tyOf y, cE c n e with
            | some t, some p => if c.gl y && c.fr y && noStar e then some (.isi p [t]) else none
            | _, _ => none)
          | [e, .Tuple [.Name y1 _, .Name y2 _] _ _] => (match tyOf y1, tyOf y2, cE c n e with
            | some t1, some t2, some p => if c.gl y1 && c.fr y1 && c.gl y2 && c.fr y2 && noStar e then some (.isi p [t1, t2]) else none
            | _, _, _ => none)
          | _ => none) else none) else none) else none
    | .Attribute o m apos => if noSup o && (apos.endLine == pos.line) then (match args with
      | [] => if sEq m "pop" then (cE c n o).map .mpop else none
      | [e] => if noStar e then (match cE c n o, cE c n e with
        | some p, some q => if sEq m "append" then some (.app p q) else if sEq m "join" then some (.join p q) else if sEq m "split" then some (.split p q) else if sEq m "index" then some (.midx p q) else none
        | _, _ => none) else none
      | _ => none) else none
    | _ => none
def cI (c : CE F) : Nat → Expr → Expr → Option (It F)
  | 0, _, _ => none
  | n + 1, tg, e => match e with
    | .Call (.Name x _) args [] _ => if sEq x "range" && c.gl x && c.fr x then (match args with
        | [a] => if noStar a then (cE c n a).map .rng1 else none
        | [a, b] => if noStar a && noStar b then (match cE c n a, cE c n b with
          | some p, some q => some (.rng2 p q)
          | _, _ => none) else none
        | [a, b, d] => if noStar a && noStar b && noStar d then (match cE c n a, cE c n b, cE c n d with
          | some p, some q, some r => some (.rng3 p q r)
          | _, _, _ => none) else none
        | _ => none) else if sEq x "enumerate" && c.gl x && c.fr x then (match tg, args with
        | .Tuple _ _ _, [a] => if noStar a then (cE c n a).map .enum else none
        | _, _ => none) else if sEq x "zip" && c.gl x && c.fr x then (match tg, args with
        | .Tuple _ _ _, [a, b] => if noStar a && noStar b then (match cE c n a, cE c n b with
          | some p, some q => some (.zip p q)
          | _, _ => none) else none
        | _, _ => none) else (cE c n e).map .of
    | _ => (cE c n e).map .of
end
def nonLcl {F : Type} (c : CE F) : Expr → Bool
  | .Name x _ => !c.lcl x
  | _ => true
def noTup : Expr → Bool
  | .Tuple .. => false
  | _ => true
def isDoc : Stmt → Bool
  | .Expr (.Constant (.str _) _ _) _ => true
  | _ => false
mutual
def cS (c : CE F) : Nat → Stmt → Option (PS F)
  | 0, _ => none
  | n + 1, s => match s with
    | .Pass _ => some .pass
    | .Raise _ _ _ => some (.rais 0 .nil)
    | .Expr e _ => (match e with
      | .Constant (.str _) _ _ => some .pass
      | e => if noComp e then (cE c n e).map .ex else none)
    | .Return o _ => (match o with
      | none => some .ret0
      | some e => (cE c n e).map .ret)
    | .If t a b _ => if tst n t then (match cE c n t, cSs c n a, cSs c n b with
      | some p, some q, some r => some (.iff p q r)
      | _, _, _ => none) else none
    | .While t a b _ => (match b with
      | [] => if tst n t then (match cE c n t, cSs c n a with
        | some p, some q => some (.whl p q)
        | _, _ => none) else none
      | _ => none)
    | .For tg iter a b _ => (match b with
      | [] => if noSet iter then (match cTg c tg, cI c n tg iter, cSs c n a with
        | some t, some i, some q => some (.for t i q)
        | _, _, _ => none) else none
      | _ => none)
    | .AugAssign tg op e _ => (match tg, op with
      | .Name x _, .Add => if c.st x then (match ixOf c.N x, cE c n e with
        | some i, some p => some (.aug i .add p)
        | _, _ => none) else none
      | _, _ => none)
    | .Assign tgs e pos => (match tgs with
      | [.Name x px] => if c.st x then (match ixOf c.N x, cE c n e with
        | some i, some p => (match e with
          | .ListComp _ _ scope cpos => if c.lcl x && (px.line == cpos.line) && !(scope.names.any fun (m, k) => m == x && (k == .local || k == .cell)) then some (.asg (.nm i) p) else some (.asg (.nm i) p)
          | _ => if noComp e then some (.asg (.nm i) p) else none)
        | _, _ => none) else none
      | [.Subscript o i _] => if noSlice i && noComp e then (match cE c n e, cE c n o, cE c n i with
        | some p, some q, some r => some (.set q r p)
        | _, _, _ => none) else none
      | [.Tuple ts _ _] => (match e with
        | .Tuple vs _ _ => if vs.all (foldedForSure 8) || ts.any (nonLcl c) then (match cNms c ts, cE c n e with
          | some is, some p => some (.asg (.tp is) p)
          | _, _ => none) else if vs.all noStar && !(vs.all (foldedForSure 8)) && !(vs.all (constantsAlone 8)) then (match ts, vs with
          | [.Name x px, .Name y py], [a, b] => if c.lcl x && c.lcl y && !sEq x y && (px.line == py.line) then (match ixOf c.N x, ixOf c.N y, cEs c n [] [a, b] with
            | some i, some j, some q => if i == j then none else some (.par [i, j] q)
            | _, _, _ => none) else none
          | [.Name x px, .Name y py, .Name z pz], [a, b, d] => if c.lcl x && c.lcl y && c.lcl z && !sEq x y && !sEq x z && !sEq y z && (px.line == py.line) && (px.line == pz.line) then (match ixOf c.N x, ixOf c.N y, ixOf c.N z, cEs c n [] [a, b, d] with
            | some i, some j, some k, some q => if i == j || i == k || j == k then none else some (.par [i, j, k] q)
            | _, _, _, _ => none) else none
          | _, _ => none) else none
        | e => if noComp e then (match cNms c ts, cE c n e with
          | some is, some p => some (.asg (.tp is) p)
          | _, _ => none) else none)
      | _ => none)
    | _ => none
def cSs (c : CE F) : Nat → List Stmt → Option (PSs F)
  | 0, _ => none
  | n + 1, es => match es with
    | [] => some .nil
    | e :: r => (match cS c n e, cSs c n r with
      | some p, some q => some (.cons p q)
      | _, _ => none)
end
end
end DL
end
section
set_option Elab.async false
set_option linter.all false
set_option maxRecDepth 100000
set_option autoImplicit false
set_option maxHeartbeats 4000000
/-! DLo: what is compiled is sound: expressions. -/
namespace DL
open PySem PySem.Spec PyProof.Rows L2

structure CtxOk {F : Type} (X : Cx) (RX : RXT) (Φ : F → List Val → Store → R Val) (c : CE F) : Prop where
  N : X.N = c.N
  nd : c.N.Nodup
  sc : X.env.scope = c.sc
  calm : X.calm = true
  units : X.A.units + 200 < cLine
  fb : ∀ x, c.fb x = true → X.fn x = true
  fns : ∀ x i ks, c.fn x = some (i, ks) → ∃ k f fd ps, FnOk X.prog X.w X.K X.mg X.base (L2.CX X.prog X.w) k f fd ps (spOf X.K RX (Φ i)) ∧ Room k X.A ∧ X.mg x = some (.ref f) ∧ PySem.W.keepIn X.K (.ref f) = true ∧ Binds X.K fd ps []
  css : ∀ x d, c.cs x = some d → ∃ u v, X.mg x = some u ∧ RelV v u ∧ ∀ H Lv, Rep X.K H Lv v d
  frs : ∀ x, c.fr x = true → X.mg x = none
section
variable {F : Type} {X : Cx} {RX : RXT} {Φ : F → List Val → Store → R Val} {c : CE F}
theorem CtxOk.kd (C : CtxOk X RX Φ c) {x : Str} {k : NameKind} (h : c.kd x = some k) : X.env.scope.names.lookup x = some k := by rw [C.sc]; exact lkS_lookup h
theorem CtxOk.gl (C : CtxOk X RX Φ c) {x : Str} (h : c.gl x = true) : Gl X x := by
  unfold CE.gl at h
  split at h
  · exact C.kd (by assumption)
  · cases h
theorem CtxOk.vis (C : CtxOk X RX Φ c) {x : Str} (h : c.vis x = true) : Vis X.env.scope x := by
  unfold CE.vis at h
  split at h
  · exact .inl (C.kd (by assumption))
  · exact .inr (.inl (C.kd (by assumption)))
  · exact .inr (.inr (C.kd (by assumption)))
  · cases h
theorem CtxOk.loc (C : CtxOk X RX Φ c) {x : Str} (h : c.loc x = true) : Loc X.env.scope x := by
  unfold CE.loc at h
  split at h
  · exact .inl (C.kd (by assumption))
  · exact .inr (C.kd (by assumption))
  · cases h
theorem CtxOk.lcl (C : CtxOk X RX Φ c) {x : Str} (h : c.lcl x = true) : X.env.scope.names.lookup x = some .local := by
  unfold CE.lcl at h
  split at h
  · exact C.kd (by assumption)
  · cases h
theorem CtxOk.st (C : CtxOk X RX Φ c) {x : Str} (h : c.st x = true) : Loc X.env.scope x ∧ (X.fn x = true ∨ X.env.scope.names.lookup x = some .local) := by
  unfold CE.st at h
  rw [Bool.and_eq_true, Bool.or_eq_true] at h
  refine ⟨C.loc h.1, ?_⟩
  rcases h.2 with h | h
  · exact .inl (C.fb x h)
  · split at h
    · exact .inr (C.kd (by assumption))
    · cases h
theorem CtxOk.get (C : CtxOk X RX Φ c) {x : Str} {i : Nat} (h : ixOf c.N x = some i) : X.N[i]? = some x := by rw [C.N]; exact ixOf_get h
theorem CtxOk.ndX (C : CtxOk X RX Φ c) : X.N.Nodup := by rw [C.N]; exact C.nd
theorem noDbg_1 {x : Str} (h : noDbg x = true) : (x == ("__debug__" : Str)) = false ∧ (x == ("__classdict__" : Str)) = false := by
  unfold noDbg at h
  rw [Bool.and_eq_true, Bool.not_eq_true', Bool.not_eq_true'] at h
  exact ⟨sEq_beq h.1, sEq_beq h.2⟩
theorem plainIx_ok {b : Expr} (h : plainIx b = true) : PlainIx b := fun o i => by
  cases b <;> first | rfl | cases h
/-- the block's own context -/
theorem CtxOk.block (C : CtxOk X RX Φ c) {scope : Scope} (s : Shared) (H : Hp) (A : Addr) (cl : List (Str × Addr)) (fp : List Addr) : CtxOk (X.blk s H scope (compEnvC scope cl A X.env) fp) RX Φ (c.block scope) where
  N := C.N
  nd := C.nd
  sc := by
    show (compEnvC scope cl A X.env).scope = relS scope c.sc
    rw [← C.sc]
    rfl
  calm := C.calm
  units := C.units
  fb := fun x h => by
    have h : (match lkS scope.names x with | some .cell => true | _ => false) = true := h
    split at h
    · rename_i e
      show (scope.names.lookup x == some .cell) = true
      rw [lkS_lookup e]
      rfl
    · cases h
  fns := C.fns
  css := C.css
  frs := C.frs
/-! targets -/
theorem nm_ok (C : CtxOk X RX Φ c) {e : Expr} {i : Nat} (h : cNm c e = some i) : PG X e (gName i) := by
  cases e with
  | Name x p =>
    unfold cNm at h
    dsimp only at h
    split at h
    · rename_i hs
      obtain ⟨h1, h2⟩ := C.st hs
      exact pg_name C.ndX (C.get h) h1 h2
    · cases h
  | _ => cases h
theorem nm_each {e : Expr} {i : Nat} (h : cNm c e = some i) : noStar e = true := by
  cases e <;> first | rfl | cases h
theorem each_cons {e : Expr} {es : List Expr} {env : PySem.Env} (h : noStar e = true) : assignEach (e :: es) env = (false, assign e env) :: assignEach es env := by
  cases e <;> first | rfl | cases h
theorem nms_ok (C : CtxOk X RX Φ c) : ∀ {es : List Expr} {is : List Nat}, cNms c es = some is → PGs X es (gNs is) ∧ (assignEach es X.env).length = is.length ∧ (assignEach es X.env).findIdx? (·.1) = none
  | [], is, h => by cases h; exact ⟨pgs_nil, rfl, rfl⟩
  | e :: es, is, h => by
    unfold cNms at h
    split at h
    · rename_i i is' e1 e2
      cases h
      obtain ⟨h1, h2, h3⟩ := nms_ok C e2
      have hn := nm_each e1
      refine ⟨pgs_cons (nm_ok C e1) h1 (by rw [each_cons hn]; rfl), by rw [each_cons hn, List.length_cons, List.length_cons, h2], ?_⟩
      rw [each_cons hn, List.findIdx?_cons, h3]
      rfl
    · cases h
theorem tup_ok (C : CtxOk X RX Φ c) {es : List Expr} {is : List Nat} {k : Nat} {p : Pos} (h : cNms c es = some is) : PG X (.Tuple es k p) (gOf X.K (.tp is)) := by
  obtain ⟨h1, h2, h3⟩ := nms_ok C h
  exact pg_tup C.calm h1 h2 h3
theorem tg_ok (C : CtxOk X RX Φ c) {e : Expr} {t : Tg} (h : cTg c e = some t) : PG X e (gOf X.K t) := by
  cases e with
  | Tuple es k p =>
    unfold cTg at h
    dsimp only at h
    cases e1 : cNms c es with
    | none => rw [e1] at h; cases h
    | some is => rw [e1] at h; cases h; exact tup_ok C e1
  | Name x p =>
    unfold cTg at h
    dsimp only at h
    cases e1 : cNm c (.Name x p) with
    | none => rw [e1] at h; cases h
    | some i => rw [e1] at h; cases h; exact nm_ok C e1
  | _ => cases h

structure Snd (F : Type) (RX : RXT) (Φ : F → List Val → Store → R Val) (n : Nat) : Prop where
  e : ∀ (c : CE F) (X : Cx) (W : WX), CtxOk X RX Φ c → Takes X W → ∀ e p, cE c n e = some p → PE X e (tX X.K RX W (ev Φ p))
  t : ∀ (c : CE F) (X : Cx) (W : WX), CtxOk X RX Φ c → Takes X W → ∀ e p, cE c n e = some p → ∀ k, tst k e = true → PT X e (tT X.K RX W (evT Φ p))
  es : ∀ (c : CE F) (X : Cx) (W : WX), CtxOk X RX Φ c → Takes X W → ∀ ks es p, cEs c n ks es = some p → es.all noStar = true → PA X es (tA X.K RX W (evs Φ p))
  b : ∀ (c : CE F) (X : Cx) (W : WX), CtxOk X RX Φ c → Takes X W → ∀ op es p pos, cB c n op es = some p → PE X (.BoolOp op es pos) (tX X.K RX W (ev Φ p))
  w : ∀ (c : CE F) (X : Cx) (W : WX), CtxOk X RX Φ c → Takes X W → ∀ op es p pos, cB c n op es = some p → ∀ k, es.all (tst k) = true → PW X (.BoolOp op es pos) (tT X.K RX W (evT Φ p))
  o : ∀ (c : CE F) (X : Cx) (W : WX), CtxOk X RX Φ c → Takes X W → ∀ o p, cO c n o = some p → L2.PO X o (tO X.K RX W (evO Φ p))
  f : ∀ (c : CE F) (X : Cx) (W : WX), CtxOk X RX Φ c → Takes X W → ∀ es p, cF c n es = some p → PTs X es (tT X.K RX W (evC Φ p))
  c : ∀ (c : CE F) (X : Cx) (W : WX), CtxOk X RX Φ c → Takes X W → ∀ f args pos p, cC c n f args pos = some p → PE X (.Call f args [] pos) (tX X.K RX W (ev Φ p))
  i : ∀ (c : CE F) (X : Cx) (W : WX), CtxOk X RX Φ c → Takes X W → ∀ tg e p, cI c n tg e = some p → PI X tg e (tI X.K RX W (evI Φ p))
theorem ok_const {W : WX} {k : Const} {j : Nat} {pos : Pos} {d : D} (v : V) (h : PE X (.Constant k j pos) (tC v)) (r : ∀ H Lv, Rep X.K H Lv v d) : PE X (.Constant k j pos) (tX X.K RX W (ev Φ (.lit d : PX F))) :=
  ok_lit h fun σ H Q q => q v fun Lv => r H Lv
theorem snd_es {n : Nat} (ih : Snd F RX Φ n) {W : WX} (C : CtxOk X RX Φ c) (tk : Takes X W) {ks : List Bool} {es : List Expr} {p : PXs F} (h : cEs c (n + 1) ks es = some p) (hs : es.all noStar = true) : PA X es (tA X.K RX W (evs Φ p)) := by
  cases es with
  | nil => unfold cEs at h; cases h; exact ok_nil
  | cons e r =>
    unfold cEs at h
    dsimp only at h
    rw [List.all_cons, Bool.and_eq_true] at hs
    split at h
    · rename_i p1 q1 e1 e2
      cases h
      exact ok_cons (ih.e c X W C tk e p1 e1) (ih.es c X W C tk _ r q1 e2 hs.2) (star_cons hs.1)
    · cases h
theorem snd_b {n : Nat} (ih : Snd F RX Φ n) {W : WX} (C : CtxOk X RX Φ c) (tk : Takes X W) {op : BoolOp} {es : List Expr} {p : PX F} {pos : Pos} (h : cB c (n + 1) op es = some p) : PE X (.BoolOp op es pos) (tX X.K RX W (ev Φ p)) := by
  cases es with
  | nil => unfold cB at h; cases h
  | cons a r =>
  cases r with
  | nil =>
    unfold cB at h
    exact pe_one (ih.e c X W C tk a p h)
  | cons b r =>
    unfold cB at h
    dsimp only at h
    split at h
    · rename_i p1 q1 e1 e2
      cases h
      have ha := ih.e c X W C tk a p1 e1
      have hb := ih.b c X W C tk op (b :: r) q1 pos e2
      cases op with
      | And => exact ok_and ha hb
      | Or => exact ok_or ha hb
    · cases h
theorem snd_w {n : Nat} (ih : Snd F RX Φ n) {W : WX} (C : CtxOk X RX Φ c) (tk : Takes X W) {op : BoolOp} {es : List Expr} {p : PX F} {pos : Pos} (h : cB c (n + 1) op es = some p) {k : Nat} (ht : es.all (tst k) = true) : PW X (.BoolOp op es pos) (tT X.K RX W (evT Φ p)) := by
  cases es with
  | nil => unfold cB at h; cases h
  | cons a r =>
  rw [List.all_cons, Bool.and_eq_true] at ht
  cases r with
  | nil =>
    unfold cB at h
    have ha := ih.t c X W C tk a p h k ht.1
    cases op with
    | And => exact pw_and1 ha
    | Or => exact pw_or1 ha
  | cons b r =>
    unfold cB at h
    dsimp only at h
    split at h
    · rename_i p1 q1 e1 e2
      cases h
      have ha := ih.t c X W C tk a p1 e1 k ht.1
      have hb := ih.w c X W C tk op (b :: r) q1 pos e2 k ht.2
      cases op with
      | And => exact ok_andT ha hb
      | Or => exact ok_orT ha hb
    · cases h
theorem snd_o {n : Nat} (ih : Snd F RX Φ n) {W : WX} (C : CtxOk X RX Φ c) (tk : Takes X W) {o : Option Expr} {p : PO F} (h : cO c (n + 1) o = some p) : L2.PO X o (tO X.K RX W (evO Φ p)) := by
  cases o with
  | none => unfold cO at h; cases h; exact ok_poNo
  | some e =>
    unfold cO at h
    dsimp only at h
    cases e1 : cE c n e with
    | none => rw [e1] at h; cases h
    | some q => rw [e1] at h; cases h; exact ok_poSo (ih.e c X W C tk e q e1)
theorem snd_f {n : Nat} (ih : Snd F RX Φ n) {W : WX} (C : CtxOk X RX Φ c) (tk : Takes X W) {es : List Expr} {p : PO F} (h : cF c (n + 1) es = some p) : PTs X es (tT X.K RX W (evC Φ p)) := by
  cases es with
  | nil => unfold cF at h; cases h; exact ok_ifs0
  | cons e r =>
  cases r with
  | nil =>
    unfold cF at h
    dsimp only at h
    split at h
    · rename_i ht
      cases e1 : cE c n e with
      | none => rw [e1] at h; cases h
      | some q => rw [e1] at h; cases h; exact ok_ifs1 (ih.t c X W C tk e q e1 n ht)
    · cases h
  | cons _ _ => unfold cF at h; cases h
theorem map_some {α β : Type} {f : α → β} {o : Option α} {b : β} (h : o.map f = some b) : ∃ a, o = some a ∧ b = f a := by
  cases o with
  | none => cases h
  | some a => cases h; exact ⟨a, rfl, rfl⟩
theorem ofI {n : Nat} (ih : Snd F RX Φ n) {W : WX} (C : CtxOk X RX Φ c) (tk : Takes X W) {tg e : Expr} {p : DL.It F} (h : (cE c n e).map DL.It.of = some p) : PI X tg e (tI X.K RX W (evI Φ p)) := by
  obtain ⟨q, e1, rfl⟩ := map_some h
  exact ok_iof (ih.e c X W C tk e q e1)
theorem snd_i {n : Nat} (ih : Snd F RX Φ n) {W : WX} (C : CtxOk X RX Φ c) (tk : Takes X W) {tg e : Expr} {p : DL.It F} (h : cI c (n + 1) tg e = some p) : PI X tg e (tI X.K RX W (evI Φ p)) := by
  unfold cI at h
  split at h
  · rename_i x px args kp
    split at h
    · rename_i hg
      rw [Bool.and_eq_true, Bool.and_eq_true] at hg
      obtain ⟨⟨h1, h2⟩, h3⟩ := hg
      have hx : x = "range" := sEq_eq h1
      split at h
      · rename_i a
        split at h
        · rename_i hn
          obtain ⟨q, e1, rfl⟩ := map_some h
          exact ok_rng1 hx (C.gl h2) (C.frs x h3) (ih.e c X W C tk a q e1) hn
        · cases h
      · rename_i a b
        split at h
        · rename_i hn
          rw [Bool.and_eq_true] at hn
          split at h
          · rename_i q r e1 e2
            cases h
            exact ok_rng2 hx (C.gl h2) (C.frs x h3) (ih.e c X W C tk a q e1) (ih.e c X W C tk b r e2) hn.1 hn.2
          · cases h
        · cases h
      · rename_i a b d
        split at h
        · rename_i hn
          rw [Bool.and_eq_true, Bool.and_eq_true] at hn
          split at h
          · rename_i q r t e1 e2 e3
            cases h
            exact ok_rng3 hx (C.gl h2) (C.frs x h3) (ih.e c X W C tk a q e1) (ih.e c X W C tk b r e2) (ih.e c X W C tk d t e3) hn.1.1 hn.1.2 hn.2
          · cases h
        · cases h
      · cases h
    · split at h
      · rename_i hg
        rw [Bool.and_eq_true, Bool.and_eq_true] at hg
        obtain ⟨⟨h1, h2⟩, h3⟩ := hg
        have hx : x = "enumerate" := sEq_eq h1
        split at h
        · rename_i ts k tp a
          split at h
          · rename_i hn
            obtain ⟨q, e1, rfl⟩ := map_some h
            exact ok_enum hx (C.gl h2) (C.frs x h3) (ih.e c X W C tk a q e1) hn
          · cases h
        · cases h
      · split at h
        · rename_i hg
          rw [Bool.and_eq_true, Bool.and_eq_true] at hg
          obtain ⟨⟨h1, h2⟩, h3⟩ := hg
          have hx : x = "zip" := sEq_eq h1
          split at h
          · rename_i ts k tp a b
            split at h
            · rename_i hn
              rw [Bool.and_eq_true] at hn
              split at h
              · rename_i q r e1 e2
                cases h
                exact ok_zip hx (C.gl h2) (C.frs x h3) (ih.e c X W C tk a q e1) (ih.e c X W C tk b r e2) hn.1 hn.2
              · cases h
            · cases h
          · cases h
        · exact ofI ih C tk h
  · exact ofI ih C tk h
theorem snd_c {n : Nat} (ih : Snd F RX Φ n) {W : WX} (C : CtxOk X RX Φ c) (tk : Takes X W) {f : Expr} {args : List Expr} {pos : Pos} {p : PX F} (h : cC c (n + 1) f args pos = some p) : PE X (.Call f args [] pos) (tX X.K RX W (ev Φ p)) := by
  unfold cC at h
  split at h
  · rename_i x px
    split at h
    · rename_i hg
      rw [Bool.and_eq_true] at hg
      obtain ⟨hg, hd⟩ := hg
      have gx := C.gl hg
      split at h
      · rename_i i ks e1
        split at h
        · rename_i hs
          obtain ⟨q, e2, rfl⟩ := map_some h
          obtain ⟨k, fa, fd, ps, h1, h2, h3, h4, h5⟩ := C.fns x i ks e1
          have ha := ih.es c X W C tk ks args q e2 hs
          cases args with
          | nil =>
            have : q = .nil := by
              cases n with
              | zero => cases e2
              | succ n => unfold cEs at e2; cases e2; rfl
            subst this
            exact ok_call0 tk h1 h2 gx h3 h4 h5 (noDbg_1 hd).1
          | cons a r => exact ok_call tk h1 h2 gx h3 h4 h5 hs (noDbg_1 hd).1 ha
        · cases h
      · split at h
        · rename_i hf
          have mx := C.frs x hf
          split at h
          · rename_i b hb
            split at h
            · rename_i hs
              rw [Bool.and_eq_true] at hs
              obtain ⟨q, e2, rfl⟩ := map_some h
              have ha := ih.es c X W C tk [] args q e2 hs.1
              cases args with
              | nil => cases hs.2
              | cons a r => exact ok_blt (biOf_nm hb) C.calm C.units gx mx hs.1 ha
            · cases h
          · split at h
            · rename_i hi
              have hx : x = "isinstance" := sEq_eq hi
              split at h
              · rename_i e y py
                split at h
                · rename_i t q e1 e2
                  split at h
                  · rename_i hc
                    cases h
                    rw [Bool.and_eq_true, Bool.and_eq_true] at hc
                    exact ok_isi hx (tyOf_nm e1) gx mx (C.gl hc.1.1) (C.frs y hc.1.2) hc.2 (ih.e c X W C tk e q e2)
                  · cases h
                · cases h
              · rename_i e y1 p1 y2 p2 k pt
                split at h
                · rename_i t1 t2 q e1 e2 e3
                  split at h
                  · rename_i hc
                    cases h
                    rw [Bool.and_eq_true, Bool.and_eq_true, Bool.and_eq_true, Bool.and_eq_true] at hc
                    obtain ⟨⟨⟨⟨a1, a2⟩, a3⟩, a4⟩, a5⟩ := hc
                    exact ok_isi2 hx (tyOf_nm e1) (tyOf_nm e2) gx mx (C.gl a1) (C.frs y1 a2) (C.gl a3) (C.frs y2 a4) a5 (ih.e c X W C tk e q e3)
                  · cases h
                · cases h
              · cases h
            · cases h
        · cases h
    · cases h
  · rename_i o m apos
    split at h
    · rename_i hc
      rw [Bool.and_eq_true] at hc
      split at h
      · split at h
        · rename_i hm
          obtain ⟨q, e1, rfl⟩ := map_some h
          have hm := sEq_eq hm
          subst hm
          exact ok_pop (ih.e c X W C tk o q e1) hc.1 hc.2
        · cases h
      · rename_i e
        split at h
        · rename_i hn
          split at h
          · rename_i q r e1 e2
            have ho := ih.e c X W C tk o q e1
            have he := ih.e c X W C tk e r e2
            split at h
            · rename_i hm
              have hm := sEq_eq hm
              subst hm
              cases h
              exact ok_app ho he hn hc.1 hc.2
            · split at h
              · rename_i hm
                have hm := sEq_eq hm
                subst hm
                cases h
                exact ok_join ho he hn hc.1 hc.2
              · split at h
                · rename_i hm
                  have hm := sEq_eq hm
                  subst hm
                  cases h
                  exact ok_split ho he hn hc.1 hc.2
                · split at h
                  · rename_i hm
                    have hm := sEq_eq hm
                    subst hm
                    cases h
                    exact ok_midx ho he hn hc.1 hc.2
                  · cases h
          · cases h
        · cases h
      · cases h
    · cases h
  · cases h
end
end DL
end
section
set_option Elab.async false
set_option linter.all false
set_option maxRecDepth 100000
set_option autoImplicit false
set_option maxHeartbeats 4000000
/-! DLp: what is compiled is sound: all forms, statements. -/
namespace DL
open PySem PySem.Spec PyProof.Rows L2
section
variable {F : Type} {X : Cx} {RX : RXT} {Φ : F → List Val → Store → R Val} {c : CE F}
theorem snd_e {n : Nat} (ih : Snd F RX Φ n) {W : WX} (C : CtxOk X RX Φ c) (tk : Takes X W) {e : Expr} {p : PX F} (h : cE c (n + 1) e = some p) : PE X e (tX X.K RX W (ev Φ p)) := by
  cases e with
  | Constant k j pos =>
    unfold cE at h
    dsimp only at h
    cases k with
    | none => cases h; exact ok_const .non pe_non fun _ _ => .non
    | bool b => cases h; exact ok_const (.bl b) pe_bl fun _ _ => .bl b
    | int i => cases h; exact ok_const (.int i) pe_int fun _ _ => .int i
    | str s => cases h; exact ok_const (.str s) pe_str fun _ _ => .str s
    | _ => cases h
  | Name x pos =>
    unfold cE at h
    dsimp only at h
    split at h
    · rename_i hd
      obtain ⟨d1, d2⟩ := noDbg_1 hd
      split at h
      · rename_i hv
        obtain ⟨i, e1, rfl⟩ := map_some h
        exact ok_loc (pe_var (C.get e1) (C.vis hv) d1 d2)
      · split at h
        · rename_i hg
          obtain ⟨d, e1, rfl⟩ := map_some h
          obtain ⟨u, v, h1, h2, h3⟩ := C.css x d e1
          exact ok_lit (pe_glob (C.gl hg) h1 h2 d1) fun σ H Q q => q v fun Lv => h3 H Lv
        · cases h
    · cases h
  | Tuple es k pos =>
    unfold cE at h
    dsimp only at h
    split at h
    · rename_i hs
      obtain ⟨q, e1, rfl⟩ := map_some h
      exact ok_tup (ih.es c X W C tk [] es q e1 hs)
    · cases h
  | List es pos =>
    unfold cE at h
    dsimp only at h
    split at h
    · rename_i hs
      obtain ⟨q, e1, rfl⟩ := map_some h
      exact ok_lst (ih.es c X W C tk [] es q e1 hs)
    · cases h
  | BinOp a op b pos =>
    unfold cE at h
    dsimp only at h
    split at h
    · rename_i o q r e1 e2 e3
      cases h
      rw [opOf_py e1]
      exact ok_bin (ih.e c X W C tk a q e2) (ih.e c X W C tk b r e3)
    · cases h
  | UnaryOp op a pos =>
    unfold cE at h
    dsimp only at h
    split at h
    · rename_i q e1
      cases h
      exact ok_neg (ih.e c X W C tk a q e1)
    · rename_i q e1
      cases h
      exact ok_not (ih.e c X W C tk a q e1)
    · cases h
  | BoolOp op vs pos =>
    unfold cE at h
    dsimp only at h
    exact ih.b c X W C tk op vs p pos h
  | Compare a ops es pos =>
    unfold cE at h
    dsimp only at h
    split at h
    · rename_i o b
      split at h
      · rename_i k q r e1 e2 e3
        split at h
        · cases h
        · rename_i hm
          cases h
          have hm := Bool.eq_false_iff.mpr hm
          have e := cmOf_py e1
          subst e
          exact ok_cmp C.units (ih.e c X W C tk a q e2) (ih.e c X W C tk b r e3) hm
      · cases h
    · rename_i o o' b e
      split at h
      · rename_i k k' q r s e1 e2 e3 e4 e5
        split at h
        · cases h
        · rename_i hm
          cases h
          have hm := Bool.eq_false_iff.mpr hm
          have e := cmOf_py e1
          subst e
          have e := cmOf_py e2
          subst e
          exact ok_chain C.units (ih.e c X W C tk a q e3) (ih.e c X W C tk b r e4) (ih.e c X W C tk _ s e5) fun h1 h2 => pe_chain h1 h2 (ih.e c X W C tk a q e3) (ih.e c X W C tk b r e4) (ih.e c X W C tk _ s e5) hm
      · cases h
    · cases h
  | IfExp t a b pos =>
    unfold cE at h
    dsimp only at h
    split at h
    · rename_i ht
      split at h
      · rename_i q r s e1 e2 e3
        cases h
        exact ok_ite (ih.t c X W C tk t q e1 n ht) (ih.e c X W C tk a r e2) (ih.e c X W C tk b s e3)
      · cases h
    · cases h
  | Subscript a s pos =>
    unfold cE at h
    dsimp only at h
    split at h
    · rename_i lo hi st p2
      split at h
      · split at h
        · rename_i q r t e1 e2 e3
          cases h
          exact ok_sli (ih.e c X W C tk a q e1) (ih.o c X W C tk lo r e2) (ih.o c X W C tk hi t e3)
        · cases h
      · split at h
        · obtain ⟨q, e1, rfl⟩ := map_some h
          exact ok_rev (ih.e c X W C tk a q e1)
        · cases h
      · cases h
    · split at h
      · rename_i q r e1 e2
        split at h
        · rename_i hp
          cases h
          exact ok_idx (ih.e c X W C tk a q e1) (ih.e c X W C tk s r e2) (plainIx_ok hp)
        · cases h
      · cases h
  | Call f args kws pos =>
    unfold cE at h
    dsimp only at h
    split at h
    · exact ih.c c X W C tk f args pos p h
    · cases h
  | ListComp elt gs scope pos =>
    unfold cE at h
    dsimp only at h
    split at h
    · rename_i tg iter ifs a
      split at h
      · rename_i hc
        rw [Bool.and_eq_true, Bool.and_eq_true] at hc
        obtain ⟨⟨h1, h2⟩, h3⟩ := hc
        have h1 := eq_of_beq h1
        subst h1
        split at h
        · rename_i t i q r e1 e2 e3 e4
          split at h
          · rename_i ho
            cases h
            rw [List.all_eq_true] at ho
            have ok : BlkOk X.N X.env.scope scope (ownOf c.N scope.names) := by
              rw [C.N, C.sc]
              exact blkOk_by h3
            refine ok_comp C.calm C.ndX (ih.i c X W C tk tg iter i e2) ok (fun j hj => List.contains_iff_mem.mp (ho j hj)) (fun s H A cl fp => tg_ok (C.block s H A cl fp) e1) (fun s H A cl fp => ih.f (c.block scope) _ W0 (C.block s H A cl fp) takes0 ifs q e3)
              (fun s H A cl fp => ih.e (c.block scope) _ W0 (C.block s H A cl fp) takes0 elt r e4) h2
          · cases h
        · cases h
      · cases h
    · cases h
  | _ => unfold cE at h; cases h
theorem snd_t {n : Nat} (ih : Snd F RX Φ n) {W : WX} (C : CtxOk X RX Φ c) (tk : Takes X W) {e : Expr} {p : PX F} (h : cE c (n + 1) e = some p) {k : Nat} (ht : tst k e = true) : PT X e (tT X.K RX W (evT Φ p)) := by
  have pe := snd_e ih C tk h
  cases k with
  | zero => cases ht
  | succ k =>
  cases e with
  | IfExp t a b pos => cases ht
  | UnaryOp op a pos =>
    cases op with
    | Not =>
      have ht : tst k a = true := ht
      unfold cE at h
      dsimp only at h
      cases e1 : cE c n a with
      | none => rw [e1] at h; cases h
      | some q =>
        rw [e1] at h
        cases h
        exact ok_notT (ih.t c X W C tk a q e1 k ht)
    | _ => exact ok_truth pe fun _ => rfl
  | BoolOp op vs pos =>
    have ht : vs.all (tst k) = true := ht
    unfold cE at h
    exact (ih.w c X W C tk op vs p pos h k ht).pt
  | Compare a ops es pos =>
    unfold cE at h
    dsimp only at h
    split at h
    · rename_i o b
      split at h
      · rename_i kk q r e1 e2 e3
        split at h
        · cases h
        · rename_i hm
          cases h
          have hm := Bool.eq_false_iff.mpr hm
          have e := cmOf_py e1
          subst e
          exact ok_cmpT C.units (ih.e c X W C tk a q e2) (ih.e c X W C tk b r e3) hm
      · cases h
    · rename_i o o' b e
      split at h
      · rename_i kk kk' q r s e1 e2 e3 e4 e5
        split at h
        · cases h
        · rename_i hm
          cases h
          have hm := Bool.eq_false_iff.mpr hm
          have e := cmOf_py e1
          subst e
          have e := cmOf_py e2
          subst e
          exact ok_chainT C.units (ih.e c X W C tk a q e3) (ih.e c X W C tk b r e4) (ih.e c X W C tk _ s e5) hm
      · cases h
    · cases h
  | _ => exact ok_truth pe fun _ => rfl
theorem snd_all : ∀ n, Snd F RX Φ n
  | 0 => ⟨fun _ _ _ _ _ _ _ h => (by unfold cE at h; cases h), fun _ _ _ _ _ _ _ h => (by unfold cE at h; cases h), fun _ _ _ _ _ _ _ _ h => (by unfold cEs at h; cases h), fun _ _ _ _ _ _ _ _ _ h => (by unfold cB at h; cases h), fun _ _ _ _ _ _ _ _ _ h => (by unfold cB at h; cases h),
    fun _ _ _ _ _ _ _ h => (by unfold cO at h; cases h), fun _ _ _ _ _ _ _ h => (by unfold cF at h; cases h), fun _ _ _ _ _ _ _ _ _ h => (by unfold cC at h; cases h), fun _ _ _ _ _ _ _ _ h => (by unfold cI at h; cases h)⟩
  | n + 1 =>
    have ih := snd_all n
    ⟨fun _ _ _ C tk _ _ h => snd_e ih C tk h, fun _ _ _ C tk _ _ h _ ht => snd_t ih C tk h ht, fun _ _ _ C tk _ _ _ h hs => snd_es ih C tk h hs, fun _ _ _ C tk _ _ _ _ h => snd_b ih C tk h, fun _ _ _ C tk _ _ _ _ h _ ht => snd_w ih C tk h ht, fun _ _ _ C tk _ _ h => snd_o ih C tk h, fun _ _ _ C tk _ _ h => snd_f ih C tk h, fun _ _ _ C tk _ _ _ _ h => snd_c ih C tk h, fun _ _ _ C tk _ _ _ h => snd_i ih C tk h⟩
end
end DL
end
section
set_option Elab.async false
set_option linter.all false
set_option maxRecDepth 100000
set_option autoImplicit false
set_option maxHeartbeats 4000000
/-! DLq: what is compiled is sound: statements, a def. -/
namespace DL
open PySem PySem.Spec PyProof.Rows L2
theorem star_any2 {vs : List Expr} (h : vs.all noStar = true) : (vs.any fun | .Starred .. => true | _ => false) = false := by
  induction vs with
  | nil => rfl
  | cons e es ih =>
    rw [List.all_cons, Bool.and_eq_true] at h
    rw [List.any_cons, ih h.2]
    cases e <;> first | rfl | (exact absurd h.1 (by simp [noStar]))
theorem swap_core {ts vs : List Expr} {kt k2 : Nat} {pt pt2 : Pos} {env : PySem.Env} {xs : List Str} {p : Pos} (hk : env.blockKind = .function) (hn : ts.length = 2 ∨ ts.length = 3) (hv : vs.length = ts.length) (hp : (ts.head?.map (·.pos.line)).getD 0 = p.line)
    (e1 : (ts.filterMap fun
    | .Name id pos => if env.kindOf id == some .local && pos.line == p.line then some id else none
    | _ => none) = xs) (e2 : xs.eraseDups = xs) (e3 : xs.length = ts.length)
    (hs : vs.all noStar = true) (hf : vs.all (foldedForSure 8) = false) (hc : vs.all (constantsAlone 8) = false) : swappedStores [.Tuple ts kt pt] (.Tuple vs k2 pt2) env = pure (some xs) := by
  have s := star_any2 hs
  have c1 : (!(ts.length == 2 || ts.length == 3) || vs.length != ts.length || env.blockKind != .function) = false := by
    rw [hk, hv]
    rcases hn with h | h <;> rw [h] <;> decide
  unfold swappedStores
  show (if _ then _ else _) = _
  rw [if_neg (fun h => Bool.noConfusion (h.symm.trans c1))]
  show (if _ then _ else _) = _
  rw [if_neg (fun h => Bool.noConfusion (h.symm.trans s))]
  show (if (List.filterMap _ ts).length != ts.length || (List.filterMap _ ts).eraseDups.length != (List.filterMap _ ts).length then _ else _) = _
  rw [hp]
  generalize hL : List.filterMap _ ts = Ls
  have e : Ls = xs := by rw [← hL]; exact e1
  subst e
  rw [e2, if_neg (by rw [e3]; simp), if_neg (by rw [hf]; decide), if_neg (by rw [hc]; decide)]
theorem swap2 {x y : Str} {px py pt pt2 : Pos} {kt k2 : Nat} {a b : Expr} {env : PySem.Env} (hk : env.blockKind = .function) (hx : env.kindOf x = some .local) (hy : env.kindOf y = some .local) (hl : (px.line == py.line) = true) (hne : sEq x y = false)
    (hs : [a, b].all noStar = true) (hf : [a, b].all (foldedForSure 8) = false) (hc : [a, b].all (constantsAlone 8) = false) : swappedStores [.Tuple [.Name x px, .Name y py] kt pt] (.Tuple [a, b] k2 pt2) env = pure (some [x, y]) := by
  have hl := eq_of_beq hl
  have h1 : (y == x) = false := beq_eq_false_iff_ne.mpr (Ne.symm (sEq_ne hne))
  refine swap_core (p := px) hk (.inl rfl) rfl rfl ?_ ?_ rfl hs hf hc
  · simp [List.filterMap_cons, hx, hy, hl]
  · simp [List.eraseDups_cons, h1]
theorem swap3 {x y z : Str} {px py pz pt pt2 : Pos} {kt k2 : Nat} {a b d : Expr} {env : PySem.Env} (hk : env.blockKind = .function) (hx : env.kindOf x = some .local) (hy : env.kindOf y = some .local) (hz : env.kindOf z = some .local) (hl : (px.line == py.line) = true) (hl2 : (px.line == pz.line) = true)
    (n1 : sEq x y = false) (n2 : sEq x z = false) (n3 : sEq y z = false)
    (hs : [a, b, d].all noStar = true) (hf : [a, b, d].all (foldedForSure 8) = false) (hc : [a, b, d].all (constantsAlone 8) = false) : swappedStores [.Tuple [.Name x px, .Name y py, .Name z pz] kt pt] (.Tuple [a, b, d] k2 pt2) env = pure (some [x, y, z]) := by
  have hl := eq_of_beq hl
  have hl2 := eq_of_beq hl2
  have h1 : (y == x) = false := beq_eq_false_iff_ne.mpr (Ne.symm (sEq_ne n1))
  have h2 : (z == x) = false := beq_eq_false_iff_ne.mpr (Ne.symm (sEq_ne n2))
  have h3 : (z == y) = false := beq_eq_false_iff_ne.mpr (Ne.symm (sEq_ne n3))
  refine swap_core (p := px) hk (.inr rfl) rfl rfl ?_ ?_ rfl hs hf hc
  · simp [List.filterMap_cons, hx, hy, hz, ← hl, ← hl2]
  · simp [List.eraseDups_cons, h1, h2, h3]
theorem lkS_eq {α : Type} {x : Str} : ∀ l : List (Str × α), lkS l x = l.lookup x
  | [] => rfl
  | (y, b) :: r => by
    unfold lkS
    rw [List.lookup_cons]
    cases e : sEq x y with
    | true => rw [if_pos rfl, sEq_eq e, beq_self_eq_true]
    | false => rw [if_neg Bool.false_ne_true, sEq_beq e, lkS_eq r]
theorem swapF {ts vs : List Expr} {kt k2 : Nat} {pt pt2 : Pos} {env : PySem.Env} (hf : vs.all (foldedForSure 8) = true) : swappedStores [.Tuple ts kt pt] (.Tuple vs k2 pt2) env = pure none := by
  unfold swappedStores
  show (if _ then _ else _) = _
  split
  · rfl
  show (if _ then _ else _) = _
  split
  · rfl
  show (if _ then _ else _) = _
  split
  · rfl
  first
    | rfl
    | exact if_pos hf
theorem fm_len {α β : Type} {f : α → Option β} : ∀ {l : List α}, (l.filterMap f).length ≤ l.length
  | [] => Nat.le_refl _
  | x :: l => by
    rw [List.filterMap_cons]
    have := fm_len (f := f) (l := l)
    cases f x with
    | none => exact Nat.le_succ_of_le this
    | some y => exact Nat.succ_le_succ this
theorem fm_lt {α β : Type} {f : α → Option β} {p : α → Bool} (hp : ∀ x, p x = true → f x = none) : ∀ {l : List α}, l.any p = true → (l.filterMap f).length < l.length
  | [], h => by cases h
  | x :: l, h => by
    rw [List.any_cons, Bool.or_eq_true] at h
    rw [List.filterMap_cons]
    have le := fm_len (f := f) (l := l)
    rcases h with h | h
    · rw [hp x h]
      exact Nat.lt_succ_of_le le
    · have := fm_lt hp h
      cases f x with
      | none => exact Nat.lt_succ_of_le le
      | some y => exact Nat.succ_lt_succ this
theorem swapL {F : Type} {c : CE F} {ts vs : List Expr} {kt k2 : Nat} {pt pt2 : Pos} {env : PySem.Env} (he : ∀ x, c.lcl x = false → env.kindOf x ≠ some .local) (hf : ts.any (nonLcl c) = true) : swappedStores [.Tuple ts kt pt] (.Tuple vs k2 pt2) env = pure none := by
  unfold swappedStores
  show (if _ then _ else _) = _
  split
  · rfl
  show (if _ then _ else _) = _
  split
  · rfl
  show (if (List.filterMap _ ts).length != ts.length || (List.filterMap _ ts).eraseDups.length != (List.filterMap _ ts).length then _ else _) = _
  refine if_pos ?_
  rw [Bool.or_eq_true]
  refine .inl (bne_iff_ne.mpr (Nat.ne_of_lt (fm_lt (p := nonLcl c) (fun x hx => ?_) hf)))
  cases x with
  | Name y p =>
    have hy : c.lcl y = false := by
      have : (!c.lcl y) = true := hx
      simpa using this
    have := he y hy
    show (if (env.kindOf y == some .local && _) = true then some y else none) = none
    rw [if_neg]
    rw [Bool.and_eq_true]
    exact fun h => this (eq_of_beq h.1)
  | _ => rfl
theorem sw_gen {elt : Expr} {gs : List Comprehension} {scope : Scope} {pos py : Pos} {y : Str} {l : Nat} {env : PySem.Env} :
    swapsWith (.ListComp elt gs scope pos) (some (.Name y py)) l env = pure (env.blockKind == .function && env.kindOf y == some .local && py.line == pos.line && !(scope.names.any fun (n, k) => n == y && (k == .local || k == .cell))) := rfl
theorem swap0 {ts : List Expr} {kt : Nat} {pt : Pos} {e : Expr} {env : PySem.Env} (h : noTup e = true) : swappedStores [.Tuple ts kt pt] e env = pure none := by
  cases e <;> first | rfl | cases h
end DL
end
section
set_option Elab.async false
set_option linter.all false
set_option maxRecDepth 100000
set_option autoImplicit false
set_option maxHeartbeats 4000000
/-! DLr: what is compiled is sound: statements, defs. -/
namespace DL
open PySem PySem.Spec PyProof.Rows L2
section
variable {F : Type} {X : Cx} {RX : RXT} {Φ : F → List Val → Store → R Val} {c : CE F} {L : Nat}
theorem lc_parts {n : Nat} {elt : Expr} {gs : List Comprehension} {scope : Scope} {pos : Pos} {p : PX F} (h : cE c (n + 1) (.ListComp elt gs scope pos) = some p) :
    ∃ tg iter ifs t i q r, gs = [⟨tg, iter, ifs, 0⟩] ∧ noSet iter = true ∧ blkC c.N c.sc scope (ownOf c.N scope.names) = true ∧ cTg (c.block scope) tg = some t ∧ cI c n tg iter = some i ∧ cF (c.block scope) n ifs = some q ∧ cE (c.block scope) n elt = some r ∧
      (∀ j ∈ t.ns, j ∈ (ownOf c.N scope.names).map (·.2)) ∧ p = .comp r t i q ((ownOf c.N scope.names).map (·.2)) := by
  unfold cE at h
  dsimp only at h
  split at h
  · rename_i tg iter ifs a
    split at h
    · rename_i hc
      rw [Bool.and_eq_true, Bool.and_eq_true] at hc
      obtain ⟨⟨h1, h2⟩, h3⟩ := hc
      have h1 := eq_of_beq h1
      subst h1
      split at h
      · rename_i t i q r e1 e2 e3 e4
        split at h
        · rename_i ho
          cases h
          rw [List.all_eq_true] at ho
          exact ⟨tg, iter, ifs, t, i, q, r, rfl, h2, h3, e1, e2, e3, e4, fun j hj => List.contains_iff_mem.mp (ho j hj), rfl⟩
        · cases h
      · cases h
    · cases h
  · cases h
structure SndS (F : Type) (RX : RXT) (Φ : F → List Val → Store → R Val) (L : Nat) (n : Nat) : Prop where
  s : ∀ (c : CE F) (X : Cx) (W : WX), CtxOk X RX Φ c → Takes X W → PassesOwn (model X.prog X.w) X.A X.env X.xe → c.sc.kind = .function → ∀ e p, cS c n e = some p → L2.PS X e (tS X.K RX W (evS Φ L p))
  ss : ∀ (c : CE F) (X : Cx) (W : WX), CtxOk X RX Φ c → Takes X W → PassesOwn (model X.prog X.w) X.A X.env X.xe → c.sc.kind = .function → ∀ e p, cSs c n e = some p → L2.PSs X e (tS X.K RX W (evSs Φ L p))
theorem snd_s {n : Nat} (ih : SndS F RX Φ L n) {W : WX} (C : CtxOk X RX Φ c) (tk : Takes X W) (hp : PassesOwn (model X.prog X.w) X.A X.env X.xe) (hk : c.sc.kind = .function) {e : Stmt} {p : PS F} (h : cS c (n + 1) e = some p) : L2.PS X e (tS X.K RX W (evS Φ L p)) := by
  have E := snd_all (F := F) (RX := RX) (Φ := Φ) n
  have bk : X.env.blockKind = .function := by
    unfold PySem.Env.blockKind
    rw [C.sc, hk]
    rfl
  cases e with
  | Pass pos => unfold cS at h; cases h; exact ok_pass
  | Raise a b pos =>
    unfold cS at h
    cases h
    exact PS.imp ps_never fun Dn σ H ⟨ρ, m, ι, en, st, h⟩ => h
  | Expr e pos =>
    unfold cS at h
    dsimp only at h
    split at h
    · cases h; exact ok_doc
    · split at h
      · rename_i hn
        obtain ⟨q, e1, rfl⟩ := map_some h
        exact ok_expr (E.e c X W C tk _ q e1) hn
      · cases h
  | Return o pos =>
    unfold cS at h
    dsimp only at h
    split at h
    · cases h; exact ok_ret0
    · obtain ⟨q, e1, rfl⟩ := map_some h
      exact ok_ret (E.e c X W C tk _ q e1)
  | If t a b pos =>
    unfold cS at h
    dsimp only at h
    split at h
    · rename_i ht
      split at h
      · rename_i q r s e1 e2 e3
        cases h
        exact ok_if (E.t c X W C tk t q e1 n ht) (ih.ss c X W C tk hp hk a r e2) (ih.ss c X W C tk hp hk b s e3)
      · cases h
    · cases h
  | While t a b pos =>
    unfold cS at h
    dsimp only at h
    split at h
    · split at h
      · rename_i ht
        split at h
        · rename_i q r e1 e2
          cases h
          exact ok_whl hp (E.t c X W C tk t q e1 n ht) (ih.ss c X W C tk hp hk a r e2)
        · cases h
      · cases h
    · cases h
  | For tg iter a b pos =>
    unfold cS at h
    dsimp only at h
    split at h
    · split at h
      · rename_i hs
        split at h
        · rename_i t i q e1 e2 e3
          cases h
          exact ok_for hp C.calm (E.i c X W C tk tg iter i e2) (tg_ok C e1) (ih.ss c X W C tk hp hk a q e3) hs
        · cases h
      · cases h
    · cases h
  | AugAssign tg op e pos =>
    unfold cS at h
    dsimp only at h
    split at h
    · rename_i x px
      split at h
      · rename_i hs
        obtain ⟨h1, h2⟩ := C.st hs
        split at h
        · rename_i i q e1 e2
          cases h
          exact ok_aug C.ndX (C.get e1) h1 h2 (E.e c X W C tk e q e2)
        · cases h
      · cases h
    · cases h
  | Assign tgs e pos =>
    unfold cS at h
    dsimp only at h
    split at h
    · rename_i x px
      split at h
      · rename_i hs
        obtain ⟨h1, h2⟩ := C.st hs
        split at h
        · rename_i i q e1 e2
          split at h
          · rename_i elt gs scope cpos
            split at h
            · rename_i hc
              cases h
              rw [Bool.and_eq_true, Bool.and_eq_true, Bool.not_eq_true'] at hc
              obtain ⟨⟨a1, a2⟩, a3⟩ := hc
              cases n with
              | zero => unfold cE at e2; cases e2
              | succ n =>
                have E' := snd_all (F := F) (RX := RX) (Φ := Φ) n
                obtain ⟨tg, iter, ifs, t, it, q, r, rfl, b1, b2, b3, b4, b5, b6, b7, rfl⟩ := lc_parts e2
                have ok : BlkOk X.N X.env.scope scope (ownOf c.N scope.names) := by
                  rw [C.N, C.sc]
                  exact blkOk_by b2
                exact ok_setLc C.calm C.ndX (C.get e1) (C.lcl a1) (sw_true (by rw [C.sc]; exact hk) (C.lcl a1) a2 a3) (E'.i c X W C tk tg iter it b4) ok b7 (fun s H A cl fp => tg_ok (C.block s H A cl fp) b3)
                  (fun s H A cl fp => E'.f (c.block scope) _ W0 (C.block s H A cl fp) takes0 ifs q b5) (fun s H A cl fp => E'.e (c.block scope) _ W0 (C.block s H A cl fp) takes0 elt r b6) b1
            · rename_i hc
              cases h
              refine ok_set C.ndX (C.get e1) h1 h2 (E.e c X W C tk _ q e2) ?_
              rw [sw_gen]
              have hb : (X.env.blockKind == .function && X.env.kindOf x == some .local && px.line == cpos.line && !(scope.names.any fun (n, k) => n == x && (k == .local || k == .cell))) = false := by
                cases hl : c.lcl x with
                | true =>
                  rw [hl, Bool.true_and] at hc
                  have hc := Bool.eq_false_iff.mpr hc
                  rw [bk, C.lcl hl |> (fun e => (show X.env.kindOf x = some .local from e))]
                  simpa using hc
                | false =>
                  have : (X.env.kindOf x == some NameKind.local) = false := by
                    refine beq_eq_false_iff_ne.mpr fun e => ?_
                    have e : X.env.scope.names.lookup x = some .local := e
                    rw [C.sc, ← lkS_eq] at e
                    have : c.lcl x = true := by
                      unfold CE.lcl CE.kd
                      rw [e]
                    rw [this] at hl
                    cases hl
                  rw [this, Bool.and_false, Bool.false_and, Bool.false_and]
              rw [hb]
          · split at h
            · rename_i hn
              cases h
              exact ok_set C.ndX (C.get e1) h1 h2 (E.e c X W C tk e q e2) (swaps_of hn)
            · cases h
        · cases h
      · cases h
    · rename_i o i tp
      split at h
      · rename_i hc
        rw [Bool.and_eq_true] at hc
        split at h
        · rename_i q r s e1 e2 e3
          cases h
          exact ok_setI (E.e c X W C tk e q e1) (E.e c X W C tk o r e2) (E.e c X W C tk i s e3) hc.1 hc.2
        · cases h
      · cases h
    · rename_i ts k pt
      split at h
      · rename_i vs k2 pt2
        split at h
        · rename_i ho
          rw [Bool.or_eq_true] at ho
          have hw : swappedStores [.Tuple ts k pt] (.Tuple vs k2 pt2) X.env = pure none := by
            rcases ho with ho | ho
            · exact swapF ho
            · refine swapL (c := c) (fun x hx e => ?_) ho
              have e : X.env.scope.names.lookup x = some .local := e
              rw [C.sc, ← lkS_eq] at e
              have : c.lcl x = true := by
                unfold CE.lcl CE.kd
                rw [e]
              rw [this] at hx
              cases hx
          split at h
          · rename_i is q e1 e2
            cases h
            exact ok_unp (E.e c X W C tk _ q e2) (tup_ok C e1) rfl hw rfl
          · cases h
        split at h
        · rename_i hc
          rw [Bool.and_eq_true, Bool.and_eq_true, Bool.not_eq_true', Bool.not_eq_true'] at hc
          obtain ⟨⟨c1, c2⟩, c3⟩ := hc
          split at h
          · rename_i x px y py a b _
            split at h
            · rename_i hx
              simp only [Bool.and_eq_true, Bool.not_eq_true'] at hx
              obtain ⟨⟨⟨x1, x2⟩, x3⟩, x4⟩ := hx
              split at h
              · rename_i i j q e1 e2 e3
                split at h
                · cases h
                · rename_i hij
                  cases h
                  have hij : i ≠ j := fun e => hij (by rw [e]; exact beq_self_eq_true _)
                  exact ok_par2 C.calm C.ndX (C.get e1) (C.get e2) hij (C.lcl x1) (C.lcl x2) (E.es c X W C tk [] [a, b] q e3 c1) (swap2 bk (C.lcl x1) (C.lcl x2) x4 x3 c1 c2 c3)
              · cases h
            · cases h
          · rename_i x px y py z pz a b d _
            split at h
            · rename_i hx
              simp only [Bool.and_eq_true, Bool.not_eq_true'] at hx
              obtain ⟨⟨⟨⟨⟨⟨⟨x1, x2⟩, x3⟩, x4⟩, x5⟩, x6⟩, x7⟩, x8⟩ := hx
              split at h
              · rename_i i j k q e1 e2 e3 e4
                split at h
                · cases h
                · rename_i hij
                  cases h
                  have h1 : i ≠ j := fun e => hij (by rw [e]; simp)
                  have h2 : i ≠ k := fun e => hij (by rw [e]; simp)
                  have h3 : j ≠ k := fun e => hij (by rw [e]; simp)
                  exact ok_par3 C.calm C.ndX (C.get e1) (C.get e2) (C.get e3) h1 h2 h3 (C.lcl x1) (C.lcl x2) (C.lcl x3) (E.es c X W C tk [] [a, b, d] q e4 c1) (swap3 bk (C.lcl x1) (C.lcl x2) (C.lcl x3) x7 x8 x4 x5 x6 c1 c2 c3)
              · cases h
            · cases h
          · cases h
        · cases h
      · rename_i hnt
        split at h
        · rename_i hn
          split at h
          · rename_i is q e1 e2
            cases h
            have nt : noTup e = true := by
              cases e <;> first | rfl | exact absurd rfl (hnt _ _ _)
            exact ok_unp (E.e c X W C tk e q e2) (tup_ok C e1) (by unfold swapsWithSole; exact swaps_of hn) (swap0 nt) rfl
          · cases h
        · cases h
    · cases h
  | _ => unfold cS at h; cases h
theorem snd_sall : ∀ n, SndS F RX Φ L n
  | 0 => ⟨fun _ _ _ _ _ _ _ _ _ h => (by unfold cS at h; cases h), fun _ _ _ _ _ _ _ _ _ h => (by unfold cSs at h; cases h)⟩
  | n + 1 =>
    have ih := snd_sall n
    ⟨fun _ _ _ C tk hp hk _ _ h => snd_s ih C tk hp hk h, fun c X W C tk hp hk es p h => by
      cases es with
      | nil => unfold cSs at h; cases h; exact ok_snil
      | cons e r =>
        unfold cSs at h
        dsimp only at h
        split at h
        · rename_i q s e1 e2
          cases h
          exact ok_scons (ih.s c X W C tk hp hk e q e1) (ih.ss c X W C tk hp hk r s e2)
        · cases h⟩
end

/-! ### a table of defs -/
/-- the module's facts for a table -/
structure Tab {F : Type} (P : Program) (w : World) (K : PySem.W.Frag) (mg : Str → Option Value) (fn : Str → Option (F × List Bool)) (cs : Str → Option D) (fr : Str → Bool) (tab : F → Fn F) : Prop where
  fns : ∀ x i ks, fn x = some (i, ks) → ∃ qual st f fd N ps m, mg x = some (.ref f) ∧ Fun K x qual st f fd ∧ FnScope N ps (defScope st) ∧ L2.Binds K fd ps [] ∧ (tab i).ps = ps.length ∧ (tab i).ns = N.length ∧
    cSs ⟨N, defScope st, fun _ => true, fn, cs, fr⟩ m (defBody st) = some (tab i).body
  css : ∀ x d, cs x = some d → ∃ u v, mg x = some u ∧ RelV v u ∧ ∀ H Lv, Rep K H Lv v d
  frs : ∀ x, fr x = true → mg x = none
section
variable {F : Type} {P : Program} {w : World} {K : PySem.W.Frag} {mg : Str → Option Value} {base : Heap} {RX : RXT} {fn : Str → Option (F × List Bool)} {cs : Str → Option D} {fr : Str → Bool} {tab : F → Fn F} {L : Nat}
theorem Tab.ok (T : Tab P w K mg fn cs fr tab) : ∀ (n : Nat) (x : Str) (i : F) (ks : List Bool), fn x = some (i, ks) → ∃ f fd ps, FnOk P w K mg base (L2.CX P w) n f fd ps (spOf K RX (callF tab L n i)) ∧ mg x = some (.ref f) ∧ PySem.W.keepIn K (.ref f) = true ∧ L2.Binds K fd ps []
  | 0, x, i, ks, h => by
    obtain ⟨qual, st, f, fd, N, ps, m, h1, h2, h3, h4, h5, h6, h7⟩ := T.fns x i ks h
    have no : ∀ vs H Q E, ¬ spOf K RX (callF tab L 0 i) vs H Q E := fun vs H Q E ⟨ws, m, ι, _, _, h⟩ => h
    exact ⟨f, fd, ps, ⟨fun vs H Q E h => (no vs H Q E h).elim, fun _ _ _ _ _ _ _ _ _ _ _ _ _ h => (no _ _ _ _ h).elim⟩, h1, h2.kp, h4⟩
  | n + 1, x, i, ks, h => by
    obtain ⟨qual, st, f, fd, N, ps, m, h1, h2, h3, h4, h5, h6, h7⟩ := T.fns x i ks h
    refine ⟨f, fd, ps, ?_, h1, h2.kp, h4⟩
    refine fn_ok (Φ := callF tab L n) (L := L) h2 h3 h5 h6 fun cdv A outer s H E hr => ?_
    refine (snd_sall (F := F) (RX := RX) (Φ := callF tab L n) (L := L) m).ss ⟨N, defScope st, fun _ => true, fn, cs, fr⟩ _ _ ?_ takes_def own_def h3.kind (defBody st) _ h7
    exact ⟨rfl, h3.nd, rfl, rfl, (by have := hr.un; show (A.deeper (envOfC qual (defScope st) s.heap.objs.size f cdv)).units + 200 < cLine; omega), fun _ _ => rfl, fun y j ks' hy => let ⟨f', fd', ps', a1, a2, a3, a4⟩ := T.ok n y j ks' hy; ⟨n, f', fd', ps', a1, hr, a2, a3, a4⟩, T.css, T.frs⟩
theorem Tab.fn1 (T : Tab P w K mg fn cs fr tab) (n : Nat) {x qual : Str} {st : Stmt} {f : Addr} {fd : FuncData} {N ps : List Str} {m : Nat} {i : F} (h2 : Fun K x qual st f fd) (h3 : FnScope N ps (defScope st)) (h5 : (tab i).ps = ps.length) (h6 : (tab i).ns = N.length)
    (h7 : cSs ⟨N, defScope st, fun _ => true, fn, cs, fr⟩ m (defBody st) = some (tab i).body) : FnOk P w K mg base (L2.CX P w) (n + 1) f fd ps (spOf K RX (callF tab L (n + 1) i)) := by
  refine fn_ok (Φ := callF tab L n) (L := L) h2 h3 h5 h6 fun cdv A outer s H E hr => ?_
  refine (snd_sall (F := F) (RX := RX) (Φ := callF tab L n) (L := L) m).ss ⟨N, defScope st, fun _ => true, fn, cs, fr⟩ _ _ ?_ takes_def own_def h3.kind (defBody st) _ h7
  exact ⟨rfl, h3.nd, rfl, rfl, (by have := hr.un; show (A.deeper (envOfC qual (defScope st) s.heap.objs.size f cdv)).units + 200 < cLine; omega), fun _ _ => rfl, fun y j ks' hy => let ⟨f', fd', ps', a1, a2, a3, a4⟩ := T.ok (base := base) (RX := RX) (L := L) n y j ks' hy; ⟨n, f', fd', ps', a1, hr, a2, a3, a4⟩, T.css, T.frs⟩
end
end DL
end
section
set_option Elab.async false
set_option linter.all false
set_option maxRecDepth 100000
set_option autoImplicit false
set_option maxHeartbeats 4000000
/-! DLs: the head: what the top leaves behind, the law's end. -/
namespace DL
open PySem PySem.Spec PyProof.Rows L2

/-! ### constants -/
def repV (K : PySem.W.Frag) : Nat → Value → D → Bool
  | 0, _, _ => false
  | n + 1, u, d => match u, d with
    | .none, .none => true
    | .bool b, .bool c => b == c
    | .int i _, .int j => decide (i = j)
    | .str x _, .str y => sEq x y
    | .ref a, .tuple ds => (match K.lookup a with
      | some ⟨.type c, _, .seq its _, _⟩ => decide (c = "tuple") && (decide (its.size ≤ sizeLine) && ((its.toList.length == ds.length) && (its.toList.zip ds).all fun p => repV K n p.1 p.2))
      | _ => false)
    | _, _ => false
theorem repV_ok {K : PySem.W.Frag} : ∀ {n : Nat} {u : Value} {d : D}, repV K n u d = true → ∃ v, RelV v u ∧ ∀ H Lv, Rep K H Lv v d
  | 0, _, _, h => by cases h
  | n + 1, u, d, h => by
    unfold repV at h
    split at h
    · exact ⟨.non, rfl, fun _ _ => .non⟩
    · rename_i b c
      have e := eq_of_beq h
      subst e
      exact ⟨.bl b, rfl, fun _ _ => .bl b⟩
    · rename_i i t j
      have e := of_decide_eq_true h
      subst e
      exact ⟨.int i, ⟨t, rfl⟩, fun _ _ => .int i⟩
    · rename_i x t y
      have e := sEq_eq h
      subst e
      exact ⟨.str x, ⟨t, rfl⟩, fun _ _ => .str x⟩
    · rename_i a ds
      split at h
      · rename_i c dd its m sl q
        rw [Bool.and_eq_true, Bool.and_eq_true, Bool.and_eq_true] at h
        obtain ⟨h1, h2, h3, h4⟩ := h
        have e := of_decide_eq_true h1
        subst e
        have all : ∀ (us : List Value) (es : List D), us.length = es.length → ((us.zip es).all fun p => repV K n p.1 p.2) = true → ∃ vs, Vals vs us ∧ ∀ H Lv, RepAll K H Lv vs es := by
          intro us
          induction us with
          | nil =>
            intro es hl _
            cases es with
            | nil => exact ⟨[], .nil, fun _ _ => .nil⟩
            | cons _ _ => cases hl
          | cons u us ih =>
            intro es hl h
            cases es with
            | nil => cases hl
            | cons e es =>
              rw [List.zip_cons_cons, List.all_cons, Bool.and_eq_true] at h
              obtain ⟨v, r1, r2⟩ := repV_ok h.1
              obtain ⟨vs, r3, r4⟩ := ih es (by simpa using hl) h.2
              exact ⟨v :: vs, .cons r1 r3, fun H Lv => .cons (r2 H Lv) (r4 H Lv)⟩
        obtain ⟨vs, r1, r2⟩ := all its.toList ds (eq_of_beq h3) h4
        exact ⟨.ref a, rfl, fun H Lv => .tup (.inr ⟨_, its, m, q, rfl, rfl, of_decide_eq_true h2, r1⟩) (r2 H Lv)⟩
      · cases h
    · cases h
def conD (K : PySem.W.Frag) (x : Str) (d : D) : Bool := match PySem.W.nsIn K mainGlobals x with
  | some (some u) => repV K 10 u d
  | _ => false
theorem conD_ok {K : PySem.W.Frag} {h : Heap} {mg : Str → Option Value} (X : K.In h) (G : h.Ns mainGlobals mg) {x : Str} {d : D} (c : conD K x d = true) : ∃ u v, mg x = some u ∧ RelV v u ∧ ∀ H Lv, Rep K H Lv v d := by
  unfold conD at c
  split at c
  · rename_i u e
    obtain ⟨v, r1, r2⟩ := repV_ok c
    exact ⟨u, v, PySem.W.mg_of X G e, r1, r2⟩
  · cases c

/-! ### a law's table as data -/
structure Row where
  id : Nat
  name : Str
  ks : List Bool
  st : Stmt
  N : List Str
  ps : List Str
def rIx : List Row → Str → Option (Nat × List Bool)
  | [], _ => none
  | r :: rs, x => if sEq x r.name then some (r.id, r.ks) else rIx rs x
theorem rIx_get {x : Str} {j : Nat} {ks : List Bool} : ∀ {rs : List Row}, rIx rs x = some (j, ks) → ∃ r ∈ rs, r.name = x ∧ r.id = j
  | [], h => by cases h
  | r :: rs, h => by
    unfold rIx at h
    cases e : sEq x r.name with
    | true =>
      rw [e, if_pos rfl] at h
      cases h
      exact ⟨r, List.mem_cons_self, (sEq_eq e).symm, rfl⟩
    | false =>
      rw [e, if_neg Bool.false_ne_true] at h
      obtain ⟨r', h1, h3, h4⟩ := rIx_get h
      exact ⟨r', List.mem_cons_of_mem _ h1, h3, h4⟩
structure LD where
  rows : List Row
  cs : List (Str × D)
  fr : List Str
def LD.fn (l : LD) (x : Str) : Option (Nat × List Bool) := rIx l.rows x
def LD.co (l : LD) (x : Str) : Option D := lkS l.cs x
def LD.free (l : LD) (x : Str) : Bool := l.fr.any fun y => sEq x y
def LD.ce (l : LD) (r : Row) : CE Nat := ⟨r.N, defScope r.st, fun _ => true, l.fn, l.co, l.free⟩
def Row.fnD (r : Row) : He.FnD := ⟨(r.name, none), r.name, r.name, defArgs r.st, defBody r.st, defScope r.st⟩
def LD.chk (l : LD) (K : PySem.W.Frag) : Bool := (l.rows.all fun r => (He.Fa.glo r.name).ok K && ((He.Fa.keep r.name).ok K && (He.Fa.code (r.name, none) r.name).ok K)) && ((l.cs.all fun p => conD K p.1 p.2) && l.fr.all fun x => (He.Fa.free x).ok K)
def obsL (l : LD) (K : PySem.W.Frag) : He.Al := (l.chk K, l.rows.map fun r => He.fnObs K (r.name, none))
def valL (l : LD) : He.Al := (true, l.rows.map fun r => r.fnD.val)
def SaysL (l : LD) (K : PySem.W.Frag) : Prop := obsL l K = valL l
def obsLG (n : Nat) (l : LD) (g : Addr → Option Obj) : He.Al := obsL l (He.frG g (He.asG g n))
def hookL (n : Nat) (l : LD) : PySem.W.Hook where
  α := He.Al
  obs := fun s => obsLG n l s.heap.get?
  val := fun _ => valL l
  says := fun _ h => ∃ K : PySem.W.Frag, K.In h ∧ SaysL l K
  of := fun _ _ e => ⟨_, He.frG_in, e⟩
  keeps := fun _ _ _ ⟨K, hK, c⟩ k => ⟨K, PySem.W.Frag.In.keeps hK k, c⟩
theorem obsLG_eq {n : Nat} {l : LD} {g : Addr → Option Obj} {s : Shared} (h : ∀ a, g a = s.heap.get? a) : obsLG n l g = (hookL n l).obs s := by
  have e : g = s.heap.get? := funext h
  rw [e] <;> rfl
def obL (n : Nat) (l : LD) (s : PySem.W.SharedT) : He.Al := obsLG n l (HandSHeadRun.getT s)
theorem obL_eq (n : Nat) (l : LD) (s : PySem.W.SharedT) : obL n l s = (hookL n l).obs s.abs := obsLG_eq (HandSHeadRun.getT_eq s)
/-- what is checked of each def, once -/
structure RowOk (l : LD) (tab : Nat → Fn Nat) (r : Row) : Prop where
  sc : FnScope r.N r.ps (defScope r.st)
  bd : ∀ (kV doc pm : Value) (an : Option Addr) (cdv ct : Value) (us : List Value), us.length = r.ps.length → bindArgs (PySem.W.fnOf r.name r.name (defArgs r.st) (defBody r.st) (defScope r.st) .none kV doc pm an cdv ct) ⟨us, []⟩ = pure (r.ps.zip us)
  ps : (tab r.id).ps = r.ps.length
  ns : (tab r.id).ns = r.N.length
  body : cSs (l.ce r) 60 (defBody r.st) = some (tab r.id).body
def AllRows (l : LD) (tab : Nat → Fn Nat) : List Row → Prop
  | [] => True
  | r :: rs => RowOk l tab r ∧ AllRows l tab rs
theorem AllRows.get {l : LD} {tab : Nat → Fn Nat} {r : Row} : ∀ {rs : List Row}, AllRows l tab rs → r ∈ rs → RowOk l tab r
  | [], _, h => by cases h
  | r' :: rs, a, h => by
    rcases List.mem_cons.mp h with e | h
    · subst e
      exact a.1
    · exact AllRows.get a.2 h
theorem row_says {l : LD} {K : PySem.W.Frag} (c : SaysL l K) {r : Row} (h : r ∈ l.rows) {hp : Heap} {mg : Str → Option Value} (X : K.In hp) (G : hp.Ns mainGlobals mg) :
    ∃ fd, mg r.name = some (.ref (He.ga K r.name)) ∧ Fun K r.name r.name r.st (He.ga K r.name) fd ∧ (∀ ps : List Str, (∀ (kV doc pm : Value) (an : Option Addr) (cdv ct : Value) (us : List Value), us.length = ps.length → bindArgs (PySem.W.fnOf r.name r.name (defArgs r.st) (defBody r.st) (defScope r.st) .none kV doc pm an cdv ct) ⟨us, []⟩ = pure (ps.zip us)) → L2.Binds K fd ps []) := by
  have c1 : l.chk K = true := congrArg (fun z : He.Al => z.1) c
  have c2 : l.rows.map (fun r => He.fnObs K (r.name, none)) = l.rows.map (fun r => r.fnD.val) := congrArg (fun z : He.Al => z.2) c
  unfold LD.chk at c1
  rw [Bool.and_eq_true, List.all_eq_true] at c1
  have k := c1.1 r h
  rw [Bool.and_eq_true, Bool.and_eq_true] at k
  obtain ⟨k1, k2, k3⟩ := k
  obtain ⟨j, h⟩ := List.getElem?_of_mem h
  have e : (l.rows.map fun r => He.fnObs K (r.name, none))[j]? = (l.rows.map fun r => r.fnD.val)[j]? := by rw [c2]
  rw [List.getElem?_map, List.getElem?_map, h] at e
  obtain ⟨oc, od, osl, kV, doc, pm, an, cdv, ct, h1, h2⟩ := He.fn_ok (d := r.fnD) (Option.some.inj e) k3
  have Fu : Fun K r.name r.name r.st (He.ga K r.name) _ := fun_mk h1 h2 k2
  exact ⟨_, He.glo_ok X G k1, Fu, fun ps hb => Fu.binds hb⟩
theorem tab_of {l : LD} {tab : Nat → Fn Nat} {P : Program} {w : World} {K : PySem.W.Frag} (A : AllRows l tab l.rows) (c : SaysL l K) {hp : Heap} {mg : Str → Option Value} (X : K.In hp) (G : hp.Ns mainGlobals mg) : Tab P w K mg l.fn l.co l.free tab where
  fns := fun x i ks h => by
    obtain ⟨r, h1, h3, h4⟩ := rIx_get (show rIx l.rows x = some (i, ks) from h)
    subst h3 h4
    have ok := A.get h1
    obtain ⟨fd, a1, a2, a3⟩ := row_says c h1 X G
    exact ⟨r.name, r.st, _, fd, r.N, r.ps, 60, a1, a2, ok.sc, a3 r.ps ok.bd, ok.ps, ok.ns, ok.body⟩
  css := fun x d h => by
    have c1 : l.chk K = true := congrArg (fun z : He.Al => z.1) c
    unfold LD.chk at c1
    rw [Bool.and_eq_true, Bool.and_eq_true, List.all_eq_true, List.all_eq_true, List.all_eq_true] at c1
    have hm : ∀ {cs : List (Str × D)}, lkS cs x = some d → (x, d) ∈ cs := by
      intro cs
      induction cs with
      | nil => intro h; cases h
      | cons p cs ih =>
        obtain ⟨y, e⟩ := p
        intro h
        unfold lkS at h
        cases q : sEq x y with
        | true => rw [q, if_pos rfl] at h; cases h; rw [sEq_eq q]; exact List.mem_cons_self
        | false => rw [q, if_neg Bool.false_ne_true] at h; exact List.mem_cons_of_mem _ (ih h)
    exact conD_ok X G (c1.2.1 _ (hm (show lkS l.cs x = some d from h)))
  frs := fun x h => by
    have c1 : l.chk K = true := congrArg (fun z : He.Al => z.1) c
    unfold LD.chk at c1
    rw [Bool.and_eq_true, Bool.and_eq_true, List.all_eq_true, List.all_eq_true, List.all_eq_true] at c1
    have h : (l.fr.any fun y => sEq x y) = true := h
    obtain ⟨y, hy, e⟩ := List.any_eq_true.mp h
    rw [sEq_eq e]
    exact He.free_ok X G (c1.2.2 y hy)
/-! ### the law -/
def RX0 : RXT := fun _ _ _ _ => False
theorem calm_fn {P : Program} {w : World} {K : PySem.W.Frag} {mg : Str → Option Value} {base : Heap} {k : Nat} {f : Addr} {fd : FuncData} {ps : List Str} {sp : Sp} (F : FnOk P w K mg base (L2.CX P w) k f fd ps sp) :
    FnOk P w K mg base L2.CX0 k f fd ps (fun vs H Q _ => sp vs H Q L2.E0) :=
  ⟨fun vs H Q E h => F.len _ _ _ _ h, fun A outer s H args us vs Q E hr he hb hv hs => codeAny_mono (F.run A outer s H args us vs Q L2.E0 hr he hb hv hs) fun r s' h => by
    cases r with
    | ok fl => cases fl <;> exact h
    | error e =>
      obtain ⟨_, _, _, _, _, _, _, _, _, _, _, _, z⟩ := h
      exact z.elim⟩
theorem rep_ints {K : PySem.W.Frag} {H : Hp} {Lv : Addr → Prop} : ∀ ns : List Int, RepAll K H Lv (ns.map V.int) (ns.map PyData.int)
  | [] => .nil
  | n :: ns => .cons (.int n) (rep_ints ns)
theorem law_F {l : LD} {tab : Nat → Fn Nat} {P : Program} {L k : Nat} {r : Row} {w : World} {K : PySem.W.Frag} {mg : Str → Option Value} {hp : Heap} {fa : Addr} (A : AllRows l tab l.rows) (c : SaysL l K) (X : K.In hp) (G : hp.Ns mainGlobals mg)
    (hj : r ∈ l.rows) (hps : r.ps = [Str.ofString "script"]) (hfa : mg r.name = some (.ref fa))
    (hpure : ∀ ns : List Int, ns.length ≤ 63 → ∃ m', callF tab L (k + 1) r.id [.d (.list (ns.map .int))] [] = .ok (.d (.bool true)) m') :
    ∃ (K : PySem.W.Frag) (fd : FuncData) (sp : Sp), K.In hp ∧ (∀ (s : Shared) (u : Value), BindsTo s fd ⟨[u], []⟩ [(Str.ofString "script", u)]) ∧
        (∀ (H : Hp) (a : Addr) (ns : List Int), ns.length ≤ 63 → Only H → SqL K H a (ns.map V.int) → sp [.ref a] H (fun v _ => v = .bl true) fun _ _ _ => False) ∧
        ∀ base : Heap, K.In base → base.Ns mainGlobals mg → FnOk P w K mg base L2.CX0 (k + 1) fa fd [Str.ofString "script"] sp := by
  obtain ⟨fd, a1, a2, a3⟩ := row_says c hj X G
  have ok := A.get hj
  have e := a1.symm.trans hfa
  cases e
  refine ⟨K, fd, fun vs H Q _ => spOf K RX0 (callF tab L (k + 1) r.id) vs H Q L2.E0, X, fun s u => ?_, fun H a ns hl ho hs => ?_, fun base kb gb => ?_⟩
  · obtain ⟨oc, od, kV, doc, pm, an, cdv, ct, osl, rfl, lk, hcd⟩ := a2.ex
    refine .of_eq ?_
    have := ok.bd kV doc pm an cdv ct [u] (by rw [hps]; rfl)
    rw [hps] at this
    exact this
  · have rr : Rep K H (Live ⟨[], []⟩ []) (.ref a) (.list (ns.map PyData.int)) := by
      refine .lst (hs.imp (fun h => ⟨h, fun q => ?_⟩) id) (rep_ints ns)
      rcases q with ⟨n, c, h1, _, _⟩ | q
      · simp at h1
      · cases q
    obtain ⟨m', e⟩ := hpure ns hl
    refine ⟨[.d (.list (ns.map .int))], [], ⟨[], []⟩, ⟨rfl, List.nodup_nil, fun a h => (by cases h), fun a h => (by cases h), fun a h => (by cases h), fun n a c h1 _ => (by simp at h1)⟩, .cons rr .nil, ?_⟩
    rw [e]
    intro ι' H' l s v r
    cases r
    rfl
  · have T := tab_of (P := P) (w := w) (tab := tab) A c X G
    rw [← hps]
    exact calm_fn (T.fn1 (base := base) (RX := RX0) (L := L) k a2 ok.sc ok.ps ok.ns ok.body)
end DL
end
section
set_option Elab.async false
set_option linter.all false
set_option maxRecDepth 100000
set_option autoImplicit false
set_option maxHeartbeats 4000000
/-! DLt: what stands ahead of a call's own cells does not matter. -/
namespace DL
open PySem
def sh (k : Nat) : Val → Val
  | .d x => .d x
  | .r n => .r (n + k)
def shE (k : Nat) (ρ : Env) : Env := ρ.map (Option.map (sh k))
def frA {α : Type} (f : α → α) (P : Store) : R α → R α
  | .ok a m => .ok (f a) (P ++ m)
  | .ex x m => .ex x (P ++ m)
  | .no => .no
section
variable {P : Store} {α β : Type} {f : α → α} {g : β → β}
theorem bind_fr {r : R α} {r' : R α} {h h' : α → Store → R β} (e : r' = frA f P r) (k : ∀ a m, h' (f a) (P ++ m) = frA g P (h a m)) : r'.bind h' = frA g P (r.bind h) := by
  rw [e]
  cases r with
  | ok a m => exact k a m
  | ex x m => rfl
  | no => rfl
theorem fr_ok {a : α} {m : Store} : frA f P (.ok a m) = .ok (f a) (P ++ m) := rfl
theorem at_fr {n : Nat} {m : Store} : (P ++ m)[n + P.length]? = m[n]? := by
  rw [List.getElem?_append_right (Nat.le_add_left _ _), Nat.add_sub_cancel]
theorem set_fr {n : Nat} {m : Store} {c : Cell} : (P ++ m).set (n + P.length) c = P ++ m.set n c := by
  rw [List.set_append_right _ _ (Nat.le_add_left _ _), Nat.add_sub_cancel]
theorem take_fr {k : Nat} {m : Store} : (P ++ m).take (P.length + k) = P ++ m.take k := by
  rw [List.take_append, List.take_of_length_le (Nat.le_add_right _ _), Nat.add_sub_cancel_left]
theorem rd_fr {v : Val} {m : Store} : rd (sh P.length v) (P ++ m) = rd v m := by
  cases v with
  | d x => rfl
  | r n => show ((P ++ m)[n + P.length]?).map Cell.data = _; rw [at_fr]; rfl
theorem rdAll_fr {m : Store} : ∀ {vs : List Val}, rdAll (P ++ m) (vs.map (sh P.length)) = rdAll m vs
  | [] => rfl
  | v :: vs => by
    show (match rd (sh P.length v) (P ++ m), rdAll (P ++ m) (vs.map (sh P.length)) with | some x, some xs => some (x :: xs) | _, _ => none) = _
    rw [rd_fr, rdAll_fr]
    rfl
theorem allD_fr {k : Nat} : ∀ {vs : List Val}, allD (vs.map (sh k)) = allD vs
  | [] => rfl
  | .d x :: vs => by
    show (allD (vs.map (sh k))).map (x :: ·) = _
    rw [allD_fr]
    rfl
  | .r n :: vs => rfl
abbrev frV (P : Store) : R Val → R Val := frA (sh P.length) P
abbrev frI {α : Type} (P : Store) : R α → R α := frA id P
theorem put_fr {o : Out} {m : Store} : put o (P ++ m) = frV P (put o m) := by
  have nw : ∀ c : Cell, new c (P ++ m) = frV P (new c m) := fun c => by
    show R.ok (Val.r (P ++ m).length) ((P ++ m) ++ [c]) = R.ok (Val.r (m.length + P.length)) (P ++ (m ++ [c]))
    rw [List.length_append, Nat.add_comm, List.append_assoc]
  cases o with
  | «at» d => rfl
  | tup xs =>
    unfold put
    dsimp only
    split
    · rfl
    · rfl
  | lst xs =>
    unfold put
    dsimp only
    split
    · exact nw _
    · rfl
  | dic xs =>
    unfold put
    dsimp only
    split
    · exact nw _
    · rfl
theorem fz_fr {v : Val} {m : Store} : fz (sh P.length v) (P ++ m) = frI P (fz v m) := by
  cases v with
  | d x => rfl
  | r n =>
    show (match (P ++ m)[n + P.length]? with | some c => R.ok c.data ((P ++ m).set (n + P.length) (.fz c.data)) | none => .no) = frI P (match m[n]? with | some c => R.ok c.data (m.set n (.fz c.data)) | none => .no)
    rw [at_fr]
    cases m[n]? with
    | none => rfl
    | some c => show R.ok _ _ = R.ok _ _; rw [set_fr]; rfl
theorem truR_fr {v : Val} {m : Store} : truR (sh P.length v) (P ++ m) = frI P (truR v m) := by
  unfold truR
  rw [rd_fr]
  cases rd v m with
  | none => rfl
  | some x =>
    dsimp only
    cases tru x <;> rfl
theorem opR_fr {o : Op} {v w : Val} {m : Store} : opR o (sh P.length v) (sh P.length w) (P ++ m) = frV P (opR o v w m) := by
  unfold opR
  rw [rd_fr, rd_fr]
  cases rd v m with
  | none => rfl
  | some x =>
    cases rd w m with
    | none => rfl
    | some y =>
      dsimp only
      cases opF o x y with
      | none => rfl
      | some z => exact put_fr
theorem cmR_fr {c : Cm} {v w : Val} {m : Store} : cmR c (sh P.length v) (sh P.length w) (P ++ m) = frV P (cmR c v w m) := by
  unfold cmR
  rw [rd_fr, rd_fr]
  cases rd v m with
  | none => rfl
  | some x =>
    cases rd w m with
    | none => rfl
    | some y =>
      dsimp only
      cases cmF c x y <;> rfl
theorem partI_fr {v : Val} {m : Store} : partI (sh P.length v) (P ++ m) = frI P (partI v m) := by
  unfold partI
  rw [rd_fr]
  cases rd v m with
  | none => rfl
  | some x => cases x <;> rfl
theorem app1_fr {v : Val} {x : D} {m : Store} : app1 (sh P.length v) x (P ++ m) = frV P (app1 v x m) := by
  cases v with
  | d _ => rfl
  | r n =>
    show (match (P ++ m)[n + P.length]? with | some (.lst xs) => if xs.length < sizeLine then R.ok (.d .none) ((P ++ m).set (n + P.length) (.lst (xs ++ [x]))) else .no | _ => .no) = frV P (match m[n]? with | some (.lst xs) => if xs.length < sizeLine then R.ok (.d .none) (m.set n (.lst (xs ++ [x]))) else .no | _ => .no)
    rw [at_fr]
    cases m[n]? with
    | none => rfl
    | some c =>
      cases c with
      | lst xs =>
        dsimp only
        split
        · rw [set_fr]; rfl
        · rfl
      | _ => rfl
theorem pop1_fr {v : Val} {m : Store} : pop1 (sh P.length v) (P ++ m) = frV P (pop1 v m) := by
  cases v with
  | d _ => rfl
  | r n =>
    show (match (P ++ m)[n + P.length]? with | some (.lst xs) => (match xs[xs.length - 1]? with | some y => R.ok (.d y) ((P ++ m).set (n + P.length) (.lst xs.dropLast)) | none => .no) | _ => .no) = frV P (match m[n]? with | some (.lst xs) => (match xs[xs.length - 1]? with | some y => R.ok (.d y) (m.set n (.lst xs.dropLast)) | none => .no) | _ => .no)
    rw [at_fr]
    cases m[n]? with
    | none => rfl
    | some c =>
      cases c with
      | lst xs =>
        dsimp only
        split
        · rw [set_fr]; rfl
        · rfl
      | _ => rfl
theorem setAt_fr {v i : Val} {x : D} {m : Store} : setAt (sh P.length v) (sh P.length i) x (P ++ m) = frI P (setAt v i x m) := by
  cases v with
  | d _ =>
    unfold setAt
    rfl
  | r n =>
    unfold setAt
    show (match Val.r (n + P.length), rd (sh P.length i) (P ++ m) with | .r n, some (.int k) => _ | _, _ => _) = _
    rw [rd_fr]
    cases rd i m with
    | none => rfl
    | some d =>
      cases d with
      | int k =>
        dsimp only
        rw [at_fr]
        cases m[n]? with
        | none => rfl
        | some c =>
          cases c with
          | lst xs =>
            dsimp only
            cases L2.ixN xs.length k with
            | none => rfl
            | some j => dsimp only; rw [set_fr]; rfl
          | _ => rfl
      | _ => rfl
theorem augR_fr {o : Op} {v w : Val} {m : Store} : augR o (sh P.length v) (sh P.length w) (P ++ m) = frV P (augR o v w m) := by
  cases o with
  | add =>
    cases v with
    | d x =>
      cases x with
      | int i =>
        show (match rd (sh P.length w) (P ++ m) with | some (.int j) => R.ok (Val.d (.int (i + j))) (P ++ m) | _ => .no) = frV P (match rd w m with | some (.int j) => R.ok (Val.d (.int (i + j))) m | _ => .no)
        rw [rd_fr]
        cases rd w m with
        | none => rfl
        | some d => cases d <;> rfl
      | _ => rfl
    | r n =>
      show (match (P ++ m)[n + P.length]?, rd (sh P.length w) (P ++ m) with | some (.lst xs), some (.list ys) => if xs.length + ys.length ≤ sizeLine then R.ok (Val.r (n + P.length)) ((P ++ m).set (n + P.length) (.lst (xs ++ ys))) else .no | _, _ => .no) =
        frV P (match m[n]?, rd w m with | some (.lst xs), some (.list ys) => if xs.length + ys.length ≤ sizeLine then R.ok (Val.r n) (m.set n (.lst (xs ++ ys))) else .no | _, _ => .no)
      rw [at_fr, rd_fr]
      cases m[n]? with
      | none => rfl
      | some c =>
        cases c with
        | lst xs =>
          cases rd w m with
          | none => rfl
          | some d =>
            cases d with
            | list ys =>
              dsimp only
              split
              · rw [set_fr]; rfl
              · rfl
            | _ => rfl
        | _ => rfl
  | _ => cases v <;> rfl
theorem setAll_fr {k : Nat} : ∀ {is : List Nat} {xs : List D} {ρ : Env}, setAll is xs (shE k ρ) = (setAll is xs ρ).map (shE k)
  | [], [], _ => rfl
  | [], _ :: _, _ => rfl
  | _ :: _, [], _ => rfl
  | i :: is, x :: xs, ρ => by
    show setAll is xs ((shE k ρ).set i (some (.d x))) = (setAll is xs (ρ.set i (some (.d x)))).map (shE k)
    have : (shE k ρ).set i (some (.d x)) = shE k (ρ.set i (some (.d x))) := by
      unfold shE
      rw [List.map_set]
      rfl
    rw [this]
    exact setAll_fr
theorem set_env {k i : Nat} {v : Val} {ρ : Env} : (shE k ρ).set i (some (sh k v)) = shE k (ρ.set i (some v)) := by
  unfold shE
  rw [List.map_set]
  rfl
theorem asgD_fr {k : Nat} {t : Tg} {x : D} {ρ : Env} : asgD t x (shE k ρ) = (asgD t x ρ).map (shE k) := by
  cases t with
  | nm i => exact congrArg some (set_env (v := .d x))
  | tp is =>
    cases x with
    | tuple xs => exact setAll_fr
    | _ => rfl
theorem wipe_fr {k : Nat} {ρ : Env} : ∀ {own : List Nat}, wipeE (shE k ρ) own = shE k (wipeE ρ own)
  | [] => rfl
  | i :: own => by
    show (wipeE (shE k ρ) own).set i none = shE k ((wipeE ρ own).set i none)
    rw [wipe_fr]
    unfold shE
    rw [List.map_set]
    rfl
theorem calm_fr {r : R α} : R.calm (frA f P r) = frA f P (R.calm r) := by cases r <;> rfl
theorem compLoop_fr {h h' : D → Store → R (Option D)} (k : ∀ x m, h' x (P ++ m) = frI P (h x m)) : ∀ {xs acc : List D} {m : Store}, compLoop h' xs acc (P ++ m) = frI P (compLoop h xs acc m)
  | [], _, _ => rfl
  | x :: xs, acc, m => by
    show (h' x (P ++ m)).bind _ = frI P ((h x m).bind _)
    refine bind_fr (f := id) (k x m) fun o m1 => ?_
    cases o with
    | none => exact compLoop_fr k
    | some y => exact compLoop_fr k
def shF (k : Nat) : Fl → Fl
  | .nx ρ => .nx (shE k ρ)
  | .rt v => .rt (sh k v)
abbrev frF (P : Store) : R Fl → R Fl := frA (shF P.length) P
theorem forLoop_fr {h h' : D → Env → Store → R Fl} (k : ∀ x ρ m, h' x (shE P.length ρ) (P ++ m) = frF P (h x ρ m)) : ∀ {xs : List D} {ρ : Env} {m : Store}, forLoop h' xs (shE P.length ρ) (P ++ m) = frF P (forLoop h xs ρ m)
  | [], _, _ => rfl
  | x :: xs, ρ, m => by
    show (h' x (shE P.length ρ) (P ++ m)).bind _ = frF P ((h x ρ m).bind _)
    refine bind_fr (k x ρ m) fun o m1 => ?_
    cases o with
    | nx ρ1 => exact forLoop_fr k
    | rt v => rfl
theorem whileLoop_fr {c c' : Env → Store → R Bool} {h h' : Env → Store → R Fl} (kc : ∀ ρ m, c' (shE P.length ρ) (P ++ m) = frI P (c ρ m)) (k : ∀ ρ m, h' (shE P.length ρ) (P ++ m) = frF P (h ρ m)) : ∀ {n : Nat} {ρ : Env} {m : Store}, whileLoop c' h' n (shE P.length ρ) (P ++ m) = frF P (whileLoop c h n ρ m)
  | 0, _, _ => rfl
  | n + 1, ρ, m => by
    show (c' (shE P.length ρ) (P ++ m)).bind _ = frF P ((c ρ m).bind _)
    refine bind_fr (f := id) (kc ρ m) fun b m1 => ?_
    cases b with
    | false => rfl
    | true =>
      show (h' (shE P.length ρ) (P ++ m1)).bind _ = frF P ((h ρ m1).bind _)
      refine bind_fr (k ρ m1) fun o m2 => ?_
      cases o with
      | nx ρ1 => exact whileLoop_fr kc k
      | rt v => rfl
end
section
variable {F : Type} {Φ : F → List Val → Store → R Val} {L : Nat} {P : Store} (hΦ : ∀ f vs m, Φ f (vs.map (sh P.length)) (P ++ m) = frV P (Φ f vs m))
include hΦ
mutual
theorem ev_fr : ∀ (e : PX F) (ρ : Env) (m : Store), ev Φ e (shE P.length ρ) (P ++ m) = frV P (ev Φ e ρ m)
  | .lit x, ρ, m => rfl
  | .loc i, ρ, m => by
    show (match (shE P.length ρ)[i]? with | some (some v) => R.ok v (P ++ m) | _ => .no) = frV P (match ρ[i]? with | some (some v) => R.ok v m | _ => .no)
    have : (shE P.length ρ)[i]? = (ρ[i]?).map (Option.map (sh P.length)) := List.getElem?_map
    rw [this]
    cases ρ[i]? with
    | none => rfl
    | some o => cases o <;> rfl
  | .tup es, ρ, m => by
    show (evs Φ es (shE P.length ρ) (P ++ m)).bind _ = frV P ((evs Φ es ρ m).bind _)
    refine bind_fr (evs_fr es ρ m) fun vs m1 => ?_
    rw [allD_fr]
    cases allD vs with
    | none => rfl
    | some xs => exact put_fr
  | .lst es, ρ, m => by
    show (evs Φ es (shE P.length ρ) (P ++ m)).bind _ = frV P ((evs Φ es ρ m).bind _)
    refine bind_fr (evs_fr es ρ m) fun vs m1 => ?_
    rw [allD_fr]
    cases allD vs with
    | none => rfl
    | some xs => exact put_fr
  | .dsp _ _, _, _ => rfl
  | .bin o a b, ρ, m => bind_fr (ev_fr a ρ m) fun v m1 => bind_fr (ev_fr b ρ m1) fun w m2 => opR_fr
  | .neg a, ρ, m => bind_fr (ev_fr a ρ m) fun v m1 => by
    rw [rd_fr]
    cases rd v m1 with
    | none => rfl
    | some d => cases d <;> rfl
  | .not a, ρ, m => bind_fr (f := id) (bind_fr (ev_fr a ρ m) fun v m1 => truR_fr) fun b m1 => rfl
  | .and a b, ρ, m => bind_fr (ev_fr a ρ m) fun v m1 => bind_fr (f := id) truR_fr fun t m2 => by
    cases t with
    | true => exact ev_fr b ρ m2
    | false => rfl
  | .or a b, ρ, m => bind_fr (ev_fr a ρ m) fun v m1 => bind_fr (f := id) truR_fr fun t m2 => by
    cases t with
    | true => rfl
    | false => exact ev_fr b ρ m2
  | .cmp c a b, ρ, m => bind_fr (ev_fr a ρ m) fun v m1 => bind_fr (ev_fr b ρ m1) fun w m2 => cmR_fr
  | .chain c c' a b e, ρ, m => bind_fr (ev_fr a ρ m) fun v m1 => bind_fr (ev_fr b ρ m1) fun w m2 => bind_fr cmR_fr fun t m3 => by
    cases t with
    | r n => rfl
    | d x =>
      cases x with
      | bool q =>
        cases q with
        | true => exact bind_fr (ev_fr e ρ m3) fun u m4 => cmR_fr
        | false => rfl
      | _ => rfl
  | .ite c a b, ρ, m => bind_fr (f := id) (bind_fr (ev_fr c ρ m) fun v m1 => truR_fr) fun t m1 => by
    cases t with
    | true => exact ev_fr a ρ m1
    | false => exact ev_fr b ρ m1
  | .idx a i, ρ, m => bind_fr (ev_fr a ρ m) fun v m1 => bind_fr (ev_fr i ρ m1) fun w m2 => by
    rw [rd_fr, rd_fr]
    cases rd v m2 with
    | none => rfl
    | some x =>
      cases rd w m2 with
      | none => rfl
      | some y =>
        dsimp only
        cases ixF x y <;> rfl
  | .sli a lo hi, ρ, m => bind_fr (ev_fr a ρ m) fun v m1 => bind_fr (f := id) (evO_fr lo ρ m1) fun l m2 => bind_fr (f := id) (evO_fr hi ρ m2) fun h m3 => by
    rw [rd_fr]
    cases rd v m3 with
    | none => rfl
    | some x =>
      dsimp only [id]
      cases slF x l h with
      | none => rfl
      | some z => exact put_fr
  | .rev a, ρ, m => bind_fr (ev_fr a ρ m) fun v m1 => by
    rw [rd_fr]
    cases rd v m1 with
    | none => rfl
    | some x =>
      dsimp only
      cases revF x with
      | none => rfl
      | some z => exact put_fr
  | .call f es, ρ, m => bind_fr (evs_fr es ρ m) fun vs m1 => hΦ f vs m1
  | .blt b es, ρ, m => bind_fr (evs_fr es ρ m) fun vs m1 => by
    rw [rdAll_fr]
    cases rdAll m1 vs with
    | none => rfl
    | some xs =>
      dsimp only
      cases blF b xs with
      | none => rfl
      | some z => exact put_fr
  | .isi e ts, ρ, m => bind_fr (ev_fr e ρ m) fun v m1 => by
    rw [rd_fr]
    cases rd v m1 with
    | none => rfl
    | some x =>
      dsimp only
      cases isiF ts x <;> rfl
  | .app o e, ρ, m => bind_fr (ev_fr o ρ m) fun v m1 => by
    have : isLst (sh P.length v) (P ++ m1) = isLst v m1 := by
      unfold isLst
      rw [rd_fr]
    rw [this]
    cases isLst v m1 with
    | false => rfl
    | true => exact bind_fr (ev_fr e ρ m1) fun w m2 => bind_fr (f := id) fz_fr fun x m3 => app1_fr
  | .mpop o, ρ, m => bind_fr (ev_fr o ρ m) fun v m1 => pop1_fr
  | .mget o k x, ρ, m => bind_fr (ev_fr o ρ m) fun v m1 => bind_fr (ev_fr k ρ m1) fun w m2 => bind_fr (ev_fr x ρ m2) fun u m3 => by
    rw [rd_fr, rd_fr, rd_fr]
    cases rd v m3 with
    | none => rfl
    | some x =>
      cases rd w m3 with
      | none => cases x <;> rfl
      | some y =>
        cases rd u m3 with
        | none => cases x <;> rfl
        | some z =>
          cases x with
          | dict kvs =>
            dsimp only
            cases ixF (.dict kvs) y with
            | some t => rfl
            | none =>
              dsimp only
              split <;> rfl
          | _ => rfl
  | .midx o e, ρ, m => bind_fr (ev_fr o ρ m) fun v m1 => by
    cases v with
    | r n => rfl
    | d x =>
      cases x with
      | str a =>
          refine bind_fr (ev_fr e ρ m1) fun w m2 => ?_
          rw [rd_fr]
          cases rd w m2 with
          | none => rfl
          | some y =>
            cases y with
            | str b =>
              dsimp only
              cases Builtin.Str.occurrences a b 0 a.length 1 <;> rfl
            | _ => rfl
      | _ => rfl
  | .join o e, ρ, m => bind_fr (ev_fr o ρ m) fun v m1 => by
    cases v with
    | r n => rfl
    | d x =>
      cases x with
      | str a =>
          refine bind_fr (ev_fr e ρ m1) fun w m2 => ?_
          rw [rd_fr]
          cases rd w m2 with
          | none => rfl
          | some y =>
            dsimp only
            cases joinF (.str a) y <;> rfl
      | _ => rfl
  | .split o e, ρ, m => bind_fr (ev_fr o ρ m) fun v m1 => by
    cases v with
    | r n => rfl
    | d x =>
      cases x with
      | str a =>
          refine bind_fr (ev_fr e ρ m1) fun w m2 => ?_
          rw [rd_fr]
          cases rd w m2 with
          | none => rfl
          | some y =>
            dsimp only
            cases splitF (.str a) y with
            | none => rfl
            | some zs => exact put_fr
      | _ => rfl
  | .count _ _, _, _ => rfl
  | .comp elt t it c own, ρ, m => bind_fr (f := id) (evI_fr it ρ m) fun xs m1 => bind_fr (f := id) (by
      show R.calm (compLoop _ xs [] (P ++ m1)) = _
      rw [← calm_fr]
      refine congrArg R.calm (compLoop_fr fun x m2 => ?_)
      rw [wipe_fr, asgD_fr]
      cases asgD t x (wipeE ρ own) with
      | none => rfl
      | some ρ1 =>
          refine bind_fr (f := id) (evC_fr c ρ1 m2) fun b m3 => ?_
          cases b with
          | false => rfl
          | true => exact bind_fr (ev_fr elt ρ1 m3) fun v m4 => bind_fr (f := id) fz_fr fun y m5 => rfl) fun ys m6 => put_fr
  | .comp2 .., _, _ => rfl
  | .dcomp .., _, _ => rfl
theorem evs_fr : ∀ (e : PXs F) (ρ : Env) (m : Store), evs Φ e (shE P.length ρ) (P ++ m) = frA (List.map (sh P.length)) P (evs Φ e ρ m)
  | .nil, _, _ => rfl
  | .cons k e r, ρ, m => bind_fr (ev_fr e ρ m) fun v m1 => bind_fr (f := sh P.length) (by
      cases k with
      | true => rfl
      | false => exact bind_fr (f := id) fz_fr fun x m2 => rfl) fun w m3 => bind_fr (evs_fr r ρ m3) fun ws m4 => rfl
theorem evO_fr : ∀ (e : PO F) (ρ : Env) (m : Store), evO Φ e (shE P.length ρ) (P ++ m) = frI P (evO Φ e ρ m)
  | .no, _, _ => rfl
  | .so e, ρ, m => bind_fr (ev_fr e ρ m) fun v m1 => partI_fr
theorem evC_fr : ∀ (e : PO F) (ρ : Env) (m : Store), evC Φ e (shE P.length ρ) (P ++ m) = frI P (evC Φ e ρ m)
  | .no, _, _ => rfl
  | .so e, ρ, m => bind_fr (ev_fr e ρ m) fun v m1 => truR_fr
theorem evI_fr : ∀ (e : DL.It F) (ρ : Env) (m : Store), evI Φ e (shE P.length ρ) (P ++ m) = frI P (evI Φ e ρ m)
  | .of e, ρ, m => bind_fr (ev_fr e ρ m) fun v m1 => bind_fr (f := id) fz_fr fun x m2 => by
    dsimp only [id]
    cases seqOf x <;> rfl
  | .rng1 e, ρ, m => bind_fr (ev_fr e ρ m) fun v m1 => by
    rw [rd_fr]
    cases rd v m1 with
    | none => rfl
    | some d =>
      cases d with
      | int j =>
        dsimp only
        split <;> rfl
      | _ => rfl
  | .rng2 a b, ρ, m => bind_fr (ev_fr a ρ m) fun v m1 => bind_fr (ev_fr b ρ m1) fun w m2 => by
    rw [rd_fr, rd_fr]
    cases rd v m2 with
    | none => rfl
    | some d =>
      cases rd w m2 with
      | none => cases d <;> rfl
      | some d2 =>
        cases d with
        | int i =>
          cases d2 with
          | int j =>
            dsimp only
            split <;> rfl
          | _ => rfl
        | _ => rfl
  | .rng3 a b c, ρ, m => bind_fr (ev_fr a ρ m) fun v m1 => bind_fr (ev_fr b ρ m1) fun w m2 => bind_fr (ev_fr c ρ m2) fun u m3 => by
    rw [rd_fr, rd_fr, rd_fr]
    cases rd v m3 with
    | none => rfl
    | some d =>
      cases rd w m3 with
      | none => cases d <;> rfl
      | some d2 =>
        cases rd u m3 with
        | none => cases d <;> cases d2 <;> rfl
        | some d3 =>
          cases d with
          | int i =>
            cases d2 with
            | int j =>
              cases d3 with
              | int k =>
                dsimp only
                split <;> rfl
              | _ => rfl
            | _ => rfl
          | _ => rfl
  | .enum e, ρ, m => bind_fr (ev_fr e ρ m) fun v m1 => bind_fr (f := id) fz_fr fun x m2 => by
    dsimp only [id]
    cases seqOf x <;> rfl
  | .zip a b, ρ, m => bind_fr (ev_fr a ρ m) fun v m1 => bind_fr (f := id) fz_fr fun x m2 => bind_fr (ev_fr b ρ m2) fun w m3 => bind_fr (f := id) fz_fr fun y m4 => by
    dsimp only [id]
    cases seqOf x with
    | none => rfl
    | some xs =>
      cases seqOf y with
      | none => rfl
      | some ys =>
        dsimp only
        split <;> rfl
end
theorem evT_fr (e : PX F) (ρ : Env) (m : Store) : evT Φ e (shE P.length ρ) (P ++ m) = frI P (evT Φ e ρ m) := bind_fr (ev_fr hΦ e ρ m) fun v m1 => truR_fr
mutual
theorem evS_fr : ∀ (s : PS F) (ρ : Env) (m : Store), evS Φ L s (shE P.length ρ) (P ++ m) = frF P (evS Φ L s ρ m)
  | .asg t e, ρ, m => bind_fr (ev_fr hΦ e ρ m) fun v m1 => by
    cases t with
    | nm i => show R.ok (Fl.nx _) _ = R.ok (Fl.nx _) _; rw [set_env]
    | tp is =>
      dsimp only
      rw [rd_fr]
      cases rd v m1 with
      | none => rfl
      | some x =>
        dsimp only
        rw [asgD_fr]
        cases asgD (.tp is) x ρ <;> rfl
  | .set o i e, ρ, m => bind_fr (ev_fr hΦ e ρ m) fun v m1 => bind_fr (f := id) fz_fr fun x m2 => bind_fr (ev_fr hΦ o ρ m2) fun w m3 => bind_fr (ev_fr hΦ i ρ m3) fun k m4 => bind_fr (f := id) setAt_fr fun _ m5 => rfl
  | .par is es, ρ, m => bind_fr (evs_fr hΦ es ρ m) fun vs m1 => by
    match is, vs with
    | [i, j], [v, w] => show R.ok (Fl.nx _) _ = R.ok (Fl.nx _) _; rw [set_env, set_env]
    | [i, j, k], [v, w, u] => show R.ok (Fl.nx _) _ = R.ok (Fl.nx _) _; rw [set_env, set_env, set_env]
    | [], _ => rfl
    | [_], _ => rfl
    | [_, _], [] => rfl
    | [_, _], [_] => rfl
    | [_, _], _ :: _ :: _ :: _ => rfl
    | [_, _, _], [] => rfl
    | [_, _, _], [_] => rfl
    | [_, _, _], [_, _] => rfl
    | [_, _, _], _ :: _ :: _ :: _ :: _ => rfl
    | _ :: _ :: _ :: _ :: _, _ => rfl
  | .aug i o e, ρ, m => by
    show (match (shE P.length ρ)[i]? with | some (some v) => (ev Φ e (shE P.length ρ) (P ++ m)).bind _ | _ => .no) = frF P (match ρ[i]? with | some (some v) => (ev Φ e ρ m).bind _ | _ => .no)
    have : (shE P.length ρ)[i]? = (ρ[i]?).map (Option.map (sh P.length)) := List.getElem?_map
    rw [this]
    cases ρ[i]? with
    | none => rfl
    | some q =>
      cases q with
      | none => rfl
      | some v => exact bind_fr (ev_fr hΦ e ρ m) fun w m1 => bind_fr augR_fr fun u m2 => by show R.ok (Fl.nx _) _ = R.ok (Fl.nx _) _; rw [set_env]
  | .ex e, ρ, m => bind_fr (ev_fr hΦ e ρ m) fun v m1 => rfl
  | .iff c a b, ρ, m => bind_fr (f := id) (evT_fr hΦ c ρ m) fun t m1 => by
    cases t with
    | true => exact evSs_fr a ρ m1
    | false => exact evSs_fr b ρ m1
  | .for t it b, ρ, m => bind_fr (f := id) (evI_fr hΦ it ρ m) fun xs m1 => forLoop_fr fun x ρ1 m2 => by
    rw [asgD_fr]
    cases asgD t x ρ1 with
    | none => rfl
    | some ρ2 => exact evSs_fr b ρ2 m2
  | .whl c b, ρ, m => whileLoop_fr (fun ρ1 m1 => evT_fr hΦ c ρ1 m1) fun ρ1 m1 => evSs_fr b ρ1 m1
  | .ret e, ρ, m => bind_fr (ev_fr hΦ e ρ m) fun v m1 => rfl
  | .ret0, _, _ => rfl
  | .pass, _, _ => rfl
  | .rais _ _, _, _ => rfl
theorem evSs_fr : ∀ (s : PSs F) (ρ : Env) (m : Store), evSs Φ L s (shE P.length ρ) (P ++ m) = frF P (evSs Φ L s ρ m)
  | .nil, _, _ => rfl
  | .cons s r, ρ, m => bind_fr (evS_fr s ρ m) fun o m1 => by
    cases o with
    | nx ρ1 => exact evSs_fr r ρ1 m1
    | rt v => rfl
end
theorem leave_fr {k : Nat} {v : Val} {m : Store} : leave (k + P.length) (sh P.length v) (P ++ m) = frV P (leave k v m) := by
  have tk : (P ++ m).take (k + P.length) = P ++ m.take k := by rw [Nat.add_comm]; exact take_fr
  cases v with
  | d x => show R.ok _ _ = R.ok _ _; rw [tk]; rfl
  | r j =>
    show (if j + P.length < k + P.length then R.ok (.r (j + P.length)) ((P ++ m).take (k + P.length)) else match (P ++ m)[j + P.length]? with | some (.fz x) => .ok (.d x) ((P ++ m).take (k + P.length)) | some c => .ok (.r (k + P.length)) ((P ++ m).take (k + P.length) ++ [c]) | none => .no) =
      frV P (if j < k then R.ok (.r j) (m.take k) else match m[j]? with | some (.fz x) => .ok (.d x) (m.take k) | some c => .ok (.r k) (m.take k ++ [c]) | none => .no)
    rw [tk, at_fr]
    by_cases hj : j < k
    · rw [if_pos hj, if_pos (by omega)]
      rfl
    · rw [if_neg hj, if_neg (by omega)]
      cases m[j]? with
      | none => rfl
      | some c => cases c <;> (show R.ok _ _ = R.ok _ _) <;> simp [sh]
theorem evFn_fr (fn : Fn F) (vs : List Val) (m : Store) : evFn Φ L fn (vs.map (sh P.length)) (P ++ m) = frV P (evFn Φ L fn vs m) := by
  unfold evFn
  rw [List.length_map]
  by_cases hl : vs.length = fn.ps
  · rw [if_pos hl, if_pos hl]
    have he : (vs.map (sh P.length)).map some ++ List.replicate (fn.ns - fn.ps) none = shE P.length (vs.map some ++ List.replicate (fn.ns - fn.ps) none) := by
      unfold shE
      rw [List.map_append, List.map_map, List.map_map, List.map_replicate]
      rfl
    rw [he, evSs_fr hΦ]
    have tk : ∀ m1 : Store, (P ++ m1).take (P ++ m).length = P ++ m1.take m.length := fun m1 => by rw [List.length_append]; exact take_fr
    cases evSs Φ L fn.body (vs.map some ++ List.replicate (fn.ns - fn.ps) none) m with
    | no => rfl
    | ex x m1 => show R.ex _ _ = R.ex _ _; rw [tk]
    | ok o m1 =>
      cases o with
      | nx ρ => show R.ok _ _ = R.ok _ _; rw [tk]; rfl
      | rt v =>
        show leave (P ++ m).length (sh P.length v) (P ++ m1) = frV P (leave m.length v m1)
        rw [List.length_append, Nat.add_comm]
        exact leave_fr hΦ
  · rw [if_neg hl, if_neg hl]
    rfl
end
theorem call_fr {F : Type} {tab : F → Fn F} {L : Nat} {P : Store} : ∀ (n : Nat) (f : F) (vs : List Val) (m : Store), callF tab L n f (vs.map (sh P.length)) (P ++ m) = frV P (callF tab L n f vs m)
  | 0, _, _, _ => rfl
  | n + 1, f, vs, m => evFn_fr (Φ := callF tab L n) (fun f vs m => call_fr n f vs m) (tab f) vs m
/-- a call with data alone, told at the empty store -/
theorem lift {F : Type} {tab : F → Fn F} {L n : Nat} {f : F} {xs : List D} {y : D} (h : callF tab L n f (xs.map .d) [] = .ok (.d y) []) (m : Store) : callF tab L n f (xs.map .d) m = .ok (.d y) m := by
  have q := call_fr (tab := tab) (L := L) (P := m) n f (xs.map .d) []
  rw [List.append_nil, h] at q
  have e : (xs.map Val.d).map (sh m.length) = xs.map .d := by
    rw [List.map_map]
    rfl
  rw [e] at q
  rw [q]
  show R.ok _ (m ++ []) = _
  rw [List.append_nil]
  rfl
/-- the answer is a new list -/
theorem liftL {F : Type} {tab : F → Fn F} {L n : Nat} {f : F} {xs ys : List D} (h : callF tab L n f (xs.map .d) [] = .ok (.r 0) [.lst ys]) (m : Store) : callF tab L n f (xs.map .d) m = .ok (.r m.length) (m ++ [.lst ys]) := by
  have q := call_fr (tab := tab) (L := L) (P := m) n f (xs.map .d) []
  rw [List.append_nil, h] at q
  have e : (xs.map Val.d).map (sh m.length) = xs.map .d := by
    rw [List.map_map]
    rfl
  rw [e] at q
  rw [q]
  show R.ok (Val.r (0 + m.length)) _ = _
  rw [Nat.zero_add]
end DL
end
section
set_option Elab.async false
set_option linter.all false
set_option maxRecDepth 100000
set_option maxHeartbeats 4000000
/-! H23: the table of the law. -/
namespace DL.K23
open PySem DL PySem.Spec PyProof.Rows L2

abbrev S (x : String) : Str := Str.ofString x
def bd (j : Nat) : Stmt := PySem.Challenge.pw_doubledoors_k23_whole_texts_read_back.main.body.getD j (.Pass ⟨0, 0, 0, 0⟩)
def r0 : Row := ⟨0, S "is_word", [false, false], bd 12, [S "value", S "words"], [S "value", S "words"]⟩
def r1 : Row := ⟨1, S "is_habit_value", [false], bd 13, [S "value"], [S "value"]⟩
def r2 : Row := ⟨2, S "is_home", [false], bd 14, [S "value", S "one"], [S "value"]⟩
def r3 : Row := ⟨3, S "is_pair", [false], bd 15, [S "value"], [S "value"]⟩
def r4 : Row := ⟨4, S "is_house_value", [false], bd 16, [S "value", S "lamp", S "linked", S "inner", S "outer", S "homes", S "one"], [S "value"]⟩
def r5 : Row := ⟨5, S "need_house", [false], bd 17, [S "value"], [S "value"]⟩
def r23 : Row := ⟨23, S "head_of", [false], bd 19, [S "words", S "inner", S "word"], [S "words"]⟩
def r24 : Row := ⟨24, S "habit_of", [false], bd 20, [S "words", S "habit"], [S "words"]⟩
def r25 : Row := ⟨25, S "part_of", [false], bd 21, [S "line", S "words"], [S "line"]⟩
def r26 : Row := ⟨26, S "text", [false], bd 22, [S "house", S "lamp", S "linked", S "inner", S "outer", S "homes", S "words", S "lines", S "door", S "home", S "habit", S "one"], [S "house"]⟩
def r27 : Row := ⟨27, S "read", [false], bd 23, [S "value", S "parts", S "rest", S "homes", S "house", S "doors", S "line", S "part", S "one", S "door", S "habit"], [S "value"]⟩
def r12 : Row := ⟨12, S "_law_deck", [false, false], bd 25, [S "cell", S "turn"], [S "cell", S "turn"]⟩
def r13 : Row := ⟨13, S "_law_pick", [true, false], bd 26, [S "deck", S "size", S "number", S "found"], [S "deck", S "size"]⟩
def r14 : Row := ⟨14, S "_law_one", [true, false], bd 27, [S "deck", S "some"], [S "deck", S "some"]⟩
def r15 : Row := ⟨15, S "_law_sort", [false], bd 28, [S "thing"], [S "thing"]⟩
def r16 : Row := ⟨16, S "_law_same", [false, false], bd 29, [S "told", S "due", S "k", S "part"], [S "told", S "due"]⟩
def r17 : Row := ⟨17, S "_law_habit", [true], bd 30, [S "deck", S "bolts_so", S "goes_so", S "undoes_so", S "forgets_so"], [S "deck"]⟩
def r18 : Row := ⟨18, S "_law_room", [true, false], bd 31, [S "deck", S "most", S "lamp", S "inner", S "words_so", S "outer", S "homes", S "k", S "home", S "turn"], [S "deck", S "most"]⟩
def r28 : Row := ⟨28, S "_law_lines", [false], bd 32, [S "house", S "head", S "lines", S "k", S "habit", S "one"], [S "house"]⟩
def r29 : Row := ⟨29, S "law", [false], bd 33, [S "script", S "cell", S "deck", S "turn", S "house", S "due"], [S "script"]⟩
def ld : LD := ⟨[r0, r1, r2, r3, r4, r5, r23, r24, r25, r26, r27, r12, r13, r14, r15, r16, r17, r18, r28, r29], [(S "LAMPS", (.tuple [(.str (S "bolts")), (.str (S "none")), (.str (S "within"))])), (S "OUTERS", (.tuple [(.str (S "any")), (.str (S "leaving")), (.str (S "none"))])), (S "BOLTS", (.tuple [(.str (S "both")), (.str (S "none")), (.str (S "own"))])), (S "GOES", (.tuple [(.str (S "either")), (.str (S "same"))])), (S "UNDOES", (.tuple [(.str (S "both")), (.str (S "own"))])), (S "FORGETS", (.tuple [(.str (S "all")), (.str (S "bolts")), (.str (S "never")), (.str (S "undoing"))])), (S "MOST_HABITS", (.int (2)))], [S "all", S "bool", S "enumerate", S "int", S "isinstance", S "len", S "list", S "range", S "sorted", S "str", S "super", S "tuple"]⟩
def b0 : PSs Nat := (.cons (.ret (.and (.isi (.loc 0) [.str]) (.cmp .isin (.loc 0) (.loc 1)))) .nil)
def b1 : PSs Nat := (.cons (.iff (.or (.not (.isi (.loc 0) [.tuple])) (.or (.cmp .ne (.blt .len (.cons false (.loc 0) .nil)) (.lit (.int (5)))) (.not (.isi (.idx (.loc 0) (.lit (.int (0)))) [.bool])))) (.cons (.ret (.lit (.bool false))) .nil) .nil) (.cons (.iff (.or (.not (.call 0 (.cons false (.idx (.loc 0) (.lit (.int (1)))) (.cons false (.lit (.tuple [(.str (S "both")), (.str (S "none")), (.str (S "own"))])) .nil)))) (.not (.call 0 (.cons false (.idx (.loc 0) (.lit (.int (2)))) (.cons false (.lit (.tuple [(.str (S "either")), (.str (S "same"))])) .nil))))) (.cons (.ret (.lit (.bool false))) .nil) .nil) (.cons (.ret (.and (.call 0 (.cons false (.idx (.loc 0) (.lit (.int (3)))) (.cons false (.lit (.tuple [(.str (S "both")), (.str (S "own"))])) .nil))) (.call 0 (.cons false (.idx (.loc 0) (.lit (.int (4)))) (.cons false (.lit (.tuple [(.str (S "all")), (.str (S "bolts")), (.str (S "never")), (.str (S "undoing"))])) .nil))))) .nil)))
def b2 : PSs Nat := (.cons (.iff (.or (.not (.isi (.loc 0) [.tuple])) (.not (.chain .le .le (.lit (.int (1))) (.blt .len (.cons false (.loc 0) .nil)) (.lit (.int (2)))))) (.cons (.ret (.lit (.bool false))) .nil) .nil) (.cons (.ret (.blt .all (.cons false (.comp (.call 1 (.cons false (.loc 1) .nil)) (.nm 1) (.of (.loc 0)) .no [1]) .nil))) .nil))
def b3 : PSs Nat := (.cons (.ret (.and (.isi (.loc 0) [.tuple]) (.cmp .eq (.blt .len (.cons false (.loc 0) .nil)) (.lit (.int (2)))))) .nil)
def b4 : PSs Nat := (.cons (.iff (.or (.not (.isi (.loc 0) [.tuple])) (.cmp .ne (.blt .len (.cons false (.loc 0) .nil)) (.lit (.int (5))))) (.cons (.ret (.lit (.bool false))) .nil) .nil) (.cons (.asg (.tp [1, 2, 3, 4, 5]) (.loc 0)) (.cons (.iff (.or (.not (.call 0 (.cons false (.loc 1) (.cons false (.lit (.tuple [(.str (S "bolts")), (.str (S "none")), (.str (S "within"))])) .nil)))) (.not (.isi (.loc 2) [.bool]))) (.cons (.ret (.lit (.bool false))) .nil) .nil) (.cons (.iff (.or (.not (.call 3 (.cons false (.loc 3) .nil))) (.or (.not (.call 3 (.cons false (.loc 4) .nil))) (.not (.call 3 (.cons false (.loc 5) .nil))))) (.cons (.ret (.lit (.bool false))) .nil) .nil) (.cons (.iff (.or (.not (.blt .all (.cons false (.comp (.isi (.loc 6) [.bool]) (.nm 6) (.of (.loc 3)) .no [6]) .nil))) (.not (.blt .all (.cons false (.comp (.call 0 (.cons false (.loc 6) (.cons false (.lit (.tuple [(.str (S "any")), (.str (S "leaving")), (.str (S "none"))])) .nil))) (.nm 6) (.of (.loc 4)) .no [6]) .nil)))) (.cons (.ret (.lit (.bool false))) .nil) .nil) (.cons (.ret (.blt .all (.cons false (.comp (.call 2 (.cons false (.loc 6) .nil)) (.nm 6) (.of (.loc 5)) .no [6]) .nil))) .nil))))))
def b5 : PSs Nat := (.cons (.iff (.not (.call 4 (.cons false (.loc 0) .nil))) (.cons (.rais 0 .nil) .nil) .nil) .nil)
def b23 : PSs Nat := (.cons (.iff (.or (.cmp .ne (.blt .len (.cons false (.loc 0) .nil)) (.lit (.int (7)))) (.or (.cmp .ne (.idx (.loc 0) (.lit (.int (0)))) (.lit (.str (S "house")))) (.or (.cmp .notin (.idx (.loc 0) (.lit (.int (1)))) (.lit (.tuple [(.str (S "bolts")), (.str (S "none")), (.str (S "within"))]))) (.cmp .notin (.idx (.loc 0) (.lit (.int (2)))) (.tup (.cons false (.lit (.str (S "linked"))) (.cons false (.lit (.str (S "single"))) .nil))))))) (.cons (.ret (.lit .none)) .nil) .nil) (.cons (.iff (.or (.not (.blt .all (.cons false (.comp (.cmp .isin (.loc 2) (.tup (.cons false (.lit (.str (S "bolt"))) (.cons false (.lit (.str (S "bare"))) .nil)))) (.nm 2) (.of (.sli (.loc 0) (.so (.lit (.int (3)))) (.so (.lit (.int (5)))))) .no [2]) .nil))) (.not (.blt .all (.cons false (.comp (.cmp .isin (.loc 2) (.lit (.tuple [(.str (S "any")), (.str (S "leaving")), (.str (S "none"))]))) (.nm 2) (.of (.sli (.loc 0) (.so (.lit (.int (5)))) .no)) .no [2]) .nil)))) (.cons (.ret (.lit .none)) .nil) .nil) (.cons (.asg (.nm 1) (.blt .tuple (.cons false (.comp (.cmp .eq (.loc 2) (.lit (.str (S "bolt")))) (.nm 2) (.of (.sli (.loc 0) (.so (.lit (.int (3)))) (.so (.lit (.int (5)))))) .no [2]) .nil))) (.cons (.ret (.tup (.cons false (.idx (.loc 0) (.lit (.int (1)))) (.cons false (.cmp .eq (.idx (.loc 0) (.lit (.int (2)))) (.lit (.str (S "linked")))) (.cons false (.loc 1) (.cons false (.blt .tuple (.cons false (.sli (.loc 0) (.so (.lit (.int (5)))) .no) .nil)) .nil)))))) .nil))))
def b24 : PSs Nat := (.cons (.iff (.or (.cmp .ne (.blt .len (.cons false (.loc 0) .nil)) (.lit (.int (6)))) (.or (.cmp .notin (.idx (.loc 0) (.lit (.int (0)))) (.tup (.cons false (.lit (.str (S "0"))) (.cons false (.lit (.str (S "1"))) .nil)))) (.cmp .notin (.idx (.loc 0) (.lit (.int (1)))) (.tup (.cons false (.lit (.str (S "looks"))) (.cons false (.lit (.str (S "blind"))) .nil)))))) (.cons (.ret (.lit .none)) .nil) .nil) (.cons (.asg (.nm 1) (.bin .add (.tup (.cons false (.cmp .eq (.idx (.loc 0) (.lit (.int (1)))) (.lit (.str (S "looks")))) .nil)) (.blt .tuple (.cons false (.sli (.loc 0) (.so (.lit (.int (2)))) .no) .nil)))) (.cons (.ret (.ite (.call 1 (.cons false (.loc 1) .nil)) (.tup (.cons false (.midx (.lit (.str (S "01"))) (.idx (.loc 0) (.lit (.int (0))))) (.cons false (.loc 1) .nil))) (.lit .none))) .nil)))
def b25 : PSs Nat := (.cons (.asg (.nm 1) (.split (.loc 0) (.lit (.str (S " "))))) (.cons (.ret (.ite (.cmp .eq (.idx (.loc 1) (.lit (.int (0)))) (.lit (.str (S "house")))) (.call 23 (.cons false (.loc 1) .nil)) (.call 24 (.cons false (.loc 1) .nil)))) .nil))
def b26 : PSs Nat := (.cons (.ex (.call 5 (.cons false (.loc 0) .nil))) (.cons (.asg (.tp [1, 2, 3, 4, 5]) (.loc 0)) (.cons (.asg (.nm 6) (.lst (.cons false (.lit (.str (S "house"))) (.cons false (.loc 1) (.cons false (.ite (.loc 2) (.lit (.str (S "linked"))) (.lit (.str (S "single")))) .nil))))) (.cons (.asg (.nm 7) (.lst (.cons false (.join (.lit (.str (S " "))) (.bin .add (.bin .add (.loc 6) (.comp (.ite (.loc 11) (.lit (.str (S "bolt"))) (.lit (.str (S "bare")))) (.nm 11) (.of (.loc 3)) .no [11])) (.blt .list (.cons false (.loc 4) .nil)))) .nil))) (.cons (.for (.tp [8, 9]) (.enum (.loc 5)) (.cons (.for (.nm 10) (.of (.loc 9)) (.cons (.ex (.app (.loc 7) (.join (.lit (.str (S " "))) (.bin .add (.lst (.cons false (.blt .str (.cons false (.loc 8) .nil)) (.cons false (.ite (.idx (.loc 10) (.lit (.int (0)))) (.lit (.str (S "looks"))) (.lit (.str (S "blind")))) .nil))) (.blt .list (.cons false (.sli (.loc 10) (.so (.lit (.int (1)))) .no) .nil)))))) .nil)) .nil)) (.cons (.ret (.join (.lit (.str (S "\n"))) (.loc 7))) .nil))))))
def b27 : PSs Nat := (.cons (.iff (.not (.isi (.loc 0) [.str])) (.cons (.rais 0 .nil) .nil) .nil) (.cons (.asg (.nm 1) (.comp (.call 25 (.cons false (.loc 6) .nil)) (.nm 6) (.of (.split (.loc 0) (.lit (.str (S "\n"))))) .no [6])) (.cons (.iff (.cmp .isin (.lit .none) (.loc 1)) (.cons (.rais 0 .nil) .nil) .nil) (.cons (.iff (.cmp .eq (.blt .len (.cons false (.idx (.loc 1) (.lit (.int (0)))) .nil)) (.lit (.int (2)))) (.cons (.rais 0 .nil) .nil) .nil) (.cons (.asg (.nm 2) (.comp (.loc 7) (.nm 7) (.of (.sli (.loc 1) (.so (.lit (.int (1)))) .no)) (.so (.cmp .eq (.blt .len (.cons false (.loc 7) .nil)) (.lit (.int (2))))) [7])) (.cons (.asg (.nm 3) (.blt .tuple (.cons false (.comp (.blt .tuple (.cons false (.comp (.loc 10) (.tp [9, 10]) (.of (.loc 2)) (.so (.cmp .eq (.loc 9) (.loc 8))) [9, 10]) .nil)) (.nm 8) (.of (.tup (.cons false (.lit (.int (0))) (.cons false (.lit (.int (1))) .nil)))) .no [8]) .nil))) (.cons (.asg (.nm 4) (.bin .add (.idx (.loc 1) (.lit (.int (0)))) (.tup (.cons false (.loc 3) .nil)))) (.cons (.asg (.nm 5) (.comp (.idx (.loc 7) (.lit (.int (0)))) (.nm 7) (.of (.loc 2)) .no [7])) (.cons (.iff (.or (.cmp .ne (.blt .len (.cons false (.loc 2) .nil)) (.bin .sub (.blt .len (.cons false (.loc 1) .nil)) (.lit (.int (1))))) (.or (.cmp .ne (.loc 5) (.blt .sorted (.cons false (.loc 5) .nil))) (.not (.call 4 (.cons false (.loc 4) .nil))))) (.cons (.rais 0 .nil) .nil) .nil) (.cons (.ret (.loc 4)) .nil))))))))))
def b12 : PSs Nat := (.cons (.iff (.cmp .ge (.loc 0) (.bin .pow (.lit (.int (10))) (.lit (.int (18))))) (.cons (.ret (.lst (.cons false (.bin .sub (.loc 0) (.bin .pow (.lit (.int (10))) (.lit (.int (18))))) (.cons false (.bin .mod (.loc 0) (.lit (.int (2147483579)))) (.cons false (.loc 1) .nil))))) .nil) .nil) (.cons (.ret (.lst (.cons false (.lit (.int (0))) (.cons false (.bin .mod (.loc 0) (.lit (.int (2147483579)))) (.cons false (.loc 1) .nil))))) .nil))
def b13 : PSs Nat := (.cons (.iff (.cmp .gt (.idx (.loc 0) (.lit (.int (0)))) (.lit (.int (1)))) (.cons (.asg (.nm 3) (.bin .mod (.blt .int (.cons false (.idx (.loc 0) (.lit (.int (0)))) .nil)) (.loc 1))) (.cons (.set (.loc 0) (.lit (.int (0))) (.bin .fdiv (.idx (.loc 0) (.lit (.int (0)))) (.loc 1))) (.cons (.ret (.loc 3)) .nil))) .nil) (.cons (.set (.loc 0) (.lit (.int (2))) (.bin .add (.idx (.loc 0) (.lit (.int (2)))) (.lit (.int (1))))) (.cons (.asg (.nm 2) (.bin .mod (.bin .pow (.bin .add (.idx (.loc 0) (.lit (.int (1)))) (.bin .mul (.lit (.int (15485867))) (.idx (.loc 0) (.lit (.int (2)))))) (.lit (.int (5)))) (.lit (.int (2147483647))))) (.cons (.asg (.nm 3) (.bin .fdiv (.bin .mod (.bin .pow (.bin .add (.loc 2) (.bin .mul (.lit (.int (7919))) (.idx (.loc 0) (.lit (.int (2)))))) (.lit (.int (3)))) (.lit (.int (2147483629)))) (.lit (.int (32))))) (.cons (.ret (.bin .mod (.blt .int (.cons false (.loc 3) .nil)) (.loc 1))) .nil)))))
def b14 : PSs Nat := (.cons (.ret (.idx (.loc 1) (.call 13 (.cons true (.loc 0) (.cons false (.blt .len (.cons false (.loc 1) .nil)) .nil))))) .nil)
def b15 : PSs Nat := (.cons (.iff (.isi (.loc 0) [.bool]) (.cons (.ret (.lit (.int (1)))) .nil) .nil) (.cons (.iff (.isi (.loc 0) [.int]) (.cons (.ret (.lit (.int (2)))) .nil) .nil) (.cons (.iff (.isi (.loc 0) [.str]) (.cons (.ret (.lit (.int (3)))) .nil) .nil) (.cons (.iff (.isi (.loc 0) [.list]) (.cons (.ret (.lit (.int (4)))) .nil) .nil) (.cons (.ret (.ite (.isi (.loc 0) [.tuple]) (.lit (.int (5))) (.lit (.int (6))))) .nil)))))
def b16 : PSs Nat := (.cons (.iff (.cmp .ne (.call 15 (.cons false (.loc 0) .nil)) (.call 15 (.cons false (.loc 1) .nil))) (.cons (.ret (.lit (.bool false))) .nil) .nil) (.cons (.iff (.and (.cmp .gt (.call 15 (.cons false (.loc 0) .nil)) (.lit (.int (3)))) (.cmp .lt (.call 15 (.cons false (.loc 0) .nil)) (.lit (.int (6))))) (.cons (.iff (.cmp .ne (.blt .len (.cons false (.loc 0) .nil)) (.blt .len (.cons false (.loc 1) .nil))) (.cons (.ret (.lit (.bool false))) .nil) .nil) (.cons (.ret (.cmp .eq (.comp (.loc 2) (.tp [2, 3]) (.enum (.loc 0)) (.so (.not (.call 16 (.cons false (.loc 3) (.cons false (.idx (.loc 1) (.loc 2)) .nil))))) [2, 3]) (.lst .nil))) .nil)) .nil) (.cons (.ret (.cmp .eq (.loc 0) (.loc 1))) .nil)))
def b17 : PSs Nat := (.cons (.asg (.nm 1) (.call 14 (.cons true (.loc 0) (.cons false (.lst (.cons false (.lit (.str (S "own"))) (.cons false (.lit (.str (S "own"))) (.cons false (.lit (.str (S "both"))) (.cons false (.lit (.str (S "both"))) (.cons false (.lit (.str (S "none"))) .nil)))))) .nil)))) (.cons (.par [2, 3] (.cons false (.call 14 (.cons true (.loc 0) (.cons false (.lst (.cons false (.lit (.str (S "same"))) (.cons false (.lit (.str (S "either"))) .nil))) .nil))) (.cons false (.call 14 (.cons true (.loc 0) (.cons false (.lst (.cons false (.lit (.str (S "own"))) (.cons false (.lit (.str (S "both"))) .nil))) .nil))) .nil))) (.cons (.asg (.nm 4) (.call 14 (.cons true (.loc 0) (.cons false (.lst (.cons false (.lit (.str (S "never"))) (.cons false (.lit (.str (S "never"))) (.cons false (.lit (.str (S "bolts"))) (.cons false (.lit (.str (S "undoing"))) (.cons false (.lit (.str (S "all"))) .nil)))))) .nil)))) (.cons (.ret (.tup (.cons false (.cmp .eq (.call 13 (.cons true (.loc 0) (.cons false (.lit (.int (3))) .nil))) (.lit (.int (0)))) (.cons false (.loc 1) (.cons false (.loc 2) (.cons false (.loc 3) (.cons false (.loc 4) .nil))))))) .nil))))
def b18 : PSs Nat := (.cons (.asg (.nm 2) (.call 14 (.cons true (.loc 0) (.cons false (.lst (.cons false (.lit (.str (S "none"))) (.cons false (.lit (.str (S "none"))) (.cons false (.lit (.str (S "bolts"))) (.cons false (.lit (.str (S "within"))) .nil))))) .nil)))) (.cons (.asg (.nm 3) (.tup (.cons false (.cmp .gt (.call 13 (.cons true (.loc 0) (.cons false (.lit (.int (5))) .nil))) (.lit (.int (0)))) (.cons false (.cmp .gt (.call 13 (.cons true (.loc 0) (.cons false (.lit (.int (5))) .nil))) (.lit (.int (0)))) .nil)))) (.cons (.asg (.nm 4) (.lst (.cons false (.lit (.str (S "none"))) (.cons false (.lit (.str (S "none"))) (.cons false (.lit (.str (S "leaving"))) (.cons false (.lit (.str (S "any"))) .nil)))))) (.cons (.asg (.nm 5) (.tup (.cons false (.call 14 (.cons true (.loc 0) (.cons false (.loc 4) .nil))) (.cons false (.call 14 (.cons true (.loc 0) (.cons false (.loc 4) .nil))) .nil)))) (.cons (.asg (.nm 6) (.tup .nil)) (.cons (.for (.nm 7) (.of (.tup (.cons false (.lit (.int (0))) (.cons false (.lit (.int (1))) .nil)))) (.cons (.asg (.nm 8) (.tup .nil)) (.cons (.for (.nm 9) (.rng1 (.bin .add (.lit (.int (1))) (.call 13 (.cons true (.loc 0) (.cons false (.loc 1) .nil))))) (.cons (.asg (.nm 8) (.bin .add (.loc 8) (.tup (.cons false (.call 17 (.cons true (.loc 0) .nil)) .nil)))) .nil)) (.cons (.asg (.nm 6) (.bin .add (.loc 6) (.tup (.cons false (.loc 8) .nil)))) .nil)))) (.cons (.ret (.tup (.cons false (.loc 2) (.cons false (.cmp .eq (.call 13 (.cons true (.loc 0) (.cons false (.lit (.int (3))) .nil))) (.lit (.int (0)))) (.cons false (.loc 3) (.cons false (.loc 5) (.cons false (.loc 6) .nil))))))) .nil)))))))
def b28 : PSs Nat := (.cons (.asg (.nm 1) (.lst (.cons false (.lit (.str (S "house"))) (.cons false (.idx (.loc 0) (.lit (.int (0)))) (.cons false (.ite (.idx (.loc 0) (.lit (.int (1)))) (.lit (.str (S "linked"))) (.lit (.str (S "single")))) .nil))))) (.cons (.asg (.nm 2) (.lst (.cons false (.join (.lit (.str (S " "))) (.bin .add (.bin .add (.loc 1) (.comp (.ite (.loc 5) (.lit (.str (S "bolt"))) (.lit (.str (S "bare")))) (.nm 5) (.of (.idx (.loc 0) (.lit (.int (2))))) .no [5])) (.blt .list (.cons false (.idx (.loc 0) (.lit (.int (3)))) .nil)))) .nil))) (.cons (.for (.nm 3) (.of (.tup (.cons false (.lit (.int (0))) (.cons false (.lit (.int (1))) .nil)))) (.cons (.for (.nm 4) (.of (.idx (.idx (.loc 0) (.lit (.int (4)))) (.loc 3))) (.cons (.ex (.app (.loc 2) (.join (.lit (.str (S " "))) (.bin .add (.lst (.cons false (.blt .str (.cons false (.loc 3) .nil)) (.cons false (.ite (.idx (.loc 4) (.lit (.int (0)))) (.lit (.str (S "looks"))) (.lit (.str (S "blind")))) .nil))) (.blt .list (.cons false (.sli (.loc 4) (.so (.lit (.int (1)))) .no) .nil)))))) .nil)) .nil)) (.cons (.ret (.loc 2)) .nil))))
def b29 : PSs Nat := (.cons (.for (.nm 1) (.of (.sli (.bin .add (.lst (.cons false (.lit (.int (0))) .nil)) (.loc 0)) .no (.so (.lit (.int (12)))))) (.cons (.asg (.nm 2) (.call 12 (.cons false (.loc 1) (.cons false (.lit (.int (23))) .nil)))) (.cons (.for (.nm 3) (.rng1 (.lit (.int (4)))) (.cons (.asg (.nm 4) (.call 18 (.cons true (.loc 2) (.cons false (.lit (.int (2))) .nil)))) (.cons (.asg (.nm 5) (.join (.lit (.str (S "\n"))) (.call 28 (.cons false (.loc 4) .nil)))) (.cons (.iff (.or (.not (.call 16 (.cons false (.call 26 (.cons false (.loc 4) .nil)) (.cons false (.loc 5) .nil)))) (.not (.call 16 (.cons false (.call 27 (.cons false (.loc 5) .nil)) (.cons false (.loc 4) .nil))))) (.cons (.ret (.lit (.bool false))) .nil) .nil) .nil)))) .nil))) (.cons (.ret (.lit (.bool true))) .nil))
def f0 : Fn Nat := ⟨2, 2, b0⟩
def f1 : Fn Nat := ⟨1, 1, b1⟩
def f2 : Fn Nat := ⟨1, 2, b2⟩
def f3 : Fn Nat := ⟨1, 1, b3⟩
def f4 : Fn Nat := ⟨1, 7, b4⟩
def f5 : Fn Nat := ⟨1, 1, b5⟩
def f23 : Fn Nat := ⟨1, 3, b23⟩
def f24 : Fn Nat := ⟨1, 2, b24⟩
def f25 : Fn Nat := ⟨1, 2, b25⟩
def f26 : Fn Nat := ⟨1, 12, b26⟩
def f27 : Fn Nat := ⟨1, 11, b27⟩
def f12 : Fn Nat := ⟨2, 2, b12⟩
def f13 : Fn Nat := ⟨2, 4, b13⟩
def f14 : Fn Nat := ⟨2, 2, b14⟩
def f15 : Fn Nat := ⟨1, 1, b15⟩
def f16 : Fn Nat := ⟨2, 4, b16⟩
def f17 : Fn Nat := ⟨1, 5, b17⟩
def f18 : Fn Nat := ⟨2, 10, b18⟩
def f28 : Fn Nat := ⟨1, 6, b28⟩
def f29 : Fn Nat := ⟨1, 6, b29⟩
def tab : Nat → Fn Nat
  | 0 => f0
  | 1 => f1
  | 2 => f2
  | 3 => f3
  | 4 => f4
  | 5 => f5
  | 23 => f23
  | 24 => f24
  | 25 => f25
  | 26 => f26
  | 27 => f27
  | 12 => f12
  | 13 => f13
  | 14 => f14
  | 15 => f15
  | 16 => f16
  | 17 => f17
  | 18 => f18
  | 28 => f28
  | 29 => f29
  | _ => ⟨0, 0, .nil⟩
end DL.K23
end
section
set_option Elab.async false
set_option linter.all false
set_option maxRecDepth 100000
set_option maxHeartbeats 4000000
/-! H23: the table of the law keeps what is asked; the head. -/
namespace DL.K23
open PySem DL PySem.Spec PyProof.Rows L2 C8

theorem ok0 : RowOk ld tab r0 := ⟨fnScope_by (by decide +kernel), fun _ _ _ _ _ _ us hl => match us, hl with | [_, _], _ => rfl, rfl, rfl, by kernel_rfl⟩
theorem ok1 : RowOk ld tab r1 := ⟨fnScope_by (by decide +kernel), fun _ _ _ _ _ _ us hl => match us, hl with | [_], _ => rfl, rfl, rfl, by kernel_rfl⟩
theorem ok2 : RowOk ld tab r2 := ⟨fnScope_by (by decide +kernel), fun _ _ _ _ _ _ us hl => match us, hl with | [_], _ => rfl, rfl, rfl, by kernel_rfl⟩
theorem ok3 : RowOk ld tab r3 := ⟨fnScope_by (by decide +kernel), fun _ _ _ _ _ _ us hl => match us, hl with | [_], _ => rfl, rfl, rfl, by kernel_rfl⟩
theorem ok4 : RowOk ld tab r4 := ⟨fnScope_by (by decide +kernel), fun _ _ _ _ _ _ us hl => match us, hl with | [_], _ => rfl, rfl, rfl, by kernel_rfl⟩
theorem ok5 : RowOk ld tab r5 := ⟨fnScope_by (by decide +kernel), fun _ _ _ _ _ _ us hl => match us, hl with | [_], _ => rfl, rfl, rfl, by kernel_rfl⟩
theorem ok23 : RowOk ld tab r23 := ⟨fnScope_by (by decide +kernel), fun _ _ _ _ _ _ us hl => match us, hl with | [_], _ => rfl, rfl, rfl, by kernel_rfl⟩
theorem ok24 : RowOk ld tab r24 := ⟨fnScope_by (by decide +kernel), fun _ _ _ _ _ _ us hl => match us, hl with | [_], _ => rfl, rfl, rfl, by kernel_rfl⟩
theorem ok25 : RowOk ld tab r25 := ⟨fnScope_by (by decide +kernel), fun _ _ _ _ _ _ us hl => match us, hl with | [_], _ => rfl, rfl, rfl, by kernel_rfl⟩
theorem ok26 : RowOk ld tab r26 := ⟨fnScope_by (by decide +kernel), fun _ _ _ _ _ _ us hl => match us, hl with | [_], _ => rfl, rfl, rfl, by kernel_rfl⟩
theorem ok27 : RowOk ld tab r27 := ⟨fnScope_by (by decide +kernel), fun _ _ _ _ _ _ us hl => match us, hl with | [_], _ => rfl, rfl, rfl, by kernel_rfl⟩
theorem ok12 : RowOk ld tab r12 := ⟨fnScope_by (by decide +kernel), fun _ _ _ _ _ _ us hl => match us, hl with | [_, _], _ => rfl, rfl, rfl, by kernel_rfl⟩
theorem ok13 : RowOk ld tab r13 := ⟨fnScope_by (by decide +kernel), fun _ _ _ _ _ _ us hl => match us, hl with | [_, _], _ => rfl, rfl, rfl, by kernel_rfl⟩
theorem ok14 : RowOk ld tab r14 := ⟨fnScope_by (by decide +kernel), fun _ _ _ _ _ _ us hl => match us, hl with | [_, _], _ => rfl, rfl, rfl, by kernel_rfl⟩
theorem ok15 : RowOk ld tab r15 := ⟨fnScope_by (by decide +kernel), fun _ _ _ _ _ _ us hl => match us, hl with | [_], _ => rfl, rfl, rfl, by kernel_rfl⟩
theorem ok16 : RowOk ld tab r16 := ⟨fnScope_by (by decide +kernel), fun _ _ _ _ _ _ us hl => match us, hl with | [_, _], _ => rfl, rfl, rfl, by kernel_rfl⟩
theorem ok17 : RowOk ld tab r17 := ⟨fnScope_by (by decide +kernel), fun _ _ _ _ _ _ us hl => match us, hl with | [_], _ => rfl, rfl, rfl, by kernel_rfl⟩
theorem ok18 : RowOk ld tab r18 := ⟨fnScope_by (by decide +kernel), fun _ _ _ _ _ _ us hl => match us, hl with | [_, _], _ => rfl, rfl, rfl, by kernel_rfl⟩
theorem ok28 : RowOk ld tab r28 := ⟨fnScope_by (by decide +kernel), fun _ _ _ _ _ _ us hl => match us, hl with | [_], _ => rfl, rfl, rfl, by kernel_rfl⟩
theorem ok29 : RowOk ld tab r29 := ⟨fnScope_by (by decide +kernel), fun _ _ _ _ _ _ us hl => match us, hl with | [_], _ => rfl, rfl, rfl, by kernel_rfl⟩
theorem all_ok : AllRows ld tab ld.rows := ⟨ok0, ok1, ok2, ok3, ok4, ok5, ok23, ok24, ok25, ok26, ok27, ok12, ok13, ok14, ok15, ok16, ok17, ok18, ok28, ok29, trivial⟩
abbrev Rw : PySem.W.OpenRow := PySem.W.OpenLaw.row PySem.Challenge.rw_doubledoors_k23_whole_texts_read_back
def loose : List Str := [S "DoorError", S "InvalidHouse", S "InvalidText", S "LAMPS", S "OUTERS", S "BOLTS", S "GOES", S "UNDOES", S "FORGETS", S "MOST_HABITS", S "is_word", S "is_habit_value", S "is_home", S "is_pair", S "is_house_value", S "need_house", S "head_of", S "habit_of", S "part_of", S "text", S "read", S "_law_deck", S "_law_pick", S "_law_one", S "_law_sort", S "_law_same", S "_law_habit", S "_law_room", S "_law_lines"]
theorem run (w : World) : HandSHeadRun.RunEq Rw (PySem.W.view Rw.prog [33]) (hookL 6 ld) (obL 6 ld) 20000 loose w := by
  intro os
  kernel_rfl
def DEPTH : Nat := 40
theorem walk (hpure : ∀ ns : List Int, ns.length ≤ 63 → ∃ m', callF tab 1000000 (DEPTH + 1) 29 [.d (.list (ns.map .int))] [] = .ok (.d (.bool true)) m') : (PySem.Challenge.rw_doubledoors_k23_whole_texts_read_back).Holds := by
  w_on; o_law
  refine HandSHeadRun.head_any (r := Rw) (q := PySem.W.view Rw.prog [33]) (H := hookL 6 ld) (ob := obL 6 ld) (M := 20000) (loose := loose) (d := HandSHeadRun.topDef Rw.prog 33) (kwd := []) (obL_eq 6 ld)
    (by kernel_rfl) (fun s => by kernel_rfl) run (by kernel_rfl) (by kernel_rfl) (by kernel_rfl) (by rfl) (by first | assumption | decide +kernel) (by decide +kernel) ⟨rfl, rfl, rfl, rfl, rfl, by decide +kernel⟩ ?hw ?hc
  case hw => w_witness2
  case hc =>
    refine L2.walk_ofE (l := PySem.Challenge.rw_doubledoors_k23_whole_texts_read_back) (n := 63) (k := DEPTH + 1) (x := Str.ofString "script") (CX := L2.CX0) rfl (by decide) (by kernel_rfl) ⟨rfl, by decide, by decide⟩ ?F (fun _ _ _ _ z => z)
    intro w mg fa h Y G hmg0
    obtain ⟨K, KX, c⟩ := Y
    have hmg : mg r29.name = some (.ref fa) := by
      have e : (HandSHeadRun.topDef Rw.prog 33).name = r29.name := by kernel_rfl
      rw [← e]
      exact hmg0
    exact law_F (r := r29) all_ok c KX G (by simp [ld]) rfl hmg hpure
end DL.K23
end
section
set_option Elab.async false
set_option linter.all false
set_option maxRecDepth 100000
set_option maxHeartbeats 4000000
/-! KA: the houses' parts. -/
namespace DL.K23
open PySem DL
abbrev LL : Nat := 1000000
def Post {α : Type} (r : R α) (G : α → Store → Prop) : Prop := ∃ a m, r = .ok a m ∧ G a m
theorem Post.bind {α β : Type} {r : R α} {f : α → Store → R β} {G : β → Store → Prop} (h : Post r fun a m => Post (f a m) G) : Post (r.bind f) G := by
  obtain ⟨a, m, rfl, b, m', e, g⟩ := h
  exact ⟨b, m', e, g⟩
theorem Post.ok {α : Type} {a : α} {m : Store} {G : α → Store → Prop} (h : G a m) : Post (.ok a m) G := ⟨a, m, rfl, h⟩
theorem Post.mono {α : Type} {r : R α} {G G' : α → Store → Prop} (h : Post r G) (k : ∀ a m, G a m → G' a m) : Post r G' := let ⟨a, m, e, g⟩ := h; ⟨a, m, e, k a m g⟩
theorem Post.eq {α : Type} {r : R α} {a : α} {m : Store} {G : α → Store → Prop} (e : r = .ok a m) (h : G a m) : Post r G := ⟨a, m, e, h⟩
def habD (l : Bool) (b g u f : Str) : D := .tuple [.bool l, .str b, .str g, .str u, .str f]
inductive GB : Str → Prop | own : GB (S "own") | both : GB (S "both") | none : GB (S "none")
inductive GG : Str → Prop | same : GG (S "same") | either : GG (S "either")
inductive GU : Str → Prop | own : GU (S "own") | both : GU (S "both")
inductive GF : Str → Prop | never : GF (S "never") | bolts : GF (S "bolts") | undoing : GF (S "undoing") | all : GF (S "all")
inductive GL : Str → Prop | none : GL (S "none") | bolts : GL (S "bolts") | within : GL (S "within")
inductive GO : Str → Prop | none : GO (S "none") | leaving : GO (S "leaving") | any : GO (S "any")
inductive GHab : D → Prop
  | mk (l : Bool) {b g u f : Str} : GB b → GG g → GU u → GF f → GHab (habD l b g u f)
theorem is_habit {d : D} (h : GHab d) (n : Nat) (m : Store) : callF tab LL (n + 2) 1 [.d d] m = .ok (.d (.bool true)) m := by
  refine lift (xs := [d]) ?_ m
  obtain ⟨l, hb, hg, hu, hf⟩ := h
  cases hb <;> cases hg <;> cases hu <;> cases hf <;> kernel_rfl
inductive GHome : D → Prop
  | one {x : D} : GHab x → GHome (.tuple [x])
  | two {x y : D} : GHab x → GHab y → GHome (.tuple [x, y])
theorem is_home {d : D} (h : GHome d) (n : Nat) (m : Store) : callF tab LL (n + 3) 2 [.d d] m = .ok (.d (.bool true)) m := by
  refine lift (xs := [d]) ?_ m
  show evFn (callF tab LL (n + 2)) LL f2 [.d d] [] = _
  have H := fun {d : D} (h : GHab d) => is_habit h n
  generalize callF tab LL (n + 2) = Φ at H ⊢
  cases h with
  | one hx =>
    have h1 := H hx
    simp [evFn, f2, b2, evSs, evS, evT, ev, evs, evI, evC, evO, truR, rd, rdAll, blF, boolsOf, isiF, tyF, tru, put, new, cmR, cmF, compLoop, R.calm, asgD, wipeE, fz, seqOf, ofO, allD, leave, sizeLine_eq, h1, Cell.data]
  | two hx hy =>
    have h1 := H hx
    have h2 := H hy
    simp [evFn, f2, b2, evSs, evS, evT, ev, evs, evI, evC, evO, truR, rd, rdAll, blF, boolsOf, isiF, tyF, tru, put, new, cmR, cmF, compLoop, R.calm, asgD, wipeE, fz, seqOf, ofO, allD, leave, sizeLine_eq, h1, h2, Cell.data]
theorem word_lamp {x : Str} (h : GL x) (n : Nat) (m : Store) : callF tab LL (n + 1) 0 [.d (.str x), .d (.tuple [.str (S "bolts"), .str (S "none"), .str (S "within")])] m = .ok (.d (.bool true)) m := by
  refine lift (xs := [.str x, .tuple [.str (S "bolts"), .str (S "none"), .str (S "within")]]) ?_ m
  cases h <;> kernel_rfl
theorem word_outer {x : Str} (h : GO x) (n : Nat) (m : Store) : callF tab LL (n + 1) 0 [.d (.str x), .d (.tuple [.str (S "any"), .str (S "leaving"), .str (S "none")])] m = .ok (.d (.bool true)) m := by
  refine lift (xs := [.str x, .tuple [.str (S "any"), .str (S "leaving"), .str (S "none")]]) ?_ m
  cases h <;> kernel_rfl
theorem is_pair (x y : D) (n : Nat) (m : Store) : callF tab LL (n + 1) 3 [.d (.tuple [x, y])] m = .ok (.d (.bool true)) m := by
  refine lift (xs := [.tuple [x, y]]) ?_ m
  kernel_rfl
def houD (lamp : Str) (linked i0 i1 : Bool) (o0 o1 : Str) (h0 h1 : D) : D := .tuple [.str lamp, .bool linked, .tuple [.bool i0, .bool i1], .tuple [.str o0, .str o1], .tuple [h0, h1]]
inductive GHouse : D → Prop
  | mk {lamp o0 o1 : Str} {h0 h1 : D} (linked i0 i1 : Bool) : GL lamp → GO o0 → GO o1 → GHome h0 → GHome h1 → GHouse (houD lamp linked i0 i1 o0 o1 h0 h1)
theorem is_house {d : D} (h : GHouse d) (n : Nat) (m : Store) : callF tab LL (n + 4) 4 [.d d] m = .ok (.d (.bool true)) m := by
  refine lift (xs := [d]) ?_ m
  obtain ⟨linked, i0, i1, hl, h0, h1, hh0, hh1⟩ := h
  show evFn (callF tab LL (n + 3)) LL f4 [.d _] [] = _
  have w1 := word_lamp hl (n + 2)
  have w2 := word_outer h0 (n + 2)
  have w3 := word_outer h1 (n + 2)
  have w4 := is_home hh0 n
  have w5 := is_home hh1 n
  have w6 := fun x y => is_pair x y (n + 2)
  generalize callF tab LL (n + 3) = Φ at w1 w2 w3 w4 w5 w6 ⊢
  simp [houD, evFn, f4, b4, evSs, evS, evT, ev, evs, evI, evC, evO, truR, rd, rdAll, blF, boolsOf, isiF, tyF, tru, put, new, cmR, cmF, eqD, compLoop, R.calm, asgD, setAll, wipeE, fz, seqOf, ofO, allD, leave, sizeLine_eq, w1, w2, w3, w4, w5, w6, Cell.data, SeqAt.shaped, PyData.canLay0, PyData.depth, PyData.eqv]
theorem need_house {d : D} (h : GHouse d) (n : Nat) (m : Store) : callF tab LL (n + 5) 5 [.d d] m = .ok (.d .none) m := by
  refine lift (xs := [d]) ?_ m
  show evFn (callF tab LL (n + 4)) LL f5 [.d _] [] = _
  have w1 := is_house h n
  generalize callF tab LL (n + 4) = Φ at w1 ⊢
  simp [evFn, f5, b5, evSs, evS, evT, ev, evs, truR, rd, tru, fz, w1]
end DL.K23
end
section
set_option Elab.async false
set_option linter.all false
set_option maxRecDepth 100000
set_option maxHeartbeats 4000000
/-! KB: the deck, what is drawn. -/
namespace DL.K23
open PySem DL
/-- the deck at j: what is drawn so far at most b times -/
def Dk (j : Nat) (b : Int) (m : Store) : Prop := ∃ d0 d1 d2 : Int, m[j]? = some (.lst [.int d0, .int d1, .int d2]) ∧ 0 ≤ d1 ∧ d1 < 2147483579 ∧ 0 ≤ d2 ∧ d2 ≤ b
theorem Dk.lt {j : Nat} {b : Int} {m : Store} (h : Dk j b m) : j < m.length := by
  obtain ⟨_, _, _, h, _⟩ := h
  exact (List.getElem?_eq_some_iff.mp h).1
theorem Dk.app {j : Nat} {b : Int} {m : Store} (h : Dk j b m) (l : Store) : Dk j b (m ++ l) := by
  have hl := h.lt
  obtain ⟨d0, d1, d2, h, r⟩ := h
  exact ⟨d0, d1, d2, by rw [List.getElem?_append_left hl]; exact h, r⟩
theorem Dk.take {j n : Nat} {b : Int} {m : Store} (h : Dk j b m) (hn : j < n) : Dk j b (m.take n) := by
  obtain ⟨d0, d1, d2, h, r⟩ := h
  exact ⟨d0, d1, d2, by rw [List.getElem?_take, if_pos hn]; exact h, r⟩
theorem Dk.set {j k : Nat} {b : Int} {m : Store} {c : Cell} (h : Dk j b m) (hn : k ≠ j) : Dk j b (m.set k c) := by
  obtain ⟨d0, d1, d2, h, r⟩ := h
  exact ⟨d0, d1, d2, by rw [List.getElem?_set_ne hn]; exact h, r⟩
theorem Dk.mono {j : Nat} {b b' : Int} {m : Store} (h : Dk j b m) (hb : b ≤ b') : Dk j b' m := by
  obtain ⟨d0, d1, d2, h, h1, h2, h3, h4⟩ := h
  exact ⟨d0, d1, d2, h, h1, h2, h3, by omega⟩
structure Kp (j : Nat) (m m' : Store) : Prop where
  len : m'.length = m.length
  at_ : ∀ i, i ≠ j → m'[i]? = m[i]?
theorem Kp.trans {j : Nat} {m m1 m2 : Store} (a : Kp j m m1) (b : Kp j m1 m2) : Kp j m m2 := ⟨b.len.trans a.len, fun i h => (b.at_ i h).trans (a.at_ i h)⟩
/-- after cells of one's own -/
theorem Kp.app {j : Nat} {m l m1 : Store} (a : Kp j (m ++ l) m1) : ∀ i, i ≠ j → i < m.length → m1[i]? = m[i]? := fun i h hi => by
  rw [a.at_ i h, List.getElem?_append_left hi]
theorem pick {j : Nat} {b size : Int} {m : Store} (h : Dk j b m) (hb : b < 1000000) (h1 : 1 ≤ size) (h2 : size ≤ 1000) (n : Nat) : Post (callF tab LL (n + 1) 13 [.r j, .d (.int size)] m) fun v m' => ∃ k : Int, v = .d (.int k) ∧ 0 ≤ k ∧ k < size ∧ Kp j m m' ∧ Dk j (b + 1) m' := by
  have hl := h.lt
  obtain ⟨d0, d1, d2, h, q1, q2, q3, q4⟩ := h
  have hj : ∀ (c : Cell), (m.set j c)[j]? = some c := fun c => List.getElem?_set_self hl
  have tk : ∀ c : Cell, (m.set j c).take m.length = m.set j c := fun c => List.take_of_length_le (by simp)
  show Post (evFn (callF tab LL n) LL f13 [.r j, .d (.int size)] m) _
  generalize callF tab LL n = Φ
  have s1 : (0 : Int) < size := by omega
  have s2 : size < 1073741824 := by omega
  by_cases hd : 1 < d0
  · refine ⟨.d (.int (d0 % size)), (m.set j (.lst [.int (d0 / size), .int d1, .int d2])), ?_, d0 % size, rfl, Int.emod_nonneg _ (by omega), Int.emod_lt_of_pos _ s1, ⟨by simp, fun i hi => List.getElem?_set_ne (Ne.symm hi)⟩, d0 / size, d1, d2, hj _, q1, q2, q3, by omega⟩
    simp [evFn, f13, b13, evSs, evS, evT, ev, evs, truR, rd, rdAll, blF, tru, put, new, cmR, cmF, opR, opF, ixF, L2.atI, L2.ixN, fz, ofO, leave, setAt, h, hd, hj, tk, Cell.data, s1, s2]
  · have p1 : smallI 15485867 = true := by decide
    have p2 : smallI 7919 = true := by decide
    have p3 : (d1 + 15485867 * (d2 + 1)).natAbs < 2 ^ 64 := by omega
    have p4 : ((d1 + 15485867 * (d2 + 1)) ^ 5 % 2147483647 + 7919 * (d2 + 1)).natAbs < 2 ^ 64 := by
      have a1 := Int.emod_nonneg ((d1 + 15485867 * (d2 + 1)) ^ 5) (show (2147483647 : Int) ≠ 0 by decide)
      have a2 := Int.emod_lt_of_pos ((d1 + 15485867 * (d2 + 1)) ^ 5) (show (0 : Int) < 2147483647 by decide)
      omega
    refine ⟨.d (.int ((((d1 + 15485867 * (d2 + 1)) ^ 5 % 2147483647 + 7919 * (d2 + 1)) ^ 3 % 2147483629 / 32) % size)), (m.set j (.lst [.int d0, .int d1, .int (d2 + 1)])), ?_, _, rfl, Int.emod_nonneg _ (by omega), Int.emod_lt_of_pos _ s1, ⟨by simp, fun i hi => List.getElem?_set_ne (Ne.symm hi)⟩, d0, d1, d2 + 1, hj _, q1, q2, by omega, by omega⟩
    simp [evFn, f13, b13, evSs, evS, evT, ev, evs, truR, rd, rdAll, blF, tru, put, new, cmR, cmF, opR, opF, ixF, L2.atI, L2.ixN, fz, ofO, leave, setAt, h, hd, hj, tk, Cell.data, s1, s2, p1, p2, p3, p4]
theorem one {j : Nat} {b : Int} {xs : List D} {m : Store} (h : Dk j b m) (hb : b < 1000000) (h1 : 1 ≤ xs.length) (h2 : xs.length ≤ 1000) (n : Nat) : Post (callF tab LL (n + 2) 14 [.r j, .d (.list xs)] m) fun v m' => ∃ x ∈ xs, v = .d x ∧ Kp j m m' ∧ Dk j (b + 1) m' := by
  have hl := h.lt
  obtain ⟨v, m1, e, k, rfl, k1, k2, k3, k4⟩ := pick h hb (size := xs.length) (by omega) (by omega) n
  have hk : k.toNat < xs.length := by omega
  refine ⟨.d xs[k.toNat], m1, ?_, xs[k.toNat], List.getElem_mem hk, rfl, k3, k4⟩
  show evFn (callF tab LL (n + 1)) LL f14 [.r j, .d (.list xs)] m = _
  generalize callF tab LL (n + 1) = Φ at e ⊢
  have tk : m1.take m.length = m1 := List.take_of_length_le (Nat.le_of_eq k3.len)
  simp [evFn, f14, b14, evSs, evS, ev, evs, rd, rdAll, blF, put, fz, e, ixF, L2.atI, L2.ixN, k1, k2, hk, leave, tk]
end DL.K23
end
section
set_option Elab.async false
set_option linter.all false
set_option maxRecDepth 100000
set_option maxHeartbeats 4000000
/-! KC: habits and houses that are drawn. -/
namespace DL.K23
open PySem DL
theorem last_at {m : Store} {c : Cell} : (m ++ [c])[m.length]? = some c := by simp
theorem set_last {m : Store} {c c' : Cell} : (m ++ [c]).set m.length c' = m ++ [c'] := by
  rw [List.set_append_right _ _ (Nat.le_refl _), Nat.sub_self]
  rfl
theorem habit {j : Nat} {b : Int} {m : Store} (h : Dk j b m) (hb : b < 900000) (n : Nat) : Post (callF tab LL (n + 3) 17 [.r j] m) fun v m' => ∃ d, GHab d ∧ v = .d d ∧ Kp j m m' ∧ Dk j (b + 5) m' := by
  have hl := h.lt
  obtain ⟨v1, m1, e1, x1, hx1, rfl, l1, k1⟩ := one (xs := [.str (S "own"), .str (S "own"), .str (S "both"), .str (S "both"), .str (S "none")]) (h.app [.fz (.list [.str (S "own"), .str (S "own"), .str (S "both"), .str (S "both"), .str (S "none")])]) (by omega) (by decide) (by decide) n
  obtain ⟨v2, m2, e2, x2, hx2, rfl, l2, k2⟩ := one (xs := [.str (S "same"), .str (S "either")]) (k1.app [.fz (.list [.str (S "same"), .str (S "either")])]) (by omega) (by decide) (by decide) n
  obtain ⟨v3, m3, e3, x3, hx3, rfl, l3, k3⟩ := one (xs := [.str (S "own"), .str (S "both")]) (k2.app [.fz (.list [.str (S "own"), .str (S "both")])]) (by omega) (by decide) (by decide) n
  obtain ⟨v4, m4, e4, x4, hx4, rfl, l4, k4⟩ := one (xs := [.str (S "never"), .str (S "never"), .str (S "bolts"), .str (S "undoing"), .str (S "all")]) (k3.app [.fz (.list [.str (S "never"), .str (S "never"), .str (S "bolts"), .str (S "undoing"), .str (S "all")])]) (by omega) (by decide) (by decide) n
  obtain ⟨v5, m5, e5, k, rfl, k5, k6, l5, d5⟩ := pick k4 (by omega) (size := 3) (by decide) (by decide) (n + 1)
  have z1 := l1.len
  have z2 := l2.len
  have z3 := l3.len
  have z4 := l4.len
  have z5 := l5.len
  rw [List.length_append, List.length_singleton] at z1 z2 z3 z4
  have gl : m.length ≤ m5.length := by omega
  have kp : Kp j m (m5.take m.length) := ⟨by rw [List.length_take]; omega, fun i hi => by
    rw [List.getElem?_take]
    by_cases hm : i < m.length
    · rw [if_pos hm, l5.at_ i hi, l4.app i hi (by omega), l3.app i hi (by omega), l2.app i hi (by omega), l1.app i hi hm]
    · rw [if_neg hm, List.getElem?_eq_none (by omega)]⟩
  refine ⟨.d (.tuple [.bool (k == 0), x1, x2, x3, x4]), m5.take m.length, ?_, _, ?_, rfl, kp, (d5.take hl).mono (by omega)⟩
  · show evFn (callF tab LL (n + 2)) LL f17 [.r j] m = _
    generalize callF tab LL (n + 2) = Φ at e1 e2 e3 e4 e5 ⊢
    simp [evFn, f17, b17, evSs, evS, ev, evs, rd, put, new, cmR, cmF, eqD, fz, allD, leave, sizeLine_eq, e1, e2, e3, e4, e5, Cell.data, set_last, SeqAt.shaped, PyData.canLay0, PyData.depth, PyData.eqv]
  · have g1 : ∃ s, x1 = .str s ∧ GB s := by
      simp at hx1
      rcases hx1 with rfl | rfl | rfl
      · exact ⟨_, rfl, .own⟩
      · exact ⟨_, rfl, .both⟩
      · exact ⟨_, rfl, .none⟩
    have g2 : ∃ s, x2 = .str s ∧ GG s := by
      simp at hx2
      rcases hx2 with rfl | rfl
      · exact ⟨_, rfl, .same⟩
      · exact ⟨_, rfl, .either⟩
    have g3 : ∃ s, x3 = .str s ∧ GU s := by
      simp at hx3
      rcases hx3 with rfl | rfl
      · exact ⟨_, rfl, .own⟩
      · exact ⟨_, rfl, .both⟩
    have g4 : ∃ s, x4 = .str s ∧ GF s := by
      simp at hx4
      rcases hx4 with rfl | rfl | rfl | rfl
      · exact ⟨_, rfl, .never⟩
      · exact ⟨_, rfl, .bolts⟩
      · exact ⟨_, rfl, .undoing⟩
      · exact ⟨_, rfl, .all⟩
    obtain ⟨s1, rfl, g1⟩ := g1
    obtain ⟨s2, rfl, g2⟩ := g2
    obtain ⟨s3, rfl, g3⟩ := g3
    obtain ⟨s4, rfl, g4⟩ := g4
    exact .mk _ g1 g2 g3 g4
def DrawHome (j : Nat) (Φ : Nat → List Val → Store → R Val) (b : Int) (m : Store) : Prop := ∃ (k : Int) (m1 : Store), Φ 13 [.r j, .d (.int 2)] m = .ok (.d (.int k)) m1 ∧
  ((k = 0 ∧ ∃ x m2, GHab x ∧ Φ 17 [.r j] m1 = .ok (.d x) m2 ∧ Kp j m m2 ∧ Dk j (b + 20) m2) ∨ (k = 1 ∧ ∃ x m2 y m3, GHab x ∧ GHab y ∧ Φ 17 [.r j] m1 = .ok (.d x) m2 ∧ Φ 17 [.r j] m2 = .ok (.d y) m3 ∧ Kp j m m3 ∧ Dk j (b + 20) m3))
theorem draw_home {j : Nat} {b : Int} {m : Store} (h : Dk j b m) (hb : b < 800000) (n : Nat) : DrawHome j (callF tab LL (n + 3)) b m := by
  obtain ⟨v, m1, e, k, rfl, k1, k2, l1, d1⟩ := pick h (by omega) (size := 2) (by decide) (by decide) (n + 2)
  refine ⟨k, m1, e, ?_⟩
  obtain ⟨v, m2, e2, x, gx, rfl, l2, d2⟩ := habit d1 (by omega) n
  obtain ⟨v, m3, e3, y, gy, rfl, l3, d3⟩ := habit d2 (by omega) n
  by_cases hk : k = 0
  · exact .inl ⟨hk, x, m2, gx, e2, l1.trans l2, d2.mono (by omega)⟩
  · exact .inr ⟨by omega, x, m2, y, m3, gx, gy, e2, e3, (l1.trans l2).trans l3, d3.mono (by omega)⟩
theorem room {j : Nat} {b : Int} {m : Store} (h : Dk j b m) (hb : b < 700000) (n : Nat) : Post (callF tab LL (n + 4) 18 [.r j, .d (.int 2)] m) fun v m' => ∃ d, GHouse d ∧ v = .d d ∧ Kp j m m' ∧ Dk j (b + 60) m' := by
  have hl := h.lt
  let w : Cell := .fz (.list [.str (S "none"), .str (S "none"), .str (S "leaving"), .str (S "any")])
  obtain ⟨v1, m1, e1, x1, hx1, rfl, l1, k1⟩ := one (xs := [.str (S "none"), .str (S "none"), .str (S "bolts"), .str (S "within")]) (h.app [.fz (.list [.str (S "none"), .str (S "none"), .str (S "bolts"), .str (S "within")])]) (by omega) (by decide) (by decide) (n + 1)
  obtain ⟨v2, m2, e2, i0, rfl, i01, i02, l2, k2⟩ := pick k1 (by omega) (size := 5) (by decide) (by decide) (n + 2)
  obtain ⟨v3, m3, e3, i1, rfl, i11, i12, l3, k3⟩ := pick k2 (by omega) (size := 5) (by decide) (by decide) (n + 2)
  obtain ⟨v4, m4, e4, x4, hx4, rfl, l4, k4⟩ := one (xs := [.str (S "none"), .str (S "none"), .str (S "leaving"), .str (S "any")]) (k3.app [.fz (.list [.str (S "none"), .str (S "none"), .str (S "leaving"), .str (S "any")])]) (by omega) (by decide) (by decide) (n + 1)
  have hj3 := k3.lt
  have c4 : m4[m3.length]? = some w := by rw [l4.at_ _ (by omega)]; exact last_at
  have t4 : m4.set m3.length w = m4 := by
    have q := List.getElem?_eq_some_iff.mp c4
    obtain ⟨q1, q2⟩ := q
    rw [← q2]
    exact List.set_getElem_self q1
  obtain ⟨v5, m5, e5, x5, hx5, rfl, l5, k5⟩ := one (xs := [.str (S "none"), .str (S "none"), .str (S "leaving"), .str (S "any")]) k4 (by omega) (by decide) (by decide) (n + 1)
  have g1 : ∃ s, x1 = .str s ∧ GL s := by
    simp at hx1
    rcases hx1 with rfl | rfl | rfl
    · exact ⟨_, rfl, .none⟩
    · exact ⟨_, rfl, .bolts⟩
    · exact ⟨_, rfl, .within⟩
  have g4 : ∃ s, x4 = .str s ∧ GO s := by
    simp at hx4
    rcases hx4 with rfl | rfl | rfl
    · exact ⟨_, rfl, .none⟩
    · exact ⟨_, rfl, .leaving⟩
    · exact ⟨_, rfl, .any⟩
  have g5 : ∃ s, x5 = .str s ∧ GO s := by
    simp at hx5
    rcases hx5 with rfl | rfl | rfl
    · exact ⟨_, rfl, .none⟩
    · exact ⟨_, rfl, .leaving⟩
    · exact ⟨_, rfl, .any⟩
  obtain ⟨s1, rfl, g1⟩ := g1
  obtain ⟨s4, rfl, g4⟩ := g4
  obtain ⟨s5, rfl, g5⟩ := g5
  -- the homes
  have fin : ∀ (h0 h1 : D) (m7 : Store), GHome h0 → GHome h1 → Kp j m5 m7 → Dk j (b + 1 + 1 + 1 + 1 + 1 + 20 + 20) m7 → (∀ q m8, callF tab LL (n + 3) 13 [.r j, .d (.int 3)] m7 = .ok (.d (.int q)) m8 → callF tab LL (n + 4) 18 [.r j, .d (.int 2)] m = .ok (.d (houD s1 (q == 0) (decide (0 < i0)) (decide (0 < i1)) s4 s5 h0 h1)) (m8.take m.length)) →
      Post (callF tab LL (n + 4) 18 [.r j, .d (.int 2)] m) fun v m' => ∃ d, GHouse d ∧ v = .d d ∧ Kp j m m' ∧ Dk j (b + 60) m' := fun h0 h1 m7 gh0 gh1 kp d7 run => by
    obtain ⟨v8, m8, e8, q, rfl, q1, q2, l8, k8⟩ := pick d7 (by omega) (size := 3) (by decide) (by decide) (n + 2)
    have z1 := l1.len
    have z2 := l2.len
    have z3 := l3.len
    have z4 := l4.len
    have z5 := l5.len
    have z7 := kp.len
    have z8 := l8.len
    rw [List.length_append, List.length_singleton] at z1 z4
    refine ⟨_, _, run q m8 e8, _, .mk _ _ _ g1 g4 g5 gh0 gh1, rfl, ⟨by rw [List.length_take]; omega, fun i hi => ?_⟩, (k8.take hl).mono (by omega)⟩
    rw [List.getElem?_take]
    by_cases hm : i < m.length
    · rw [if_pos hm, l8.at_ i hi, kp.at_ i hi, l5.at_ i hi, l4.app i hi (by omega), l3.at_ i hi, l2.at_ i hi, l1.app i hi hm]
    · rw [if_neg hm, List.getElem?_eq_none (by omega)]
  obtain ⟨ka, ma, ea, ha⟩ := draw_home k5 (by omega) n
  rcases ha with ⟨rfl, x, m6, gx, e6, l6, k6⟩ | ⟨rfl, x, m6, y, m6', gx, gy, e6, e6', l6, k6⟩
  · obtain ⟨kb, mb, eb, hb'⟩ := draw_home k6 (by omega) n
    rcases hb' with ⟨rfl, x', m7, gx', e7, l7, k7⟩ | ⟨rfl, x', m7, y', m7', gx', gy', e7, e7', l7, k7⟩
    · refine fin _ _ m7 (.one gx) (.one gx') (l6.trans l7) k7 fun q m8 e8 => ?_
      show evFn (callF tab LL (n + 3)) LL f18 [.r j, .d (.int 2)] m = _
      generalize callF tab LL (n + 3) = Φ at e1 e2 e3 e4 e5 ea e6 eb e7 e8 ⊢
      simp [houD, evFn, f18, b18, evSs, evS, evT, ev, evs, evI, evC, evO, rd, put, new, cmR, cmF, opR, opF, eqD, fz, allD, seqOf, ofO, forLoop, asgD, rgOk, rgD, List.range, List.range.loop, leave, sizeLine_eq, e1, e2, e3, e4, e5, ea, e6, eb, e7, e8, c4, t4, w, Cell.data, set_last, SeqAt.shaped, PyData.canLay0, PyData.depth, PyData.eqv]
    · refine fin _ _ m7' (.one gx) (.two gx' gy') (l6.trans l7) k7 fun q m8 e8 => ?_
      show evFn (callF tab LL (n + 3)) LL f18 [.r j, .d (.int 2)] m = _
      generalize callF tab LL (n + 3) = Φ at e1 e2 e3 e4 e5 ea e6 eb e7 e7' e8 ⊢
      simp [houD, evFn, f18, b18, evSs, evS, evT, ev, evs, evI, evC, evO, rd, put, new, cmR, cmF, opR, opF, eqD, fz, allD, seqOf, ofO, forLoop, asgD, rgOk, rgD, List.range, List.range.loop, leave, sizeLine_eq, e1, e2, e3, e4, e5, ea, e6, eb, e7, e7', e8, c4, t4, w, Cell.data, set_last, SeqAt.shaped, PyData.canLay0, PyData.depth, PyData.eqv]
  · obtain ⟨kb, mb, eb, hb'⟩ := draw_home k6 (by omega) n
    rcases hb' with ⟨rfl, x', m7, gx', e7, l7, k7⟩ | ⟨rfl, x', m7, y', m7', gx', gy', e7, e7', l7, k7⟩
    · refine fin _ _ m7 (.two gx gy) (.one gx') (l6.trans l7) k7 fun q m8 e8 => ?_
      show evFn (callF tab LL (n + 3)) LL f18 [.r j, .d (.int 2)] m = _
      generalize callF tab LL (n + 3) = Φ at e1 e2 e3 e4 e5 ea e6 e6' eb e7 e8 ⊢
      simp [houD, evFn, f18, b18, evSs, evS, evT, ev, evs, evI, evC, evO, rd, put, new, cmR, cmF, opR, opF, eqD, fz, allD, seqOf, ofO, forLoop, asgD, rgOk, rgD, List.range, List.range.loop, leave, sizeLine_eq, e1, e2, e3, e4, e5, ea, e6, e6', eb, e7, e8, c4, t4, w, Cell.data, set_last, SeqAt.shaped, PyData.canLay0, PyData.depth, PyData.eqv]
    · refine fin _ _ m7' (.two gx gy) (.two gx' gy') (l6.trans l7) k7 fun q m8 e8 => ?_
      show evFn (callF tab LL (n + 3)) LL f18 [.r j, .d (.int 2)] m = _
      generalize callF tab LL (n + 3) = Φ at e1 e2 e3 e4 e5 ea e6 e6' eb e7 e7' e8 ⊢
      simp [houD, evFn, f18, b18, evSs, evS, evT, ev, evs, evI, evC, evO, rd, put, new, cmR, cmF, opR, opF, eqD, fz, allD, seqOf, ofO, forLoop, asgD, rgOk, rgD, List.range, List.range.loop, leave, sizeLine_eq, e1, e2, e3, e4, e5, ea, e6, e6', eb, e7, e7', e8, c4, t4, w, Cell.data, set_last, SeqAt.shaped, PyData.canLay0, PyData.depth, PyData.eqv]
end DL.K23
end
section
set_option Elab.async false
set_option linter.all false
set_option maxRecDepth 100000
set_option maxHeartbeats 4000000
/-! KD: the deck, _law_same, lines. -/
namespace DL.K23
open PySem DL
theorem deck (c t : Int) (h0 : 0 ≤ t) (n : Nat) (m : Store) : ∃ d0 d1, callF tab LL (n + 1) 12 [.d (.int c), .d (.int t)] m = .ok (.r m.length) (m ++ [.lst [.int d0, .int d1, .int t]]) ∧ 0 ≤ d1 ∧ d1 < 2147483579 := by
  have q1 := Int.emod_nonneg c (show (2147483579 : Int) ≠ 0 by decide)
  have q2 := Int.emod_lt_of_pos c (show (0 : Int) < 2147483579 by decide)
  by_cases hc : (10 : Int) ^ 18 ≤ c
  · refine ⟨c - 10 ^ 18, c % 2147483579, liftL (xs := [.int c, .int t]) ?_ m, q1, q2⟩
    show evFn (callF tab LL n) LL f12 [.d (.int c), .d (.int t)] [] = _
    generalize callF tab LL n = Φ
    simp at hc
    simp [evFn, f12, b12, evSs, evS, evT, ev, evs, truR, rd, tru, put, new, cmR, cmF, opR, opF, fz, allD, leave, sizeLine_eq, hc]
  · refine ⟨0, c % 2147483579, liftL (xs := [.int c, .int t]) ?_ m, q1, q2⟩
    show evFn (callF tab LL n) LL f12 [.d (.int c), .d (.int t)] [] = _
    generalize callF tab LL n = Φ
    simp at hc
    have hc : ¬ 1000000000000000000 ≤ c := by omega
    simp [evFn, f12, b12, evSs, evS, evT, ev, evs, truR, rd, tru, put, new, cmR, cmF, opR, opF, fz, allD, leave, sizeLine_eq, hc]
inductive Pl : Nat → D → Prop
  | bool (k : Nat) (b : Bool) : Pl k (.bool b)
  | int (k : Nat) (i : Int) : Pl k (.int i)
  | str (k : Nat) (s : Str) : PyData.strOk s = true → Pl k (.str s)
  | tup {k : Nat} {xs : List D} : xs.length ≤ 1000 → (∀ x ∈ xs, Pl k x) → Pl (k + 1) (.tuple xs)
  | lst {k : Nat} {xs : List D} : xs.length ≤ 1000 → (∀ x ∈ xs, Pl k x) → Pl (k + 1) (.list xs)
theorem srt_tup (xs : List D) (n : Nat) (m : Store) : callF tab LL (n + 1) 15 [.d (.tuple xs)] m = .ok (.d (.int 5)) m := lift (xs := [.tuple xs]) (by kernel_rfl) m
theorem srt_lst (xs : List D) (n : Nat) (m : Store) : callF tab LL (n + 1) 15 [.d (.list xs)] m = .ok (.d (.int 4)) m := lift (xs := [.list xs]) (by kernel_rfl) m
theorem srt_bool (x : Bool) (n : Nat) (m : Store) : callF tab LL (n + 1) 15 [.d (.bool x)] m = .ok (.d (.int 1)) m := lift (xs := [.bool x]) (by kernel_rfl) m
theorem srt_int (x : Int) (n : Nat) (m : Store) : callF tab LL (n + 1) 15 [.d (.int x)] m = .ok (.d (.int 2)) m := lift (xs := [.int x]) (by kernel_rfl) m
theorem srt_str (x : Str) (n : Nat) (m : Store) : callF tab LL (n + 1) 15 [.d (.str x)] m = .ok (.d (.int 3)) m := lift (xs := [.str x]) (by kernel_rfl) m
theorem compLoop_none {f : D → Store → R (Option D)} {m : Store} : ∀ {xs acc : List D}, (∀ x ∈ xs, f x m = .ok none m) → compLoop f xs acc m = .ok acc m
  | [], _, _ => rfl
  | x :: xs, acc, h => by
    show (f x m).bind _ = _
    rw [h x List.mem_cons_self]
    exact compLoop_none fun y hy => h y (List.mem_cons_of_mem _ hy)
theorem compLoop_map {f : D → Store → R (Option D)} {g : D → D} {m : Store} : ∀ {xs acc : List D}, (∀ x ∈ xs, f x m = .ok (some (g x)) m) → compLoop f xs acc m = .ok (acc ++ xs.map g) m
  | [], acc, _ => by rw [List.map_nil, List.append_nil]; rfl
  | x :: xs, acc, h => by
    show (f x m).bind _ = _
    rw [h x List.mem_cons_self]
    show compLoop f xs (acc ++ [g x]) m = _
    rw [compLoop_map fun y hy => h y (List.mem_cons_of_mem _ hy), List.map_cons, List.append_assoc]
    rfl
def C16 : PX Nat := .comp (.loc 2) (.tp [2, 3]) (.enum (.loc 0)) (.so (.not (.call 16 (.cons false (.loc 3) (.cons false (.idx (.loc 1) (.loc 2)) .nil))))) [2, 3]
def b16' (C : PX Nat) : PSs Nat := (.cons (.iff (.cmp .ne (.call 15 (.cons false (.loc 0) .nil)) (.call 15 (.cons false (.loc 1) .nil))) (.cons (.ret (.lit (.bool false))) .nil) .nil) (.cons (.iff (.and (.cmp .gt (.call 15 (.cons false (.loc 0) .nil)) (.lit (.int (3)))) (.cmp .lt (.call 15 (.cons false (.loc 0) .nil)) (.lit (.int (6))))) (.cons (.iff (.cmp .ne (.blt .len (.cons false (.loc 0) .nil)) (.blt .len (.cons false (.loc 1) .nil))) (.cons (.ret (.lit (.bool false))) .nil) .nil) (.cons (.ret (.cmp .eq C (.lst .nil))) .nil)) .nil) (.cons (.ret (.cmp .eq (.loc 0) (.loc 1))) .nil)))
theorem b16_eq : b16 = b16' C16 := rfl
theorem same_comp {Φ : Nat → List Val → Store → R Val} {d : D} {xs : List D} (hd : seqOf d = some xs) (hi : ∀ (i : Nat) (x : D), xs[i]? = some x → ixF d (.int (i : Nat)) = some x) (h : ∀ x ∈ xs, ∀ m, Φ 16 [.d x, .d x] m = .ok (.d (.bool true)) m) (m : Store) :
    ev Φ C16 [some (.d d), some (.d d), none, none] m = .ok (.r m.length) (m ++ [.lst []]) := by
  have e1 : evI Φ (.enum (.loc 0)) [some (.d d), some (.d d), none, none] m = .ok (enD xs) m := by
    simp [evI, ev, fz, hd, enD]
  show (evI Φ (.enum (.loc 0)) [some (.d d), some (.d d), none, none] m).bind (fun ys m1 => (R.calm (compLoop (turnF (Φ := Φ) (.tp [2, 3]) [2, 3] (.so (.not (.call 16 (.cons false (.loc 3) (.cons false (.idx (.loc 1) (.loc 2)) .nil))))) (.loc 2) [some (.d d), some (.d d), none, none]) ys [] m1)).bind fun ys m6 => put (.lst ys) m6) = _
  rw [e1]
  show (R.calm (compLoop _ (enD xs) [] m)).bind _ = _
  rw [compLoop_none fun y hy => ?_]
  · simp [R.calm, put, new]
  · obtain ⟨i, hi'⟩ := List.getElem?_of_mem hy
    obtain ⟨x, hx, rfl⟩ := enD_get hi'
    have hm := List.mem_of_getElem? hx
    have hix := hi i x hx
    simp [turnF, asgD, setAll, wipeE, evC, ev, evs, fz, rd, hix, h x hm m, truR, tru]
theorem ix_tup {xs : List D} {i : Nat} {x : D} (h : xs[i]? = some x) : ixF (.tuple xs) (.int (i : Nat)) = some x := by
  obtain ⟨hl, e⟩ := List.getElem?_eq_some_iff.mp h
  simp [ixF, L2.atI, L2.ixN, hl, e]
theorem ix_lst {xs : List D} {i : Nat} {x : D} (h : xs[i]? = some x) : ixF (.list xs) (.int (i : Nat)) = some x := by
  obtain ⟨hl, e⟩ := List.getElem?_eq_some_iff.mp h
  simp [ixF, L2.atI, L2.ixN, hl, e]
theorem lt56 : ltD (.int 5) (.int 6) = some true := by kernel_rfl
theorem lt46 : ltD (.int 4) (.int 6) = some true := by kernel_rfl
theorem same_refl : ∀ {k : Nat} {d : D}, Pl k d → ∀ (n : Nat) (m : Store), callF tab LL (n + 2 + k) 16 [.d d, .d d] m = .ok (.d (.bool true)) m := by
  intro k d h
  induction h with
  | bool k b =>
    intro n m
    refine lift (xs := [.bool b, .bool b]) ?_ m
    rw [show n + 2 + k = (n + k) + 2 by omega]
    show evFn (callF tab LL (n + k + 1)) LL f16 _ [] = _
    have w := srt_bool b (n + k)
    generalize callF tab LL (n + k + 1) = Φ at w ⊢
    simp [evFn, f16, b16_eq, b16', evSs, evS, evT, ev, evs, truR, rd, tru, cmR, cmF, eqD, fz, leave, w, SeqAt.shaped, PyData.canLay0, PyData.depth, PyData.eqv]
  | int k b =>
    intro n m
    refine lift (xs := [.int b, .int b]) ?_ m
    rw [show n + 2 + k = (n + k) + 2 by omega]
    show evFn (callF tab LL (n + k + 1)) LL f16 _ [] = _
    have w := srt_int b (n + k)
    generalize callF tab LL (n + k + 1) = Φ at w ⊢
    simp [evFn, f16, b16_eq, b16', evSs, evS, evT, ev, evs, truR, rd, tru, cmR, cmF, eqD, fz, leave, w, SeqAt.shaped, PyData.canLay0, PyData.depth, PyData.eqv]
  | str k b hs =>
    intro n m
    refine lift (xs := [.str b, .str b]) ?_ m
    rw [show n + 2 + k = (n + k) + 2 by omega]
    show evFn (callF tab LL (n + k + 1)) LL f16 _ [] = _
    have w := srt_str b (n + k)
    generalize callF tab LL (n + k + 1) = Φ at w ⊢
    simp [evFn, f16, b16_eq, b16', evSs, evS, evT, ev, evs, truR, rd, tru, cmR, cmF, eqD, fz, leave, w, hs, SeqAt.shaped, PyData.canLay0, PyData.depth, PyData.eqv]
  | @tup k xs hl hx ih =>
    intro n m
    refine lift (xs := [.tuple xs, .tuple xs]) ?_ m
    show evFn (callF tab LL (n + 2 + k)) LL f16 _ [] = _
    have w := fun m => srt_tup xs (n + 1 + k) m
    rw [show n + 1 + k + 1 = n + 2 + k by omega] at w
    have c := same_comp (Φ := callF tab LL (n + 2 + k)) (d := .tuple xs) rfl (fun i x h => ix_tup h) (fun x hx m => ih x hx n m)
    generalize callF tab LL (n + 2 + k) = Φ at w c ⊢
    rw [show f16 = ⟨2, 4, b16' C16⟩ from rfl]
    generalize C16 = C at c ⊢
    simp [evFn, b16', evSs, evS, evT, ev, evs, truR, rd, rdAll, blF, put, new, allD, tru, cmR, cmF, eqD, lt56, lt46, fz, leave, w, c, Cell.data, SeqAt.shaped, PyData.canLay0, PyData.canLayAll0, PyData.depth, PyData.depthAll, PyData.eqv, PyData.eqvAll]
  | @lst k xs hl hx ih =>
    intro n m
    refine lift (xs := [.list xs, .list xs]) ?_ m
    show evFn (callF tab LL (n + 2 + k)) LL f16 _ [] = _
    have w := fun m => srt_lst xs (n + 1 + k) m
    rw [show n + 1 + k + 1 = n + 2 + k by omega] at w
    have c := same_comp (Φ := callF tab LL (n + 2 + k)) (d := .list xs) rfl (fun i x h => ix_lst h) (fun x hx m => ih x hx n m)
    generalize callF tab LL (n + 2 + k) = Φ at w c ⊢
    rw [show f16 = ⟨2, 4, b16' C16⟩ from rfl]
    generalize C16 = C at c ⊢
    simp [evFn, b16', evSs, evS, evT, ev, evs, truR, rd, rdAll, blF, put, new, allD, tru, cmR, cmF, eqD, lt56, lt46, fz, leave, w, c, Cell.data, SeqAt.shaped, PyData.canLay0, PyData.canLayAll0, PyData.depth, PyData.depthAll, PyData.eqv, PyData.eqvAll]
end DL.K23
end
section
set_option Elab.async false
set_option linter.all false
set_option maxRecDepth 100000
set_option maxHeartbeats 4000000
/-! KE: a house's lines. -/
namespace DL.K23
open PySem DL
abbrev KS (i : Int) : Str := toString i
def hlS (i : Int) : D → Str
  | .tuple [.bool l, .str b, .str g, .str u, .str f] => Txt.join (S " ") [KS i, if l = true then S "looks" else S "blind", b, g, u, f]
  | _ => S ""
def hdS (lamp : Str) (linked i0 i1 : Bool) (o0 o1 : Str) : Str := Txt.join (S " ") [S "house", lamp, if linked = true then S "linked" else S "single", if i0 = true then S "bolt" else S "bare", if i1 = true then S "bolt" else S "bare", o0, o1]
def lineB (s : Str) : Bool := decide (s.length ≤ 100) && (!(s.cps.toList.contains 10) && PyData.strOk s)
theorem jh_0_own_same {l : Bool} {u f : Str} (hu : GU u) (hf : GF f) :
    joinF (.str (S " ")) (.list [.str (KS 0), .str (if l = true then S "looks" else S "blind"), .str (S "own"), .str (S "same"), .str u, .str f]) = some (hlS 0 (habD l (S "own") (S "same") u f)) ∧ lineB (hlS 0 (habD l (S "own") (S "same") u f)) = true ∧
      ∀ n, callF tab LL (n + 6) 25 [.d (.str (hlS 0 (habD l (S "own") (S "same") u f)))] [] = .ok (.d (.tuple [.int 0, habD l (S "own") (S "same") u f])) [] := by
  cases l <;> cases hu <;> cases hf <;> exact ⟨by kernel_rfl, by kernel_rfl, fun n => by kernel_rfl⟩
theorem jh_0_own_either {l : Bool} {u f : Str} (hu : GU u) (hf : GF f) :
    joinF (.str (S " ")) (.list [.str (KS 0), .str (if l = true then S "looks" else S "blind"), .str (S "own"), .str (S "either"), .str u, .str f]) = some (hlS 0 (habD l (S "own") (S "either") u f)) ∧ lineB (hlS 0 (habD l (S "own") (S "either") u f)) = true ∧
      ∀ n, callF tab LL (n + 6) 25 [.d (.str (hlS 0 (habD l (S "own") (S "either") u f)))] [] = .ok (.d (.tuple [.int 0, habD l (S "own") (S "either") u f])) [] := by
  cases l <;> cases hu <;> cases hf <;> exact ⟨by kernel_rfl, by kernel_rfl, fun n => by kernel_rfl⟩
theorem jh_0_both_same {l : Bool} {u f : Str} (hu : GU u) (hf : GF f) :
    joinF (.str (S " ")) (.list [.str (KS 0), .str (if l = true then S "looks" else S "blind"), .str (S "both"), .str (S "same"), .str u, .str f]) = some (hlS 0 (habD l (S "both") (S "same") u f)) ∧ lineB (hlS 0 (habD l (S "both") (S "same") u f)) = true ∧
      ∀ n, callF tab LL (n + 6) 25 [.d (.str (hlS 0 (habD l (S "both") (S "same") u f)))] [] = .ok (.d (.tuple [.int 0, habD l (S "both") (S "same") u f])) [] := by
  cases l <;> cases hu <;> cases hf <;> exact ⟨by kernel_rfl, by kernel_rfl, fun n => by kernel_rfl⟩
theorem jh_0_both_either {l : Bool} {u f : Str} (hu : GU u) (hf : GF f) :
    joinF (.str (S " ")) (.list [.str (KS 0), .str (if l = true then S "looks" else S "blind"), .str (S "both"), .str (S "either"), .str u, .str f]) = some (hlS 0 (habD l (S "both") (S "either") u f)) ∧ lineB (hlS 0 (habD l (S "both") (S "either") u f)) = true ∧
      ∀ n, callF tab LL (n + 6) 25 [.d (.str (hlS 0 (habD l (S "both") (S "either") u f)))] [] = .ok (.d (.tuple [.int 0, habD l (S "both") (S "either") u f])) [] := by
  cases l <;> cases hu <;> cases hf <;> exact ⟨by kernel_rfl, by kernel_rfl, fun n => by kernel_rfl⟩
theorem jh_0_none_same {l : Bool} {u f : Str} (hu : GU u) (hf : GF f) :
    joinF (.str (S " ")) (.list [.str (KS 0), .str (if l = true then S "looks" else S "blind"), .str (S "none"), .str (S "same"), .str u, .str f]) = some (hlS 0 (habD l (S "none") (S "same") u f)) ∧ lineB (hlS 0 (habD l (S "none") (S "same") u f)) = true ∧
      ∀ n, callF tab LL (n + 6) 25 [.d (.str (hlS 0 (habD l (S "none") (S "same") u f)))] [] = .ok (.d (.tuple [.int 0, habD l (S "none") (S "same") u f])) [] := by
  cases l <;> cases hu <;> cases hf <;> exact ⟨by kernel_rfl, by kernel_rfl, fun n => by kernel_rfl⟩
theorem jh_0_none_either {l : Bool} {u f : Str} (hu : GU u) (hf : GF f) :
    joinF (.str (S " ")) (.list [.str (KS 0), .str (if l = true then S "looks" else S "blind"), .str (S "none"), .str (S "either"), .str u, .str f]) = some (hlS 0 (habD l (S "none") (S "either") u f)) ∧ lineB (hlS 0 (habD l (S "none") (S "either") u f)) = true ∧
      ∀ n, callF tab LL (n + 6) 25 [.d (.str (hlS 0 (habD l (S "none") (S "either") u f)))] [] = .ok (.d (.tuple [.int 0, habD l (S "none") (S "either") u f])) [] := by
  cases l <;> cases hu <;> cases hf <;> exact ⟨by kernel_rfl, by kernel_rfl, fun n => by kernel_rfl⟩
theorem jh_1_own_same {l : Bool} {u f : Str} (hu : GU u) (hf : GF f) :
    joinF (.str (S " ")) (.list [.str (KS 1), .str (if l = true then S "looks" else S "blind"), .str (S "own"), .str (S "same"), .str u, .str f]) = some (hlS 1 (habD l (S "own") (S "same") u f)) ∧ lineB (hlS 1 (habD l (S "own") (S "same") u f)) = true ∧
      ∀ n, callF tab LL (n + 6) 25 [.d (.str (hlS 1 (habD l (S "own") (S "same") u f)))] [] = .ok (.d (.tuple [.int 1, habD l (S "own") (S "same") u f])) [] := by
  cases l <;> cases hu <;> cases hf <;> exact ⟨by kernel_rfl, by kernel_rfl, fun n => by kernel_rfl⟩
theorem jh_1_own_either {l : Bool} {u f : Str} (hu : GU u) (hf : GF f) :
    joinF (.str (S " ")) (.list [.str (KS 1), .str (if l = true then S "looks" else S "blind"), .str (S "own"), .str (S "either"), .str u, .str f]) = some (hlS 1 (habD l (S "own") (S "either") u f)) ∧ lineB (hlS 1 (habD l (S "own") (S "either") u f)) = true ∧
      ∀ n, callF tab LL (n + 6) 25 [.d (.str (hlS 1 (habD l (S "own") (S "either") u f)))] [] = .ok (.d (.tuple [.int 1, habD l (S "own") (S "either") u f])) [] := by
  cases l <;> cases hu <;> cases hf <;> exact ⟨by kernel_rfl, by kernel_rfl, fun n => by kernel_rfl⟩
theorem jh_1_both_same {l : Bool} {u f : Str} (hu : GU u) (hf : GF f) :
    joinF (.str (S " ")) (.list [.str (KS 1), .str (if l = true then S "looks" else S "blind"), .str (S "both"), .str (S "same"), .str u, .str f]) = some (hlS 1 (habD l (S "both") (S "same") u f)) ∧ lineB (hlS 1 (habD l (S "both") (S "same") u f)) = true ∧
      ∀ n, callF tab LL (n + 6) 25 [.d (.str (hlS 1 (habD l (S "both") (S "same") u f)))] [] = .ok (.d (.tuple [.int 1, habD l (S "both") (S "same") u f])) [] := by
  cases l <;> cases hu <;> cases hf <;> exact ⟨by kernel_rfl, by kernel_rfl, fun n => by kernel_rfl⟩
theorem jh_1_both_either {l : Bool} {u f : Str} (hu : GU u) (hf : GF f) :
    joinF (.str (S " ")) (.list [.str (KS 1), .str (if l = true then S "looks" else S "blind"), .str (S "both"), .str (S "either"), .str u, .str f]) = some (hlS 1 (habD l (S "both") (S "either") u f)) ∧ lineB (hlS 1 (habD l (S "both") (S "either") u f)) = true ∧
      ∀ n, callF tab LL (n + 6) 25 [.d (.str (hlS 1 (habD l (S "both") (S "either") u f)))] [] = .ok (.d (.tuple [.int 1, habD l (S "both") (S "either") u f])) [] := by
  cases l <;> cases hu <;> cases hf <;> exact ⟨by kernel_rfl, by kernel_rfl, fun n => by kernel_rfl⟩
theorem jh_1_none_same {l : Bool} {u f : Str} (hu : GU u) (hf : GF f) :
    joinF (.str (S " ")) (.list [.str (KS 1), .str (if l = true then S "looks" else S "blind"), .str (S "none"), .str (S "same"), .str u, .str f]) = some (hlS 1 (habD l (S "none") (S "same") u f)) ∧ lineB (hlS 1 (habD l (S "none") (S "same") u f)) = true ∧
      ∀ n, callF tab LL (n + 6) 25 [.d (.str (hlS 1 (habD l (S "none") (S "same") u f)))] [] = .ok (.d (.tuple [.int 1, habD l (S "none") (S "same") u f])) [] := by
  cases l <;> cases hu <;> cases hf <;> exact ⟨by kernel_rfl, by kernel_rfl, fun n => by kernel_rfl⟩
theorem jh_1_none_either {l : Bool} {u f : Str} (hu : GU u) (hf : GF f) :
    joinF (.str (S " ")) (.list [.str (KS 1), .str (if l = true then S "looks" else S "blind"), .str (S "none"), .str (S "either"), .str u, .str f]) = some (hlS 1 (habD l (S "none") (S "either") u f)) ∧ lineB (hlS 1 (habD l (S "none") (S "either") u f)) = true ∧
      ∀ n, callF tab LL (n + 6) 25 [.d (.str (hlS 1 (habD l (S "none") (S "either") u f)))] [] = .ok (.d (.tuple [.int 1, habD l (S "none") (S "either") u f])) [] := by
  cases l <;> cases hu <;> cases hf <;> exact ⟨by kernel_rfl, by kernel_rfl, fun n => by kernel_rfl⟩
theorem join_hab {l : Bool} {b g u f : Str} (hb : GB b) (hg : GG g) (hu : GU u) (hf : GF f) (i : Int) (hi : i = 0 ∨ i = 1) :
    joinF (.str (S " ")) (.list [.str (KS i), .str (if l = true then S "looks" else S "blind"), .str b, .str g, .str u, .str f]) = some (hlS i (habD l b g u f)) ∧ lineB (hlS i (habD l b g u f)) = true ∧
      ∀ n, callF tab LL (n + 6) 25 [.d (.str (hlS i (habD l b g u f)))] [] = .ok (.d (.tuple [.int i, habD l b g u f])) [] := by
  rcases hi with rfl | rfl
  · cases hb with
    | own => cases hg with
      | same => exact jh_0_own_same hu hf
      | either => exact jh_0_own_either hu hf
    | both => cases hg with
      | same => exact jh_0_both_same hu hf
      | either => exact jh_0_both_either hu hf
    | none => cases hg with
      | same => exact jh_0_none_same hu hf
      | either => exact jh_0_none_either hu hf
  · cases hb with
    | own => cases hg with
      | same => exact jh_1_own_same hu hf
      | either => exact jh_1_own_either hu hf
    | both => cases hg with
      | same => exact jh_1_both_same hu hf
      | either => exact jh_1_both_either hu hf
    | none => cases hg with
      | same => exact jh_1_none_same hu hf
      | either => exact jh_1_none_either hu hf
theorem jd_none_none {o1 : Str} (h1 : GO o1) (linked i0 i1 : Bool) :
    joinF (.str (S " ")) (.list [.str (S "house"), .str (S "none"), .str (if linked = true then S "linked" else S "single"), .str (if i0 = true then S "bolt" else S "bare"), .str (if i1 = true then S "bolt" else S "bare"), .str (S "none"), .str o1]) = some (hdS (S "none") linked i0 i1 (S "none") o1) ∧
      lineB (hdS (S "none") linked i0 i1 (S "none") o1) = true ∧ ∀ n, callF tab LL (n + 6) 25 [.d (.str (hdS (S "none") linked i0 i1 (S "none") o1))] [] = .ok (.d (.tuple [.str (S "none"), .bool linked, .tuple [.bool i0, .bool i1], .tuple [.str (S "none"), .str o1]])) [] := by
  cases h1 <;> cases linked <;> cases i0 <;> cases i1 <;> exact ⟨by kernel_rfl, by kernel_rfl, fun n => by kernel_rfl⟩
theorem jd_none_leaving {o1 : Str} (h1 : GO o1) (linked i0 i1 : Bool) :
    joinF (.str (S " ")) (.list [.str (S "house"), .str (S "none"), .str (if linked = true then S "linked" else S "single"), .str (if i0 = true then S "bolt" else S "bare"), .str (if i1 = true then S "bolt" else S "bare"), .str (S "leaving"), .str o1]) = some (hdS (S "none") linked i0 i1 (S "leaving") o1) ∧
      lineB (hdS (S "none") linked i0 i1 (S "leaving") o1) = true ∧ ∀ n, callF tab LL (n + 6) 25 [.d (.str (hdS (S "none") linked i0 i1 (S "leaving") o1))] [] = .ok (.d (.tuple [.str (S "none"), .bool linked, .tuple [.bool i0, .bool i1], .tuple [.str (S "leaving"), .str o1]])) [] := by
  cases h1 <;> cases linked <;> cases i0 <;> cases i1 <;> exact ⟨by kernel_rfl, by kernel_rfl, fun n => by kernel_rfl⟩
theorem jd_none_any {o1 : Str} (h1 : GO o1) (linked i0 i1 : Bool) :
    joinF (.str (S " ")) (.list [.str (S "house"), .str (S "none"), .str (if linked = true then S "linked" else S "single"), .str (if i0 = true then S "bolt" else S "bare"), .str (if i1 = true then S "bolt" else S "bare"), .str (S "any"), .str o1]) = some (hdS (S "none") linked i0 i1 (S "any") o1) ∧
      lineB (hdS (S "none") linked i0 i1 (S "any") o1) = true ∧ ∀ n, callF tab LL (n + 6) 25 [.d (.str (hdS (S "none") linked i0 i1 (S "any") o1))] [] = .ok (.d (.tuple [.str (S "none"), .bool linked, .tuple [.bool i0, .bool i1], .tuple [.str (S "any"), .str o1]])) [] := by
  cases h1 <;> cases linked <;> cases i0 <;> cases i1 <;> exact ⟨by kernel_rfl, by kernel_rfl, fun n => by kernel_rfl⟩
theorem jd_bolts_none {o1 : Str} (h1 : GO o1) (linked i0 i1 : Bool) :
    joinF (.str (S " ")) (.list [.str (S "house"), .str (S "bolts"), .str (if linked = true then S "linked" else S "single"), .str (if i0 = true then S "bolt" else S "bare"), .str (if i1 = true then S "bolt" else S "bare"), .str (S "none"), .str o1]) = some (hdS (S "bolts") linked i0 i1 (S "none") o1) ∧
      lineB (hdS (S "bolts") linked i0 i1 (S "none") o1) = true ∧ ∀ n, callF tab LL (n + 6) 25 [.d (.str (hdS (S "bolts") linked i0 i1 (S "none") o1))] [] = .ok (.d (.tuple [.str (S "bolts"), .bool linked, .tuple [.bool i0, .bool i1], .tuple [.str (S "none"), .str o1]])) [] := by
  cases h1 <;> cases linked <;> cases i0 <;> cases i1 <;> exact ⟨by kernel_rfl, by kernel_rfl, fun n => by kernel_rfl⟩
theorem jd_bolts_leaving {o1 : Str} (h1 : GO o1) (linked i0 i1 : Bool) :
    joinF (.str (S " ")) (.list [.str (S "house"), .str (S "bolts"), .str (if linked = true then S "linked" else S "single"), .str (if i0 = true then S "bolt" else S "bare"), .str (if i1 = true then S "bolt" else S "bare"), .str (S "leaving"), .str o1]) = some (hdS (S "bolts") linked i0 i1 (S "leaving") o1) ∧
      lineB (hdS (S "bolts") linked i0 i1 (S "leaving") o1) = true ∧ ∀ n, callF tab LL (n + 6) 25 [.d (.str (hdS (S "bolts") linked i0 i1 (S "leaving") o1))] [] = .ok (.d (.tuple [.str (S "bolts"), .bool linked, .tuple [.bool i0, .bool i1], .tuple [.str (S "leaving"), .str o1]])) [] := by
  cases h1 <;> cases linked <;> cases i0 <;> cases i1 <;> exact ⟨by kernel_rfl, by kernel_rfl, fun n => by kernel_rfl⟩
theorem jd_bolts_any {o1 : Str} (h1 : GO o1) (linked i0 i1 : Bool) :
    joinF (.str (S " ")) (.list [.str (S "house"), .str (S "bolts"), .str (if linked = true then S "linked" else S "single"), .str (if i0 = true then S "bolt" else S "bare"), .str (if i1 = true then S "bolt" else S "bare"), .str (S "any"), .str o1]) = some (hdS (S "bolts") linked i0 i1 (S "any") o1) ∧
      lineB (hdS (S "bolts") linked i0 i1 (S "any") o1) = true ∧ ∀ n, callF tab LL (n + 6) 25 [.d (.str (hdS (S "bolts") linked i0 i1 (S "any") o1))] [] = .ok (.d (.tuple [.str (S "bolts"), .bool linked, .tuple [.bool i0, .bool i1], .tuple [.str (S "any"), .str o1]])) [] := by
  cases h1 <;> cases linked <;> cases i0 <;> cases i1 <;> exact ⟨by kernel_rfl, by kernel_rfl, fun n => by kernel_rfl⟩
theorem jd_within_none {o1 : Str} (h1 : GO o1) (linked i0 i1 : Bool) :
    joinF (.str (S " ")) (.list [.str (S "house"), .str (S "within"), .str (if linked = true then S "linked" else S "single"), .str (if i0 = true then S "bolt" else S "bare"), .str (if i1 = true then S "bolt" else S "bare"), .str (S "none"), .str o1]) = some (hdS (S "within") linked i0 i1 (S "none") o1) ∧
      lineB (hdS (S "within") linked i0 i1 (S "none") o1) = true ∧ ∀ n, callF tab LL (n + 6) 25 [.d (.str (hdS (S "within") linked i0 i1 (S "none") o1))] [] = .ok (.d (.tuple [.str (S "within"), .bool linked, .tuple [.bool i0, .bool i1], .tuple [.str (S "none"), .str o1]])) [] := by
  cases h1 <;> cases linked <;> cases i0 <;> cases i1 <;> exact ⟨by kernel_rfl, by kernel_rfl, fun n => by kernel_rfl⟩
theorem jd_within_leaving {o1 : Str} (h1 : GO o1) (linked i0 i1 : Bool) :
    joinF (.str (S " ")) (.list [.str (S "house"), .str (S "within"), .str (if linked = true then S "linked" else S "single"), .str (if i0 = true then S "bolt" else S "bare"), .str (if i1 = true then S "bolt" else S "bare"), .str (S "leaving"), .str o1]) = some (hdS (S "within") linked i0 i1 (S "leaving") o1) ∧
      lineB (hdS (S "within") linked i0 i1 (S "leaving") o1) = true ∧ ∀ n, callF tab LL (n + 6) 25 [.d (.str (hdS (S "within") linked i0 i1 (S "leaving") o1))] [] = .ok (.d (.tuple [.str (S "within"), .bool linked, .tuple [.bool i0, .bool i1], .tuple [.str (S "leaving"), .str o1]])) [] := by
  cases h1 <;> cases linked <;> cases i0 <;> cases i1 <;> exact ⟨by kernel_rfl, by kernel_rfl, fun n => by kernel_rfl⟩
theorem jd_within_any {o1 : Str} (h1 : GO o1) (linked i0 i1 : Bool) :
    joinF (.str (S " ")) (.list [.str (S "house"), .str (S "within"), .str (if linked = true then S "linked" else S "single"), .str (if i0 = true then S "bolt" else S "bare"), .str (if i1 = true then S "bolt" else S "bare"), .str (S "any"), .str o1]) = some (hdS (S "within") linked i0 i1 (S "any") o1) ∧
      lineB (hdS (S "within") linked i0 i1 (S "any") o1) = true ∧ ∀ n, callF tab LL (n + 6) 25 [.d (.str (hdS (S "within") linked i0 i1 (S "any") o1))] [] = .ok (.d (.tuple [.str (S "within"), .bool linked, .tuple [.bool i0, .bool i1], .tuple [.str (S "any"), .str o1]])) [] := by
  cases h1 <;> cases linked <;> cases i0 <;> cases i1 <;> exact ⟨by kernel_rfl, by kernel_rfl, fun n => by kernel_rfl⟩
theorem join_head {lamp o0 o1 : Str} (hl : GL lamp) (h0 : GO o0) (h1 : GO o1) (linked i0 i1 : Bool) :
    joinF (.str (S " ")) (.list [.str (S "house"), .str lamp, .str (if linked = true then S "linked" else S "single"), .str (if i0 = true then S "bolt" else S "bare"), .str (if i1 = true then S "bolt" else S "bare"), .str o0, .str o1]) = some (hdS lamp linked i0 i1 o0 o1) ∧
      lineB (hdS lamp linked i0 i1 o0 o1) = true ∧ ∀ n, callF tab LL (n + 6) 25 [.d (.str (hdS lamp linked i0 i1 o0 o1))] [] = .ok (.d (.tuple [.str lamp, .bool linked, .tuple [.bool i0, .bool i1], .tuple [.str o0, .str o1]])) [] := by
  cases hl with
  | none => cases h0 with
    | none => exact jd_none_none h1 linked i0 i1
    | leaving => exact jd_none_leaving h1 linked i0 i1
    | any => exact jd_none_any h1 linked i0 i1
  | bolts => cases h0 with
    | none => exact jd_bolts_none h1 linked i0 i1
    | leaving => exact jd_bolts_leaving h1 linked i0 i1
    | any => exact jd_bolts_any h1 linked i0 i1
  | within => cases h0 with
    | none => exact jd_within_none h1 linked i0 i1
    | leaving => exact jd_within_leaving h1 linked i0 i1
    | any => exact jd_within_any h1 linked i0 i1
end DL.K23
end
section
set_option Elab.async false
set_option linter.all false
set_option maxRecDepth 100000
set_option maxHeartbeats 4000000
/-! KF: the lines of a house, its text. -/
namespace DL.K23
open PySem DL
theorem ite_ok {c : Prop} [Decidable c] {α : Type} {a b : α} {m : Store} : (if c then R.ok a m else R.ok b m) = R.ok (if c then a else b) m := by split <;> rfl
theorem ite_d {c : Prop} [Decidable c] {a b : D} : (if c then Val.d a else Val.d b) = Val.d (if c then a else b) := by split <;> rfl
theorem ite_s {c : Prop} [Decidable c] {a b : Str} : (if c then PyData.str a else PyData.str b) = PyData.str (if c then a else b) := by split <;> rfl
inductive GH2 : List D → Prop
  | one {x : D} : GHab x → GH2 [x]
  | two {x y : D} : GHab x → GHab y → GH2 [x, y]
theorem GHome.ls {d : D} (h : GHome d) : ∃ xs, d = .tuple xs ∧ GH2 xs := by
  cases h with
  | one h => exact ⟨_, rfl, .one h⟩
  | two h h' => exact ⟨_, rfl, .two h h'⟩
theorem GH2.home {xs : List D} (h : GH2 xs) : GHome (.tuple xs) := by
  cases h with
  | one h => exact .one h
  | two h h' => exact .two h h'
def lns (lamp : Str) (linked i0 i1 : Bool) (o0 o1 : Str) (xs ys : List D) : List Str := hdS lamp linked i0 i1 o0 o1 :: (xs.map (hlS 0) ++ ys.map (hlS 1))
theorem strsOf_map : ∀ ys : List Str, strsOf (ys.map PyData.str) = some ys
  | [] => rfl
  | y :: ys => by
    show (strsOf (ys.map PyData.str)).map (y :: ·) = _
    rw [strsOf_map]
    rfl
theorem hab_line {d : D} (h : GHab d) (i : Int) (hi : i = 0 ∨ i = 1) : lineB (hlS i d) = true ∧ ∀ n, callF tab LL (n + 6) 25 [.d (.str (hlS i d))] [] = .ok (.d (.tuple [.int i, d])) [] := by
  obtain ⟨l, hb, hg, hu, hf⟩ := h
  exact (join_hab hb hg hu hf i hi).2
theorem GH2.mem {xs : List D} (h : GH2 xs) : ∀ x ∈ xs, GHab x := by
  cases h with
  | one h => intro x hx; simp at hx; subst hx; exact h
  | two h h' => intro x hx; simp at hx; rcases hx with rfl | rfl; exact h; exact h'
theorem GH2.len {xs : List D} (h : GH2 xs) : xs.length ≤ 2 := by cases h <;> simp
theorem log1 : Nat.log2 1 < 1920 := by decide
section
variable {lamp o0 o1 : Str} {xs ys : List D} (hl : GL lamp) (g0 : GO o0) (g1 : GO o1) (gx : GH2 xs) (gy : GH2 ys) (linked i0 i1 : Bool)
include hl g0 g1 gx gy
theorem lns_ok : ∀ s ∈ lns lamp linked i0 i1 o0 o1 xs ys, lineB s = true := by
  intro s hs
  unfold lns at hs
  rcases List.mem_cons.mp hs with rfl | hs
  · exact (join_head hl g0 g1 linked i0 i1).2.1
  · rcases List.mem_append.mp hs with hs | hs
    · obtain ⟨x, hx, rfl⟩ := List.mem_map.mp hs
      exact (hab_line (gx.mem x hx) 0 (.inl rfl)).1
    · obtain ⟨x, hx, rfl⟩ := List.mem_map.mp hs
      exact (hab_line (gy.mem x hx) 1 (.inr rfl)).1
theorem lns_len : (lns lamp linked i0 i1 o0 o1 xs ys).length ≤ 5 := by
  have := gx.len
  have := gy.len
  simp [lns]
  omega
omit hl g0 g1 gx gy in
theorem sum_le : ∀ {ls : List Str}, (∀ s ∈ ls, lineB s = true) → (ls.map (·.length)).sum ≤ 100 * ls.length
  | [], _ => by simp
  | s :: ls, h => by
    have h1 := h s List.mem_cons_self
    unfold lineB at h1
    rw [Bool.and_eq_true, decide_eq_true_eq] at h1
    have := sum_le fun y hy => h y (List.mem_cons_of_mem _ hy)
    simp only [List.map_cons, List.sum_cons, List.length_cons]
    omega
theorem join_lns : joinF (.str (S "\n")) (.list ((lns lamp linked i0 i1 o0 o1 xs ys).map .str)) = some (Txt.join (S "\n") (lns lamp linked i0 i1 o0 o1 xs ys)) := by
  have h1 := sum_le (lns_ok hl g0 g1 gx gy linked i0 i1)
  have h2 := lns_len hl g0 g1 gx gy linked i0 i1
  have h3 : (S "\n").length = 1 := by kernel_rfl
  show (match strsOf ((lns lamp linked i0 i1 o0 o1 xs ys).map .str) with | some (ys : List Str) => if (ys.map fun (y : Str) => y.length).sum + ys.length * (S "\n").length ≤ 16777216 then some (Txt.join (S "\n") ys) else none | none => none) = _
  rw [strsOf_map]
  dsimp only
  rw [h3, if_pos (by omega)]
theorem lines_fn (n : Nat) : callF tab LL (n + 1) 28 [.d (houD lamp linked i0 i1 o0 o1 (.tuple xs) (.tuple ys))] [] = .ok (.r 0) [.lst ((lns lamp linked i0 i1 o0 o1 xs ys).map .str)] := by
  have jh := (join_head hl g0 g1 linked i0 i1).1
  show evFn (callF tab LL n) LL f28 _ [] = _
  generalize callF tab LL n = Φ
  cases gx with
  | one ax =>
    cases gy with
    | one ay =>
      obtain ⟨lax, hbax, hgax, huax, hfax⟩ := ax
      have jax : joinF (.str (S " ")) (.list [.str (Str.ofString (Int.repr 0)), .str (if lax = true then S "looks" else S "blind"), .str _, .str _, .str _, .str _]) = some (hlS 0 (habD lax _ _ _ _)) := (join_hab (l := lax) hbax hgax huax hfax 0 (.inl rfl)).1
      simp only [habD] at jax
      obtain ⟨lay, hbay, hgay, huay, hfay⟩ := ay
      have jay : joinF (.str (S " ")) (.list [.str (Str.ofString (Int.repr 1)), .str (if lay = true then S "looks" else S "blind"), .str _, .str _, .str _, .str _]) = some (hlS 1 (habD lay _ _ _ _)) := (join_hab (l := lay) hbay hgay huay hfay 1 (.inr rfl)).1
      simp only [habD] at jay
      simp [houD, habD, lns, evFn, f28, b28, evSs, evS, evT, ev, evs, evI, evC, evO, truR, tru, rd, rdAll, blF, put, new, opR, opF, ixF, L2.atI, L2.ixN, slF, cutD, HT.sIx, fz, allD, seqOf, ofO, forLoop, compLoop, R.calm, asgD, setAll, wipeE, partI, isLst, app1, leave, sizeLine_eq, ite_ok, ite_d, ite_s, log1, enD, List.range, List.range.loop, jh, jax, jay, Cell.data]
    | two ay by' =>
      obtain ⟨lax, hbax, hgax, huax, hfax⟩ := ax
      have jax : joinF (.str (S " ")) (.list [.str (Str.ofString (Int.repr 0)), .str (if lax = true then S "looks" else S "blind"), .str _, .str _, .str _, .str _]) = some (hlS 0 (habD lax _ _ _ _)) := (join_hab (l := lax) hbax hgax huax hfax 0 (.inl rfl)).1
      simp only [habD] at jax
      obtain ⟨lay, hbay, hgay, huay, hfay⟩ := ay
      have jay : joinF (.str (S " ")) (.list [.str (Str.ofString (Int.repr 1)), .str (if lay = true then S "looks" else S "blind"), .str _, .str _, .str _, .str _]) = some (hlS 1 (habD lay _ _ _ _)) := (join_hab (l := lay) hbay hgay huay hfay 1 (.inr rfl)).1
      simp only [habD] at jay
      obtain ⟨lby, hbby, hgby, huby, hfby⟩ := by'
      have jby : joinF (.str (S " ")) (.list [.str (Str.ofString (Int.repr 1)), .str (if lby = true then S "looks" else S "blind"), .str _, .str _, .str _, .str _]) = some (hlS 1 (habD lby _ _ _ _)) := (join_hab (l := lby) hbby hgby huby hfby 1 (.inr rfl)).1
      simp only [habD] at jby
      simp [houD, habD, lns, evFn, f28, b28, evSs, evS, evT, ev, evs, evI, evC, evO, truR, tru, rd, rdAll, blF, put, new, opR, opF, ixF, L2.atI, L2.ixN, slF, cutD, HT.sIx, fz, allD, seqOf, ofO, forLoop, compLoop, R.calm, asgD, setAll, wipeE, partI, isLst, app1, leave, sizeLine_eq, ite_ok, ite_d, ite_s, log1, enD, List.range, List.range.loop, jh, jax, jay, jby, Cell.data]
  | two ax bx =>
    cases gy with
    | one ay =>
      obtain ⟨lax, hbax, hgax, huax, hfax⟩ := ax
      have jax : joinF (.str (S " ")) (.list [.str (Str.ofString (Int.repr 0)), .str (if lax = true then S "looks" else S "blind"), .str _, .str _, .str _, .str _]) = some (hlS 0 (habD lax _ _ _ _)) := (join_hab (l := lax) hbax hgax huax hfax 0 (.inl rfl)).1
      simp only [habD] at jax
      obtain ⟨lbx, hbbx, hgbx, hubx, hfbx⟩ := bx
      have jbx : joinF (.str (S " ")) (.list [.str (Str.ofString (Int.repr 0)), .str (if lbx = true then S "looks" else S "blind"), .str _, .str _, .str _, .str _]) = some (hlS 0 (habD lbx _ _ _ _)) := (join_hab (l := lbx) hbbx hgbx hubx hfbx 0 (.inl rfl)).1
      simp only [habD] at jbx
      obtain ⟨lay, hbay, hgay, huay, hfay⟩ := ay
      have jay : joinF (.str (S " ")) (.list [.str (Str.ofString (Int.repr 1)), .str (if lay = true then S "looks" else S "blind"), .str _, .str _, .str _, .str _]) = some (hlS 1 (habD lay _ _ _ _)) := (join_hab (l := lay) hbay hgay huay hfay 1 (.inr rfl)).1
      simp only [habD] at jay
      simp [houD, habD, lns, evFn, f28, b28, evSs, evS, evT, ev, evs, evI, evC, evO, truR, tru, rd, rdAll, blF, put, new, opR, opF, ixF, L2.atI, L2.ixN, slF, cutD, HT.sIx, fz, allD, seqOf, ofO, forLoop, compLoop, R.calm, asgD, setAll, wipeE, partI, isLst, app1, leave, sizeLine_eq, ite_ok, ite_d, ite_s, log1, enD, List.range, List.range.loop, jh, jax, jbx, jay, Cell.data]
    | two ay by' =>
      obtain ⟨lax, hbax, hgax, huax, hfax⟩ := ax
      have jax : joinF (.str (S " ")) (.list [.str (Str.ofString (Int.repr 0)), .str (if lax = true then S "looks" else S "blind"), .str _, .str _, .str _, .str _]) = some (hlS 0 (habD lax _ _ _ _)) := (join_hab (l := lax) hbax hgax huax hfax 0 (.inl rfl)).1
      simp only [habD] at jax
      obtain ⟨lbx, hbbx, hgbx, hubx, hfbx⟩ := bx
      have jbx : joinF (.str (S " ")) (.list [.str (Str.ofString (Int.repr 0)), .str (if lbx = true then S "looks" else S "blind"), .str _, .str _, .str _, .str _]) = some (hlS 0 (habD lbx _ _ _ _)) := (join_hab (l := lbx) hbbx hgbx hubx hfbx 0 (.inl rfl)).1
      simp only [habD] at jbx
      obtain ⟨lay, hbay, hgay, huay, hfay⟩ := ay
      have jay : joinF (.str (S " ")) (.list [.str (Str.ofString (Int.repr 1)), .str (if lay = true then S "looks" else S "blind"), .str _, .str _, .str _, .str _]) = some (hlS 1 (habD lay _ _ _ _)) := (join_hab (l := lay) hbay hgay huay hfay 1 (.inr rfl)).1
      simp only [habD] at jay
      obtain ⟨lby, hbby, hgby, huby, hfby⟩ := by'
      have jby : joinF (.str (S " ")) (.list [.str (Str.ofString (Int.repr 1)), .str (if lby = true then S "looks" else S "blind"), .str _, .str _, .str _, .str _]) = some (hlS 1 (habD lby _ _ _ _)) := (join_hab (l := lby) hbby hgby huby hfby 1 (.inr rfl)).1
      simp only [habD] at jby
      simp [houD, habD, lns, evFn, f28, b28, evSs, evS, evT, ev, evs, evI, evC, evO, truR, tru, rd, rdAll, blF, put, new, opR, opF, ixF, L2.atI, L2.ixN, slF, cutD, HT.sIx, fz, allD, seqOf, ofO, forLoop, compLoop, R.calm, asgD, setAll, wipeE, partI, isLst, app1, leave, sizeLine_eq, ite_ok, ite_d, ite_s, log1, enD, List.range, List.range.loop, jh, jax, jbx, jay, jby, Cell.data]
theorem text_fn (n : Nat) : callF tab LL (n + 6) 26 [.d (houD lamp linked i0 i1 o0 o1 (.tuple xs) (.tuple ys))] [] = .ok (.d (.str (Txt.join (S "\n") (lns lamp linked i0 i1 o0 o1 xs ys)))) [] := by
  have jh := (join_head hl g0 g1 linked i0 i1).1
  have jl := join_lns hl g0 g1 gx gy linked i0 i1
  have gh : GHouse (houD lamp linked i0 i1 o0 o1 (.tuple xs) (.tuple ys)) := .mk linked i0 i1 hl g0 g1 gx.home gy.home
  have w := need_house gh n
  show evFn (callF tab LL (n + 5)) LL f26 _ [] = _
  generalize callF tab LL (n + 5) = Φ at w ⊢
  simp only [houD] at w
  cases gx with
  | one ax =>
    cases gy with
    | one ay =>
      obtain ⟨lax, hbax, hgax, huax, hfax⟩ := ax
      have jax : joinF (.str (S " ")) (.list [.str (Str.ofString (Int.repr 0)), .str (if lax = true then S "looks" else S "blind"), .str _, .str _, .str _, .str _]) = some (hlS 0 (habD lax _ _ _ _)) := (join_hab (l := lax) hbax hgax huax hfax 0 (.inl rfl)).1
      simp only [habD] at jax
      obtain ⟨lay, hbay, hgay, huay, hfay⟩ := ay
      have jay : joinF (.str (S " ")) (.list [.str (Str.ofString (Int.repr 1)), .str (if lay = true then S "looks" else S "blind"), .str _, .str _, .str _, .str _]) = some (hlS 1 (habD lay _ _ _ _)) := (join_hab (l := lay) hbay hgay huay hfay 1 (.inr rfl)).1
      simp only [habD] at jay
      simp only [lns, habD, List.map_cons, List.map_nil, List.cons_append, List.nil_append] at jl
      simp only [habD] at w
      simp [houD, habD, lns, evFn, f26, b26, evSs, evS, evT, ev, evs, evI, evC, evO, truR, tru, rd, rdAll, blF, put, new, opR, opF, ixF, L2.atI, L2.ixN, slF, cutD, HT.sIx, fz, allD, seqOf, ofO, forLoop, compLoop, R.calm, asgD, setAll, wipeE, partI, isLst, app1, leave, sizeLine_eq, ite_ok, ite_d, ite_s, log1, enD, List.range, List.range.loop, jh, w, jl, jax, jay, Cell.data]
    | two ay by' =>
      obtain ⟨lax, hbax, hgax, huax, hfax⟩ := ax
      have jax : joinF (.str (S " ")) (.list [.str (Str.ofString (Int.repr 0)), .str (if lax = true then S "looks" else S "blind"), .str _, .str _, .str _, .str _]) = some (hlS 0 (habD lax _ _ _ _)) := (join_hab (l := lax) hbax hgax huax hfax 0 (.inl rfl)).1
      simp only [habD] at jax
      obtain ⟨lay, hbay, hgay, huay, hfay⟩ := ay
      have jay : joinF (.str (S " ")) (.list [.str (Str.ofString (Int.repr 1)), .str (if lay = true then S "looks" else S "blind"), .str _, .str _, .str _, .str _]) = some (hlS 1 (habD lay _ _ _ _)) := (join_hab (l := lay) hbay hgay huay hfay 1 (.inr rfl)).1
      simp only [habD] at jay
      obtain ⟨lby, hbby, hgby, huby, hfby⟩ := by'
      have jby : joinF (.str (S " ")) (.list [.str (Str.ofString (Int.repr 1)), .str (if lby = true then S "looks" else S "blind"), .str _, .str _, .str _, .str _]) = some (hlS 1 (habD lby _ _ _ _)) := (join_hab (l := lby) hbby hgby huby hfby 1 (.inr rfl)).1
      simp only [habD] at jby
      simp only [lns, habD, List.map_cons, List.map_nil, List.cons_append, List.nil_append] at jl
      simp only [habD] at w
      simp [houD, habD, lns, evFn, f26, b26, evSs, evS, evT, ev, evs, evI, evC, evO, truR, tru, rd, rdAll, blF, put, new, opR, opF, ixF, L2.atI, L2.ixN, slF, cutD, HT.sIx, fz, allD, seqOf, ofO, forLoop, compLoop, R.calm, asgD, setAll, wipeE, partI, isLst, app1, leave, sizeLine_eq, ite_ok, ite_d, ite_s, log1, enD, List.range, List.range.loop, jh, w, jl, jax, jay, jby, Cell.data]
  | two ax bx =>
    cases gy with
    | one ay =>
      obtain ⟨lax, hbax, hgax, huax, hfax⟩ := ax
      have jax : joinF (.str (S " ")) (.list [.str (Str.ofString (Int.repr 0)), .str (if lax = true then S "looks" else S "blind"), .str _, .str _, .str _, .str _]) = some (hlS 0 (habD lax _ _ _ _)) := (join_hab (l := lax) hbax hgax huax hfax 0 (.inl rfl)).1
      simp only [habD] at jax
      obtain ⟨lbx, hbbx, hgbx, hubx, hfbx⟩ := bx
      have jbx : joinF (.str (S " ")) (.list [.str (Str.ofString (Int.repr 0)), .str (if lbx = true then S "looks" else S "blind"), .str _, .str _, .str _, .str _]) = some (hlS 0 (habD lbx _ _ _ _)) := (join_hab (l := lbx) hbbx hgbx hubx hfbx 0 (.inl rfl)).1
      simp only [habD] at jbx
      obtain ⟨lay, hbay, hgay, huay, hfay⟩ := ay
      have jay : joinF (.str (S " ")) (.list [.str (Str.ofString (Int.repr 1)), .str (if lay = true then S "looks" else S "blind"), .str _, .str _, .str _, .str _]) = some (hlS 1 (habD lay _ _ _ _)) := (join_hab (l := lay) hbay hgay huay hfay 1 (.inr rfl)).1
      simp only [habD] at jay
      simp only [lns, habD, List.map_cons, List.map_nil, List.cons_append, List.nil_append] at jl
      simp only [habD] at w
      simp [houD, habD, lns, evFn, f26, b26, evSs, evS, evT, ev, evs, evI, evC, evO, truR, tru, rd, rdAll, blF, put, new, opR, opF, ixF, L2.atI, L2.ixN, slF, cutD, HT.sIx, fz, allD, seqOf, ofO, forLoop, compLoop, R.calm, asgD, setAll, wipeE, partI, isLst, app1, leave, sizeLine_eq, ite_ok, ite_d, ite_s, log1, enD, List.range, List.range.loop, jh, w, jl, jax, jbx, jay, Cell.data]
    | two ay by' =>
      obtain ⟨lax, hbax, hgax, huax, hfax⟩ := ax
      have jax : joinF (.str (S " ")) (.list [.str (Str.ofString (Int.repr 0)), .str (if lax = true then S "looks" else S "blind"), .str _, .str _, .str _, .str _]) = some (hlS 0 (habD lax _ _ _ _)) := (join_hab (l := lax) hbax hgax huax hfax 0 (.inl rfl)).1
      simp only [habD] at jax
      obtain ⟨lbx, hbbx, hgbx, hubx, hfbx⟩ := bx
      have jbx : joinF (.str (S " ")) (.list [.str (Str.ofString (Int.repr 0)), .str (if lbx = true then S "looks" else S "blind"), .str _, .str _, .str _, .str _]) = some (hlS 0 (habD lbx _ _ _ _)) := (join_hab (l := lbx) hbbx hgbx hubx hfbx 0 (.inl rfl)).1
      simp only [habD] at jbx
      obtain ⟨lay, hbay, hgay, huay, hfay⟩ := ay
      have jay : joinF (.str (S " ")) (.list [.str (Str.ofString (Int.repr 1)), .str (if lay = true then S "looks" else S "blind"), .str _, .str _, .str _, .str _]) = some (hlS 1 (habD lay _ _ _ _)) := (join_hab (l := lay) hbay hgay huay hfay 1 (.inr rfl)).1
      simp only [habD] at jay
      obtain ⟨lby, hbby, hgby, huby, hfby⟩ := by'
      have jby : joinF (.str (S " ")) (.list [.str (Str.ofString (Int.repr 1)), .str (if lby = true then S "looks" else S "blind"), .str _, .str _, .str _, .str _]) = some (hlS 1 (habD lby _ _ _ _)) := (join_hab (l := lby) hbby hgby huby hfby 1 (.inr rfl)).1
      simp only [habD] at jby
      simp only [lns, habD, List.map_cons, List.map_nil, List.cons_append, List.nil_append] at jl
      simp only [habD] at w
      simp [houD, habD, lns, evFn, f26, b26, evSs, evS, evT, ev, evs, evI, evC, evO, truR, tru, rd, rdAll, blF, put, new, opR, opF, ixF, L2.atI, L2.ixN, slF, cutD, HT.sIx, fz, allD, seqOf, ofO, forLoop, compLoop, R.calm, asgD, setAll, wipeE, partI, isLst, app1, leave, sizeLine_eq, ite_ok, ite_d, ite_s, log1, enD, List.range, List.range.loop, jh, w, jl, jax, jbx, jay, jby, Cell.data]
end
end DL.K23
end
section
set_option Elab.async false
set_option linter.all false
set_option maxRecDepth 100000
set_option maxHeartbeats 8000000
/-! KG: a text read back. -/
namespace DL.K23
open PySem DL
theorem dep_hab {d : D} (h : GHab d) : PyData.depth d = 1 := by
  obtain ⟨l, hb, hg, hu, hf⟩ := h
  kernel_rfl
theorem lay_hab {d : D} (h : GHab d) : PyData.canLay0 d = true := by
  obtain ⟨l, hb, hg, hu, hf⟩ := h
  cases hb <;> cases hg <;> cases hu <;> cases hf <;> kernel_rfl
theorem ok_lamp {s : Str} (h : GL s) : PyData.strOk s = true := by cases h <;> kernel_rfl
theorem ok_outer {s : Str} (h : GO s) : PyData.strOk s = true := by cases h <;> kernel_rfl
theorem joinL_len (y : List Nat) : ∀ ps : List (List Nat), (TL.joinL y ps).length ≤ (ps.map List.length).sum + ps.length * y.length
  | [] => by simp [TL.joinL]
  | [p] => by simp [TL.joinL]
  | p :: q :: r => by
    have ih := joinL_len y (q :: r)
    simp only [TL.joinL, List.length_append, List.map_cons, List.sum_cons, List.length_cons] at ih ⊢
    have e : (r.length + 1 + 1) * y.length = (r.length + 1) * y.length + y.length := Nat.succ_mul _ _
    omega
theorem joinL_all {y : List Nat} {P : Nat → Prop} (hy : ∀ c ∈ y, P c) : ∀ {ps : List (List Nat)}, (∀ p ∈ ps, ∀ c ∈ p, P c) → ∀ c ∈ TL.joinL y ps, P c
  | [], _, c, h => by cases h
  | [p], hp, c, h => hp p (by simp) c h
  | p :: q :: r, hp, c, h => by
    rcases List.mem_append.mp (show c ∈ p ++ (y ++ TL.joinL y (q :: r)) from h) with h | h
    · exact hp p (by simp) c h
    · rcases List.mem_append.mp h with h | h
      · exact hy c h
      · exact joinL_all hy (fun p hp' => hp p (List.mem_cons_of_mem _ hp')) c h
theorem strOk_iff {s : Str} : PyData.strOk s = true ↔ ∀ c ∈ s.cps.toList, c < 0x110000 := by
  unfold PyData.strOk
  rw [← Array.all_toList, List.all_eq_true]
  simp
theorem leI (a b : Int) : PySem.W.dataLe false id (PyData.int a) (PyData.int b) = decide (a ≤ b) := congrFun (congrFun (PySem.W.dataLe_int (β := Int) id) a) b
section
variable {lamp o0 o1 : Str} {xs ys : List D} (hl : GL lamp) (g0 : GO o0) (g1 : GO o1) (gx : GH2 xs) (gy : GH2 ys) (linked i0 i1 : Bool)
include hl g0 g1 gx gy
theorem text_ok : PyData.strOk (Txt.join (S "\n") (lns lamp linked i0 i1 o0 o1 xs ys)) = true := by
  rw [TL.join_eq, strOk_iff]
  rw [show (Str.join (S "\n") (lns lamp linked i0 i1 o0 o1 xs ys)).cps.toList = TL.joinL (TL.tl (S "\n")) ((lns lamp linked i0 i1 o0 o1 xs ys).map TL.tl) from TL.tl_join _ _]
  refine joinL_all (fun c hc => ?_) fun p hp => ?_
  · have e : TL.tl (S "\n") = [10] := by kernel_rfl
    rw [e] at hc
    simp at hc
    omega
  · obtain ⟨s, hs, rfl⟩ := List.mem_map.mp hp
    have q := lns_ok hl g0 g1 gx gy linked i0 i1 s hs
    unfold lineB at q
    rw [Bool.and_eq_true, Bool.and_eq_true] at q
    exact strOk_iff.mp q.2.2
theorem split_lns : splitF (.str (Txt.join (S "\n") (lns lamp linked i0 i1 o0 o1 xs ys))) (.str (S "\n")) = some (lns lamp linked i0 i1 o0 o1 xs ys) := by
  have e1 : ((S "\n").length == 0) = false := by kernel_rfl
  have e2 : TL.tl (S "\n") = 10 :: [] := by kernel_rfl
  have hz : (Txt.join (S "\n") (lns lamp linked i0 i1 o0 o1 xs ys)).length + 2 ≤ sizeLine := by
    rw [TL.join_eq]
    show (Str.join (S "\n") (lns lamp linked i0 i1 o0 o1 xs ys)).cps.size + 2 ≤ sizeLine
    rw [← Array.length_toList, show (Str.join (S "\n") (lns lamp linked i0 i1 o0 o1 xs ys)).cps.toList = TL.joinL (TL.tl (S "\n")) ((lns lamp linked i0 i1 o0 o1 xs ys).map TL.tl) from TL.tl_join _ _]
    have q := joinL_len (TL.tl (S "\n")) ((lns lamp linked i0 i1 o0 o1 xs ys).map TL.tl)
    have h1 := sum_le (lns_ok hl g0 g1 gx gy linked i0 i1)
    have h2 := lns_len hl g0 g1 gx gy linked i0 i1
    rw [List.map_map] at q
    have e3 : (List.length ∘ TL.tl) = fun s : Str => s.length := by
      funext s
      exact Array.length_toList
    rw [e3, e2, List.length_map] at q
    rw [sizeLine_eq, e2]
    simp only [List.length_cons, List.length_nil] at q
    omega
  have sp : Txt.split (Txt.join (S "\n") (lns lamp linked i0 i1 o0 o1 xs ys)) (S "\n") = lns lamp linked i0 i1 o0 o1 xs ys := TL.split_join e2 (by kernel_rfl) (by simp [lns]) fun p hp hm => by
    have q := lns_ok hl g0 g1 gx gy linked i0 i1 p hp
    unfold lineB at q
    rw [Bool.and_eq_true, Bool.and_eq_true, Bool.not_eq_true'] at q
    have q := q.2.1
    rw [List.contains_iff_mem.mpr hm] at q
    cases q
  show (if ((S "\n").length == 0) = false && decide ((Txt.join (S "\n") (lns lamp linked i0 i1 o0 o1 xs ys)).length + 2 ≤ sizeLine) then some (Txt.split (Txt.join (S "\n") (lns lamp linked i0 i1 o0 o1 xs ys)) (S "\n")) else none) = _
  rw [e1, decide_eq_true hz, sp]
  rfl
omit hl g0 g1 gx gy in
theorem so01 : sortOk ([.int 0, .int 1] : List D) = true := by kernel_rfl
omit hl g0 g1 gx gy in
theorem sd01 : sortD ([.int 0, .int 1] : List D) = [.int 0, .int 1] := List.mergeSort_of_pairwise (by simp [leI])
omit hl g0 g1 gx gy in
theorem so011 : sortOk ([.int 0, .int 1, .int 1] : List D) = true := by kernel_rfl
omit hl g0 g1 gx gy in
theorem sd011 : sortD ([.int 0, .int 1, .int 1] : List D) = [.int 0, .int 1, .int 1] := List.mergeSort_of_pairwise (by simp [leI])
omit hl g0 g1 gx gy in
theorem so001 : sortOk ([.int 0, .int 0, .int 1] : List D) = true := by kernel_rfl
omit hl g0 g1 gx gy in
theorem sd001 : sortD ([.int 0, .int 0, .int 1] : List D) = [.int 0, .int 0, .int 1] := List.mergeSort_of_pairwise (by simp [leI])
omit hl g0 g1 gx gy in
theorem so0011 : sortOk ([.int 0, .int 0, .int 1, .int 1] : List D) = true := by kernel_rfl
omit hl g0 g1 gx gy in
theorem sd0011 : sortD ([.int 0, .int 0, .int 1, .int 1] : List D) = [.int 0, .int 0, .int 1, .int 1] := List.mergeSort_of_pairwise (by simp [leI])
theorem read_fn (n : Nat) : callF tab LL (n + 7) 27 [.d (.str (Txt.join (S "\n") (lns lamp linked i0 i1 o0 o1 xs ys)))] [] = .ok (.d (houD lamp linked i0 i1 o0 o1 (.tuple xs) (.tuple ys))) [] := by
  have jh := fun m => lift (xs := [.str (hdS lamp linked i0 i1 o0 o1)]) ((join_head hl g0 g1 linked i0 i1).2.2 n) m
  have js := split_lns hl g0 g1 gx gy linked i0 i1
  have gh : GHouse (houD lamp linked i0 i1 o0 o1 (.tuple xs) (.tuple ys)) := .mk linked i0 i1 hl g0 g1 gx.home gy.home
  have w := fun m => is_house gh (n + 2) m
  have p1 := ok_lamp hl
  have p2 := ok_outer g0
  have p3 := ok_outer g1
  generalize Txt.join (S "\n") (lns lamp linked i0 i1 o0 o1 xs ys) = T at js ⊢
  have jp0 := fun (x : D) (h : GHab x) m => lift (xs := [.str (hlS 0 x)]) ((hab_line h 0 (.inl rfl)).2 n) m
  have jp1 := fun (x : D) (h : GHab x) m => lift (xs := [.str (hlS 1 x)]) ((hab_line h 1 (.inr rfl)).2 n) m
  show evFn (callF tab LL (n + 6)) LL f27 _ [] = _
  generalize callF tab LL (n + 6) = Φ at w jh jp0 jp1 ⊢
  simp only [houD] at w
  simp only [List.map_cons, List.map_nil] at jh jp0 jp1
  cases gx with
  | one ax =>
    cases gy with
    | one ay =>
      have kax := jp0 _ ax
      have dax := dep_hab ax
      have cax := lay_hab ax
      have kay := jp1 _ ay
      have day := dep_hab ay
      have cay := lay_hab ay
      simp only [lns, List.map_cons, List.map_nil, List.cons_append, List.nil_append] at js
      simp [houD, evFn, f27, b27, evSs, evS, evT, ev, evs, evI, evC, evO, truR, tru, rd, rdAll, blF, put, new, opR, opF, cmR, cmF, eqD, isiF, tyF, ixF, L2.atI, L2.ixN, slF, cutD, HT.sIx, fz, allD, seqOf, ofO, forLoop, compLoop, R.calm, asgD, setAll, wipeE, partI, leave, sizeLine_eq, jh, w, js, p1, p2, p3, so01, sd01, kax, dax, cax, kay, day, cay, Cell.data, SeqAt.shaped, PyData.canLay0, PyData.canLayAll0, PyData.depth, PyData.depthAll, PyData.eqv, PyData.eqvAll]
    | two ay by' =>
      have kax := jp0 _ ax
      have dax := dep_hab ax
      have cax := lay_hab ax
      have kay := jp1 _ ay
      have day := dep_hab ay
      have cay := lay_hab ay
      have kby := jp1 _ by'
      have dby := dep_hab by'
      have cby := lay_hab by'
      simp only [lns, List.map_cons, List.map_nil, List.cons_append, List.nil_append] at js
      simp [houD, evFn, f27, b27, evSs, evS, evT, ev, evs, evI, evC, evO, truR, tru, rd, rdAll, blF, put, new, opR, opF, cmR, cmF, eqD, isiF, tyF, ixF, L2.atI, L2.ixN, slF, cutD, HT.sIx, fz, allD, seqOf, ofO, forLoop, compLoop, R.calm, asgD, setAll, wipeE, partI, leave, sizeLine_eq, jh, w, js, p1, p2, p3, so011, sd011, kax, dax, cax, kay, day, cay, kby, dby, cby, Cell.data, SeqAt.shaped, PyData.canLay0, PyData.canLayAll0, PyData.depth, PyData.depthAll, PyData.eqv, PyData.eqvAll]
  | two ax bx =>
    cases gy with
    | one ay =>
      have kax := jp0 _ ax
      have dax := dep_hab ax
      have cax := lay_hab ax
      have kbx := jp0 _ bx
      have dbx := dep_hab bx
      have cbx := lay_hab bx
      have kay := jp1 _ ay
      have day := dep_hab ay
      have cay := lay_hab ay
      simp only [lns, List.map_cons, List.map_nil, List.cons_append, List.nil_append] at js
      simp [houD, evFn, f27, b27, evSs, evS, evT, ev, evs, evI, evC, evO, truR, tru, rd, rdAll, blF, put, new, opR, opF, cmR, cmF, eqD, isiF, tyF, ixF, L2.atI, L2.ixN, slF, cutD, HT.sIx, fz, allD, seqOf, ofO, forLoop, compLoop, R.calm, asgD, setAll, wipeE, partI, leave, sizeLine_eq, jh, w, js, p1, p2, p3, so001, sd001, kax, dax, cax, kbx, dbx, cbx, kay, day, cay, Cell.data, SeqAt.shaped, PyData.canLay0, PyData.canLayAll0, PyData.depth, PyData.depthAll, PyData.eqv, PyData.eqvAll]
    | two ay by' =>
      have kax := jp0 _ ax
      have dax := dep_hab ax
      have cax := lay_hab ax
      have kbx := jp0 _ bx
      have dbx := dep_hab bx
      have cbx := lay_hab bx
      have kay := jp1 _ ay
      have day := dep_hab ay
      have cay := lay_hab ay
      have kby := jp1 _ by'
      have dby := dep_hab by'
      have cby := lay_hab by'
      simp only [lns, List.map_cons, List.map_nil, List.cons_append, List.nil_append] at js
      simp [houD, evFn, f27, b27, evSs, evS, evT, ev, evs, evI, evC, evO, truR, tru, rd, rdAll, blF, put, new, opR, opF, cmR, cmF, eqD, isiF, tyF, ixF, L2.atI, L2.ixN, slF, cutD, HT.sIx, fz, allD, seqOf, ofO, forLoop, compLoop, R.calm, asgD, setAll, wipeE, partI, leave, sizeLine_eq, jh, w, js, p1, p2, p3, so0011, sd0011, kax, dax, cax, kbx, dbx, cbx, kay, day, cay, kby, dby, cby, Cell.data, SeqAt.shaped, PyData.canLay0, PyData.canLayAll0, PyData.depth, PyData.depthAll, PyData.eqv, PyData.eqvAll]
end
end DL.K23
end
section
set_option Elab.async false
set_option linter.all false
set_option maxRecDepth 100000
set_option maxHeartbeats 8000000
/-! KH: the law's own body. -/
namespace DL.K23
open PySem DL
theorem okB {s : Str} (h : GB s) : PyData.strOk s = true := by cases h <;> kernel_rfl
theorem okG {s : Str} (h : GG s) : PyData.strOk s = true := by cases h <;> kernel_rfl
theorem okU {s : Str} (h : GU s) : PyData.strOk s = true := by cases h <;> kernel_rfl
theorem okF {s : Str} (h : GF s) : PyData.strOk s = true := by cases h <;> kernel_rfl
theorem GHab.pl {d : D} (h : GHab d) : Pl 1 d := by
  obtain ⟨l, hb, hg, hu, hf⟩ := h
  refine .tup (by simp) fun x hx => ?_
  simp at hx
  rcases hx with rfl | rfl | rfl | rfl | rfl
  · exact .bool _ _
  · exact .str _ _ (okB hb)
  · exact .str _ _ (okG hg)
  · exact .str _ _ (okU hu)
  · exact .str _ _ (okF hf)
theorem GHome.pl {d : D} (h : GHome d) : Pl 2 d := by
  obtain ⟨xs, rfl, g⟩ := h.ls
  exact .tup (by have := g.len; omega) fun x hx => (g.mem x hx).pl
theorem GHouse.pl {d : D} (h : GHouse d) : Pl 4 d := by
  obtain ⟨linked, i0, i1, hl, h0, h1, hh0, hh1⟩ := h
  refine .tup (by simp) fun x hx => ?_
  simp at hx
  rcases hx with rfl | rfl | rfl | rfl | rfl
  · exact .str _ _ (ok_lamp hl)
  · exact .bool _ _
  · refine .tup (by simp) fun x hx => ?_
    simp at hx
    rcases hx with rfl | rfl <;> exact .bool _ _
  · refine .tup (by simp) fun x hx => ?_
    simp at hx
    rcases hx with rfl | rfl
    · exact .str _ _ (ok_outer h0)
    · exact .str _ _ (ok_outer h1)
  · refine .tup (by simp) fun x hx => ?_
    simp at hx
    rcases hx with rfl | rfl
    · exact hh0.pl
    · exact hh1.pl
theorem for_post {f : D → Env → Store → R Fl} {I : Nat → Env → Store → Prop} : ∀ (xs : List D) (k : Nat), (∀ x ∈ xs, ∀ i ρ m, i < k + xs.length → I i ρ m → Post (f x ρ m) fun o m' => ∃ ρ', o = .nx ρ' ∧ I (i + 1) ρ' m') → ∀ ρ m, I k ρ m → Post (forLoop f xs ρ m) fun o m' => ∃ ρ', o = .nx ρ' ∧ I (k + xs.length) ρ' m'
  | [], k, _, ρ, m, h => .ok ⟨ρ, rfl, h⟩
  | x :: xs, k, hf, ρ, m, h => by
    obtain ⟨o, m1, e, ρ1, rfl, h1⟩ := hf x List.mem_cons_self k ρ m (by simp) h
    obtain ⟨o, m2, e2, ρ2, rfl, h2⟩ := for_post (f := f) (I := I) xs (k + 1) (fun y hy i ρ m hi h => hf y (List.mem_cons_of_mem _ hy) i ρ m (by simp at hi ⊢; omega) h) ρ1 m1 h1
    refine ⟨_, m2, ?_, ρ2, rfl, ?_⟩
    · show (f x ρ m).bind _ = _
      rw [e]
      exact e2
    · rw [List.length_cons, show k + (xs.length + 1) = k + 1 + xs.length by omega]
      exact h2
def bT : PSs Nat := (.cons (.asg (.nm 4) (.call 18 (.cons true (.loc 2) (.cons false (.lit (.int (2))) .nil)))) (.cons (.asg (.nm 5) (.join (.lit (.str (S "\n"))) (.call 28 (.cons false (.loc 4) .nil)))) (.cons (.iff (.or (.not (.call 16 (.cons false (.call 26 (.cons false (.loc 4) .nil)) (.cons false (.loc 5) .nil)))) (.not (.call 16 (.cons false (.call 27 (.cons false (.loc 5) .nil)) (.cons false (.loc 4) .nil))))) (.cons (.ret (.lit (.bool false))) .nil) .nil) .nil)))
def bC : PSs Nat := (.cons (.asg (.nm 2) (.call 12 (.cons false (.loc 1) (.cons false (.lit (.int (23))) .nil)))) (.cons (.for (.nm 3) (.rng1 (.lit (.int (4)))) bT) .nil))
theorem turn_step {j : Nat} {b : Int} {m : Store} (h : Dk j b m) (hb : b < 700000) (a0 c1 c3 c4 c5 : Option Val) : Post (evSs (callF tab LL 40) LL bT [a0, c1, some (.r j), c3, c4, c5] m) fun o m' => ∃ c4' c5', o = .nx [a0, c1, some (.r j), c3, c4', c5'] ∧ Dk j (b + 60) m' := by
  obtain ⟨v, m1, e1, d, gd, rfl, kp, dk⟩ := room h hb 36
  have pd := gd.pl
  obtain ⟨linked, i0, i1, hl, g0, g1, hh0, hh1⟩ := gd
  obtain ⟨xs, rfl, gx⟩ := hh0.ls
  obtain ⟨ys, rfl, gy⟩ := hh1.ls
  have e2 := fun m => liftL (xs := [_]) (lines_fn hl g0 g1 gx gy linked i0 i1 39) m
  have e3 := join_lns hl g0 g1 gx gy linked i0 i1
  have e4 := fun m => lift (xs := [_]) (text_fn hl g0 g1 gx gy linked i0 i1 34) m
  have e5 := fun m => lift (xs := [_]) (read_fn hl g0 g1 gx gy linked i0 i1 33) m
  have e6 := fun m => same_refl (Pl.str 0 _ (text_ok hl g0 g1 gx gy linked i0 i1)) 38 m
  have e7 := fun m => same_refl pd 34 m
  have ln := fun m => dk.app m
  generalize houD _ linked i0 i1 _ _ _ _ = d at e1 e2 e4 e5 e7
  generalize lns _ linked i0 i1 _ _ xs ys = ls at e2 e3 e4 e5 e6
  generalize Txt.join (S "\n") ls = T at e3 e4 e5 e6
  simp only [List.map_cons, List.map_nil] at e2 e4 e5
  generalize callF tab LL 40 = Φ at e1 e2 e4 e5 e6 e7 ⊢
  refine ⟨.nx [a0, c1, some (.r j), c3, some (.d d), some (.d (.str T))], m1 ++ [.lst (ls.map .str)], ?_, some (.d d), some (.d (.str T)), rfl, dk.app _⟩
  simp [bT, evSs, evS, evT, ev, evs, truR, rd, tru, put, fz, e1, e2, e3, e4, e5, e6, e7, Cell.data]
def IT (j : Nat) (a0 c1 : Option Val) (k : Nat) (ρ : Env) (m : Store) : Prop := ∃ c3 c4 c5, ρ = [a0, c1, some (.r j), c3, c4, c5] ∧ Dk j (23 + 60 * (k : Int)) m
def turnS (t : Tg) (B : PSs Nat) (Φ : Nat → List Val → Store → R Val) (x : D) (ρ1 : Env) (m2 : Store) : R Fl := match asgD t x ρ1 with
  | some ρ2 => evSs Φ LL B ρ2 m2
  | none => .no
theorem evS_for {Φ : Nat → List Val → Store → R Val} {t : Tg} {it : It Nat} {B : PSs Nat} {ρ : Env} {m : Store} : evS Φ LL (.for t it B) ρ m = (evI Φ it ρ m).bind fun xs m1 => forLoop (turnS t B Φ) xs ρ m1 := rfl
theorem cell_step (m : Store) (a0 c2 c3 c4 c5 : Option Val) (c : Int) : Post (evSs (callF tab LL 40) LL bC [a0, some (.d (.int c)), c2, c3, c4, c5] m) fun o m' => ∃ c2' c3' c4' c5', o = .nx [a0, some (.d (.int c)), c2', c3', c4', c5'] := by
  obtain ⟨d0, d1, e1, h1, h2⟩ := deck c 23 (by decide) 39 m
  have D0 : Dk m.length 23 (m ++ [.lst [.int d0, .int d1, .int 23]]) := ⟨d0, d1, 23, by simp, h1, h2, by decide, by decide⟩
  generalize m ++ [.lst [.int d0, .int d1, .int 23]] = m1 at e1 D0
  obtain ⟨o, m2, e2, ρ', rfl, c3', c4', c5', rfl, _⟩ := for_post (f := turnS (.nm 3) bT (callF tab LL 40)) (I := IT m.length a0 (some (.d (.int c)))) [.int 0, .int 1, .int 2, .int 3] 0 (fun x hx i ρ m2 hi hI => by
    obtain ⟨q3, q4, q5, rfl, dk⟩ := hI
    have hi : i < 4 := by simpa using hi
    obtain ⟨o, m3, e3, z4, z5, rfl, dk'⟩ := turn_step dk (by omega) a0 (some (.d (.int c))) (some (.d x)) q4 q5
    exact ⟨_, m3, e3, _, rfl, some (.d x), z4, z5, rfl, by rw [show (23 + 60 * ((i + 1 : Nat) : Int)) = 23 + 60 * (i : Int) + 60 by omega]; exact dk'⟩)
    [a0, some (.d (.int c)), some (.r m.length), c3, c4, c5] m1 ⟨c3, c4, c5, rfl, by simpa using D0⟩
  refine ⟨.nx [a0, some (.d (.int c)), some (.r m.length), c3', c4', c5'], m2, ?_, some (.r m.length), c3', c4', c5', rfl⟩
  generalize callF tab LL 40 = Φ at e1 e2 ⊢
  unfold bC
  generalize bT = B at e2 ⊢
  simp only [evSs, evS_for]
  simp [evS, ev, evs, evI, rd, fz, e1, e2, rgOk, rgD, List.range, List.range.loop]
theorem cut_ints (ns : List Int) : cutD (.int 0 :: ns.map .int) none (some 12) = ((0 :: ns).take 12).map .int := by
  unfold cutD
  rw [show HT.sIx (PyData.int 0 :: ns.map PyData.int).length 0 none = 0 from rfl, List.drop_zero, Nat.sub_zero, show (PyData.int 0 :: ns.map PyData.int) = (0 :: ns).map PyData.int from rfl, ← List.map_take, List.length_map]
  show List.map _ (List.take (HT.sIx (ns.length + 1) (ns.length + 1) (some 12)) (0 :: ns)) = _
  have e : HT.sIx (ns.length + 1) (ns.length + 1) (some 12) = min 12 (ns.length + 1) := by
    simp [HT.sIx]
  rw [e]
  congr 1
  rw [← List.take_take, List.take_of_length_le (show (0 :: ns).length ≤ ns.length + 1 by simp)]
def IC (a0 : Option Val) (k : Nat) (ρ : Env) (m : Store) : Prop := ∃ c1 c2 c3 c4 c5, ρ = [a0, c1, c2, c3, c4, c5]
theorem law_body (ns : List Int) (h : ns.length ≤ 63) : ∃ m', callF tab LL 41 29 [.d (.list (ns.map .int))] [] = .ok (.d (.bool true)) m' := by
  have F := fun (m : Store) (xs : List Int) => for_post (f := turnS (.nm 1) bC (callF tab LL 40)) (I := IC (some (.d (.list (ns.map .int))))) (xs.map .int) 0 (fun x hx i ρ m2 hi hI => by
    obtain ⟨q1, q2, q3, q4, q5, rfl⟩ := hI
    obtain ⟨c, _, rfl⟩ := List.mem_map.mp hx
    obtain ⟨o, m3, e3, z2, z3, z4, z5, rfl⟩ := cell_step m2 (some (.d (.list (ns.map .int)))) q2 q3 q4 q5 c
    exact ⟨_, m3, e3, _, rfl, some (.d (.int c)), z2, z3, z4, z5, rfl⟩)
    [some (.d (.list (ns.map .int))), none, none, none, none, none] m ⟨none, none, none, none, none, rfl⟩
  show ∃ m', evFn (callF tab LL 40) LL f29 _ [] = .ok (.d (.bool true)) m'
  generalize callF tab LL 40 = Φ at F ⊢
  rw [show f29 = ⟨1, 6, .cons (.for (.nm 1) (.of (.sli (.bin .add (.lst (.cons false (.lit (.int (0))) .nil)) (.loc 0)) .no (.so (.lit (.int (12)))))) bC) (.cons (.ret (.lit (.bool true))) .nil)⟩ from rfl]
  generalize bC = B at F ⊢
  have hc := cut_ints ns
  have G : ∀ m, ∃ ρ' m', forLoop (turnS (.nm 1) B Φ) (((0 :: ns).take 12).map .int) [some (.d (.list (ns.map .int))), none, none, none, none, none] m = .ok (.nx ρ') m' := fun m => by
    obtain ⟨o, m2, e2, ρ', rfl, _⟩ := F m ((0 :: ns).take 12)
    exact ⟨ρ', m2, e2⟩
  obtain ⟨P, G⟩ := Classical.axiomOfChoice G
  obtain ⟨Q, e2⟩ := Classical.axiomOfChoice G
  have z1 : 1 + ns.length ≤ 16777216 := by omega
  have z4 : ns.length ≤ 16777215 := by omega
  have z2 : min 12 (ns.length + 1) ≤ 16777216 := by omega
  have z3 : ((0 :: ns).take 12).length ≤ 16777216 := by simp; omega
  clear F G
  generalize (0 :: ns).take 12 = ks at hc e2 z3
  simp only [evFn, evSs, evS_for]
  simp [evS, ev, evs, evI, evO, partI, rd, rdAll, fz, put, new, opR, opF, slF, seqOf, ofO, hc, z1, z2, z3, z4, e2, sizeLine_eq, Cell.data, leave, allD]
end DL.K23
end
section
set_option Elab.async false
set_option linter.all false
set_option maxRecDepth 100000

theorem PySem.Challenge.cw_doubledoors_k23_whole_texts_read_back_holds : PySem.Challenge.rw_doubledoors_k23_whole_texts_read_back.Holds := by
  exact DL.K23.walk DL.K23.law_body
end
