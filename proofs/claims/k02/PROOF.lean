import PyProof.Rows.All
import Wide.All
import OpenK.AllK
import Wide.FinOn
import HandS.ForMost
import HandS.Wide
import HandS.IsInst
import HandS.Flow
import PyProof.ReprRoads
import HandS.Walk
import HandS.Exc
import HandS.NoneIn
import HandS.Dict
import HandS.HeadEnd
import HandS.HeadHook2
import HandS.Head2
import PyProof.StrLawsRepr
import PySem.Challenge.RW_levelfolds_k02_names_titles_and_worths
set_option Elab.async false
set_option linter.all false
set_option maxRecDepth 100000
set_option autoImplicit false
section
set_option maxHeartbeats 4000000
/-! An interpreter over value trees, for the part of the language that the laws are written in. -/
namespace Lf
open PySem

/-- a value: trees, cells that may change (m), defs and classes by name (fn), built-in classes (ty) -/
inductive D where
  | non | bl (b : Bool) | int (i : Int) | str (x : Str)
  | tup (xs : List D) | lst (xs : List D)
  | dct (ks vs : List D)
  | ins (C : Str) (fs : List Str) (vs : List D)
  | scr (ns : List Int)
  | m (k : Nat)
  | fn (x : Str) | ty (x : String)

/-- a cell -/
inductive C where
  | gone
  | lst (xs : List D)
  | dct (ks vs : List D)
  | ins (C : Str) (fs : List Str) (vs : List D)
abbrev Sto := List C
abbrev Env := List (Option D)

inductive R (α : Type) where
  | ok (a : α) (s : Sto)
  | err (x : D) (s : Sto)
  | bad
abbrev M (α : Type) := Sto → R α
def ret {α : Type} (a : α) : M α := fun s => .ok a s
def R.bind {α β : Type} (r : R α) (f : α → M β) : R β := match r with
  | .ok a s => f a s
  | .err x s => .err x s
  | .bad => .bad
def bnd {α β : Type} (m : M α) (f : α → M β) : M β := fun s => (m s).bind f
def bad {α : Type} : M α := fun _ => .bad
def ofO {α : Type} : Option α → M α
  | some a => ret a
  | none => bad
/-- go on if -/
def chk {α : Type} (c : Bool) (m : M α) : M α := fun s => if c = true then m s else .bad

mutual
/-- no cell from n on is named -/
def D.under (n : Nat) : D → Bool
  | .m k => decide (k < n)
  | .tup xs => underL n xs
  | .lst xs => underL n xs
  | .dct ks vs => underL n ks && underL n vs
  | .ins _ _ vs => underL n vs
  | _ => true
def underL (n : Nat) : List D → Bool
  | [] => true
  | x :: xs => D.under n x && underL n xs
end
def C.under (n : Nat) : C → Bool
  | .gone => true
  | .lst xs => underL n xs
  | .dct ks vs => underL n ks && underL n vs
  | .ins _ _ vs => underL n vs

mutual
def D.same : D → D → Bool
  | .non, .non => true
  | .bl a, .bl b => a == b
  | .int a, .int b => a == b
  | .str a, .str b => a == b
  | .tup a, .tup b => sameL a b
  | .lst a, .lst b => sameL a b
  | .dct a b, .dct c d => sameL a c && sameL b d
  | .ins a b c, .ins d e f => a == d && b == e && sameL c f
  | .scr a, .scr b => a == b
  | .m a, .m b => a == b
  | .fn a, .fn b => a == b
  | .ty a, .ty b => a == b
  | _, _ => false
def sameL : List D → List D → Bool
  | [], [] => true
  | x :: xs, y :: ys => D.same x y && sameL xs ys
  | _, _ => false
end
def C.same : C → C → Bool
  | .gone, .gone => true
  | .lst a, .lst b => sameL a b
  | .dct a b, .dct c d => sameL a c && sameL b d
  | .ins a b c, .ins d e f => a == d && b == e && sameL c f
  | _, _ => false


/-! ### the code: names by their places, every place where something is made with a word whether it may change -/
structure G where
  glo : Nat → Option D
  call : Nat → Nat → List D → M D
  dfl : Nat → List D
  turns : Nat
/-- the arguments in the parameters' order -/
def pick {α : Type} (ord : List Nat) (l : List α) : List α := ord.filterMap fun i => l[i]?
/-- the class of a value -/
inductive Tg where
  | non | bool | int | str | tuple | list | dict
/-- a class that is asked for -/
inductive Tn where
  | str | int | bool | list | tuple | dict
inductive T where
  | nm (i : Nat)
  | tp (is : List Nat)
inductive Bi where
  | len | abs | int | min | all | repr | list
inductive Me where
  | join | append | pop | popAt
/-- what is walked: a value; range; .. -/
inductive W where
  | val | range
inductive E where
  | var (i : Nat)
  | int (i : Int) | bl (b : Bool) | non | str (x : Str)
  | glo (i : Nat)
  | tup (es : List E) | lst (mu : Bool) (es : List E)
  | dct (mu : Bool) (es : List E)
  | bin (op : Operator) (mu : Bool) (a b : E)
  | neg (a : E) | nt (a : E) | bo (or : Bool) (es : List E)
  | cmp (op : CmpOp) (a b : E) | cmp2 (op op' : CmpOp) (a b c : E)
  | isN (neg : Bool) (a : E)
  | ife (c a b : E)
  | call (f : Nat) (ks : List Str) (ord : List Nat) (es kes : List E)
  | bi (f : Bi) (mu : Bool) (es : List E)
  | isi (a : E) (ts : List Tn)
  | me (o : E) (f : Me) (es : List E)
  | sub (o i : E)
  | slc (o : E) (lo hi : List E)
  | comp (mu : Bool) (elt : E) (own : List Nat) (t : T) (w : W) (src : List E) (cs : List E)

/-! ### cells -/
def getC (k : Nat) : M C := fun st => match st[k]? with
  | some c => .ok c st
  | none => .bad
def new (c : C) : M D := fun st => .ok (.m st.length) (st ++ [c])
/-- a cell is written; one from before lo takes nothing younger than itself -/
def put (lo k : Nat) (c : C) : M Unit := fun st => if (decide (lo ≤ k) || c.under (k + 1)) = true then .ok () (st.set k c) else .bad
def mkL (mu : Bool) (xs : List D) : M D := chk (decide (xs.length ≤ sizeLine)) (if mu then new (.lst xs) else ret (.lst xs))
def mkT (xs : List D) : M D := chk (decide (xs.length ≤ sizeLine)) (ret (.tup xs))
def mkS (x : Str) : M D := chk (decide (x.length ≤ sizeLine)) (ret (.str x))

def keyD : D → Option L2.Key
  | .int i => some (.inl i)
  | .str x => some (.inr x)
  | _ => none
/-- one behind the other, as pairs -/
def pairD : List D → Option (List (L2.Key × D))
  | [] => some []
  | k :: v :: r => match keyD k, pairD r with
    | some a, some ps => some ((a, v) :: ps)
    | _, _ => none
  | _ => none
def keyOf : L2.Key → D
  | .inl i => .int i
  | .inr x => .str x
def mkD (mu : Bool) (xs : List D) : M D := bnd (ofO (pairD xs)) fun ps => chk (decide (ps.length ≤ 15) && decide (ps.map Prod.fst).Nodup)
  (if mu then new (.dct (ps.map fun p => keyOf p.1) (ps.map Prod.snd)) else ret (.dct (ps.map fun p => keyOf p.1) (ps.map Prod.snd)))

/-! ### data -/
mutual
/-- what the value reads as, a cell by what it holds (rec) -/
def D.pyW (rec : Nat → Option PyData) : D → Option PyData
  | .non => some .none
  | .bl b => some (.bool b)
  | .int i => some (.int i)
  | .str x => some (.str x)
  | .tup xs => (pyWL rec xs).map .tuple
  | .lst xs => (pyWL rec xs).map .list
  | .dct ks vs => match pyWL rec ks, pyWL rec vs with
    | some a, some b => some (.dict (a.zip b))
    | _, _ => none
  | .m k => rec k
  | _ => none
def pyWL (rec : Nat → Option PyData) : List D → Option (List PyData)
  | [] => some []
  | x :: xs => match D.pyW rec x, pyWL rec xs with
    | some a, some b => some (a :: b)
    | _, _ => none
end
def pyC (st : Sto) : Nat → Nat → Option PyData
  | 0, _ => none
  | n + 1, k => match st[k]? with
    | some (.lst xs) => (pyWL (pyC st n) xs).map .list
    | some (.dct ks vs) => match pyWL (pyC st n) ks, pyWL (pyC st n) vs with
      | some a, some b => some (.dict (a.zip b))
      | _, _ => none
    | _ => none
def py (d : D) : M PyData := fun st => (ofO (D.pyW (pyC st 20) d)) st

/-! ### the values of operators -/
def truth (d : D) : M Bool := match d with
  | .non => ret false
  | .bl b => ret b
  | .int i => ret (i != 0)
  | .str x => ret (x.length != 0)
  | .tup xs => ret (!xs.isEmpty)
  | .lst xs => ret (!xs.isEmpty)
  | .dct ks _ => ret (!ks.isEmpty)
  | .m k => bnd (getC k) fun c => match c with
    | .lst xs => ret (!xs.isEmpty)
    | .dct ks _ => ret (!ks.isEmpty)
    | _ => bad
  | _ => bad
def isNon (d : D) : M Bool := match d with
  | .non => ret true
  | .m k => bnd (getC k) fun c => match c with
    | .gone => bad
    | _ => ret false
  | _ => ret false
/-- a list's items -/
def listIn (d : D) : M (List D) := match d with
  | .lst xs => ret xs
  | .m k => bnd (getC k) fun c => match c with
    | .lst xs => ret xs
    | _ => bad
  | _ => bad
/-- a list's or a tuple's items -/
def itemsIn (d : D) : M (List D) := match d with
  | .tup xs => ret xs
  | .scr ns => ret (ns.map D.int)
  | _ => listIn d
def binop (op : Operator) (mu : Bool) (x y : D) : M D := match op, x, y with
  | .Add, .int i, .int j => ret (.int (i + j))
  | .Sub, .int i, .int j => ret (.int (i - j))
  | .Mult, .int i, .int j => chk (decide (i.natAbs.log2 + j.natAbs.log2 < 1000000)) (ret (.int (i * j)))
  | .FloorDiv, .int i, .int j => chk (decide (0 < j) && decide (j.natAbs.log2 < 9000)) (ret (.int (i / j)))
  | .Mod, .int i, .int j => chk (decide (0 < j)) (ret (.int (i % j)))
  | .Pow, .int i, .int j => chk (decide (0 ≤ j) && decide (j ≤ 1000000) && decide (i.natAbs < 2 ^ 64)) (ret (.int (i ^ j.toNat)))
  | .Add, .str a, .str b => mkS (a ++ b)
  | .Add, x, y => bnd (listIn x) fun xs => bnd (listIn y) fun ys => mkL mu (xs ++ ys)
  | .Mult, x, .int j => bnd (listIn x) fun xs => chk (decide (0 ≤ j) && decide (j < 1000000)) (mkL mu ((List.replicate j.toNat xs).flatten))
  | _, _, _ => bad
/-- data that == takes as they are -/
def plain (p : PyData) : Bool := SeqAt.shaped p
def hasSign (x y : Str) : Bool := !(Builtin.Str.occurrences y x 0 y.length 1).isEmpty
def flat : D → Bool
  | .non | .bl _ | .int _ | .str _ => true
  | _ => false
def eqF : D → D → Bool
  | .non, .non => true
  | .bl a, .bl b => a == b
  | .bl a, .int b => (if a then 1 else 0) == b
  | .int a, .bl b => a == (if b then 1 else 0)
  | .int a, .int b => a == b
  | .str a, .str b => a == b
  | _, _ => false
def txtOf : D → Option Str
  | .str x => some x
  | _ => none
def eqB (x y : D) : M Bool := match txtOf x, txtOf y with
  | some a, some b => ret (a == b)
  | _, _ => bnd (py x) fun p => bnd (py y) fun q => chk (plain p && plain q) (ret (PyData.eqv p q))
def isIn (x y : D) : M Bool := match txtOf x, txtOf y with
  | some a, some b => ret (hasSign a b)
  | _, _ => bnd (itemsIn y) fun ys => chk (flat x && ys.all flat) (ret (ys.any fun z => eqF z x))
def intOf : D → Option Int
  | .int i => some i
  | _ => none
def ordB (fi : Int → Int → Bool) (fs : Str → Str → Option Bool) (x y : D) : M Bool := match intOf x, intOf y with
  | some i, some j => ret (fi i j)
  | _, _ => match txtOf x, txtOf y with
    | some a, some b => ofO (fs a b)
    | _, _ => bad
def cmpB (op : CmpOp) (x y : D) : M Bool := match op with
  | .Eq => eqB x y
  | .NotEq => bnd (eqB x y) fun b => ret (!b)
  | .Lt => ordB (fun i j => decide (i < j)) (fun a b => some (decide (a.cps.toList < b.cps.toList))) x y
  | .LtE => ordB (fun i j => decide (i ≤ j)) (fun a b => some (!decide (b.cps.toList < a.cps.toList))) x y
  | .Gt => ordB (fun i j => decide (j < i)) (fun _ _ => none) x y
  | .GtE => ordB (fun i j => decide (j ≤ i)) (fun _ _ => none) x y
  | .In => isIn x y
  | .NotIn => bnd (isIn x y) fun b => ret (!b)
  | _ => bad
def isListV (d : D) : Bool := match d with
  | .scr _ => false
  | _ => true
def subV (o i : D) : M D := match o, i with
  | .str x, .int i => ofO ((L2.atI x.cps.toList i).map fun c => .str ⟨#[c]⟩)
  | o, .int i => bnd (itemsIn o) fun xs => ofO (L2.atI xs i)
  | _, _ => bad
def cutD (xs : List D) (lo hi : Option Int) : List D := (xs.drop (HT.sIx xs.length 0 lo)).take (HT.sIx xs.length xs.length hi - HT.sIx xs.length 0 lo)
def part (ds : List D) : M (Option Int) := match ds with
  | [] => ret none
  | [.int i] => ret (some i)
  | _ => bad
def slcV (o : D) (lo hi : Option Int) : M D := match o with
  | .str x => ret (.str (L2.cutS x lo hi))
  | .scr ns => ret (.lst (cutD (ns.map D.int) lo hi))
  | o => bnd (listIn o) fun xs => ret (.lst (cutD xs lo hi))
def lenV (d : D) : M D := match d with
  | .str x => ret (.int x.length)
  | .dct ks _ => ret (.int ks.length)
  | d => bnd (itemsIn d) fun xs => ret (.int xs.length)
def bools : List D → Option (List Bool)
  | [] => some []
  | .bl b :: r => (bools r).map (b :: ·)
  | _ :: _ => none
def txts : List D → Option (List Str)
  | [] => some []
  | .str b :: r => (txts r).map (b :: ·)
  | _ :: _ => none
def reprV (d : D) : M D := bnd (py d) fun p => chk (p.showable && decide (p.depth ≤ 64) && decide (p.shown.length ≤ sizeLine)) (ret (.str p.shown))
def one (f : D → M D) : List D → M D
  | [d] => f d
  | _ => bad
def two (f : D → D → M D) : List D → M D
  | [d, c] => f d c
  | _ => bad
def onInt (d : D) (f : Int → M D) : M D := match intOf d with
  | some i => f i
  | none => bad
def biV (f : Bi) (mu : Bool) (ds : List D) : M D := match f with
  | .len => one lenV ds
  | .abs => one (fun d => onInt d fun i => ret (.int (if i < 0 then -i else i))) ds
  | .int => one (fun d => onInt d fun i => ret (.int i)) ds
  | .min => two (fun d c => onInt d fun i => onInt c fun j => ret (.int (if j < i then j else i))) ds
  | .all => one (fun d => bnd (listIn d) fun xs => bnd (ofO (bools xs)) fun bs => ret (.bl (bs.all id))) ds
  | .repr => one reprV ds
  | .list => one (fun d => bnd (itemsIn d) fun xs => mkL mu xs) ds
def tagOf (d : D) : M Tg := match d with
  | .non => ret .non
  | .bl _ => ret .bool
  | .int _ => ret .int
  | .str _ => ret .str
  | .tup _ => ret .tuple
  | .lst _ => ret .list
  | .dct _ _ => ret .dict
  | .m k => bnd (getC k) fun c => match c with
    | .lst _ => ret .list
    | .dct _ _ => ret .dict
    | _ => bad
  | _ => bad
def isTn : Tg → Tn → Bool
  | .bool, .bool => true
  | .bool, .int => true
  | .int, .int => true
  | .str, .str => true
  | .tuple, .tuple => true
  | .list, .list => true
  | .dict, .dict => true
  | _, _ => false
def joinV (x : Str) (ys : List Str) : M D := chk (decide (((ys.map (·.length)).sum + ys.length * x.length) ≤ sizeLine)) (mkS (Txt.join x ys))
/-- a list that is a cell: its place, its items -/
def cellL (d : D) : M (Nat × List D) := match d with
  | .m k => bnd (getC k) fun c => match c with
    | .lst xs => ret (k, xs)
    | _ => bad
  | _ => bad
/-- the receiver is of the right kind -/
def meK (f : Me) (d : D) : M Unit := match f with
  | .join => match txtOf d with
    | some _ => ret ()
    | none => bad
  | _ => bnd (cellL d) fun _ => ret ()
def none0 (m : M D) : List D → M D
  | [] => m
  | _ => bad
def meV (lo : Nat) (f : Me) (o : D) (ds : List D) : M D := match f with
  | .join => one (fun d => bnd (itemsIn d) fun ys => bnd (ofO (txts ys)) fun zs => bnd (ofO (txtOf o)) fun x => joinV x zs) ds
  | .append => one (fun d => bnd (cellL o) fun p => chk (decide (p.2.length < sizeLine)) (bnd (put lo p.1 (.lst (p.2 ++ [d]))) fun _ => ret .non)) ds
  | .pop => none0 (bnd (cellL o) fun p => bnd (ofO p.2[p.2.length - 1]?) fun d => bnd (put lo p.1 (.lst p.2.dropLast)) fun _ => ret d) ds
  | .popAt => one (fun d => onInt d fun i => bnd (cellL o) fun p => bnd (ofO (seqIndex? i p.2.length)) fun j => bnd (ofO p.2[j]?) fun d => chk (decide (-(2 ^ 63) ≤ i) && decide (i < 2 ^ 63)) (bnd (put lo p.1 (.lst (p.2.eraseIdx j))) fun _ => ret d)) ds

/-! ### names -/
def asgT (t : T) (d : D) (r : Env) : Option Env := match t, d with
  | .nm i, d => if i < r.length then some (r.set i (some d)) else none
  | .tp is, .tup xs => if is.length = xs.length ∧ (∀ i ∈ is, i < r.length) then some ((is.zip xs).foldl (fun r p => r.set p.1 (some p.2)) r) else none
  | _, _ => none
def wipeE (r : Env) : List Nat → Env
  | [] => r
  | v :: vs => (wipeE r vs).set v none
/-- nothing is raised -/
def noErr {α : Type} (m : M α) : M α := fun s => match m s with
  | .err _ _ => .bad
  | r => r
/-- a cell that is walked stays as it is -/
def stays (d : Option D) (s s' : Sto) : Bool := match d with
  | some (.m k) => match s[k]?, s'[k]? with
    | some c, some c' => C.same c c'
    | _, _ => false
  | _ => true
def stay (d : Option D) (s : Sto) : M Unit := fun s' => if stays d s s' = true then .ok () s' else .bad
def compL (t : T) (d : Option D) (fc : Env → M Bool) (fe : Env → M D) (r : Env) : List D → M (List D)
  | [] => ret []
  | x :: xs => fun s0 => (bnd (ofO (asgT t x r)) fun r1 => bnd (noErr (fc r1)) fun c =>
      if c then bnd (noErr (fe r1)) fun y => bnd (stay d s0) fun _ => bnd (compL t d fc fe r xs) fun ys => ret (y :: ys) else bnd (stay d s0) fun _ => compL t d fc fe r xs) s0
def allM (fs : List (M Bool)) : M Bool := match fs with
  | [] => ret true
  | f :: r => bnd f fun b => if b then allM r else ret false
/-- the items that a value is walked by; a cell must stay -/
def walkV (d : D) : M (List D) := match d with
  | .str x => ret (x.cps.toList.map fun c => .str ⟨#[c]⟩)
  | d => itemsIn d
def intsTo (n : Nat) (lo : Int) : List D := (List.range n).map fun (i : Nat) => D.int (lo + (i : Int))
def rangeV (ds : List D) : M (List D) := match ds with
  | [.int j] => chk (decide (j < 16777216) && decide (-(2 ^ 62) ≤ j)) (ret (intsTo j.toNat 0))
  | [.int i, .int j] => chk (decide (-(2 ^ 62) ≤ i) && decide (i < 2 ^ 62) && decide (-(2 ^ 62) ≤ j) && decide (j < 2 ^ 62) && decide ((j - i).toNat ≤ 16777216)) (ret (intsTo (j - i).toNat i))
  | _ => bad

def walkW (w : W) (ds : List D) : M (List D) := match w, ds with
  | .val, [d] => walkV d
  | .range, ds => rangeV ds
  | _, _ => bad

/-- the value that is walked itself -/
def srcOf (w : W) (ds : List D) : Option D := match w with
  | .val => ds.head?
  | .range => none

/-! ### expressions -/
mutual
def ev (g : G) (lo : Nat) : E → Env → M D
  | .var i, r => match r[i]? with
    | some (some d) => ret d
    | _ => bad
  | .int i, _ => ret (.int i)
  | .bl b, _ => ret (.bl b)
  | .non, _ => ret .non
  | .str x, _ => ret (.str x)
  | .glo i, _ => ofO (g.glo i)
  | .tup es, r => bnd (evs g lo es r) mkT
  | .lst mu es, r => bnd (evs g lo es r) (mkL mu)
  | .dct mu es, r => bnd (noErr (evs g lo es r)) (mkD mu)
  | .bin op mu a b, r => bnd (ev g lo a r) fun x => bnd (ev g lo b r) fun y => binop op mu x y
  | .neg a, r => bnd (ev g lo a r) fun x => match x with
    | .int i => ret (.int (-i))
    | _ => bad
  | .nt a, r => bnd (ev g lo a r) fun x => bnd (truth x) fun b => ret (.bl (!b))
  | .bo or es, r => evb g lo or es r
  | .cmp op a b, r => bnd (ev g lo a r) fun x => bnd (ev g lo b r) fun y => bnd (cmpB op x y) fun c => ret (.bl c)
  | .cmp2 op op' a b c, r => bnd (ev g lo a r) fun x => bnd (ev g lo b r) fun y => bnd (cmpB op x y) fun k =>
      if k then bnd (ev g lo c r) fun z => bnd (cmpB op' y z) fun k' => ret (.bl k') else ret (.bl false)
  | .isN neg a, r => bnd (ev g lo a r) fun x => bnd (isNon x) fun b => ret (.bl (if neg then !b else b))
  | .ife c a b, r => bnd (ev g lo c r) fun x => bnd (truth x) fun k => if k then ev g lo a r else ev g lo b r
  | .call f _ ord es kes, r => bnd (evs g lo es r) fun xs => bnd (evs g lo kes r) fun ys => g.call lo f (pick ord (xs ++ ys ++ g.dfl f))
  | .bi f mu es, r => bnd (evs g lo es r) (biV f mu)
  | .isi a ts, r => bnd (ev g lo a r) fun x => bnd (tagOf x) fun t => ret (.bl (ts.any (isTn t)))
  | .me o f es, r => bnd (ev g lo o r) fun x => bnd (meK f x) fun _ => bnd (evs g lo es r) fun ys => meV lo f x ys
  | .sub o i, r => bnd (ev g lo o r) fun x => bnd (ev g lo i r) fun y => subV x y
  | .slc o l h, r => bnd (ev g lo o r) fun x => bnd (evs g lo l r) fun y => bnd (part y) fun i => bnd (evs g lo h r) fun z => bnd (part z) fun j => slcV x i j
  | .comp mu elt own t w src cs, r => bnd (evs g lo src r) fun ds => bnd (walkW w ds) fun xs => chk (decide (xs.length ≤ sizeLine)) (bnd (compL t (srcOf w ds) (fun r1 => evc g lo cs r1) (fun r1 => ev g lo elt r1) (wipeE r own) xs) fun ys => if mu then new (.lst ys) else ret (.lst ys))
def evs (g : G) (lo : Nat) : List E → Env → M (List D)
  | [], _ => ret []
  | e :: es, r => bnd (ev g lo e r) fun x => bnd (evs g lo es r) fun xs => ret (x :: xs)
/-- and, or -/
def evb (g : G) (lo : Nat) (or : Bool) : List E → Env → M D
  | [], _ => bad
  | [e], r => ev g lo e r
  | e :: es, r => bnd (ev g lo e r) fun x => bnd (truth x) fun c => if c = or then ret x else evb g lo or es r
/-- the tests of a comprehension -/
def evc (g : G) (lo : Nat) : List E → Env → M Bool
  | [], _ => ret true
  | e :: es, r => bnd (ev g lo e r) fun x => bnd (truth x) fun b => if b then evc g lo es r else ret false
end
def tst (g : G) (lo : Nat) (e : E) (r : Env) : M Bool := bnd (ev g lo e r) truth


/-! ### statements -/
inductive O where
  | nx (r : Env) (s : Sto) | bk (r : Env) (s : Sto) | ct (r : Env) (s : Sto)
  | rt (d : D) (s : Sto)
  | err (x : D) (r : Env) (s : Sto)
  | bad
def R.to {α : Type} (m : R α) (r : Env) (f : α → Sto → O) : O := match m with
  | .ok a s => f a s
  | .err x s => .err x r s
  | .bad => .bad
def O.seq (o : O) (f : Env → Sto → O) : O := match o with
  | .nx r s => f r s
  | o => o
inductive S where
  | set (t : T) (e : E)
  | par (i j : Nat) (a b : E)
  | sts (o i e : E)
  | ex (e : E)
  | ret (e : E) | retn
  | ife (c : E) (a b : List S)
  | for_ (t : T) (w : W) (src : List E) (body : List S)
  | whl (c : E) (body : List S)
  | brk | cont | pass
def stsV (lo : Nat) (o i d : D) : M Unit := bnd (cellL o) fun p => bnd (ofO (intOf i)) fun j => bnd (ofO (L2.ixN p.2.length j)) fun n => put lo p.1 (.lst (p.2.set n d))
def forL (t : T) (d : Option D) (f : Env → Sto → O) : List D → Env → Sto → O
  | [], r, s => .nx r s
  | x :: xs, r, s => match asgT t x r with
    | none => .bad
    | some r1 => match f r1 s with
      | .nx r2 s2 => if stays d s s2 = true then forL t d f xs r2 s2 else .bad
      | .ct r2 s2 => if stays d s s2 = true then forL t d f xs r2 s2 else .bad
      | .bk r2 s2 => .nx r2 s2
      | o => o
def whlN (c : Env → M Bool) (f : Env → Sto → O) : Nat → Env → Sto → O
  | 0, _, _ => .bad
  | n + 1, r, s => (c r s).to r fun b s1 => if b then match f r s1 with
      | .nx r2 s2 => whlN c f n r2 s2
      | .ct r2 s2 => whlN c f n r2 s2
      | .bk r2 s2 => .nx r2 s2
      | o => o
    else .nx r s1
mutual
def ex (g : G) (lo : Nat) : S → Env → Sto → O
  | .set t e, r, s => (ev g lo e r s).to r fun d s1 => match asgT t d r with
    | some r1 => .nx r1 s1
    | none => .bad
  | .par i j a b, r, s => (ev g lo a r s).to r fun x s1 => (ev g lo b r s1).to r fun y s2 =>
      if i < r.length ∧ j < r.length then .nx ((r.set i (some x)).set j (some y)) s2 else .bad
  | .sts o i e, r, s => (ev g lo e r s).to r fun d s1 => (ev g lo o r s1).to r fun x s2 => (ev g lo i r s2).to r fun y s3 => (stsV lo x y d s3).to r fun _ s4 => .nx r s4
  | .ex e, r, s => (ev g lo e r s).to r fun _ s1 => .nx r s1
  | .ret e, r, s => (ev g lo e r s).to r fun d s1 => .rt d s1
  | .retn, _, s => .rt .non s
  | .ife c a b, r, s => (tst g lo c r s).to r fun k s1 => if k then exs g lo a r s1 else exs g lo b r s1
  | .for_ t w src body, r, s => (evs g lo src r s).to r fun ds s1 => (walkW w ds s1).to r fun xs s2 => forL t (srcOf w ds) (fun r1 s3 => exs g lo body r1 s3) xs r s2
  | .whl c body, r, s => whlN (fun r1 => tst g lo c r1) (fun r1 s1 => exs g lo body r1 s1) g.turns r s
  | .brk, r, s => .bk r s
  | .cont, r, s => .ct r s
  | .pass, r, s => .nx r s
def exs (g : G) (lo : Nat) : List S → Env → Sto → O
  | [], r, s => .nx r s
  | x :: xs, r, s => (ex g lo x r s).seq fun r1 s1 => exs g lo xs r1 s1
end

/-! ### calls -/
mutual
/-- a value given away: its cells from lo on are frozen (rec) -/
def frzW (rec : Nat → Option D) : D → Option D
  | .m k => rec k
  | .tup xs => (frzWL rec xs).map .tup
  | .lst xs => (frzWL rec xs).map .lst
  | .dct ks vs => match frzWL rec ks, frzWL rec vs with
    | some a, some b => some (.dct a b)
    | _, _ => none
  | .ins c fs vs => (frzWL rec vs).map (.ins c fs)
  | d => some d
def frzWL (rec : Nat → Option D) : List D → Option (List D)
  | [] => some []
  | x :: xs => match frzW rec x, frzWL rec xs with
    | some y, some ys => some (y :: ys)
    | _, _ => none
end
def frzC (lo : Nat) (s : Sto) : Nat → Nat → Option D
  | 0, _ => none
  | n + 1, k => if k < lo then some (.m k) else match s[k]? with
    | some (.lst xs) => (frzWL (frzC lo s n) xs).map .lst
    | some (.dct ks vs) => match frzWL (frzC lo s n) ks, frzWL (frzC lo s n) vs with
      | some a, some b => some (.dct a b)
      | _, _ => none
    | some (.ins c fs vs) => (frzWL (frzC lo s n) vs).map (.ins c fs)
    | _ => none
def frz (lo : Nat) (d : D) (s : Sto) : Option D := frzW (frzC lo s 20) d
structure Fn where
  np : Nat
  dfl : List D
  n : Nat
  keep : Bool
  body : List S
def startE (n : Nat) (vs : List D) : Env := vs.map some ++ List.replicate (n - vs.length) none
def runFn (g : G) (lo : Nat) (f : Fn) (vs : List D) : M D := fun s =>
  if f.keep then match exs g lo f.body (startE f.n vs) s with
    | .rt d s1 => .ok d s1
    | .nx _ s1 => .ok .non s1
    | .err x _ s1 => .err x s1
    | _ => .bad
  else match exs g s.length f.body (startE f.n vs) s with
    | .rt d s1 => match frz s.length d s1 with
      | some d' => .ok d' (s1.take s.length)
      | none => .bad
    | .nx _ s1 => .ok .non (s1.take s.length)
    | .err x _ s1 => match frz s.length x s1 with
      | some x' => .err x' (s1.take s.length)
      | none => .bad
    | _ => .bad
/-- a program: its constants, its defs -/
structure Prog where
  glo : List D
  fns : List Fn
/-- the calls at a depth -/
def Prog.at_ (p : Prog) (turns : Nat) : Nat → G
  | 0 => ⟨fun i => p.glo[i]?, fun _ _ _ => bad, fun i => match p.fns[i]? with
    | some f => f.dfl
    | none => [], turns⟩
  | n + 1 => ⟨fun i => p.glo[i]?, fun lo i vs => match p.fns[i]? with
    | some f => if vs.length = f.np then runFn (p.at_ turns n) lo f vs else bad
    | none => bad, fun i => match p.fns[i]? with
    | some f => f.dfl
    | none => [], turns⟩
end Lf
end
section
set_option maxHeartbeats 4000000
/-! What a value tree stands for in the abstract heap. -/
namespace Lf
open PySem L2

structure Om where
  mu : Nat → Addr
  H : Hp
  /-- addresses that no value stands for: lists in the making -/
  res : List Addr
def Live (st : Sto) (k : Nat) : Prop := ∃ c, st[k]? = some c ∧ c ≠ .gone
/-- no cell that lives stands at a -/
def NL (O : Om) (st : Sto) (a : Addr) : Prop := ∀ k, Live st k → O.mu k ≠ a
def Fro (O : Om) (st : Sto) (a : Addr) : Prop := a ∉ O.res ∧ NL O st a
def KL (K : W.Frag) (a : Addr) (xs : List V) : Prop := ∃ (o : Obj) (its : Array Value) (n : Nat), K.lookup a = some o ∧ o.cls = .type "list" ∧ o.dict = none ∧ o.data = .seq its n ∧ its.size ≤ sizeLine ∧ Vals xs its.toList
def KT (K : W.Frag) (a : Addr) (xs : List V) : Prop := ∃ (o : Obj) (its : Array Value) (n : Nat), K.lookup a = some o ∧ o.cls = .type "tuple" ∧ o.data = .seq its n ∧ its.size ≤ sizeLine ∧ Vals xs its.toList
def LAt (K : W.Frag) (O : Om) (st : Sto) (a : Addr) (xs : List V) : Prop := (Fro O st a ∧ Rd O.H a (.lst xs)) ∨ KL K a xs
def TAt (K : W.Frag) (O : Om) (st : Sto) (a : Addr) (xs : List V) : Prop := (Fro O st a ∧ Rd O.H a (.tup xs)) ∨ KT K a xs
theorem LAt.sq {K : W.Frag} {O : Om} {st : Sto} {a : Addr} {xs : List V} (h : LAt K O st a xs) : SqL K O.H a xs := h.elim (fun q => .inl q.2) .inr
theorem TAt.sq {K : W.Frag} {O : Om} {st : Sto} {a : Addr} {xs : List V} (h : TAt K O st a xs) : SqT K O.H a xs := h.elim (fun q => .inl q.2) .inr
/-- the class of this name -/
def CAt (K : W.Frag) (x : Str) (a : Addr) : Prop := W.nsIn K mainGlobals x = some (some (.ref a))
mutual
def Rp (K : W.Frag) (O : Om) (st : Sto) : D → V → Prop
  | .non, v => v = .non
  | .bl b, v => v = .bl b
  | .int i, v => v = .int i
  | .str x, v => v = .str x ∧ x.length ≤ sizeLine
  | .tup xs, v => ∃ a vs, v = .ref a ∧ TAt K O st a vs ∧ RpL K O st xs vs
  | .lst xs, v => ∃ a vs, v = .ref a ∧ Fro O st a ∧ O.H a = some (.lst vs) ∧ RpL K O st xs vs
  | .dct ks xs, v => ∃ a kvs, v = .ref a ∧ Fro O st a ∧ O.H a = some (.dK kvs) ∧ RpL K O st ks (kvs.map fun p => kV p.1) ∧ RpL K O st xs (kvs.map fun p => p.2)
  | .ins c fs xs, v => ∃ a ca dx fvs, v = .ref a ∧ Fro O st a ∧ O.H a = some (.ins ca dx fvs) ∧ CAt K c ca ∧ fvs.map (fun p => p.1) = fs ∧ RpL K O st xs (fvs.map fun p => p.2)
  | .scr ns, v => ∃ a, v = .ref a ∧ LAt K O st a (ns.map V.int)
  | .m k, v => k < st.length ∧ (Live st k → v = .ref (O.mu k))
  | .fn x, v => ∃ a, v = .ref a ∧ CAt K x a
  | .ty n, v => v = .ty n
def RpL (K : W.Frag) (O : Om) (st : Sto) : List D → List V → Prop
  | [], vs => vs = []
  | x :: xs, vs => ∃ v r, vs = v :: r ∧ Rp K O st x v ∧ RpL K O st xs r
end
/-- how a state goes on -/
structure Ext (O : Om) (st : Sto) (O' : Om) (st' : Sto) : Prop where
  len : st.length ≤ st'.length
  old : ∀ k, k < st.length → Live st' k → Live st k ∧ O'.mu k = O.mu k
  new : ∀ k, st.length ≤ k → Live st' k → O.H (O'.mu k) = none
  keep : ∀ a o, O.H a = some o → NL O st a → O'.H a = some o
  trk : ∀ a, O'.H a = none → O.H a = none
  res : O'.res = O.res
theorem Live.lt {st : Sto} {k : Nat} (h : Live st k) : k < st.length := let ⟨_, e, _⟩ := h; (List.getElem?_eq_some_iff.mp e).1
section
variable {K : W.Frag} {O O1 O2 O' : Om} {st st1 st2 st' : Sto} {a : Addr}
theorem Ext.rfl : Ext O st O st := ⟨Nat.le_refl _, fun _ _ h => ⟨h, Eq.refl _⟩, fun _ h l => absurd l.lt (Nat.not_lt.mpr h), fun _ _ h _ => h, fun _ h => h, Eq.refl _⟩
theorem Ext.nl (x : Ext O st O' st') {o : HO} (h : O.H a = some o) (f : NL O st a) : NL O' st' a := fun k l e => by
  rcases Nat.lt_or_ge k st.length with hk | hk
  · obtain ⟨l', e'⟩ := x.old k hk l
    exact f k l' (e'.symm.trans e)
  · have := x.new k hk l
    rw [e, h] at this
    cases this
theorem Ext.fro (x : Ext O st O' st') {o : HO} (h : O.H a = some o) (f : Fro O st a) : Fro O' st' a := ⟨by rw [x.res]; exact f.1, x.nl h f.2⟩
theorem Ext.trans (x : Ext O st O1 st1) (y : Ext O1 st1 O2 st2) : Ext O st O2 st2 where
  len := Nat.le_trans x.len y.len
  old := fun k hk l => by
    obtain ⟨l1, e1⟩ := y.old k (Nat.lt_of_lt_of_le hk x.len) l
    obtain ⟨l0, e0⟩ := x.old k hk l1
    exact ⟨l0, e1.trans e0⟩
  new := fun k hk l => by
    rcases Nat.lt_or_ge k st1.length with h1 | h1
    · obtain ⟨l1, e1⟩ := y.old k h1 l
      rw [e1]
      exact x.new k hk l1
    · exact x.trk _ (y.new k h1 l)
  keep := fun b o h f => y.keep b o (x.keep b o h f) (x.nl h f)
  trk := fun b h => x.trk b (y.trk b h)
  res := y.res.trans x.res
theorem Ext.rd (x : Ext O st O' st') {u : HO} (f : Fro O st a) (r : Rd O.H a u) : Fro O' st' a ∧ Rd O'.H a u := by
  rcases r with r | ⟨o, r⟩
  · exact ⟨x.fro r f, .inl (x.keep _ _ r f.2)⟩
  · exact ⟨x.fro r f, .inr ⟨o, x.keep _ _ r f.2⟩⟩
theorem Ext.lat (x : Ext O st O' st') {xs : List V} (h : LAt K O st a xs) : LAt K O' st' a xs := h.elim (fun q => .inl (x.rd q.1 q.2)) .inr
theorem Ext.tat (x : Ext O st O' st') {xs : List V} (h : TAt K O st a xs) : TAt K O' st' a xs := h.elim (fun q => .inl (x.rd q.1 q.2)) .inr
mutual
theorem Rp.on (x : Ext O st O' st') : ∀ {d : D} {v : V}, Rp K O st d v → Rp K O' st' d v
  | .non, _, h => by unfold Rp at h ⊢; exact h
  | .bl _, _, h => by unfold Rp at h ⊢; exact h
  | .int _, _, h => by unfold Rp at h ⊢; exact h
  | .str _, _, h => by unfold Rp at h ⊢; exact h
  | .tup _, _, h => by
    unfold Rp at h ⊢
    obtain ⟨a, vs, e, t, r⟩ := h
    exact ⟨a, vs, e, x.tat t, RpL.on x r⟩
  | .lst _, _, h => by
    unfold Rp at h ⊢
    obtain ⟨a, vs, e, f, t, r⟩ := h
    exact ⟨a, vs, e, x.fro t f, x.keep _ _ t f.2, RpL.on x r⟩
  | .dct _ _, _, h => by
    unfold Rp at h ⊢
    obtain ⟨a, kvs, e, f, t, r1, r2⟩ := h
    exact ⟨a, kvs, e, x.fro t f, x.keep _ _ t f.2, RpL.on x r1, RpL.on x r2⟩
  | .ins _ _ _, _, h => by
    unfold Rp at h ⊢
    obtain ⟨a, ca, dx, fvs, e, f, t, c, n, r⟩ := h
    exact ⟨a, ca, dx, fvs, e, x.fro t f, x.keep _ _ t f.2, c, n, RpL.on x r⟩
  | .scr _, _, h => by
    unfold Rp at h ⊢
    obtain ⟨a, e, t⟩ := h
    exact ⟨a, e, x.lat t⟩
  | .m k, _, h => by
    unfold Rp at h ⊢
    obtain ⟨l, e⟩ := h
    exact ⟨Nat.lt_of_lt_of_le l x.len, fun q => let ⟨l', e'⟩ := x.old k l q; e'.symm ▸ e l'⟩
  | .fn _, _, h => by unfold Rp at h ⊢; exact h
  | .ty _, _, h => by unfold Rp at h ⊢; exact h
theorem RpL.on (x : Ext O st O' st') : ∀ {ds : List D} {vs : List V}, RpL K O st ds vs → RpL K O' st' ds vs
  | [], _, h => by unfold RpL at h ⊢; exact h
  | _ :: _, _, h => by
    unfold RpL at h ⊢
    obtain ⟨v, r, e, h1, h2⟩ := h
    exact ⟨v, r, e, Rp.on x h1, RpL.on x h2⟩
end
theorem RpL.length : ∀ {ds : List D} {vs : List V}, RpL K O st ds vs → ds.length = vs.length
  | [], _, h => by unfold RpL at h; subst h; exact Eq.refl _
  | _ :: _, _, h => by
    unfold RpL at h
    obtain ⟨v, r, e, h1, h2⟩ := h
    rw [e, List.length_cons, List.length_cons, RpL.length h2]
theorem RpL.get : ∀ {ds : List D} {vs : List V} {i : Nat} {d : D}, RpL K O st ds vs → ds[i]? = some d → ∃ v, vs[i]? = some v ∧ Rp K O st d v
  | [], _, _, _, _, q => by simp at q
  | _ :: _, _, 0, _, h, q => by
    unfold RpL at h
    obtain ⟨v, r, e, h1, h2⟩ := h
    simp at q
    subst q e
    exact ⟨v, Eq.refl _, h1⟩
  | _ :: _, _, i + 1, _, h, q => by
    unfold RpL at h
    obtain ⟨v, r, e, h1, h2⟩ := h
    subst e
    obtain ⟨w, e1, e2⟩ := RpL.get (i := i) h2 (by simpa using q)
    exact ⟨w, by simpa using e1, e2⟩
theorem RpL.getV : ∀ {ds : List D} {vs : List V} {i : Nat} {v : V}, RpL K O st ds vs → vs[i]? = some v → ∃ d, ds[i]? = some d ∧ Rp K O st d v
  | [], _, _, _, h, q => by unfold RpL at h; subst h; simp at q
  | _ :: _, _, 0, _, h, q => by
    unfold RpL at h
    obtain ⟨v, r, e, h1, h2⟩ := h
    subst e
    simp at q
    subst q
    exact ⟨_, Eq.refl _, h1⟩
  | _ :: _, _, i + 1, _, h, q => by
    unfold RpL at h
    obtain ⟨v, r, e, h1, h2⟩ := h
    subst e
    obtain ⟨w, e1, e2⟩ := RpL.getV (i := i) h2 (by simpa using q)
    exact ⟨w, by simpa using e1, e2⟩
theorem RpL.nil : RpL K O st [] [] := by unfold RpL; exact Eq.refl _
theorem RpL.cons {d : D} {v : V} {ds : List D} {vs : List V} (h : Rp K O st d v) (r : RpL K O st ds vs) : RpL K O st (d :: ds) (v :: vs) := by
  unfold RpL
  exact ⟨v, vs, Eq.refl _, h, r⟩
theorem RpL.app : ∀ {ds es : List D} {vs ws : List V}, RpL K O st ds vs → RpL K O st es ws → RpL K O st (ds ++ es) (vs ++ ws)
  | [], _, _, _, h, q => by unfold RpL at h; subst h; exact q
  | _ :: _, _, _, _, h, q => by
    unfold RpL at h
    obtain ⟨v, r, e, h1, h2⟩ := h
    subst e
    exact .cons h1 (RpL.app h2 q)
theorem RpL.take : ∀ {ds : List D} {vs : List V} (n : Nat), RpL K O st ds vs → RpL K O st (ds.take n) (vs.take n)
  | _, _, 0, _ => by rw [List.take_zero, List.take_zero]; exact .nil
  | [], _, _ + 1, h => by unfold RpL at h; subst h; exact .nil
  | _ :: _, _, n + 1, h => by
    unfold RpL at h
    obtain ⟨v, r, e, h1, h2⟩ := h
    subst e
    exact .cons h1 (RpL.take n h2)
theorem RpL.drop : ∀ {ds : List D} {vs : List V} (n : Nat), RpL K O st ds vs → RpL K O st (ds.drop n) (vs.drop n)
  | _, _, 0, h => h
  | [], _, _ + 1, h => by unfold RpL at h; subst h; exact .nil
  | _ :: _, _, n + 1, h => by
    unfold RpL at h
    obtain ⟨v, r, e, h1, h2⟩ := h
    subst e
    exact RpL.drop n h2
theorem RpL.set : ∀ {ds : List D} {vs : List V} {d : D} {v : V} (i : Nat), RpL K O st ds vs → Rp K O st d v → RpL K O st (ds.set i d) (vs.set i v)
  | [], _, _, _, _, h, _ => by unfold RpL at h; subst h; exact .nil
  | _ :: _, _, _, _, 0, h, q => by
    unfold RpL at h
    obtain ⟨v, r, e, h1, h2⟩ := h
    subst e
    exact .cons q h2
  | _ :: _, _, _, _, i + 1, h, q => by
    unfold RpL at h
    obtain ⟨v, r, e, h1, h2⟩ := h
    subst e
    exact .cons h1 (RpL.set i h2 q)

/-! ### cells below a line -/
end
section
variable {K : W.Frag} {O : Om} {st : Sto} {a : Addr} {n : Nat}
theorem live_take {k : Nat} (l : Live (st.take n) k) : Live st k ∧ k < n := by
  obtain ⟨c, e, ne⟩ := l
  have hk : k < n := by
    rcases Nat.lt_or_ge k n with h | h
    · exact h
    · rw [List.getElem?_eq_none (Nat.le_trans (List.length_take_le n st) h)] at e; cases e
  rw [List.getElem?_take_of_lt hk] at e
  exact ⟨⟨c, e, ne⟩, hk⟩
theorem Fro.take (f : Fro O st a) : Fro O (st.take n) a := ⟨f.1, fun k l => f.2 k (live_take l).1⟩
theorem LAt.take {xs : List V} (h : LAt K O st a xs) : LAt K O (st.take n) a xs := h.elim (fun q => .inl ⟨q.1.take, q.2⟩) .inr
theorem TAt.take {xs : List V} (h : TAt K O st a xs) : TAt K O (st.take n) a xs := h.elim (fun q => .inl ⟨q.1.take, q.2⟩) .inr
mutual
theorem Rp.cut : ∀ {d : D} {v : V}, d.under n = true → Rp K O st d v → Rp K O (st.take n) d v
  | .non, _, _, h => by unfold Rp at h ⊢; exact h
  | .bl _, _, _, h => by unfold Rp at h ⊢; exact h
  | .int _, _, _, h => by unfold Rp at h ⊢; exact h
  | .str _, _, _, h => by unfold Rp at h ⊢; exact h
  | .tup _, _, b, h => by
    unfold Rp at h ⊢
    unfold D.under at b
    obtain ⟨a, vs, e, t, r⟩ := h
    exact ⟨a, vs, e, t.take, RpL.cut b r⟩
  | .lst _, _, b, h => by
    unfold Rp at h ⊢
    unfold D.under at b
    obtain ⟨a, vs, e, f, t, r⟩ := h
    exact ⟨a, vs, e, f.take, t, RpL.cut b r⟩
  | .dct _ _, _, b, h => by
    unfold Rp at h ⊢
    unfold D.under at b
    obtain ⟨b1, b2⟩ := Bool.and_eq_true_iff.mp b
    obtain ⟨a, kvs, e, f, t, r1, r2⟩ := h
    exact ⟨a, kvs, e, f.take, t, RpL.cut b1 r1, RpL.cut b2 r2⟩
  | .ins _ _ _, _, b, h => by
    unfold Rp at h ⊢
    unfold D.under at b
    obtain ⟨a, ca, dx, fvs, e, f, t, c, nn, r⟩ := h
    exact ⟨a, ca, dx, fvs, e, f.take, t, c, nn, RpL.cut b r⟩
  | .scr _, _, _, h => by
    unfold Rp at h ⊢
    obtain ⟨a, e, t⟩ := h
    exact ⟨a, e, t.take⟩
  | .m k, _, b, h => by
    unfold Rp at h ⊢
    unfold D.under at b
    obtain ⟨l, e⟩ := h
    exact ⟨by rw [List.length_take]; exact Nat.lt_min.mpr ⟨of_decide_eq_true b, l⟩, fun q => e (live_take q).1⟩
  | .fn _, _, _, h => by unfold Rp at h ⊢; exact h
  | .ty _, _, _, h => by unfold Rp at h ⊢; exact h
theorem RpL.cut : ∀ {ds : List D} {vs : List V}, underL n ds = true → RpL K O st ds vs → RpL K O (st.take n) ds vs
  | [], _, _, h => by unfold RpL at h ⊢; exact h
  | _ :: _, _, b, h => by
    unfold RpL at h ⊢
    unfold underL at b
    obtain ⟨b1, b2⟩ := Bool.and_eq_true_iff.mp b
    obtain ⟨v, r, e, h1, h2⟩ := h
    exact ⟨v, r, e, Rp.cut b1 h1, RpL.cut b2 h2⟩
end
end

/-! ### the store, the names -/
def CelAt (K : W.Frag) (O : Om) (st : Sto) (a : Addr) : C → Prop
  | .gone => True
  | .lst xs => ∃ vs, O.H a = some (.lst vs) ∧ RpL K O st xs vs
  | .dct ks xs => ∃ kvs, O.H a = some (.dK kvs) ∧ RpL K O st ks (kvs.map fun p => kV p.1) ∧ RpL K O st xs (kvs.map fun p => p.2)
  | .ins c fs xs => ∃ ca dx fvs, O.H a = some (.ins ca dx fvs) ∧ CAt K c ca ∧ fvs.map (fun p => p.1) = fs ∧ RpL K O st xs (fvs.map fun p => p.2)
structure SR (K : W.Frag) (B : List Nat) (O : Om) (st : Sto) : Prop where
  cel : ∀ (k : Nat) (c : C), st[k]? = some c → CelAt K O st (O.mu k) c
  inj : ∀ j k, Live st j → Live st k → O.mu j = O.mu k → j = k
  res : ∀ a ∈ O.res, (∃ o, O.H a = some o) ∧ NL O st a
  wf : ∀ b ∈ B, b ≤ st.length ∧ ∀ (k : Nat) (c : C), k < b → st[k]? = some c → c.under b = true
structure ER (K : W.Frag) (O : Om) (st : Sto) (r : Env) (σ : St) : Prop where
  len : r.length = σ.length
  at_ : ∀ (i : Nat) (d : D), r[i]? = some (some d) → ∃ v, σ[i]? = some (some v) ∧ Rp K O st d v
theorem ER.on {K : W.Frag} {O O' : Om} {st st' : Sto} {r : Env} {σ : St} (x : Ext O st O' st') (h : ER K O st r σ) : ER K O' st' r σ :=
  ⟨h.len, fun i d e => let ⟨v, e1, e2⟩ := h.at_ i d e; ⟨v, e1, e2.on x⟩⟩
/-- what is wanted of an end -/
def Post {α : Type} (K : W.Frag) (r : R α) (B : List Nat) (O : Om) (st : Sto) (q : α → Sto → Om → Prop) (e : D → Sto → Om → Prop) : Prop := match r with
  | .ok a st' => ∀ O', Ext O st O' st' → SR K B O' st' → q a st' O'
  | .err x st' => ∀ O', Ext O st O' st' → SR K B O' st' → e x st' O'
  | .bad => False
section
variable {α β : Type} {K : W.Frag} {B : List Nat} {O O1 : Om} {st st1 : Sto}
theorem Post.later {r : R α} {q : α → Sto → Om → Prop} {e : D → Sto → Om → Prop} (x : Ext O st O1 st1) (h : Post K r B O st q e) : Post K r B O1 st1 q e := by
  cases r with
  | ok a s => exact fun O' y s' => h O' (x.trans y) s'
  | err d s => exact fun O' y s' => h O' (x.trans y) s'
  | bad => exact h
theorem Post.bind {r : R α} {f : α → M β} {q : β → Sto → Om → Prop} {e : D → Sto → Om → Prop} (h : Post K (r.bind f) B O st q e) :
    Post K r B O st (fun a s1 O1 => Post K (f a s1) B O1 s1 q e) e := by
  cases r with
  | ok a s => exact fun O' y _ => Post.later y h
  | err d s => exact h
  | bad => exact h
theorem Post.imp {r : R α} {q q' : α → Sto → Om → Prop} {e e' : D → Sto → Om → Prop} (h : Post K r B O st q e) (hq : ∀ a s1 O1, Ext O st O1 s1 → SR K B O1 s1 → q a s1 O1 → q' a s1 O1)
    (he : ∀ x s1 O1, Ext O st O1 s1 → SR K B O1 s1 → e x s1 O1 → e' x s1 O1) : Post K r B O st q' e' := by
  cases r with
  | ok a s => exact fun O' y z => hq a s O' y z (h O' y z)
  | err d s => exact fun O' y z => he d s O' y z (h O' y z)
  | bad => exact h
end

section
variable {α β : Type} {K : W.Frag} {B : List Nat} {O O1 : Om} {st st1 : Sto} {q : β → Sto → Om → Prop} {e : D → Sto → Om → Prop}
theorem Post.ok {a : β} {st1 : Sto} {O1 : Om} (h : Post K (.ok a st1) B O st q e) (x : Ext O st O1 st1) (sr : SR K B O1 st1) : q a st1 O1 := h O1 x sr
theorem Post.rt {a : β} (h : Post K (ret a st) B O st q e) (sr : SR K B O st) : q a st O := h O Ext.rfl sr
theorem Post.ck {c : Bool} {m : M β} (h : Post K (chk c m st) B O st q e) : c = true ∧ Post K (m st) B O st q e := by
  unfold chk at h
  cases c with
  | true => exact ⟨rfl, h⟩
  | false => exact False.elim h
theorem Post.ckb {c : Bool} {m : M α} {f : α → M β} (h : Post K (bnd (chk c m) f st) B O st q e) : c = true ∧ Post K (bnd m f st) B O st q e := by
  unfold chk at h
  cases c with
  | true => exact ⟨rfl, h⟩
  | false => exact False.elim h
theorem Post.of {o : Option α} {f : α → M β} (h : Post K (bnd (ofO o) f st) B O st q e) : ∃ a, o = some a ∧ Post K (f a st) B O st q e := by
  cases o with
  | some a => exact ⟨a, rfl, h⟩
  | none => exact False.elim h
theorem Post.of' {o : Option β} (h : Post K (ofO o st) B O st q e) (sr : SR K B O st) : ∃ a, o = some a ∧ q a st O := by
  cases o with
  | some a => exact ⟨a, rfl, h.rt sr⟩
  | none => exact False.elim h
theorem Post.get {k : Nat} {f : C → M β} (h : Post K (bnd (getC k) f st) B O st q e) : ∃ c, st[k]? = some c ∧ Post K (f c st) B O st q e := by
  cases g : st[k]? with
  | some c =>
    refine ⟨c, rfl, ?_⟩
    unfold bnd getC at h
    rw [g] at h
    exact h
  | none =>
    unfold bnd getC at h
    rw [g] at h
    exact False.elim h
end

/-! ### new objects, cells written -/
section
variable {K : W.Frag} {B : List Nat} {O : Om} {st : Sto} {p : Addr} {k : Nat}
theorem CelAt.on {O' : Om} {st' : Sto} {a : Addr} {c : C} (x : Ext O st O' st') (h : CelAt K O st a c) (e : c ≠ .gone → O'.H a = O.H a) : CelAt K O' st' a c := by
  cases c with
  | gone => trivial
  | lst xs =>
    obtain ⟨vs, e1, r⟩ := h
    exact ⟨vs, (e (by intro z; cases z)).trans e1, r.on x⟩
  | dct ks xs =>
    obtain ⟨vs, e1, r, q⟩ := h
    exact ⟨vs, (e (by intro z; cases z)).trans e1, r.on x, q.on x⟩
  | ins c fs xs =>
    obtain ⟨ca, dx, fvs, e1, r, q, t⟩ := h
    exact ⟨ca, dx, fvs, (e (by intro z; cases z)).trans e1, r, q, t.on x⟩
theorem CelAt.there {a : Addr} {c : C} (h : CelAt K O st a c) (n : c ≠ .gone) : ∃ o, O.H a = some o := by
  cases c with
  | gone => exact absurd rfl n
  | lst xs => obtain ⟨vs, e1, r⟩ := h; exact ⟨_, e1⟩
  | dct ks xs => obtain ⟨vs, e1, r⟩ := h; exact ⟨_, e1⟩
  | ins c fs xs => obtain ⟨ca, dx, fvs, e1, r⟩ := h; exact ⟨_, e1⟩
theorem SR.there (sr : SR K B O st) (l : Live st k) : ∃ o, O.H (O.mu k) = some o := by
  obtain ⟨c, e, n⟩ := l
  exact (sr.cel k c e).there n
/-- one more object stands at p -/
def Om.lay (O : Om) (p : Addr) (o : HO) : Om := ⟨O.mu, upd O.H p o, O.res⟩
theorem ext_lay {o : HO} (hp : O.H p = none) : Ext O st (O.lay p o) st where
  len := Nat.le_refl _
  old := fun _ _ l => ⟨l, rfl⟩
  new := fun _ h l => absurd l.lt (Nat.not_lt.mpr h)
  keep := fun a u h _ => by
    show upd O.H p o a = some u
    rw [upd_ne (ne_of_none h hp)]
    exact h
  trk := fun a h => by
    have h' : upd O.H p o a = none := h
    by_cases e : a = p
    · rw [e, upd_same] at h'; cases h'
    · rw [upd_ne e] at h'; exact h'
  res := rfl
theorem sr_lay {o : HO} (sr : SR K B O st) (hp : O.H p = none) : SR K B (O.lay p o) st where
  cel := fun k c h => (sr.cel k c h).on (ext_lay hp) fun n => by
    obtain ⟨u, e⟩ := (sr.cel k c h).there n
    show upd O.H p o (O.mu k) = O.H (O.mu k)
    exact upd_ne (ne_of_none e hp)
  inj := sr.inj
  res := fun a ha => by
    obtain ⟨⟨u, e⟩, n⟩ := sr.res a ha
    exact ⟨⟨u, (ext_lay hp).keep a u e n⟩, n⟩
  wf := sr.wf
theorem SR.notres (sr : SR K B O st) (hp : O.H p = none) : p ∉ O.res := fun h => by
  obtain ⟨⟨u, e⟩, _⟩ := sr.res p h
  rw [hp] at e
  cases e
theorem fro_lay {o : HO} (sr : SR K B O st) (hp : O.H p = none) : Fro (O.lay p o) st p := ⟨sr.notres hp, fun k l e => by
  obtain ⟨u, h⟩ := sr.there l
  have e' : O.mu k = p := e
  rw [e', hp] at h
  cases h⟩
/-- a new list -/
theorem rp_newL {xs : List D} {vs : List V} (sr : SR K B O st) (hp : O.H p = none) (r : RpL K O st xs vs) : Rp K (O.lay p (.lst vs)) st (.lst xs) (.ref p) := by
  unfold Rp
  exact ⟨p, vs, rfl, fro_lay sr hp, upd_same, r.on (ext_lay hp)⟩
theorem rp_newT {xs : List D} {vs : List V} (sr : SR K B O st) (hp : O.H p = none) (r : RpL K O st xs vs) : Rp K (O.lay p (.tup vs)) st (.tup xs) (.ref p) := by
  unfold Rp
  exact ⟨p, vs, rfl, .inl ⟨fro_lay sr hp, .inl upd_same⟩, r.on (ext_lay hp)⟩
theorem rp_newD {ks xs : List D} {kvs : List (Key × V)} (sr : SR K B O st) (hp : O.H p = none) (r : RpL K O st ks (kvs.map fun p => kV p.1)) (r' : RpL K O st xs (kvs.map fun p => p.2)) : Rp K (O.lay p (.dK kvs)) st (.dct ks xs) (.ref p) := by
  unfold Rp
  exact ⟨p, kvs, rfl, fro_lay sr hp, upd_same, r.on (ext_lay hp), r'.on (ext_lay hp)⟩
/-- a new cell -/
def Om.cell (O : Om) (n : Nat) (p : Addr) (o : HO) : Om := ⟨fun k => if k = n then p else O.mu k, upd O.H p o, O.res⟩
theorem Om.cell_mu {n : Nat} {o : HO} : (O.cell n p o).mu n = p := if_pos rfl
theorem Om.cell_ne {n j : Nat} {o : HO} (h : j ≠ n) : (O.cell n p o).mu j = O.mu j := if_neg h
theorem live_app {c : C} {j : Nat} (l : Live (st ++ [c]) j) : (j < st.length ∧ Live st j) ∨ j = st.length := by
  obtain ⟨d, e, n⟩ := l
  rcases Nat.lt_trichotomy j st.length with h | h | h
  · rw [List.getElem?_append_left h] at e
    exact .inl ⟨h, d, e, n⟩
  · exact .inr h
  · have := (List.getElem?_eq_some_iff.mp e).1
    rw [List.length_append] at this
    simp at this
    omega
theorem ext_cell {c : C} {o : HO} (hp : O.H p = none) : Ext O st (O.cell st.length p o) (st ++ [c]) where
  len := by rw [List.length_append]; exact Nat.le_add_right _ _
  old := fun j hj l => by
    rcases live_app l with ⟨_, l'⟩ | e
    · exact ⟨l', Om.cell_ne (Nat.ne_of_lt hj)⟩
    · exact absurd hj (by omega)
  new := fun j hj l => by
    rcases live_app l with ⟨h, _⟩ | e
    · exact absurd h (by omega)
    · rw [e, Om.cell_mu]; exact hp
  keep := fun a u h _ => by
    show upd O.H p o a = some u
    rw [upd_ne (ne_of_none h hp)]
    exact h
  trk := fun a h => by
    have h' : upd O.H p o a = none := h
    by_cases e : a = p
    · rw [e, upd_same] at h'; cases h'
    · rw [upd_ne e] at h'; exact h'
  res := rfl
theorem sr_cell {c : C} {o : HO} (sr : SR K B O st) (hp : O.H p = none) (h : CelAt K (O.cell st.length p o) (st ++ [c]) p c) : SR K B (O.cell st.length p o) (st ++ [c]) where
  cel := fun j d e => by
    rcases Nat.lt_or_ge j st.length with hj | hj
    · rw [List.getElem?_append_left hj] at e
      rw [Om.cell_ne (Nat.ne_of_lt hj)]
      refine (sr.cel j d e).on (ext_cell hp) fun n => ?_
      obtain ⟨u, e'⟩ := (sr.cel j d e).there n
      show upd O.H p o _ = _
      rw [upd_ne (ne_of_none e' hp)]
    · have := (List.getElem?_eq_some_iff.mp e).1
      rw [List.length_append] at this
      simp at this
      obtain rfl : j = st.length := by omega
      rw [List.getElem?_append_right (Nat.le_refl _), Nat.sub_self] at e
      cases e
      rw [Om.cell_mu]
      exact h
  inj := fun i j li lj e => by
    rcases live_app li with ⟨hi, li'⟩ | ei <;> rcases live_app lj with ⟨hj, lj'⟩ | ej
    · rw [Om.cell_ne (Nat.ne_of_lt hi), Om.cell_ne (Nat.ne_of_lt hj)] at e
      exact sr.inj i j li' lj' e
    · rw [ej, Om.cell_mu, Om.cell_ne (Nat.ne_of_lt hi)] at e
      obtain ⟨u, h'⟩ := sr.there li'
      rw [e, hp] at h'; cases h'
    · rw [ei, Om.cell_mu, Om.cell_ne (Nat.ne_of_lt hj)] at e
      obtain ⟨u, h'⟩ := sr.there lj'
      rw [← e, hp] at h'; cases h'
    · rw [ei, ej]
  res := fun a ha => by
    obtain ⟨⟨u, e⟩, n⟩ := sr.res a ha
    exact ⟨⟨u, (ext_cell (c := c) hp).keep a u e n⟩, (ext_cell (c := c) hp).nl e n⟩
  wf := fun b hb => by
    obtain ⟨h1, h2⟩ := sr.wf b hb
    refine ⟨by rw [List.length_append]; omega, fun j d hj e => h2 j d hj ?_⟩
    rwa [List.getElem?_append_left (Nat.lt_of_lt_of_le hj h1)] at e
theorem rp_cell {c : C} {o : HO} : Rp K (O.cell st.length p o) (st ++ [c]) (.m st.length) (.ref p) := by
  unfold Rp
  exact ⟨by rw [List.length_append]; simp, fun _ => by rw [Om.cell_mu]⟩
mutual
theorem D.under_le {m n : Nat} (h : m ≤ n) : ∀ {d : D}, d.under m = true → d.under n = true
  | .m k, e => by
    unfold D.under at e ⊢
    exact decide_eq_true (Nat.lt_of_lt_of_le (of_decide_eq_true e) h)
  | .tup xs, e => by unfold D.under at e ⊢; exact underL_le h e
  | .lst xs, e => by unfold D.under at e ⊢; exact underL_le h e
  | .dct ks vs, e => by
    unfold D.under at e ⊢
    obtain ⟨a, b⟩ := Bool.and_eq_true_iff.mp e
    exact Bool.and_eq_true_iff.mpr ⟨underL_le h a, underL_le h b⟩
  | .ins _ _ vs, e => by unfold D.under at e ⊢; exact underL_le h e
  | .non, _ => by unfold D.under; rfl
  | .bl _, _ => by unfold D.under; rfl
  | .int _, _ => by unfold D.under; rfl
  | .str _, _ => by unfold D.under; rfl
  | .scr _, _ => by unfold D.under; rfl
  | .fn _, _ => by unfold D.under; rfl
  | .ty _, _ => by unfold D.under; rfl
theorem underL_le {m n : Nat} (h : m ≤ n) : ∀ {ds : List D}, underL m ds = true → underL n ds = true
  | [], _ => by unfold underL; rfl
  | _ :: _, e => by
    unfold underL at e ⊢
    obtain ⟨a, b⟩ := Bool.and_eq_true_iff.mp e
    exact Bool.and_eq_true_iff.mpr ⟨D.under_le h a, underL_le h b⟩
end
theorem C.under_le {m n : Nat} (h : m ≤ n) {c : C} (e : c.under m = true) : c.under n = true := by
  cases c with
  | gone => rfl
  | lst xs => exact underL_le h e
  | dct ks vs =>
    obtain ⟨a, b⟩ := Bool.and_eq_true_iff.mp e
    exact Bool.and_eq_true_iff.mpr ⟨underL_le h a, underL_le h b⟩
  | ins c fs vs => exact underL_le h e
theorem live_set {c : C} {j : Nat} (l : Live st k) (h : Live (st.set k c) j) : Live st j := by
  by_cases e : j = k
  · rw [e]; exact l
  · obtain ⟨d, e1, n⟩ := h
    rw [List.getElem?_set_ne (Ne.symm e)] at e1
    exact ⟨d, e1, n⟩
theorem ext_put {c : C} {o : HO} (l : Live st k) : Ext O st (O.lay (O.mu k) o) (st.set k c) where
  len := by rw [List.length_set]; exact Nat.le_refl _
  old := fun j _ h => ⟨live_set l h, rfl⟩
  new := fun j hj h => absurd (live_set l h).lt (Nat.not_lt.mpr hj)
  keep := fun a u h f => by
    show upd O.H (O.mu k) o a = some u
    rw [upd_ne (fun e => f k l e.symm)]
    exact h
  trk := fun a h => by
    have h' : upd O.H (O.mu k) o a = none := h
    by_cases e : a = O.mu k
    · rw [e, upd_same] at h'; cases h'
    · rw [upd_ne e] at h'; exact h'
  res := rfl
theorem sr_put {c : C} {o : HO} {lo : Nat} (sr : SR K B O st) (l : Live st k) (hB : ∀ b ∈ B, b ≤ lo) (w : (decide (lo ≤ k) || c.under (k + 1)) = true) (h : CelAt K (O.lay (O.mu k) o) (st.set k c) (O.mu k) c) : SR K B (O.lay (O.mu k) o) (st.set k c) where
  cel := fun j d e => by
    by_cases ej : j = k
    · subst ej
      rw [List.getElem?_set_self l.lt] at e
      cases e
      exact h
    · rw [List.getElem?_set_ne (Ne.symm ej)] at e
      refine (sr.cel j d e).on (ext_put l) fun n => ?_
      show upd O.H (O.mu k) o (O.mu j) = _
      exact upd_ne fun q => ej (sr.inj j k ⟨d, e, n⟩ l q)
  inj := fun i j li lj e => sr.inj i j (live_set l li) (live_set l lj) e
  res := fun a ha => by
    obtain ⟨⟨u, e⟩, n⟩ := sr.res a ha
    exact ⟨⟨u, (ext_put (c := c) l).keep a u e n⟩, (ext_put (c := c) l).nl e n⟩
  wf := fun b hb => by
    obtain ⟨h1, h2⟩ := sr.wf b hb
    refine ⟨by rw [List.length_set]; exact h1, fun j d hj e => ?_⟩
    by_cases ej : j = k
    · subst ej
      rw [List.getElem?_set_self l.lt] at e
      cases e
      rcases (Bool.or_eq_true_iff).mp w with z | z
      · exact absurd (Nat.lt_of_lt_of_le hj (hB b hb)) (Nat.not_lt.mpr (of_decide_eq_true z))
      · exact C.under_le hj z
    · rw [List.getElem?_set_ne (Ne.symm ej)] at e
      exact h2 j d hj e
/-! ### a list in the making -/
def Om.hold (O : Om) (p : Addr) (o : HO) : Om := ⟨O.mu, upd O.H p o, p :: O.res⟩
def Om.held (O : Om) (p : Addr) (o : HO) (rs : List Addr) : Om := ⟨O.mu, upd O.H p o, rs⟩
end
section
variable {K : W.Frag} {B : List Nat} {O O' : Om} {st st' : Sto} {p : Addr}
theorem fro_hold {o : HO} {a : Addr} (hp : O.H p = none) {u : HO} (h : O.H a = some u) (f : Fro O st a) : Fro (O.hold p o) st a :=
  ⟨fun z => (List.mem_cons.mp z).elim (fun e => ne_of_none h hp e) f.1, f.2⟩
theorem hold_get {o : HO} {a : Addr} (hp : O.H p = none) {u : HO} (h : O.H a = some u) : (O.hold p o).H a = some u := by
  show upd O.H p o a = some u
  rw [upd_ne (ne_of_none h hp)]
  exact h
theorem rd_hold {o u : HO} {a : Addr} (hp : O.H p = none) (f : Fro O st a) (r : Rd O.H a u) : Fro (O.hold p o) st a ∧ Rd (O.hold p o).H a u := by
  rcases r with r | ⟨ob, r⟩
  · exact ⟨fro_hold hp r f, .inl (hold_get hp r)⟩
  · exact ⟨fro_hold hp r f, .inr ⟨ob, hold_get hp r⟩⟩
mutual
theorem rp_hold {o : HO} (hp : O.H p = none) : ∀ {d : D} {v : V}, Rp K O st d v → Rp K (O.hold p o) st d v
  | .non, _, h => by unfold Rp at h ⊢; exact h
  | .bl _, _, h => by unfold Rp at h ⊢; exact h
  | .int _, _, h => by unfold Rp at h ⊢; exact h
  | .str _, _, h => by unfold Rp at h ⊢; exact h
  | .tup _, _, h => by
    unfold Rp at h ⊢
    obtain ⟨a, vs, e, t, r⟩ := h
    exact ⟨a, vs, e, t.elim (fun q => .inl (rd_hold hp q.1 q.2)) .inr, rpl_hold hp r⟩
  | .lst _, _, h => by
    unfold Rp at h ⊢
    obtain ⟨a, vs, e, f, t, r⟩ := h
    exact ⟨a, vs, e, fro_hold hp t f, hold_get hp t, rpl_hold hp r⟩
  | .dct _ _, _, h => by
    unfold Rp at h ⊢
    obtain ⟨a, kvs, e, f, t, r1, r2⟩ := h
    exact ⟨a, kvs, e, fro_hold hp t f, hold_get hp t, rpl_hold hp r1, rpl_hold hp r2⟩
  | .ins _ _ _, _, h => by
    unfold Rp at h ⊢
    obtain ⟨a, ca, dx, fvs, e, f, t, c, n, r⟩ := h
    exact ⟨a, ca, dx, fvs, e, fro_hold hp t f, hold_get hp t, c, n, rpl_hold hp r⟩
  | .scr _, _, h => by
    unfold Rp at h ⊢
    obtain ⟨a, e, t⟩ := h
    exact ⟨a, e, t.elim (fun q => .inl (rd_hold hp q.1 q.2)) .inr⟩
  | .m k, _, h => by unfold Rp at h ⊢; exact h
  | .fn _, _, h => by unfold Rp at h ⊢; exact h
  | .ty _, _, h => by unfold Rp at h ⊢; exact h
theorem rpl_hold {o : HO} (hp : O.H p = none) : ∀ {ds : List D} {vs : List V}, RpL K O st ds vs → RpL K (O.hold p o) st ds vs
  | [], _, h => by unfold RpL at h ⊢; exact h
  | _ :: _, _, h => by
    unfold RpL at h ⊢
    obtain ⟨v, r, e, h1, h2⟩ := h
    exact ⟨v, r, e, rp_hold hp h1, rpl_hold hp h2⟩
end
/-- what stands apart from p stays where p is written; rs: what is held back then -/
theorem held_get {o : HO} {a : Addr} {rs : List Addr} {u : HO} (hr : p ∈ O.res) (h : O.H a = some u) (f : Fro O st a) : (O.held p o rs).H a = some u := by
  show upd O.H p o a = some u
  have n : a ≠ p := fun e => f.1 (by rw [e]; exact hr)
  rw [upd_ne n]
  exact h
theorem fro_held {o : HO} {a : Addr} {rs : List Addr} (hs : ∀ b ∈ rs, b ∈ O.res) (f : Fro O st a) : Fro (O.held p o rs) st a := ⟨fun z => f.1 (hs _ z), f.2⟩
theorem rd_held {o u : HO} {a : Addr} {rs : List Addr} (hs : ∀ b ∈ rs, b ∈ O.res) (hr : p ∈ O.res) (f : Fro O st a) (r : Rd O.H a u) : Fro (O.held p o rs) st a ∧ Rd (O.held p o rs).H a u := by
  rcases r with r | ⟨ob, r⟩
  · exact ⟨fro_held hs f, .inl (held_get hr r f)⟩
  · exact ⟨fro_held hs f, .inr ⟨ob, held_get hr r f⟩⟩
mutual
theorem rp_held {o : HO} {rs : List Addr} (hs : ∀ b ∈ rs, b ∈ O.res) (hr : p ∈ O.res) : ∀ {d : D} {v : V}, Rp K O st d v → Rp K (O.held p o rs) st d v
  | .non, _, h => by unfold Rp at h ⊢; exact h
  | .bl _, _, h => by unfold Rp at h ⊢; exact h
  | .int _, _, h => by unfold Rp at h ⊢; exact h
  | .str _, _, h => by unfold Rp at h ⊢; exact h
  | .tup _, _, h => by
    unfold Rp at h ⊢
    obtain ⟨a, vs, e, t, r⟩ := h
    exact ⟨a, vs, e, t.elim (fun q => .inl (rd_held hs hr q.1 q.2)) .inr, rpl_held hs hr r⟩
  | .lst _, _, h => by
    unfold Rp at h ⊢
    obtain ⟨a, vs, e, f, t, r⟩ := h
    exact ⟨a, vs, e, fro_held hs f, held_get hr t f, rpl_held hs hr r⟩
  | .dct _ _, _, h => by
    unfold Rp at h ⊢
    obtain ⟨a, kvs, e, f, t, r1, r2⟩ := h
    exact ⟨a, kvs, e, fro_held hs f, held_get hr t f, rpl_held hs hr r1, rpl_held hs hr r2⟩
  | .ins _ _ _, _, h => by
    unfold Rp at h ⊢
    obtain ⟨a, ca, dx, fvs, e, f, t, c, n, r⟩ := h
    exact ⟨a, ca, dx, fvs, e, fro_held hs f, held_get hr t f, c, n, rpl_held hs hr r⟩
  | .scr _, _, h => by
    unfold Rp at h ⊢
    obtain ⟨a, e, t⟩ := h
    exact ⟨a, e, t.elim (fun q => .inl (rd_held hs hr q.1 q.2)) .inr⟩
  | .m k, _, h => by unfold Rp at h ⊢; exact h
  | .fn _, _, h => by unfold Rp at h ⊢; exact h
  | .ty _, _, h => by unfold Rp at h ⊢; exact h
theorem rpl_held {o : HO} {rs : List Addr} (hs : ∀ b ∈ rs, b ∈ O.res) (hr : p ∈ O.res) : ∀ {ds : List D} {vs : List V}, RpL K O st ds vs → RpL K (O.held p o rs) st ds vs
  | [], _, h => by unfold RpL at h ⊢; exact h
  | _ :: _, _, h => by
    unfold RpL at h ⊢
    obtain ⟨v, r, e, h1, h2⟩ := h
    exact ⟨v, r, e, rp_held hs hr h1, rpl_held hs hr h2⟩
end
theorem cel_hold {o : HO} {a : Addr} {c : C} (hp : O.H p = none) (h : CelAt K O st a c) : CelAt K (O.hold p o) st a c := by
  cases c with
  | gone => trivial
  | lst xs =>
    obtain ⟨vs, e1, r⟩ := h
    exact ⟨vs, hold_get hp e1, rpl_hold hp r⟩
  | dct ks xs =>
    obtain ⟨vs, e1, r, q⟩ := h
    exact ⟨vs, hold_get hp e1, rpl_hold hp r, rpl_hold hp q⟩
  | ins c fs xs =>
    obtain ⟨ca, dx, fvs, e1, r, q, t⟩ := h
    exact ⟨ca, dx, fvs, hold_get hp e1, r, q, rpl_hold hp t⟩
theorem sr_hold {o : HO} (sr : SR K B O st) (hp : O.H p = none) : SR K B (O.hold p o) st where
  cel := fun k c h => cel_hold hp (sr.cel k c h)
  inj := sr.inj
  res := fun a ha => by
    rcases List.mem_cons.mp ha with rfl | ha
    · exact ⟨⟨o, upd_same⟩, (fro_lay (o := o) sr hp).2⟩
    · obtain ⟨⟨u, e⟩, n⟩ := sr.res a ha
      exact ⟨⟨u, hold_get hp e⟩, n⟩
  wf := sr.wf
theorem cel_held {o : HO} {k : Nat} {c : C} {rs : List Addr} (sr : SR K B O st) (hs : ∀ b ∈ rs, b ∈ O.res) (hr : p ∈ O.res) (g : st[k]? = some c) (h : CelAt K O st (O.mu k) c) : CelAt K (O.held p o rs) st (O.mu k) c := by
  have nk : c ≠ .gone → O.mu k ≠ p := fun n => (sr.res p hr).2 k ⟨c, g, n⟩
  have get : c ≠ .gone → (O.held p o rs).H (O.mu k) = O.H (O.mu k) := fun n => upd_ne (nk n)
  cases c with
  | gone => trivial
  | lst xs =>
    obtain ⟨vs, e1, r⟩ := h
    exact ⟨vs, (get (by intro z; cases z)).trans e1, rpl_held hs hr r⟩
  | dct ks xs =>
    obtain ⟨vs, e1, r, q⟩ := h
    exact ⟨vs, (get (by intro z; cases z)).trans e1, rpl_held hs hr r, rpl_held hs hr q⟩
  | ins c fs xs =>
    obtain ⟨ca, dx, fvs, e1, r, q, t⟩ := h
    exact ⟨ca, dx, fvs, (get (by intro z; cases z)).trans e1, r, q, rpl_held hs hr t⟩
theorem sr_held {o : HO} {rs : List Addr} (sr : SR K B O st) (hs : ∀ b ∈ rs, b ∈ O.res) (hr : p ∈ O.res) : SR K B (O.held p o rs) st where
  cel := fun k c h => cel_held sr hs hr h (sr.cel k c h)
  inj := sr.inj
  res := fun a ha => by
    obtain ⟨⟨u, e⟩, n⟩ := sr.res a (hs a ha)
    by_cases ea : a = p
    · subst ea
      exact ⟨⟨o, upd_same⟩, n⟩
    · exact ⟨⟨u, (upd_ne ea).trans e⟩, n⟩
  wf := sr.wf
/-- from before the making of p on: p written -/
theorem ext_held {O1 : Om} {o o1 : HO} (hp : O.H p = none) (x : Ext (O.hold p o) st O1 st') : Ext O st (O1.held p o1 O.res) st' where
  len := x.len
  old := x.old
  new := fun k h l => by
    have n : upd O.H p o (O1.mu k) = none := x.new k h l
    by_cases e : O1.mu k = p
    · rw [e, upd_same] at n; cases n
    · rw [upd_ne e] at n; exact n
  keep := fun a u h f => by
    have n := ne_of_none h hp
    show upd O1.H p o1 a = some u
    rw [upd_ne n]
    exact x.keep a u (hold_get hp h) f
  trk := fun a h => by
    have h' : upd O1.H p o1 a = none := h
    by_cases e : a = p
    · rw [e, upd_same] at h'; cases h'
    · rw [upd_ne e] at h'
      have n : upd O.H p o a = none := x.trk a h'
      rw [upd_ne e] at n
      exact n
  res := rfl
/-- the making goes on -/
theorem ext_held2 {O1 : Om} {o o1 : HO} (x : Ext (O.hold p o) st O1 st') : Ext (O.hold p o1) st (O1.held p o1 O1.res) st' where
  len := x.len
  old := x.old
  new := fun k h l => by
    have n : upd O.H p o (O1.mu k) = none := x.new k h l
    show upd O.H p o1 (O1.mu k) = none
    by_cases e : O1.mu k = p
    · rw [e, upd_same] at n; cases n
    · rw [upd_ne e] at n ⊢; exact n
  keep := fun a u h f => by
    have h' : upd O.H p o1 a = some u := h
    show upd O1.H p o1 a = some u
    by_cases e : a = p
    · rw [e, upd_same] at h' ⊢; exact h'
    · rw [upd_ne e] at h' ⊢
      refine x.keep a u ?_ f
      show upd O.H p o a = some u
      rw [upd_ne e]
      exact h'
  trk := fun a h => by
    have h' : upd O1.H p o1 a = none := h
    show upd O.H p o1 a = none
    by_cases e : a = p
    · rw [e, upd_same] at h'; cases h'
    · rw [upd_ne e] at h' ⊢
      have n : upd O.H p o a = none := x.trk a h'
      rw [upd_ne e] at n
      exact n
  res := x.res
end
end Lf
end
section
set_option maxHeartbeats 4000000
/-! The operators over value trees, as the layer's rules. -/
namespace Lf
open PySem L2

section
variable {α β : Type} {K : W.Frag} {B : List Nat} {O : Om} {st : Sto} {q : β → Sto → Om → Prop} {e : D → Sto → Om → Prop} {f : List D → M β} {d : D} {v : V}
theorem rp_ints : ∀ ns : List Int, RpL K O st (ns.map D.int) (ns.map V.int)
  | [] => .nil
  | n :: r => .cons (by unfold Rp; rfl) (rp_ints r)
theorem Post.list (h : Rp K O st d v) (sr : SR K B O st) (p : Post K (bnd (listIn d) f st) B O st q e) :
    ∃ xs a vs, v = .ref a ∧ O.H a = some (.lst vs) ∧ RpL K O st xs vs ∧ Post K (f xs st) B O st q e := by
  cases d with
  | lst xs =>
    unfold Rp at h
    obtain ⟨a, vs, e1, _, e2, r⟩ := h
    exact ⟨xs, a, vs, e1, e2, r, p⟩
  | m k =>
    unfold Rp at h
    obtain ⟨hl, hv⟩ := h
    have p' : Post K (bnd (bnd (getC k) fun c => match c with
      | .lst xs => ret xs
      | _ => bad) f st) B O st q e := p
    cases g : st[k]? with
    | none =>
      unfold bnd getC at p'
      rw [g] at p'
      exact False.elim p'
    | some c =>
      unfold bnd getC at p'
      rw [g] at p'
      cases c with
      | lst xs =>
        have l : Live st k := ⟨_, g, by intro z; cases z⟩
        obtain ⟨vs, e1, r⟩ := sr.cel k _ g
        exact ⟨xs, O.mu k, vs, hv l, e1, r, p'⟩
      | gone => exact False.elim p'
      | dct a b => exact False.elim p'
      | ins a b c => exact False.elim p'
  | non => exact False.elim p
  | bl b => exact False.elim p
  | int i => exact False.elim p
  | str x => exact False.elim p
  | tup x => exact False.elim p
  | dct x y => exact False.elim p
  | ins a b c => exact False.elim p
  | scr n => exact False.elim p
  | fn x => exact False.elim p
  | ty x => exact False.elim p
theorem Post.items (h : Rp K O st d v) (sr : SR K B O st) (p : Post K (bnd (itemsIn d) f st) B O st q e) :
    ∃ xs a vs, v = .ref a ∧ (SqL K O.H a vs ∨ SqT K O.H a vs) ∧ RpL K O st xs vs ∧ Post K (f xs st) B O st q e := by
  cases d with
  | tup xs =>
    unfold Rp at h
    obtain ⟨a, vs, e1, t, r⟩ := h
    exact ⟨xs, a, vs, e1, .inr t.sq, r, p⟩
  | scr ns =>
    unfold Rp at h
    obtain ⟨a, e1, t⟩ := h
    exact ⟨_, a, _, e1, .inl t.sq, rp_ints ns, p⟩
  | lst xs =>
    obtain ⟨xs, a, vs, e1, e2, r, p⟩ := Post.list h sr p
    exact ⟨xs, a, vs, e1, .inl (SqL.of e2), r, p⟩
  | m k =>
    obtain ⟨xs, a, vs, e1, e2, r, p⟩ := Post.list h sr p
    exact ⟨xs, a, vs, e1, .inl (SqL.of e2), r, p⟩
  | non => exact False.elim p
  | bl b => exact False.elim p
  | int i => exact False.elim p
  | str x => exact False.elim p
  | dct x y => exact False.elim p
  | ins a b c => exact False.elim p
  | fn x => exact False.elim p
  | ty x => exact False.elim p
/-- what is wanted of a value -/
abbrev QV (K : W.Frag) (Q : VK) : D → Sto → Om → Prop := fun d st' O' => ∀ v, Rp K O' st' d v → Q v O'.H
/-- a list is made -/
theorem Post.nwL {mu : Bool} {xs : List D} {vs : List V} {Q : VK} (sr : SR K B O st) (r : RpL K O st xs vs) (p : Post K (mkL mu xs st) B O st (QV K Q) e) :
    vs.length ≤ sizeLine ∧ ∀ p, O.H p = none → Q (.ref p) (upd O.H p (.lst vs)) := by
  obtain ⟨h1, p⟩ := Post.ck (m := if mu then new (.lst xs) else ret (.lst xs)) p
  refine ⟨by rw [← r.length]; exact of_decide_eq_true h1, fun a ha => ?_⟩
  cases mu with
  | true =>
    have p' : Post K (.ok (.m st.length) (st ++ [.lst xs])) B O st (QV K Q) e := p
    exact p' (O.cell st.length a (.lst vs)) (ext_cell ha) (sr_cell sr ha ⟨vs, upd_same, r.on (ext_cell ha)⟩) (.ref a) rp_cell
  | false =>
    have p' : Post K (.ok (.lst xs) st) B O st (QV K Q) e := p
    exact p' (O.lay a (.lst vs)) (ext_lay ha) (sr_lay sr ha) (.ref a) (rp_newL sr ha r)
theorem Post.newL {xs : List D} {vs : List V} {Q : VK} (sr : SR K B O st) (r : RpL K O st xs vs) (p : Post K (ret (.lst xs) st) B O st (QV K Q) e) :
    ∀ p, O.H p = none → Q (.ref p) (upd O.H p (.lst vs)) := fun a ha =>
  have p' : Post K (.ok (.lst xs) st) B O st (QV K Q) e := p
  p' (O.lay a (.lst vs)) (ext_lay ha) (sr_lay sr ha) (.ref a) (rp_newL sr ha r)
theorem Post.nwT {xs : List D} {vs : List V} {Q : VK} (sr : SR K B O st) (r : RpL K O st xs vs) (p : Post K (mkT xs st) B O st (QV K Q) e) :
    vs.length ≤ sizeLine ∧ ∀ p, O.H p = none → Q (.ref p) (upd O.H p (.tup vs)) := by
  obtain ⟨h1, p⟩ := Post.ck (m := ret (D.tup xs)) p
  refine ⟨by rw [← r.length]; exact of_decide_eq_true h1, fun a ha => ?_⟩
  have p' : Post K (.ok (.tup xs) st) B O st (QV K Q) e := p
  exact p' (O.lay a (.tup vs)) (ext_lay ha) (sr_lay sr ha) (.ref a) (rp_newT sr ha r)
theorem rpl_rep {xs : List D} {vs : List V} (r : RpL K O st xs vs) : ∀ n : Nat, RpL K O st (List.replicate n xs).flatten (List.replicate n vs).flatten
  | 0 => .nil
  | n + 1 => by
    rw [List.replicate_succ, List.replicate_succ, List.flatten_cons, List.flatten_cons]
    exact r.app (rpl_rep r n)
end

/-! ### operators by values -/
section
variable {X : Cx} {lo : Nat}
def rx2 (K : W.Frag) (lo : Nat) (f : D → D → M D) : R2 := fun x y H Q => ∃ (B : List Nat) (O : Om) (st : Sto) (dx dy : D) (e : D → Sto → Om → Prop), O.H = H ∧ (∀ b ∈ B, b ≤ lo) ∧ Rp K O st dx x ∧ Rp K O st dy y ∧ SR K B O st ∧
  Post K (f dx dy st) B O st (QV K Q) e
theorem bin_ok (op : Operator) (mu : Bool) : OpR X (binaryOp op) (rx2 X.K lo (binop op mu)) := by
  rintro pins s σ H x y v u Q I rx ry ⟨B, O, st, dx, dy, e, rfl, hB, h1, h2, sr, p⟩
  unfold binop at p
  split at p
  · unfold Rp at h1 h2
    subst h1 h2
    exact op_add pins s σ _ _ _ _ _ Q I rx ry ⟨_, _, rfl, rfl, p.rt sr _ (by unfold Rp; rfl)⟩
  · unfold Rp at h1 h2
    subst h1 h2
    exact op_sub pins s σ _ _ _ _ _ Q I rx ry ⟨_, _, rfl, rfl, p.rt sr _ (by unfold Rp; rfl)⟩
  · unfold Rp at h1 h2
    subst h1 h2
    obtain ⟨c, p⟩ := p.ck
    have c := of_decide_eq_true c
    exact op_mulW pins s σ _ _ _ _ _ Q I rx ry ⟨_, _, rfl, rfl, c, p.rt sr _ (by unfold Rp; rfl)⟩
  · unfold Rp at h1 h2
    subst h1 h2
    obtain ⟨c, p⟩ := p.ck
    obtain ⟨c1, c2⟩ := Bool.and_eq_true_iff.mp c
    exact op_fdivW pins s σ _ _ _ _ _ Q I rx ry ⟨_, _, rfl, rfl, ⟨of_decide_eq_true c1, of_decide_eq_true c2⟩, p.rt sr _ (by unfold Rp; rfl)⟩
  · unfold Rp at h1 h2
    subst h1 h2
    obtain ⟨c, p⟩ := p.ck
    exact op_mod pins s σ _ _ _ _ _ Q I rx ry ⟨_, _, rfl, rfl, of_decide_eq_true c, p.rt sr _ (by unfold Rp; rfl)⟩
  · unfold Rp at h1 h2
    subst h1 h2
    obtain ⟨c, p⟩ := p.ck
    obtain ⟨c1, c2⟩ := Bool.and_eq_true_iff.mp c
    obtain ⟨c0, c1⟩ := Bool.and_eq_true_iff.mp c1
    exact op_pow pins s σ _ _ _ _ _ Q I rx ry ⟨_, _, rfl, rfl, ⟨of_decide_eq_true c0, of_decide_eq_true c1, of_decide_eq_true c2⟩, p.rt sr _ (by unfold Rp; rfl)⟩
  · unfold Rp at h1 h2
    obtain ⟨h1, _⟩ := h1
    obtain ⟨h2, _⟩ := h2
    subst h1 h2
    unfold mkS at p
    obtain ⟨c, p⟩ := p.ck
    have c := of_decide_eq_true c
    exact op_add_str pins s σ _ _ _ _ _ Q I rx ry ⟨_, _, rfl, rfl, by rw [← Str.length_append]; exact c, p.rt sr _ (by unfold Rp; exact ⟨rfl, c⟩)⟩
  · obtain ⟨xs, a, vs, e1, k1, r1, p⟩ := Post.list h1 sr p
    obtain ⟨ys, b, ws, e2, k2, r2, p⟩ := Post.list h2 sr p
    obtain ⟨z, q⟩ := Post.nwL sr (r1.app r2) p
    exact op_cat pins s σ _ _ _ _ _ Q I rx ry ⟨a, b, vs, ws, e1, e2, k1, k2, by rw [← List.length_append]; exact z, q⟩
  · obtain ⟨xs, a, vs, e1, k1, r1, p⟩ := Post.list h1 sr p
    unfold Rp at h2
    obtain ⟨c, p⟩ := p.ck
    obtain ⟨c0, c1⟩ := Bool.and_eq_true_iff.mp c
    have c0 := of_decide_eq_true c0
    have c1 := of_decide_eq_true c1
    obtain ⟨z, q⟩ := Post.nwL sr (rpl_rep r1 _) p
    exact op_rep pins s σ _ _ _ _ _ Q I rx ry ⟨a, _, vs, e1, h2, k1, by omega, by omega, by simpa [Nat.mul_comm] using z, q⟩
  · exact False.elim p

end

/-! ### data read -/
section
variable {K : W.Frag} {B : List Nat} {O : Om} {st : Sto}
theorem plain_list {xs : List PyData} : PyData.canLayAll0 xs = true → ∀ x ∈ xs, PyData.canLay0 x = true := by
  induction xs with
  | nil => intro _ x h; cases h
  | cons y ys ih =>
    intro h x hx
    unfold PyData.canLayAll0 at h
    obtain ⟨a, b⟩ := Bool.and_eq_true_iff.mp h
    rcases List.mem_cons.mp hx with rfl | hx
    · exact a
    · exact ih b x hx
mutual
theorem dp_of {rec : Nat → Option PyData} (hr : ∀ k p v, rec k = some p → k < st.length → (Live st k → v = .ref (O.mu k)) → PyData.canLay0 p = true → Dp K O.H v p) :
    ∀ {d : D} {v : V} {p : PyData}, Rp K O st d v → D.pyW rec d = some p → PyData.canLay0 p = true → Dp K O.H v p
  | .non, _, _, h, e, _ => by unfold Rp at h; unfold D.pyW at e; cases e; subst h; exact .non
  | .bl b, _, _, h, e, _ => by unfold Rp at h; unfold D.pyW at e; cases e; subst h; exact .bl b
  | .int b, _, _, h, e, _ => by unfold Rp at h; unfold D.pyW at e; cases e; subst h; exact .int b
  | .str b, _, _, h, e, _ => by unfold Rp at h; unfold D.pyW at e; cases e; obtain ⟨h, _⟩ := h; subst h; exact .str b
  | .tup xs, _, _, h, e, c => by
    unfold Rp at h
    unfold D.pyW at e
    obtain ⟨a, vs, rfl, t, r⟩ := h
    obtain ⟨ps, e1, rfl⟩ := Option.map_eq_some_iff.mp e
    unfold PyData.canLay0 at c
    exact .tup t.sq (dpL_of hr r e1 c)
  | .lst xs, _, _, h, e, c => by
    unfold Rp at h
    unfold D.pyW at e
    obtain ⟨a, vs, rfl, _, t, r⟩ := h
    obtain ⟨ps, e1, rfl⟩ := Option.map_eq_some_iff.mp e
    unfold PyData.canLay0 at c
    exact .lst (SqL.of t) (dpL_of hr r e1 c)
  | .dct ks vs, _, p, _, e, c => by
    unfold D.pyW at e
    split at e
    · cases e
      unfold PyData.canLay0 at c
      cases c
    · cases e
  | .m k, v, p, h, e, c => by
    unfold Rp at h
    unfold D.pyW at e
    exact hr k p v e h.1 h.2 c
  | .ins _ _ _, _, _, _, e, _ => by unfold D.pyW at e; cases e
  | .scr _, _, _, _, e, _ => by unfold D.pyW at e; cases e
  | .fn _, _, _, _, e, _ => by unfold D.pyW at e; cases e
  | .ty _, _, _, _, e, _ => by unfold D.pyW at e; cases e
theorem dpL_of {rec : Nat → Option PyData} (hr : ∀ k p v, rec k = some p → k < st.length → (Live st k → v = .ref (O.mu k)) → PyData.canLay0 p = true → Dp K O.H v p) :
    ∀ {ds : List D} {vs : List V} {ps : List PyData}, RpL K O st ds vs → pyWL rec ds = some ps → PyData.canLayAll0 ps = true → DpAll K O.H vs ps
  | [], _, _, h, e, _ => by
    unfold RpL at h
    unfold pyWL at e
    cases e
    subst h
    exact .nil
  | _ :: _, _, _, h, e, c => by
    unfold RpL at h
    unfold pyWL at e
    obtain ⟨v, r, rfl, h1, h2⟩ := h
    split at e
    · rename_i a b ea eb
      cases e
      unfold PyData.canLayAll0 at c
      obtain ⟨c1, c2⟩ := Bool.and_eq_true_iff.mp c
      exact .cons (dp_of hr h1 ea c1) (dpL_of hr h2 eb c2)
    · cases e
end
theorem dpC_of (sr : SR K B O st) : ∀ (n k : Nat) (p : PyData) (v : V), pyC st n k = some p → k < st.length → (Live st k → v = .ref (O.mu k)) → PyData.canLay0 p = true → Dp K O.H v p
  | 0, _, _, _, e, _, _, _ => by unfold pyC at e; cases e
  | n + 1, k, p, v, e, hk, hv, c => by
    unfold pyC at e
    split at e
    · rename_i xs g
      obtain ⟨ps, e1, rfl⟩ := Option.map_eq_some_iff.mp e
      obtain ⟨vs, e2, r⟩ := sr.cel k _ g
      rw [hv ⟨_, g, by intro z; cases z⟩]
      unfold PyData.canLay0 at c
      exact .lst (SqL.of e2) (dpL_of (dpC_of sr n) r e1 c)
    · split at e
      · cases e
        unfold PyData.canLay0 at c
        cases c
      · cases e
    · cases e
theorem Post.data {β : Type} {d : D} {v : V} {f : PyData → M β} {q : β → Sto → Om → Prop} {e : D → Sto → Om → Prop} (h : Rp K O st d v) (sr : SR K B O st) (p : Post K (bnd (py d) f st) B O st q e) :
    ∃ x, D.pyW (pyC st 20) d = some x ∧ (PyData.canLay0 x = true → Dp K O.H v x) ∧ Post K (f x st) B O st q e := by
  have e0 : bnd (py d) f st = bnd (ofO (D.pyW (pyC st 20) d)) f st := by
    unfold bnd py
    rfl
  rw [e0] at p
  obtain ⟨x, e1, p⟩ := Post.of p
  exact ⟨x, e1, fun c => dp_of (dpC_of sr 20) h e1 c, p⟩
end
section
variable {X : Cx} {lo : Nat}
def rx2B (K : W.Frag) (lo : Nat) (f : D → D → M Bool) : R2 := fun x y H Q => ∃ (B : List Nat) (O : Om) (st : Sto) (dx dy : D) (e : D → Sto → Om → Prop), O.H = H ∧ (∀ b ∈ B, b ≤ lo) ∧ Rp K O st dx x ∧ Rp K O st dy y ∧ SR K B O st ∧
  Post K (f dx dy st) B O st (fun b _ O' => Q (.bl b) O'.H) e
theorem flat_of {K : W.Frag} {O : Om} {st : Sto} {d : D} {v : V} (h : Rp K O st d v) (f : flat d = true) : flatV v = true := by
  cases d with
  | non => unfold Rp at h; subst h; rfl
  | bl _ => unfold Rp at h; subst h; rfl
  | int _ => unfold Rp at h; subst h; rfl
  | str _ => unfold Rp at h; obtain ⟨h, _⟩ := h; subst h; rfl
  | _ => cases f
theorem flats_of {K : W.Frag} {O : Om} {st : Sto} : ∀ {ds : List D} {vs : List V}, RpL K O st ds vs → ds.all flat = true → vs.all flatV = true
  | [], _, h, _ => by unfold RpL at h; subst h; rfl
  | _ :: _, _, h, f => by
    unfold RpL at h
    obtain ⟨v, r, rfl, h1, h2⟩ := h
    rw [List.all_cons] at f ⊢
    obtain ⟨f1, f2⟩ := Bool.and_eq_true_iff.mp f
    exact Bool.and_eq_true_iff.mpr ⟨flat_of h1 f1, flats_of h2 f2⟩
theorem eqF_of {K : W.Frag} {O : Om} {st : Sto} {d c : D} {v u : V} (h : Rp K O st d v) (h' : Rp K O st c u) (f : flat d = true) (f' : flat c = true) : eqV v u = eqF d c := by
  cases d <;> cases f <;> cases c <;> cases f' <;> unfold Rp at h h' <;> first
    | (subst h h'; rfl)
    | (obtain ⟨h, _⟩ := h; subst h h'; rfl)
    | (obtain ⟨h', _⟩ := h'; subst h h'; rfl)
    | (obtain ⟨h, _⟩ := h; obtain ⟨h', _⟩ := h'; subst h h'; rfl)
theorem inV_of {K : W.Frag} {O : Om} {st : Sto} {c : D} {u : V} (h' : Rp K O st c u) (f' : flat c = true) : ∀ {ds : List D} {vs : List V}, RpL K O st ds vs → ds.all flat = true → inV u vs = ds.any fun z => eqF z c
  | [], _, h, _ => by unfold RpL at h; subst h; rfl
  | _ :: _, _, h, f => by
    unfold RpL at h
    obtain ⟨v, r, rfl, h1, h2⟩ := h
    rw [List.all_cons] at f
    obtain ⟨f1, f2⟩ := Bool.and_eq_true_iff.mp f
    have ih := inV_of h' f' h2 f2
    unfold inV at ih ⊢
    rw [List.any_cons, List.any_cons, ih, eqF_of h1 h' f1 f']
theorem intOf_of {d : D} {x : Int} (h : intOf d = some x) : d = .int x := by
  cases d <;> first | (cases h; rfl) | cases h
theorem txtOf_of {d : D} {x : Str} (h : txtOf d = some x) : d = .str x := by
  cases d <;> first | (cases h; rfl) | cases h
theorem bnd_bnd {α β γ : Type} (m : M α) (f : α → M β) (g : β → M γ) : bnd (bnd m f) g = bnd m fun a => bnd (f a) g := by
  funext s
  unfold bnd R.bind
  cases m s <;> rfl
theorem isIn_ok (neg : Bool) : OpR X (compareOp (if neg then .NotIn else .In)) (rx2B X.K lo (fun x y => bnd (isIn x y) fun b => ret (if neg then !b else b))) := by
  rintro pins s σ H x y v u Q I rx ry ⟨B, O, st, dx, dy, e, rfl, hB, h1, h2, sr, p⟩
  have p : Post X.K (bnd (isIn dx dy) (fun b => ret (if neg then !b else b)) st) B O st (fun b _ O' => Q (.bl b) O'.H) e := p
  unfold isIn at p
  split at p
  · rename_i a b ea eb
    rw [txtOf_of ea] at h1
    rw [txtOf_of eb] at h2
    unfold Rp at h1 h2
    obtain ⟨h1, _⟩ := h1
    obtain ⟨h2, _⟩ := h2
    subst h1 h2
    have p' := Post.rt p sr
    cases neg with
    | false => exact op_in_str pins s σ _ _ _ _ _ Q I rx ry ⟨_, _, rfl, rfl, p'⟩
    | true => exact L2.op_notin_str pins s σ _ _ _ _ _ Q I rx ry ⟨_, _, rfl, rfl, p'⟩
  · rw [bnd_bnd] at p
    obtain ⟨xs, a, vs, rfl, k1, r1, p3⟩ := Post.items h2 sr p
    obtain ⟨c, p3⟩ := Post.ckb p3
    obtain ⟨c1, c2⟩ := Bool.and_eq_true_iff.mp c
    have p4 := Post.rt p3 sr
    cases neg with
    | false => exact op_in_seq pins s σ _ _ _ _ _ Q I rx ry ⟨a, vs, rfl, k1, flat_of h1 c1, flats_of r1 c2, by rw [inV_of h1 c1 r1 c2]; exact p4⟩
    | true => exact op_notIn_seq pins s σ _ _ _ _ _ Q I rx ry ⟨a, vs, rfl, k1, flat_of h1 c1, flats_of r1 c2, by rw [inV_of h1 c1 r1 c2]; exact p4⟩
theorem eq_ok (hu : X.A.units + 64 < cLine) (neg : Bool) : OpR X (compareOp (if neg then .NotEq else .Eq)) (rx2B X.K lo (fun x y => bnd (eqB x y) fun b => ret (if neg then !b else b))) := by
  rintro pins s σ H x y v u Q I rx ry ⟨B, O, st, dx, dy, e, rfl, hB, h1, h2, sr, p⟩
  have p1 : Post X.K (bnd (eqB dx dy) (fun b => ret (if neg then !b else b)) st) B O st (fun b _ O' => Q (.bl b) O'.H) e := p
  unfold eqB at p1
  split at p1
  · rename_i a b ea eb
    rw [txtOf_of ea] at h1
    rw [txtOf_of eb] at h2
    unfold Rp at h1 h2
    obtain ⟨rfl, _⟩ := h1
    obtain ⟨rfl, _⟩ := h2
    have p4 := Post.rt p1 sr
    cases neg with
    | false => exact op_eq pins s σ _ _ _ _ _ Q I rx ry ⟨rfl, by rw [dec_str]; exact p4⟩
    | true => exact op_ne pins s σ _ _ _ _ _ Q I rx ry ⟨rfl, by rw [dec_str]; exact p4⟩
  · rw [bnd_bnd] at p1
    obtain ⟨a, _, d1, p1⟩ := Post.data h1 sr p1
    rw [bnd_bnd] at p1
    obtain ⟨b, _, d2, p1⟩ := Post.data h2 sr p1
    obtain ⟨c, p1⟩ := Post.ckb p1
    obtain ⟨c1, c2⟩ := Bool.and_eq_true_iff.mp c
    have p4 := Post.rt p1 sr
    cases neg with
    | false => exact op_eqD hu pins s σ _ _ _ _ _ Q I rx ry ⟨a, b, d1 (SeqAt.canLay_of_shaped c1), d2 (SeqAt.canLay_of_shaped c2), c1, c2, p4⟩
    | true => exact op_neD hu pins s σ _ _ _ _ _ Q I rx ry ⟨a, b, d1 (SeqAt.canLay_of_shaped c1), d2 (SeqAt.canLay_of_shaped c2), c1, c2, p4⟩
theorem bnd_ret {α : Type} (m : M α) : (bnd m fun b => ret b) = m := by
  funext s
  unfold bnd R.bind ret
  cases m s <;> rfl
theorem ord_ok (op : CmpOp) (fi : Int → Int → Bool) (fs : Str → Str → Option Bool) (hi : OpR X (compareOp op) (rI0 fun i j => .bl (fi i j)))
    (hs : ∀ (pins : List (Addr × Obj)) (s : Shared) (σ : St) (H : Hp) (a b : Str) (v u : Value) (Q : VK) (k : Bool), L2.Inv X pins σ H s → RelV (.str a) v → RelV (.str b) u → fs a b = some k → Q (.bl k) H →
      wpAny (model X.prog X.w) X.A (compareOp op v u) (EP X pins σ Q) X.xe s) : OpR X (compareOp op) (rx2B X.K lo (ordB fi fs)) := by
  rintro pins s σ H x y v u Q I rx ry ⟨B, O, st, dx, dy, e, rfl, hB, h1, h2, sr, p⟩
  unfold ordB at p
  cases ei : intOf dx with
  | some i =>
    cases ej : intOf dy with
    | some j =>
      rw [ei, ej] at p
      rw [intOf_of ei] at h1
      rw [intOf_of ej] at h2
      unfold Rp at h1 h2
      subst h1 h2
      exact hi pins s σ _ _ _ _ _ Q I rx ry ⟨_, _, rfl, rfl, Post.rt p sr⟩
    | none =>
      rw [ei, ej, intOf_of ei] at p
      exact False.elim p
  | none =>
    rw [ei] at p
    cases ti : txtOf dx with
    | none =>
      rw [ti] at p
      exact False.elim p
    | some a =>
      cases tj : txtOf dy with
      | none =>
        rw [ti, tj] at p
        exact False.elim p
      | some b =>
        rw [ti, tj] at p
        rw [txtOf_of ti] at h1
        rw [txtOf_of tj] at h2
        unfold Rp at h1 h2
        obtain ⟨h1, _⟩ := h1
        obtain ⟨h2, _⟩ := h2
        subst h1 h2
        obtain ⟨k, ek, q⟩ := Post.of' p sr
        exact hs pins s σ _ _ _ _ _ Q k I rx ry ek q
theorem cmp_ok (hu : X.A.units + 64 < cLine) (op : CmpOp) : OpR X (compareOp op) (rx2B X.K lo (cmpB op)) := by
  have hEq : OpR X (compareOp .Eq) (rx2B X.K lo (cmpB .Eq)) := by
    have h := eq_ok (X := X) (lo := lo) hu false
    have e : (fun x y => bnd (eqB x y) fun b => ret (if false = true then !b else b)) = cmpB .Eq := by
      funext x y
      show (bnd (eqB x y) fun b => ret b) = eqB x y
      exact bnd_ret _
    rw [e] at h
    exact h
  have hNe : OpR X (compareOp .NotEq) (rx2B X.K lo (cmpB .NotEq)) := eq_ok (X := X) (lo := lo) hu true
  have hIn : OpR X (compareOp .In) (rx2B X.K lo (cmpB .In)) := by
    have h := isIn_ok (X := X) (lo := lo) false
    have e : (fun x y => bnd (isIn x y) fun b => ret (if false = true then !b else b)) = cmpB .In := by
      funext x y
      show (bnd (isIn x y) fun b => ret b) = isIn x y
      exact bnd_ret _
    rw [e] at h
    exact h
  have hNi : OpR X (compareOp .NotIn) (rx2B X.K lo (cmpB .NotIn)) := isIn_ok (X := X) (lo := lo) true
  cases op with
  | Eq => exact hEq
  | NotEq => exact hNe
  | In => exact hIn
  | NotIn => exact hNi
  | Is =>
    rintro pins s σ H x y v u Q I rx ry ⟨B, O, st, dx, dy, e, rfl, hB, h1, h2, sr, p⟩
    exact False.elim p
  | IsNot =>
    rintro pins s σ H x y v u Q I rx ry ⟨B, O, st, dx, dy, e, rfl, hB, h1, h2, sr, p⟩
    exact False.elim p
  | Lt => exact ord_ok _ _ _ op_lt fun pins s σ H a b v u Q k I rx ry e q => op_lt_str pins s σ H _ _ v u Q I rx ry ⟨_, _, rfl, rfl, by cases e; exact q⟩
  | LtE => exact ord_ok _ _ _ op_le fun pins s σ H a b v u Q k I rx ry e q => op_le_str pins s σ H _ _ v u Q I rx ry ⟨_, _, rfl, rfl, by cases e; exact q⟩
  | Gt => exact ord_ok _ _ _ op_gt fun pins s σ H a b v u Q k I rx ry e q => by cases e
  | GtE => exact ord_ok _ _ _ op_ge fun pins s σ H a b v u Q k I rx ry e q => by cases e
/-! ### subscripts, slices, truth -/
theorem atI_rel {K : W.Frag} {O : Om} {st : Sto} {ds : List D} {vs : List V} {i : Int} {d : D} (r : RpL K O st ds vs) (h : L2.atI ds i = some d) : ∃ v, L2.atI vs i = some v ∧ Rp K O st d v := by
  unfold L2.atI at h ⊢
  rw [← r.length]
  obtain ⟨j, e1, e2⟩ := Option.bind_eq_some_iff.mp h
  obtain ⟨v, e3, q⟩ := r.get e2
  exact ⟨v, by rw [e1]; exact e3, q⟩
theorem sub_ok : IxR X (rx2 X.K lo subV) := by
  rintro value slice pins s σ H x y v u Q I rx ry ⟨B, O, st, dx, dy, e, rfl, hB, h1, h2, sr, p⟩ hs
  unfold subV at p
  split at p
  · unfold Rp at h1 h2
    obtain ⟨h1, hl⟩ := h1
    subst h1 h2
    obtain ⟨d, e1, q⟩ := Post.of' p sr
    obtain ⟨c, e2, rfl⟩ := Option.map_eq_some_iff.mp e1
    exact ix_str value slice pins s σ _ _ _ _ _ Q I rx ry ⟨_, _, c, rfl, rfl, hl, e2, q _ (by unfold Rp; exact ⟨rfl, by show 1 ≤ sizeLine; decide⟩)⟩ hs
  · obtain ⟨xs, a, vs, rfl, k1, r1, p⟩ := Post.items h1 sr p
    unfold Rp at h2
    subst h2
    obtain ⟨d, e1, q⟩ := Post.of' p sr
    obtain ⟨w, e2, hw⟩ := atI_rel r1 e1
    rcases k1 with k1 | k1
    · exact ix_list value slice pins s σ _ _ _ _ _ Q I rx ry ⟨a, vs, _, w, rfl, rfl, k1, e2, q w hw⟩ hs
    · exact ix_tup value slice pins s σ _ _ _ _ _ Q I rx ry ⟨a, vs, _, w, rfl, rfl, k1, e2, q w hw⟩ hs
  · exact False.elim p
theorem cut_rel {K : W.Frag} {O : Om} {st : Sto} {ds : List D} {vs : List V} (lo hi : Option Int) (r : RpL K O st ds vs) : RpL K O st (cutD ds lo hi) (L2.cutV vs lo hi) := by
  unfold cutD L2.cutV
  rw [r.length]
  exact (r.drop _).take _
def rx1s (K : W.Frag) (lo : Nat) (f : D → Option Int → Option Int → M D) : V → Option Int → Option Int → Hp → VK → Prop := fun x l h H Q => ∃ (B : List Nat) (O : Om) (st : Sto) (dx : D) (e : D → Sto → Om → Prop), O.H = H ∧ (∀ b ∈ B, b ≤ lo) ∧ Rp K O st dx x ∧ SR K B O st ∧
  Post K (f dx l h st) B O st (QV K Q) e
theorem cutS_len (z : Str) (l h : Option Int) : (L2.cutS z l h).length ≤ z.length := by
  unfold L2.cutS Str.length
  simp
  omega
theorem slc_ok : SlR X (rx1s X.K lo slcV) := by
  rintro pins s σ H x v vl vu l u sl Q I rx a1 a2 a3 ⟨B, O, st, dx, e, rfl, hB, h1, sr, p⟩
  unfold slcV at p
  split at p
  · unfold Rp at h1
    obtain ⟨h1, hl⟩ := h1
    subst h1
    exact sl_str pins s σ _ _ v vl vu l u sl Q I rx a1 a2 a3 ⟨_, rfl, hl, p.rt sr _ (by unfold Rp; exact ⟨rfl, Nat.le_trans (cutS_len _ _ _) hl⟩)⟩
  · unfold Rp at h1
    obtain ⟨a, rfl, t⟩ := h1
    exact sl_list pins s σ _ _ v vl vu l u sl Q I rx a1 a2 a3 ⟨a, _, rfl, t.sq, Post.newL sr (cut_rel l u (rp_ints _)) p⟩
  · obtain ⟨xs, a, vs, rfl, k1, r1, p⟩ := Post.list h1 sr p
    exact sl_list pins s σ _ _ v vl vu l u sl Q I rx a1 a2 a3 ⟨a, _, rfl, SqL.of k1, Post.newL sr (cut_rel l u r1) p⟩
theorem truth_ok {K : W.Frag} {B : List Nat} {O : Om} {st : Sto} {d : D} {v : V} {β : Type} {f : Bool → M β} {q : β → Sto → Om → Prop} {e : D → Sto → Om → Prop} (h : Rp K O st d v) (sr : SR K B O st) (p : Post K (bnd (truth d) f st) B O st q e) :
    ∃ k, TruV K v O.H k ∧ Post K (f k st) B O st q e := by
  have emp : ∀ {ds : List D} {vs : List V}, RpL K O st ds vs → (!ds.isEmpty) = !vs.isEmpty := fun {ds vs} r => by
    have := r.length
    cases ds <;> cases vs <;> first | rfl | (simp at this)
  have emk : ∀ {ds : List D} {kvs : List (Key × V)}, RpL K O st ds (kvs.map fun p => kV p.1) → (!ds.isEmpty) = !kvs.isEmpty := fun {ds vs} r => by
    have := r.length
    cases ds <;> cases vs <;> first | rfl | (simp at this)
  cases d with
  | non => unfold Rp at h; subst h; exact ⟨_, rfl, p⟩
  | bl b => unfold Rp at h; subst h; exact ⟨_, rfl, p⟩
  | int b => unfold Rp at h; subst h; exact ⟨_, rfl, p⟩
  | str b =>
    unfold Rp at h
    obtain ⟨h, hl⟩ := h
    subst h
    refine ⟨_, ⟨hl, rfl⟩, ?_⟩
    have e : ((b.length : Int) != 0) = (b.length != 0) := by
      cases hb : b.length <;> rfl
    rw [e]
    exact p
  | tup b =>
    unfold Rp at h
    obtain ⟨a, vs, rfl, t, r⟩ := h
    exact ⟨!b.isEmpty, .inr (.inl ⟨vs, t.sq, emp r⟩), p⟩
  | lst b =>
    unfold Rp at h
    obtain ⟨a, vs, rfl, _, t, r⟩ := h
    exact ⟨!b.isEmpty, .inl ⟨vs, SqL.of t, emp r⟩, p⟩
  | dct b c =>
    unfold Rp at h
    obtain ⟨a, vs, rfl, _, t, r, _⟩ := h
    exact ⟨!b.isEmpty, .inr (.inr ⟨vs, t, emk r⟩), p⟩
  | m k =>
    unfold truth at p
    rw [bnd_bnd] at p
    obtain ⟨c, g, p⟩ := Post.get p
    unfold Rp at h
    cases c with
    | lst xs =>
      obtain ⟨vs, e1, r⟩ := sr.cel k _ g
      rw [h.2 ⟨_, g, by intro z; cases z⟩]
      exact ⟨_, .inl ⟨vs, SqL.of e1, emp r⟩, p⟩
    | dct xs ys =>
      obtain ⟨vs, e1, r, _⟩ := sr.cel k _ g
      rw [h.2 ⟨_, g, by intro z; cases z⟩]
      exact ⟨_, .inr (.inr ⟨vs, e1, emk r⟩), p⟩
    | gone => exact False.elim p
    | ins a b c => exact False.elim p
  | ins a b c => exact False.elim p
  | scr n => exact False.elim p
  | fn x => exact False.elim p
  | ty x => exact False.elim p
end
end Lf
end
section
set_option maxHeartbeats 4000000
/-! Built-in functions and methods over value trees. -/
namespace Lf
open PySem L2

/-! ### what the heap holds of a value -/
theorem pyL_length {rec : Nat → Option PyData} : ∀ {ds : List D} {ps : List PyData}, pyWL rec ds = some ps → ds.length = ps.length
  | [], _, e => by
    unfold pyWL at e
    cases e
    rfl
  | _ :: _, _, e => by
    unfold pyWL at e
    split at e
    · rename_i a b ea eb
      cases e
      rw [List.length_cons, List.length_cons, pyL_length eb]
    · cases e
section
variable {X : Cx} {pins : List (Addr × Obj)} {σ : St} {s : Shared} {B : List Nat} {O : Om} {st : Sto}
/-- the system's own table stands in the written part -/
def SysK (K : W.Frag) : Prop := ∃ o es n, K.lookup sysModules = some o ∧ o.data = .dict es n ∧ o.cls = .type "dict"
theorem not_sys (I : L2.Inv X pins σ O.H s) (hs : SysK X.K) {a : Addr} {o : Obj} (h : s.heap.get? a = some o) (hc : o.cls = .type "list") : a ≠ sysModules := by
  rintro rfl
  obtain ⟨o', es, n, hk, hd, hc'⟩ := hs
  have e := I.kIn _ _ hk
  rw [h] at e
  cases e
  rw [hc] at hc'
  have hc' := Value.type.inj hc'
  exact absurd hc' (by decide)
theorem dict_vals {w : World} {P : Program} : ∀ {kvs : List (Key × V)} {vs : List (Key × Value)} {es : List DictEntry}, KV kvs vs → Pairs (mixKind P w) es vs →
    Vals (kvs.map fun p => kV p.1) (es.map fun e => e.key) ∧ Vals (kvs.map fun p => p.2) (es.map fun e => e.val)
  | [], _, _, .nil, h => by
    cases h
    exact ⟨.nil, .nil⟩
  | (k, v) :: r, _, _, .cons h t, q => by
    cases q with
    | cons q1 q2 q3 =>
      obtain ⟨h1, h2⟩ := dict_vals t q3
      obtain ⟨e1, e2⟩ := h
      refine ⟨.cons ?_ h1, .cons (by show RelV v _; dsimp only; rw [q2]; exact e2) h2⟩
      have e1 : k = _ := e1
      have q1 : keyIs _ _ = true := q1
      rw [← e1] at q1
      show RelV (kV k) _
      dsimp only
      rcases keyIs_shape q1 with ⟨i, t, e3, e⟩ | ⟨x, t, e3, e⟩
      · rw [e, e3]
        exact ⟨t, rfl⟩
      · rw [e, e3]
        exact ⟨t, rfl⟩
mutual
theorem reads_of (I : L2.Inv X pins σ O.H s) (hs : SysK X.K) {rec : Nat → Option PyData} (hr : ∀ k p v u, rec k = some p → k < st.length → (Live st k → v = .ref (O.mu k)) → RelV v u → ∃ as, Reads s.heap u p as ∧ sysModules ∉ as) :
    ∀ {d : D} {v : V} {u : Value} {p : PyData}, Rp X.K O st d v → D.pyW rec d = some p → RelV v u → ∃ as, Reads s.heap u p as ∧ sysModules ∉ as
  | .non, _, _, _, h, e, r => by
    unfold Rp at h
    unfold D.pyW at e
    cases e
    subst h
    cases r
    exact ⟨[], .none, by simp⟩
  | .bl b, _, _, _, h, e, r => by
    unfold Rp at h
    unfold D.pyW at e
    cases e
    subst h
    cases r
    exact ⟨[], .bool b, by simp⟩
  | .int b, _, _, _, h, e, r => by
    unfold Rp at h
    unfold D.pyW at e
    cases e
    subst h
    obtain ⟨t, rfl⟩ := r
    exact ⟨[], .int b t, by simp⟩
  | .str b, _, _, _, h, e, r => by
    unfold Rp at h
    unfold D.pyW at e
    cases e
    obtain ⟨h, _⟩ := h
    subst h
    obtain ⟨t, rfl⟩ := r
    exact ⟨[], .str b t, by simp⟩
  | .tup xs, _, _, _, h, e, r => by
    unfold Rp at h
    unfold D.pyW at e
    obtain ⟨a, vs, rfl, t, q⟩ := h
    obtain ⟨ps, e1, rfl⟩ := Option.map_eq_some_iff.mp e
    cases r
    obtain ⟨its, rv, ⟨o, ho, hc, n, hd⟩, _⟩ := I.tuple t.sq
    obtain ⟨as, h1, h2⟩ := readsL_of I hs hr q e1 rv
    exact ⟨as, Reads.tuple ho hc hd h1, h2⟩
  | .lst xs, _, _, _, h, e, r => by
    unfold Rp at h
    unfold D.pyW at e
    obtain ⟨a, vs, rfl, _, t, q⟩ := h
    obtain ⟨ps, e1, rfl⟩ := Option.map_eq_some_iff.mp e
    cases r
    obtain ⟨its, rv, ⟨o, n, ho, hc, _, hd⟩, _⟩ := I.list (SqL.of t)
    obtain ⟨as, h1, h2⟩ := readsL_of I hs hr q e1 rv
    exact ⟨a :: as, Reads.list ho hc hd h1, fun z => (List.mem_cons.mp z).elim (fun z => not_sys I hs ho hc z.symm) h2⟩
  | .dct ks vs, _, _, _, h, e, r => by
    unfold Rp at h
    unfold D.pyW at e
    split at e
    · rename_i pa pb ea eb
      obtain ⟨a, kvs, rfl, _, t, q1, q2⟩ := h
      cases e
      cases r
      obtain ⟨_, hsys, zs, kv, o, es, ep, ho, hx, hd, _, hp, _⟩ := I.hok a _ t
      obtain ⟨r1, r2⟩ := dict_vals kv hp
      obtain ⟨as, h1, h2⟩ := readsL_of I hs hr q1 ea r1
      obtain ⟨bs, h3, h4⟩ := readsL_of I hs hr q2 eb r2
      have el : pa.length = pb.length := by
        rw [← pyL_length ea, ← pyL_length eb, q1.length, q2.length, List.length_map, List.length_map]
      refine ⟨a :: as ++ bs, Reads.dict ho hx.1 hd ?_ ?_, ?_⟩
      · rw [List.map_fst_zip (Nat.le_of_eq el)]
        exact h1
      · rw [List.map_snd_zip (Nat.le_of_eq el.symm)]
        exact h3
      · intro z
        rcases List.mem_append.mp z with z | z
        · rcases List.mem_cons.mp z with z | z
          · rw [← z] at hsys
            simp at hsys
          · exact h2 z
        · exact h4 z
    · cases e
  | .m k, v, u, p, h, e, r => by
    unfold Rp at h
    unfold D.pyW at e
    exact hr k p v u e h.1 h.2 r
  | .ins _ _ _, _, _, _, _, e, _ => by unfold D.pyW at e; cases e
  | .scr _, _, _, _, _, e, _ => by unfold D.pyW at e; cases e
  | .fn _, _, _, _, _, e, _ => by unfold D.pyW at e; cases e
  | .ty _, _, _, _, _, e, _ => by unfold D.pyW at e; cases e
theorem readsL_of (I : L2.Inv X pins σ O.H s) (hs : SysK X.K) {rec : Nat → Option PyData} (hr : ∀ k p v u, rec k = some p → k < st.length → (Live st k → v = .ref (O.mu k)) → RelV v u → ∃ as, Reads s.heap u p as ∧ sysModules ∉ as) :
    ∀ {ds : List D} {vs : List V} {us : List Value} {ps : List PyData}, RpL X.K O st ds vs → pyWL rec ds = some ps → Vals vs us → ∃ as, ReadsAll s.heap us ps as ∧ sysModules ∉ as
  | [], _, _, _, h, e, r => by
    unfold RpL at h
    unfold pyWL at e
    cases e
    subst h
    cases r
    exact ⟨[], .nil, by simp⟩
  | _ :: _, _, _, _, h, e, r => by
    unfold RpL at h
    unfold pyWL at e
    obtain ⟨v, w, rfl, h1, h2⟩ := h
    split at e
    · rename_i a b ea eb
      cases e
      cases r with
      | cons r1 r2 =>
        obtain ⟨as, q1, q2⟩ := reads_of I hs hr h1 ea r1
        obtain ⟨bs, q3, q4⟩ := readsL_of I hs hr h2 eb r2
        exact ⟨as ++ bs, .cons q1 q3, fun z => (List.mem_append.mp z).elim q2 q4⟩
    · cases e
end
theorem readsC_of (I : L2.Inv X pins σ O.H s) (hs : SysK X.K) (sr : SR X.K B O st) : ∀ (n k : Nat) (p : PyData) (v : V) (u : Value), pyC st n k = some p → k < st.length → (Live st k → v = .ref (O.mu k)) → RelV v u → ∃ as, Reads s.heap u p as ∧ sysModules ∉ as
  | 0, _, _, _, _, e, _, _, _ => by unfold pyC at e; cases e
  | n + 1, k, p, v, u, e, hk, hv, r => by
    unfold pyC at e
    split at e
    · rename_i xs g
      obtain ⟨ps, e1, rfl⟩ := Option.map_eq_some_iff.mp e
      obtain ⟨vs, e2, q⟩ := sr.cel k _ g
      rw [hv ⟨_, g, by intro z; cases z⟩] at r
      cases r
      obtain ⟨its, rv, ⟨o, m, ho, hc, _, hd⟩, _⟩ := I.list (SqL.of e2)
      obtain ⟨as, h1, h2⟩ := readsL_of I hs (readsC_of I hs sr n) q e1 rv
      exact ⟨_ :: as, Reads.list ho hc hd h1, fun z => (List.mem_cons.mp z).elim (fun z => not_sys I hs ho hc z.symm) h2⟩
    · rename_i ks vs g
      split at e
      · rename_i pa pb ea eb
        cases e
        obtain ⟨kvs, t, q1, q2⟩ := sr.cel k _ g
        rw [hv ⟨_, g, by intro z; cases z⟩] at r
        cases r
        obtain ⟨_, hsys, zs, kv, o, es, ep, ho, hx, hd, _, hp, _⟩ := I.hok _ _ t
        obtain ⟨r1, r2⟩ := dict_vals kv hp
        obtain ⟨as, h1, h2⟩ := readsL_of I hs (readsC_of I hs sr n) q1 ea r1
        obtain ⟨bs, h3, h4⟩ := readsL_of I hs (readsC_of I hs sr n) q2 eb r2
        have el : pa.length = pb.length := by
          have a1 := pyL_length ea
          have a2 := pyL_length eb
          have a3 := q1.length
          have a4 := q2.length
          rw [List.length_map] at a3 a4
          omega
        refine ⟨O.mu k :: as ++ bs, Reads.dict ho hx.1 hd ?_ ?_, ?_⟩
        · rw [List.map_fst_zip (Nat.le_of_eq el)]
          exact h1
        · rw [List.map_snd_zip (Nat.le_of_eq el.symm)]
          exact h3
        · intro z
          rcases List.mem_append.mp z with z | z
          · rcases List.mem_cons.mp z with z | z
            · rw [← z] at hsys
              simp at hsys
            · exact h2 z
          · exact h4 z
      · cases e
    · cases e
end

/-! ### functions by name -/
def Bi.val : Bi → Value
  | .len => .builtin "len" | .abs => .builtin "abs" | .int => .type "int" | .min => .builtin "min" | .all => .builtin "all" | .repr => .builtin "repr" | .list => .type "list"
section
variable {X : Cx} {lo : Nat}
def rxA (K : W.Frag) (lo : Nat) (f : List D → M D) : List V → Hp → VK → Prop := fun vs H Q => ∃ (B : List Nat) (O : Om) (st : Sto) (ds : List D) (e : D → Sto → Om → Prop), O.H = H ∧ (∀ b ∈ B, b ≤ lo) ∧ RpL K O st ds vs ∧ SR K B O st ∧
  Post K (f ds st) B O st (QV K Q) e
theorem rpl1 {K : W.Frag} {O : Om} {st : Sto} {d : D} {vs : List V} (h : RpL K O st [d] vs) : ∃ v, vs = [v] ∧ Rp K O st d v := by
  unfold RpL at h
  obtain ⟨v, r, rfl, h1, h2⟩ := h
  unfold RpL at h2
  subst h2
  exact ⟨v, rfl, h1⟩
theorem rpl2 {K : W.Frag} {O : Om} {st : Sto} {d c : D} {vs : List V} (h : RpL K O st [d, c] vs) : ∃ v u, vs = [v, u] ∧ Rp K O st d v ∧ Rp K O st c u := by
  unfold RpL at h
  obtain ⟨v, r, rfl, h1, h2⟩ := h
  obtain ⟨u, rfl, h3⟩ := rpl1 h2
  exact ⟨v, u, rfl, h1, h3⟩
theorem bools_of {K : W.Frag} {O : Om} {st : Sto} : ∀ {ds : List D} {vs : List V} {bs : List Bool}, RpL K O st ds vs → bools ds = some bs → vs = bs.map V.bl
  | [], _, _, h, e => by
    unfold RpL at h
    unfold bools at e
    cases e
    exact h
  | d :: ds, _, _, h, e => by
    unfold RpL at h
    obtain ⟨v, r, rfl, h1, h2⟩ := h
    cases d with
    | bl b =>
      unfold bools at e
      obtain ⟨cs, e1, rfl⟩ := Option.map_eq_some_iff.mp e
      rw [bools_of h2 e1]
      unfold Rp at h1
      rw [h1]
      rfl
    | _ => cases e
theorem txts_of {K : W.Frag} {O : Om} {st : Sto} : ∀ {ds : List D} {vs : List V} {bs : List Str}, RpL K O st ds vs → txts ds = some bs → vs = bs.map V.str
  | [], _, _, h, e => by
    unfold RpL at h
    unfold txts at e
    cases e
    exact h
  | d :: ds, _, _, h, e => by
    unfold RpL at h
    obtain ⟨v, r, rfl, h1, h2⟩ := h
    cases d with
    | str b =>
      unfold txts at e
      obtain ⟨cs, e1, rfl⟩ := Option.map_eq_some_iff.mp e
      rw [txts_of h2 e1]
      unfold Rp at h1
      rw [h1.1]
      rfl
    | _ => cases e
def rx1 (K : W.Frag) (lo : Nat) (f : D → M D) (v : V) : Hp → VK → Prop := fun H Q => ∃ (B : List Nat) (O : Om) (st : Sto) (d : D) (e : D → Sto → Om → Prop), O.H = H ∧ (∀ b ∈ B, b ≤ lo) ∧ Rp K O st d v ∧ SR K B O st ∧
  Post K (f d st) B O st (QV K Q) e
theorem one_ok {f : D → M D} {F : Value} (h : CallR X F (fun vs H Q => ∃ v, vs = [v] ∧ rx1 X.K lo f v H Q)) : CallR X F (rxA X.K lo (one f)) := by
  intro pins s σ H xs us Q I rv hq
  obtain ⟨B, O, st, ds, e, rfl, hB, hr, sr, p⟩ := hq
  match ds, hr, p with
  | [d], hr, p =>
    obtain ⟨v, rfl, h1⟩ := rpl1 hr
    exact h pins s σ _ _ us Q I rv ⟨v, rfl, B, O, st, d, e, rfl, hB, h1, sr, p⟩
  | [], _, p => exact False.elim p
  | _ :: _ :: _, _, p => exact False.elim p
theorem two_ok {f : D → D → M D} {F : Value} (h : CallR X F (fun vs H Q => ∃ v u, vs = [v, u] ∧ rx2 X.K lo f v u H Q)) : CallR X F (rxA X.K lo (two f)) := by
  intro pins s σ H xs us Q I rv hq
  obtain ⟨B, O, st, ds, e, rfl, hB, hr, sr, p⟩ := hq
  match ds, hr, p with
  | [d, c], hr, p =>
    obtain ⟨v, u, rfl, h1, h2⟩ := rpl2 hr
    exact h pins s σ _ _ us Q I rv ⟨v, u, rfl, B, O, st, d, c, e, rfl, hB, h1, h2, sr, p⟩
  | [], _, p => exact False.elim p
  | [_], _, p => exact False.elim p
  | _ :: _ :: _ :: _, _, p => exact False.elim p
theorem Post.onI {K : W.Frag} {B : List Nat} {O : Om} {st : Sto} {d : D} {v : V} {f : Int → M D} {q : D → Sto → Om → Prop} {e : D → Sto → Om → Prop} (h : Rp K O st d v) (p : Post K (onInt d f st) B O st q e) : ∃ i, v = .int i ∧ Post K (f i st) B O st q e := by
  unfold onInt at p
  cases ei : intOf d with
  | none =>
    rw [ei] at p
    exact False.elim p
  | some i =>
    rw [ei] at p
    rw [intOf_of ei] at h
    unfold Rp at h
    exact ⟨i, h, p⟩
theorem len_ok : CallR X (.builtin "len") (rxA X.K lo (one lenV)) := by
  refine one_ok ?_
  intro pins s σ H xs us Q I rv hq
  obtain ⟨v, rfl, B, O, st, d, e, rfl, hB, h1, sr, p⟩ := hq
  unfold lenV at p
  split at p
  · unfold Rp at h1
    obtain ⟨rfl, hl⟩ := h1
    exact call_len_str pins s σ _ _ _ Q I rv ⟨_, rfl, hl, p.rt sr _ (by unfold Rp; rfl)⟩
  · unfold Rp at h1
    obtain ⟨a, kvs, rfl, _, t, r, _⟩ := h1
    have el := r.length
    rw [List.length_map] at el
    exact call_lenD pins s σ _ _ _ Q I rv ⟨a, kvs, rfl, t, p.rt sr _ (by unfold Rp; rw [el])⟩
  · obtain ⟨xs, a, vs, rfl, k1, r1, p⟩ := Post.items h1 sr p
    exact call_len_seq pins s σ _ _ _ Q I rv ⟨a, vs, rfl, k1, p.rt sr _ (by unfold Rp; rw [r1.length])⟩
theorem repr_ok (hg : X.A.guards = some []) (hu : X.A.units + 80 < cLine) (hs : SysK X.K) : CallR X (.builtin "repr") (rxA X.K lo (one reprV)) := by
  refine one_ok ?_
  intro pins s σ H xs us Q I rv hq
  obtain ⟨v, rfl, B, O, st, d, e, rfl, hB, h1, sr, p⟩ := hq
  obtain ⟨u, rfl, ru⟩ := vals1 rv
  unfold reprV at p
  obtain ⟨x, e1, _, p⟩ := Post.data h1 sr p
  obtain ⟨c, p⟩ := p.ck
  obtain ⟨c, c3⟩ := Bool.and_eq_true_iff.mp c
  obtain ⟨c1, c2⟩ := Bool.and_eq_true_iff.mp c
  have c2 := of_decide_eq_true c2
  have c3 := of_decide_eq_true c3
  obtain ⟨as, rd, ns⟩ := reads_of I hs (readsC_of I hs sr 20) h1 e1 ru
  have fin : Q (.str x.shown) O.H := p.rt sr _ (by unfold Rp; exact ⟨rfl, c3⟩)
  have big : ∀ a, u = .ref a → wpAny (model X.prog X.w) X.A (call (.builtin "repr") [u]) (EP X pins σ Q) X.xe s := by
    rintro a rfl
    exact repr_of_reads' (h₀ := s.heap) rd c1 (fun _ => ns) hg (by omega) (fun _ _ z => z) (fun h' u' tk k => ⟨.str _, O.H, I.kept k, ⟨_, rfl⟩, fin⟩) c3
  cases rd with
  | none => exact PySem.P.repr_of_none ⟨.str _, O.H, I.tok _, ⟨_, rfl⟩, fin⟩
  | bool b => exact PySem.P.repr_of_bool ⟨.str _, O.H, I.tok _, ⟨_, rfl⟩, fin⟩
  | int i t =>
    unfold PyData.showable at c1
    exact PySem.P.repr_of_int (of_decide_eq_true c1) ⟨.str _, O.H, I.tok _, ⟨_, rfl⟩, fin⟩
  | str y t => exact PySem.P.repr_of_str ⟨.str _, O.H, I.tok _, ⟨_, rfl⟩, fin⟩ c3
  | list a1 a2 a3 a4 => exact big _ rfl
  | tuple a1 a2 a3 a4 => exact big _ rfl
  | dict a1 a2 a3 a4 a5 => exact big _ rfl
theorem bi_ok (hc : X.calm = true) (hg : X.A.guards = some []) (hu : X.A.units + 80 < cLine) (hs : SysK X.K) (f : Bi) (mu : Bool) : CallR X f.val (rxA X.K lo (biV f mu)) := by
  cases f with
  | len => exact len_ok
  | repr => exact repr_ok hg hu hs
  | abs =>
    refine one_ok ?_
    intro pins s σ H xs us Q I rv hq
    obtain ⟨v, rfl, B, O, st, d, e, rfl, hB, h1, sr, p⟩ := hq
    obtain ⟨i, rfl, p⟩ := Post.onI h1 p
    exact call_abs pins s σ _ _ _ Q I rv ⟨_, rfl, Post.rt p sr _ (by unfold Rp; rfl)⟩
  | int =>
    refine one_ok ?_
    intro pins s σ H xs us Q I rv hq
    obtain ⟨v, rfl, B, O, st, d, e, rfl, hB, h1, sr, p⟩ := hq
    obtain ⟨i, rfl, p⟩ := Post.onI h1 p
    exact call_int1 pins s σ _ _ _ Q I rv (.inl ⟨_, rfl, Post.rt p sr _ (by unfold Rp; rfl)⟩)
  | min =>
    refine two_ok ?_
    intro pins s σ H xs us Q I rv hq
    obtain ⟨v, u, rfl, B, O, st, d, c, e, rfl, hB, h1, h2, sr, p⟩ := hq
    obtain ⟨i, rfl, p⟩ := Post.onI h1 p
    obtain ⟨j, rfl, p⟩ := Post.onI h2 p
    exact call_min2 hc pins s σ _ _ _ Q I rv ⟨_, _, rfl, Post.rt p sr _ (by unfold Rp; rfl)⟩
  | all =>
    refine one_ok ?_
    intro pins s σ H xs us Q I rv hq
    obtain ⟨v, rfl, B, O, st, d, e, rfl, hB, h1, sr, p⟩ := hq
    obtain ⟨xs, a, vs, rfl, k1, r1, p⟩ := Post.list h1 sr p
    obtain ⟨bs, e1, p⟩ := Post.of p
    have e2 := bools_of r1 e1
    subst e2
    exact cr_all hc pins s σ _ _ _ Q I rv ⟨a, bs, rfl, SqL.of k1, Post.rt p sr _ (by unfold Rp; rfl)⟩
  | list =>
    refine one_ok ?_
    intro pins s σ H xs us Q I rv hq
    obtain ⟨v, rfl, B, O, st, d, e, rfl, hB, h1, sr, p⟩ := hq
    obtain ⟨xs, a, vs, rfl, k1, r1, p⟩ := Post.items h1 sr p
    obtain ⟨_, q⟩ := Post.nwL sr r1 p
    exact call_list_of pins s σ _ _ _ Q I rv ⟨a, vs, rfl, k1, q⟩
end

/-! ### classes asked for -/
def Tg.ty : Tg → String
  | .non => "NoneType" | .bool => "bool" | .int => "int" | .str => "str" | .tuple => "tuple" | .list => "list" | .dict => "dict"
def Tn.ty : Tn → String
  | .str => "str" | .int => "int" | .bool => "bool" | .list => "list" | .tuple => "tuple" | .dict => "dict"
theorem kit_tn {K : W.Frag} (a : Tg) (b : Tn) : W.kitOne K (.type a.ty) (.type b.ty) = some (isTn a b) := by
  refine kit_ty ?_
  cases a <;> cases b <;> decide +kernel
theorem kit_any {K : W.Frag} (a : Tg) : ∀ bs : List Tn, W.kitAny K (.type a.ty) (bs.map fun b => .type b.ty) = some (bs.any (isTn a))
  | [] => kitAny_nil
  | b :: bs => by
    rw [List.map_cons, List.any_cons]
    refine kitAny_cons (kit_tn a b) (fun e => ?_) (fun e => ?_)
    · rw [e, Bool.false_or]
      exact kit_any a bs
    · rw [e, Bool.true_or]
theorem tag_ok {K : W.Frag} {B : List Nat} {O : Om} {st : Sto} {d : D} {v : V} {β : Type} {f : Tg → M β} {q : β → Sto → Om → Prop} {e : D → Sto → Om → Prop} (h : Rp K O st d v) (sr : SR K B O st) (p : Post K (bnd (tagOf d) f st) B O st q e) :
    ∃ t, TyX K O.H v (.type (Tg.ty t)) ∧ Post K (f t st) B O st q e := by
  cases d with
  | non => unfold Rp at h; subst h; exact ⟨.non, .base .non, p⟩
  | bl b => unfold Rp at h; subst h; exact ⟨.bool, .base (.bl b), p⟩
  | int b => unfold Rp at h; subst h; exact ⟨.int, .base (.int b), p⟩
  | str b =>
    unfold Rp at h
    obtain ⟨h, _⟩ := h
    subst h
    exact ⟨.str, .base (.str b), p⟩
  | tup b =>
    unfold Rp at h
    obtain ⟨a, vs, rfl, t, r⟩ := h
    refine ⟨.tuple, ?_, p⟩
    rcases t with ⟨_, t | ⟨o, t⟩⟩ | ⟨o, its, n, hk, hc, _⟩
    · exact .base (.tup t)
    · exact .fTuple t
    · exact .kTuple hk hc
  | lst b =>
    unfold Rp at h
    obtain ⟨a, vs, rfl, _, t, r⟩ := h
    exact ⟨.list, .base (.lst t), p⟩
  | dct b c =>
    unfold Rp at h
    obtain ⟨a, vs, rfl, _, t, r, _⟩ := h
    exact ⟨.dict, .base (.dK t), p⟩
  | m k =>
    unfold tagOf at p
    rw [bnd_bnd] at p
    obtain ⟨c, g, p⟩ := Post.get p
    unfold Rp at h
    cases c with
    | lst xs =>
      obtain ⟨vs, e1, r⟩ := sr.cel k _ g
      rw [h.2 ⟨_, g, by intro z; cases z⟩]
      exact ⟨.list, .base (.lst e1), p⟩
    | dct xs ys =>
      obtain ⟨vs, e1, r, _⟩ := sr.cel k _ g
      rw [h.2 ⟨_, g, by intro z; cases z⟩]
      exact ⟨.dict, .base (.dK e1), p⟩
    | gone => exact False.elim p
    | ins a b c => exact False.elim p
  | ins a b c => exact False.elim p
  | scr n => exact False.elim p
  | fn x => exact False.elim p
  | ty x => exact False.elim p

/-! ### methods, stores -/
def Me.T : Me → String
  | .join => "str" | _ => "list"
def Me.py : Me → Str
  | .join => "join" | .append => "append" | .pop => "pop" | .popAt => "pop"
def Me.id : Me → String
  | .join => "str.join" | .append => "list.append" | .pop => "list.pop" | .popAt => "list.pop"
section
variable {K : W.Frag} {B : List Nat} {O : Om} {st : Sto} {α β : Type} {q : β → Sto → Om → Prop} {e : D → Sto → Om → Prop} {lo : Nat}
theorem Post.cell {d : D} {v : V} {f : Nat × List D → M β} (h : Rp K O st d v) (sr : SR K B O st) (p : Post K (bnd (cellL d) f st) B O st q e) :
    ∃ k xs vs, st[k]? = some (.lst xs) ∧ v = .ref (O.mu k) ∧ O.H (O.mu k) = some (.lst vs) ∧ RpL K O st xs vs ∧ Post K (f (k, xs) st) B O st q e := by
  cases d with
  | m k =>
    unfold cellL at p
    rw [bnd_bnd] at p
    obtain ⟨c, g, p⟩ := Post.get p
    unfold Rp at h
    cases c with
    | lst xs =>
      obtain ⟨vs, e1, r⟩ := sr.cel k _ g
      exact ⟨k, xs, vs, g, h.2 ⟨_, g, by intro z; cases z⟩, e1, r, p⟩
    | dct xs ys => exact False.elim p
    | gone => exact False.elim p
    | ins a b c => exact False.elim p
  | non => exact False.elim p
  | bl b => exact False.elim p
  | int i => exact False.elim p
  | str x => exact False.elim p
  | tup x => exact False.elim p
  | lst x => exact False.elim p
  | dct x y => exact False.elim p
  | ins a b c => exact False.elim p
  | scr n => exact False.elim p
  | fn x => exact False.elim p
  | ty x => exact False.elim p
theorem Post.wr {k : Nat} {c : C} {f : Unit → M β} (p : Post K (bnd (put lo k c) f st) B O st q e) : (decide (lo ≤ k) || c.under (k + 1)) = true ∧ Post K (f () (st.set k c)) B O st q e := by
  unfold bnd put at p
  by_cases h : (decide (lo ≤ k) || c.under (k + 1)) = true
  · rw [if_pos h] at p
    exact ⟨h, p⟩
  · rw [if_neg h] at p
    exact False.elim p
theorem Post.wr' {k : Nat} {c : C} {q : Unit → Sto → Om → Prop} (p : Post K (put lo k c st) B O st q e) : (decide (lo ≤ k) || c.under (k + 1)) = true ∧ Post K (.ok () (st.set k c)) B O st q e := by
  unfold put at p
  by_cases h : (decide (lo ≤ k) || c.under (k + 1)) = true
  · rw [if_pos h] at p
    exact ⟨h, p⟩
  · rw [if_neg h] at p
    exact False.elim p
end
section
variable {X : Cx} {lo : Nat}
def rxM (K : W.Frag) (lo : Nat) (f : D → List D → M D) : V → List V → Hp → VK → Prop := fun x vs H Q => ∃ (B : List Nat) (O : Om) (st : Sto) (d : D) (ds : List D) (e : D → Sto → Om → Prop), O.H = H ∧ (∀ b ∈ B, b ≤ lo) ∧ Rp K O st d x ∧ RpL K O st ds vs ∧ SR K B O st ∧
  Post K (f d ds st) B O st (QV K Q) e
theorem Post.n0 {K : W.Frag} {B : List Nat} {O : Om} {st : Sto} {m : M D} {ds : List D} {vs : List V} {q : D → Sto → Om → Prop} {e : D → Sto → Om → Prop} (h : RpL K O st ds vs) (p : Post K (none0 m ds st) B O st q e) : vs = [] ∧ Post K (m st) B O st q e := by
  cases ds with
  | nil =>
    unfold RpL at h
    exact ⟨h, p⟩
  | cons a b => exact False.elim p
theorem Post.o1 {K : W.Frag} {B : List Nat} {O : Om} {st : Sto} {f : D → M D} {ds : List D} {vs : List V} {q : D → Sto → Om → Prop} {e : D → Sto → Om → Prop} (h : RpL K O st ds vs) (p : Post K (one f ds st) B O st q e) : ∃ d v, vs = [v] ∧ Rp K O st d v ∧ Post K (f d st) B O st q e := by
  match ds, h, p with
  | [d], h, p =>
    obtain ⟨v, rfl, h1⟩ := rpl1 h
    exact ⟨d, v, rfl, h1, p⟩
  | [], _, p => exact False.elim p
  | _ :: _ :: _, _, p => exact False.elim p
theorem rpl_drop1 {K : W.Frag} {O : Om} {st : Sto} {ds : List D} {vs : List V} (r : RpL K O st ds vs) : RpL K O st ds.dropLast vs.dropLast := by
  rw [List.dropLast_eq_take, List.dropLast_eq_take, r.length]
  exact r.take _
theorem rpl_erase {K : W.Frag} {O : Om} {st : Sto} {ds : List D} {vs : List V} (i : Nat) (r : RpL K O st ds vs) : RpL K O st (ds.eraseIdx i) (vs.eraseIdx i) := by
  rw [List.eraseIdx_eq_take_drop_succ, List.eraseIdx_eq_take_drop_succ]
  exact (r.take _).app (r.drop _)
theorem me_ok (f : Me) : MtR X f.id (rxM X.K lo (meV lo f)) := by
  intro pins s σ H x xs v us Q I rx rv hq
  obtain ⟨B, O, st, d, ds, e, rfl, hB, h, hl, sr, p⟩ := hq
  cases f with
  | join =>
    obtain ⟨d1, v1, rfl, h1, p⟩ := Post.o1 hl p
    obtain ⟨ys, a, vs, rfl, k1, r1, p⟩ := Post.items h1 sr p
    obtain ⟨zs, e1, p⟩ := Post.of p
    obtain ⟨z, e2, p⟩ := Post.of p
    rw [txtOf_of e2] at h
    unfold Rp at h
    obtain ⟨rfl, hz⟩ := h
    have e3 := txts_of r1 e1
    subst e3
    unfold joinV at p
    obtain ⟨c, p⟩ := p.ck
    unfold mkS at p
    obtain ⟨c2, p⟩ := p.ck
    exact mt_join pins s σ _ _ _ v us Q I rx rv ⟨z, a, zs, rfl, rfl, k1, of_decide_eq_true c, Post.rt p sr _ (by unfold Rp; exact ⟨rfl, of_decide_eq_true c2⟩)⟩
  | append =>
    obtain ⟨d1, v1, rfl, h1, p⟩ := Post.o1 hl p
    obtain ⟨k, xs, vs, g, rfl, e1, r, p⟩ := Post.cell h sr p
    obtain ⟨c, p⟩ := Post.ck p
    obtain ⟨w, p⟩ := Post.wr p
    have l : Live st k := ⟨_, g, by intro z; cases z⟩
    have x := ext_put (O := O) (c := .lst (xs ++ [d1])) (o := .lst (vs ++ [v1])) l
    have s2 := sr_put (o := .lst (vs ++ [v1])) sr l hB w ⟨vs ++ [v1], upd_same, (r.app (.cons h1 .nil)).on x⟩
    exact L2.mt_append pins s σ _ _ _ v us Q I rx rv ⟨_, vs, v1, rfl, rfl, e1, by rw [← r.length]; exact of_decide_eq_true c, Post.ok p x s2 _ (by unfold Rp; rfl)⟩
  | pop =>
    obtain ⟨rfl, p⟩ := Post.n0 hl p
    obtain ⟨k, xs, vs, g, rfl, e1, r, p⟩ := Post.cell h sr p
    obtain ⟨y, ey, p⟩ := Post.of p
    obtain ⟨w, p⟩ := Post.wr p
    have l : Live st k := ⟨_, g, by intro z; cases z⟩
    have x := ext_put (O := O) (c := .lst xs.dropLast) (o := .lst vs.dropLast) l
    have s2 := sr_put (o := .lst vs.dropLast) sr l hB w ⟨vs.dropLast, upd_same, (rpl_drop1 r).on x⟩
    obtain ⟨u, e2, hu⟩ := r.get ey
    exact L2.mt_pop pins s σ _ _ _ v us Q I rx rv ⟨_, vs, u, rfl, rfl, e1, by rw [← r.length]; exact e2, Post.ok p x s2 _ (hu.on x)⟩
  | popAt =>
    obtain ⟨d1, v1, rfl, h1, p⟩ := Post.o1 hl p
    obtain ⟨i, rfl, p⟩ := Post.onI h1 p
    obtain ⟨k, xs, vs, g, rfl, e1, r, p⟩ := Post.cell h sr p
    obtain ⟨j, ej, p⟩ := Post.of p
    obtain ⟨y, ey, p⟩ := Post.of p
    obtain ⟨c, p⟩ := Post.ck p
    obtain ⟨c1, c2⟩ := Bool.and_eq_true_iff.mp c
    obtain ⟨w, p⟩ := Post.wr p
    have l : Live st k := ⟨_, g, by intro z; cases z⟩
    have x := ext_put (O := O) (c := .lst (xs.eraseIdx j)) (o := .lst (vs.eraseIdx j)) l
    have s2 := sr_put (o := .lst (vs.eraseIdx j)) sr l hB w ⟨vs.eraseIdx j, upd_same, (rpl_erase j r).on x⟩
    obtain ⟨u, e2, hu⟩ := r.get ey
    exact L2.mt_popAt pins s σ _ _ _ v us Q I rx rv ⟨_, vs, i, j, u, rfl, rfl, e1, of_decide_eq_true c1, of_decide_eq_true c2, by rw [← r.length]; exact ej, e2, Post.ok p x s2 _ (hu.on x)⟩
theorem meK_ok {K : W.Frag} {B : List Nat} {O : Om} {st : Sto} {β : Type} {f : Me} {d : D} {v : V} {g : Unit → M β} {q : β → Sto → Om → Prop} {e : D → Sto → Om → Prop} (h : Rp K O st d v) (sr : SR K B O st) (p : Post K (bnd (meK f d) g st) B O st q e) :
    tyV K f.T v O.H ∧ Post K (g () st) B O st q e := by
  have cel : Post K (bnd (bnd (cellL d) fun _ => ret ()) g st) B O st q e → tyV K "list" v O.H ∧ Post K (g () st) B O st q e := by
    intro p
    rw [bnd_bnd] at p
    obtain ⟨k, xs, vs, g, rfl, e1, r, p⟩ := Post.cell h sr p
    exact ⟨.inl ⟨rfl, vs, SqL.of e1⟩, p⟩
  cases f with
  | join =>
    unfold meK at p
    cases et : txtOf d with
    | none =>
      rw [et] at p
      exact False.elim p
    | some z =>
      rw [et] at p
      rw [txtOf_of et] at h
      unfold Rp at h
      rw [h.1]
      exact ⟨rfl, p⟩
  | append => exact cel p
  | pop => exact cel p
  | popAt => exact cel p
def rxS (K : W.Frag) (lo : Nat) : TSet := fun o i v H Q => ∃ (B : List Nat) (O : Om) (st : Sto) (dO di dv : D) (e : D → Sto → Om → Prop), O.H = H ∧ (∀ b ∈ B, b ≤ lo) ∧ Rp K O st dO o ∧ Rp K O st di i ∧ Rp K O st dv v ∧ SR K B O st ∧
  Post K (stsV lo dO di dv st) B O st (fun _ _ O' => Q O'.H) e
theorem sts_ok : PSet X (rxS X.K lo) := by
  intro pins s σ H o i v ov iv u Q I r1 r2 r3 hq
  obtain ⟨B, O, st, dO, di, dv, e, rfl, hB, h1, h2, h3, sr, p⟩ := hq
  unfold stsV at p
  obtain ⟨k, xs, vs, g, rfl, e1, r, p⟩ := Post.cell h1 sr p
  obtain ⟨j, ej, p⟩ := Post.of p
  rw [intOf_of ej] at h2
  unfold Rp at h2
  subst h2
  obtain ⟨n, en, p⟩ := Post.of p
  obtain ⟨w, p⟩ := Post.wr' p
  have l : Live st k := ⟨_, g, by intro z; cases z⟩
  have x := ext_put (O := O) (c := .lst (xs.set n dv)) (o := .lst (vs.set n v)) l
  have s2 := sr_put (o := .lst (vs.set n v)) sr l hB w ⟨vs.set n v, upd_same, (r.set n h3).on x⟩
  exact set_list pins s σ _ _ _ _ ov iv u Q I r1 r2 r3 ⟨_, vs, j, n, rfl, rfl, e1, by rw [← r.length]; exact en, Post.ok p x s2⟩
end
end Lf
end
section
set_option maxHeartbeats 4000000
/-! The interpreter is sound: expressions. -/
namespace Lf
open PySem L2

/-! ### does the code stand for this text -/
def glB (sc : Scope) (x : Str) : Bool := decide (sc.names.lookup x = some .globalImplicit) && !(x == ("__debug__" : Str))
def visB (sc : Scope) (x : Str) : Bool := match sc.names.lookup x with
  | some .local => true
  | some .cell => true
  | some .free => true
  | _ => false
def lclB (sc : Scope) (x : Str) : Bool := decide (sc.names.lookup x = some .local)
def noStar : Expr → Bool
  | .Starred _ _ => false
  | _ => true
def plainSlice : Expr → Bool
  | .Slice _ _ _ _ => false
  | _ => true
def bareCall : Expr → Bool
  | .Call (.Name _ _) [] [] _ => true
  | _ => false
def Bi.py : Bi → Str
  | .len => "len" | .abs => "abs" | .int => "int" | .min => "min" | .all => "all" | .repr => "repr" | .list => "list"
def Tn.py : Tn → Str
  | .str => "str" | .int => "int" | .bool => "bool" | .list => "list" | .tuple => "tuple" | .dict => "dict"
/-- the built-in names that the code may ask -/
def blts : List Str := ["len", "abs", "int", "min", "all", "repr", "list", "str", "bool", "tuple", "dict", "isinstance", "range"]
/-- the names of constants and defs; which calls are written -/
structure Sig where
  gn : List Str
  fn : List Str
  sg : Nat → Nat → List Str → List Nat → Bool
def tnsE (sc : Scope) : List Tn → List Expr → Bool
  | [], [] => true
  | t :: ts, .Name x _ :: es => (x == t.py) && glB sc x && tnsE sc ts es
  | _, _ => false
def nmsE (N : List Str) (sc : Scope) : List Nat → List Expr → Bool
  | [], [] => true
  | i :: is, .Name x _ :: es => decide (N[i]? = some x) && lclB sc x && nmsE N sc is es
  | _, _ => false
def tgtE (N : List Str) (sc : Scope) : T → Expr → Bool
  | .nm i, .Name x _ => decide (N[i]? = some x) && lclB sc x
  | .tp is, .Tuple es _ _ => nmsE N sc is es
  | _, _ => false
def T.all : T → (Nat → Bool) → Bool
  | .nm i, f => f i
  | .tp is, f => is.all f
def optE (n : Nat) (o : Option Expr) : Bool := match n, o with
  | 0, none => true
  | 1, some _ => true
  | _, _ => false
def optL : Option Expr → List Expr
  | none => []
  | some e => [e]
def noSet : Expr → Bool
  | .Set _ _ _ => false
  | _ => true
def walkE : W → Expr → List Expr
  | .val, it => [it]
  | .range, .Call _ es _ _ => es
  | _, _ => []
def walkB (sc : Scope) : W → Nat → Expr → Bool
  | .val, n, it => n == 1 && noSet it
  | .range, n, .Call (.Name x _) _ [] _ => x == ("range" : Str) && glB sc x && (n == 1 || n == 2)
  | _, _, _ => false
mutual
def cmpE (N : List Str) (sg : Sig) (sc : Scope) : E → Expr → Bool
  | .var i, .Name x _ => decide (N[i]? = some x) && visB sc x && !(x == ("__debug__" : Str)) && !(x == ("__classdict__" : Str))
  | .int i, .Constant (.int j) _ _ => i == j
  | .bl i, .Constant (.bool j) _ _ => i == j
  | .non, .Constant .none _ _ => true
  | .str x, .Constant (.str y) _ _ => x == y && decide (x.length ≤ sizeLine)
  | .glo i, .Name y _ => decide (sg.gn[i]? = some y) && glB sc y
  | .tup es, .Tuple es' _ _ => cmpL N sg sc es es'
  | .lst _ es, .List es' _ => cmpL N sg sc es es'
  | .dct _ es, .Dict keys values _ => decide (keys.length = values.length) && decide (keys.length ≤ 15) && cmpP N sg sc es keys values
  | .bin op _ a b, .BinOp a' op' b' _ => decide (op = op') && cmpE N sg sc a a' && cmpE N sg sc b b'
  | .neg a, .UnaryOp .USub a' _ => cmpE N sg sc a a'
  | .nt a, .UnaryOp .Not a' _ => cmpE N sg sc a a'
  | .bo or es, .BoolOp op es' _ => decide (op = if or then .Or else .And) && cmpL N sg sc es es'
  | .cmp op a b, .Compare a' [op'] [b'] _ => decide (op = op') && !behindInMarks op b' && cmpE N sg sc a a' && cmpE N sg sc b b'
  | .cmp2 o1 o2 a b c, .Compare a' [p1, p2] [b', c'] _ => decide (o1 = p1) && decide (o2 = p2) && !lastMarks [p1, p2] [b', c'] && cmpE N sg sc a a' && cmpE N sg sc b b' && cmpE N sg sc c c'
  | .isN neg a, .Compare a' [op] [.Constant .none _ _] _ => decide (op = if neg then .IsNot else .Is) && cmpE N sg sc a a'
  | .ife c a b, .IfExp c' a' b' _ => cmpE N sg sc c c' && cmpE N sg sc a a' && cmpE N sg sc b b'
  | .call f ks ord es kes, .Call (.Name f' _) es' kws _ => decide (sg.fn[f]? = some f') && glB sc f' && sg.sg f es.length ks ord && decide (kws.map (·.arg) = ks.map some) && cmpL N sg sc es es' && cmpL N sg sc kes (kws.map (·.value))
  | .bi f _ es, .Call (.Name x _) es' [] _ => x == f.py && glB sc x && !es.isEmpty && cmpL N sg sc es es'
  | .isi a ts, .Call (.Name x _) [a', .Name t p] [] _ => x == ("isinstance" : Str) && glB sc x && tnsE sc ts [.Name t p] && noStar a' && cmpE N sg sc a a'
  | .isi a ts, .Call (.Name x _) [a', .Tuple es _ _] [] _ => x == ("isinstance" : Str) && glB sc x && tnsE sc ts es && noStar a' && decide (ts.length ≤ sizeLine) && cmpE N sg sc a a'
  | .me o f es, .Call (.Attribute o' m apos) es' [] cpos => m == f.py && (apos.endLine == cpos.line) && !bareCall o' && decide (es.length < 29) && cmpE N sg sc o o' && cmpL N sg sc es es'
  | .sub o i, .Subscript o' i' _ => plainSlice i' && cmpE N sg sc o o' && cmpE N sg sc i i'
  | .slc o l h, .Subscript o' (.Slice l' h' none _) _ => cmpE N sg sc o o' && cmpL N sg sc l (optL l') && cmpL N sg sc h (optL h')
  | .comp _ elt own t w src cs, .ListComp elt' [⟨t', it, cs', n⟩] scope _ =>
    decide (n = 0) && blkC N sc scope (own.filterMap fun i => (N[i]?).map fun x => (x, i)) && (own.all fun i => (N[i]?).isSome) && tgtE N (relS scope sc) t t' && t.all own.contains && decide (cs.length ≤ 1) && cmpL N sg (relS scope sc) cs cs' && noStar elt' && cmpE N sg (relS scope sc) elt elt' &&
      walkB sc w src.length it && noSet it && cmpL N sg sc src (walkE w it)
  | _, _ => false
def cmpL (N : List Str) (sg : Sig) (sc : Scope) : List E → List Expr → Bool
  | [], [] => true
  | e :: es, e' :: es' => noStar e' && cmpE N sg sc e e' && cmpL N sg sc es es'
  | _, _ => false
def cmpP (N : List Str) (sg : Sig) (sc : Scope) : List E → List (Option Expr) → List Expr → Bool
  | [], [], [] => true
  | k :: v :: es, some k' :: ks, v' :: vs => cmpE N sg sc k k' && cmpE N sg sc v v' && cmpP N sg sc es ks vs
  | _, _, _ => false
end

/-! ### readings -/
section
variable {X : Cx}
theorem PE.weak {e : Expr} {t t' : TE} (h : PE X e t) (w : ∀ σ H Q, t' σ H Q → t σ H Q) : PE X e t' := ⟨fun pins s σ H Q I q => h.run pins s σ H Q I (w σ H Q q)⟩
theorem PT.weak {e : Expr} {t t' : TT} (h : PT X e t) (w : ∀ σ H Q, t' σ H Q → t σ H Q) : PT X e t' := ⟨fun pins s σ H Q I q => h.run pins s σ H Q I (w σ H Q q)⟩
theorem PA.weak {e : List Expr} {t t' : TA} (h : PA X e t) (w : ∀ σ H Q, t' σ H Q → t σ H Q) : PA X e t' := ⟨fun pos pins s σ H Q I q => h.run pos pins s σ H Q I (w σ H Q q)⟩
theorem PK.weak {e : List Keyword} {t t' : TA} (h : PK X e t) (w : ∀ σ H Q, t' σ H Q → t σ H Q) : PK X e t' := ⟨fun pos pins s σ H Q I q => h.run pos pins s σ H Q I (w σ H Q q)⟩
theorem PW.weak {e : Expr} {t t' : TT} (h : L2.PW X e t) (w : ∀ σ H Q, t' σ H Q → t σ H Q) : L2.PW X e t' := ⟨fun wh pins s σ H Q I q => h.run wh pins s σ H Q I (w σ H Q q)⟩
theorem PI.weak {tg e : Expr} {t t' : TI} (h : PI X tg e t) (w : ∀ σ H Q, t' σ H Q → t σ H Q) : PI X tg e t' := ⟨fun pins s σ H Q I q => h.run pins s σ H Q I (w σ H Q q)⟩
theorem PO.weak {e : Option Expr} {t t' : TO} (h : PO X e t) (w : ∀ σ H Q, t' σ H Q → t σ H Q) : PO X e t' := ⟨fun pins s σ H Q I q => h.run pins s σ H Q I (w σ H Q q)⟩
end
/-- an exception that a value tree tells -/
def XRp (K : W.Frag) (O : Om) (st : Sto) : D → Value → Option Addr → Prop
  | .ins c fs vs, cls, dd => ∃ ca, CAt K c ca ∧ cls = .ref ca ∧ ((fs = [] ∧ dd = none) ∨ ∃ d fvs, dd = some d ∧ Fro O st d ∧ O.H d = some (.xd fvs) ∧ fvs.map (fun p => p.1) = fs ∧ RpL K O st vs (fvs.map fun p => p.2))
  | _, _, _ => False
/-- what is wanted of an exception at these slots -/
abbrev Er (K : W.Frag) (W : WX) (σ : St) : D → Sto → Om → Prop := fun x st' O' => ∀ cls dd, XRp K O' st' x cls dd → W cls dd σ O'.H
section
variable (K : W.Frag) (lo : Nat) (W : WX)
def tx (f : Env → M D) : TE := fun σ H Q => ∃ (r : Env) (B : List Nat) (O : Om) (st : Sto), O.H = H ∧ (∀ b ∈ B, b ≤ lo) ∧ ER K O st r σ ∧ SR K B O st ∧ Post K (f r st) B O st (QV K Q) (Er K W σ)
def txB (f : Env → M Bool) : TT := fun σ H Q => ∃ (r : Env) (B : List Nat) (O : Om) (st : Sto), O.H = H ∧ (∀ b ∈ B, b ≤ lo) ∧ ER K O st r σ ∧ SR K B O st ∧ Post K (f r st) B O st (fun b _ O' => Q b O'.H) (Er K W σ)
def txA (f : Env → M (List D)) : TA := fun σ H Q => ∃ (r : Env) (B : List Nat) (O : Om) (st : Sto), O.H = H ∧ (∀ b ∈ B, b ≤ lo) ∧ ER K O st r σ ∧ SR K B O st ∧ Post K (f r st) B O st (fun ds st' O' => ∀ vs, RpL K O' st' ds vs → Q vs O'.H) (Er K W σ)
end
/-- the world that the code runs in: K what is written, g what it calls -/
structure Wd where
  P : Program
  w : World
  K : W.Frag
  mg : Str → Option Value
  base : Heap
  k : Nat
  g : G
  sg : Sig
  N : List Str
/-- a context of this world -/
structure In (Z : Wd) (W : WX) (sc : Scope) (X : Cx) : Prop where
  prog : X.prog = Z.P
  w : X.w = Z.w
  K : X.K = Z.K
  mg : X.mg = Z.mg
  base : X.base = Z.base
  N : X.N = Z.N
  nd : X.N.Nodup
  calm : X.calm = true
  room : Room Z.k X.A
  guards : X.A.guards = some []
  sc : X.env.scope = sc
  takes : Takes X W
/-- what a call gives, by values -/
def rxC (K : W.Frag) (lo : Nat) (W : WX) (σ : St) (f : List D → List D → M D) : List V → List V → Hp → VK → Prop := fun vs zs H Q => ∃ (B : List Nat) (O : Om) (st : Sto) (xs ys : List D), O.H = H ∧ (∀ b ∈ B, b ≤ lo) ∧ RpL K O st xs vs ∧ RpL K O st ys zs ∧ SR K B O st ∧
  Post K (f xs ys st) B O st (QV K Q) (Er K W σ)
structure Wd.Ok (Z : Wd) : Prop where
  sys : SysK Z.K
  blt : ∀ x ∈ blts, Z.mg x = none
  glo : ∀ i x d, Z.sg.gn[i]? = some x → Z.g.glo i = some d → ∃ u v, Z.mg x = some u ∧ RelV v u ∧ ∀ O st, Rp Z.K O st d v
  call : ∀ f n ks ord x, Z.sg.fn[f]? = some x → Z.sg.sg f n ks ord = true → ∃ fa, Z.mg x = some (.ref fa) ∧ PySem.W.keepIn Z.K (.ref fa) = true ∧
    ∀ (W : WX) (sc : Scope) (X : Cx) (N : List Str), In { Z with N := N } W sc X → ∀ (lo : Nat) (pins : List (Addr × Obj)) (s : Shared) (σ : St) (H : Hp) (us ws : List Value) (vs zs : List V) (Q : VK), L2.Inv X pins σ H s → Vals vs us → Vals zs ws → vs.length = n → zs.length = ks.length →
      rxC Z.K lo W σ (fun xs ys => Z.g.call lo f (pick ord (xs ++ ys ++ Z.g.dfl f))) vs zs H Q → wpAny (model X.prog X.w) X.A (call (.ref fa) us (ks.zip ws)) (EP X pins σ Q) X.xe s
section
variable {Z : Wd} {W : WX} {sc : Scope} {X : Cx} {lo : Nat}
theorem In.units (h : In Z W sc X) : X.A.units + 80 < cLine := by
  have := h.room.un
  omega
theorem In.gl (h : In Z W sc X) {x : Str} (b : glB sc x = true) : Gl X x ∧ (x == ("__debug__" : Str)) = false := by
  unfold glB at b
  obtain ⟨b1, b2⟩ := Bool.and_eq_true_iff.mp b
  refine ⟨?_, by simpa using b2⟩
  show X.env.scope.names.lookup x = _
  rw [h.sc]
  exact of_decide_eq_true b1
theorem In.vis (h : In Z W sc X) {x : Str} (b : visB sc x = true) : Vis X.env.scope x := by
  rw [h.sc]
  unfold visB at b
  split at b <;> rename_i e <;> first | exact .inl e | exact .inr (.inl e) | exact .inr (.inr e) | cases b
theorem In.lcl (h : In Z W sc X) {x : Str} (b : lclB sc x = true) : X.env.scope.names.lookup x = some .local := by
  rw [h.sc]
  exact of_decide_eq_true b
theorem In.free (h : In Z W sc X) (ok : Z.Ok) {x : Str} (b : x ∈ blts) : X.mg x = none := by
  rw [h.mg]
  exact ok.blt x b
/-! ### lists of expressions -/
theorem star1 {e : Expr} {es : List Expr} {env : PySem.Env} (h : noStar e = true) : starEach (e :: es) env = (false, eval e env) :: starEach es env := by
  cases e <;> first | rfl | cases h
theorem noStars {es : List Expr} {ps : List E} {N : List Str} {sg : Sig} (h : cmpL N sg sc ps es = true) {pos : Pos} {env : PySem.Env} : (backTo pos (starEach es env)).any (·.1) = false := by
  induction es generalizing ps with
  | nil => rfl
  | cons e es ih =>
    cases ps with
    | nil => unfold cmpL at h; cases h
    | cons p ps =>
      unfold cmpL at h
      obtain ⟨h1, h2⟩ := Bool.and_eq_true_iff.mp h
      obtain ⟨h0, h1⟩ := Bool.and_eq_true_iff.mp h1
      rw [star1 h0]
      show (false || (backTo pos (starEach es env)).any (·.1)) = false
      rw [ih h2]
      rfl
theorem kwds {kws : List Keyword} {ks : List Str} (h : kws.map (·.arg) = ks.map some) {pos : Pos} {env : PySem.Env} :
    (backToKw pos (keywordEach kws env)).all (·.1.isSome) = true ∧ (backToKw pos (keywordEach kws env)).filterMap (·.1) = ks ∧ (backToKw pos (keywordEach kws env)).any (·.1.isNone) = false := by
  induction kws generalizing ks with
  | nil =>
    cases ks with
    | nil => exact ⟨rfl, rfl, rfl⟩
    | cons k r => cases h
  | cons kw kws ih =>
    cases ks with
    | nil => cases h
    | cons k r =>
      obtain ⟨a, v, p⟩ := kw
      rw [List.map_cons, List.map_cons] at h
      obtain ⟨h1, h2⟩ := List.cons.inj h
      have h1 : a = some k := h1
      subst h1
      obtain ⟨i1, i2, i3⟩ := ih h2
      refine ⟨?_, ?_, ?_⟩
      · show (true && (backToKw pos (keywordEach kws env)).all (·.1.isSome)) = true
        rw [i1]
        rfl
      · show k :: (backToKw pos (keywordEach kws env)).filterMap (·.1) = k :: r
        rw [i2]
      · show (false || (backToKw pos (keywordEach kws env)).any (·.1.isNone)) = false
        rw [i3]
        rfl
/-! ### one construct, one line -/
variable {a b c : Expr} {pos : Pos}
/-- two, one behind the other -/
theorem tx_seq {K : PySem.W.Frag} {f : Env → M D} {g : Env → D → M D} {σ : St} {H : Hp} {Q : VK} (h : tx K lo W (fun r => bnd (f r) (g r)) σ H Q) {t : V → Hp → Prop}
    (k : ∀ (r : Env) (B : List Nat) (O : Om) (st : Sto) (d : D) (v : V), (∀ b ∈ B, b ≤ lo) → ER K O st r σ → SR K B O st → Rp K O st d v → Post K (g r d st) B O st (QV K Q) (Er K W σ) → t v O.H) : tx K lo W f σ H t := by
  obtain ⟨r, B, O, st, rfl, hB, er, sr, p⟩ := h
  exact ⟨r, B, O, st, rfl, hB, er, sr, Post.imp p.bind (fun d s1 O1 x s2 q v hv => k r B O1 s1 d v hB (er.on x) s2 hv q) fun _ _ _ _ _ q => q⟩
theorem e_name {i : Nat} {x : Str} {K : PySem.W.Frag} (hN : X.N[i]? = some x) (hv : Vis X.env.scope x) (hd : (x == ("__debug__" : Str)) = false) (hc : (x == ("__classdict__" : Str)) = false) : PE X (.Name x pos) (tx K lo W (fun r => match r[i]? with | some (some d) => ret d | _ => bad)) := by
  refine PE.weak (pe_var hN hv hd hc) fun σ H Q h => ?_
  obtain ⟨r, B, O, st, rfl, hB, er, sr, p⟩ := h
  dsimp only at p
  rcases e : r[i]? with _ | (_ | d)
  · rw [e] at p; exact False.elim p
  · rw [e] at p; exact False.elim p
  · rw [e] at p
    obtain ⟨v, e1, hv⟩ := er.at_ i d e
    exact ⟨v, e1, Post.rt p sr v hv⟩
theorem e_const {v : V} {d : D} {K : PySem.W.Frag} {f : Env → M D} (h : PE X a (tC v)) (hf : ∀ r, f r = ret d) (hr : ∀ O st, Rp K O st d v) : PE X a (tx K lo W f) := by
  refine PE.weak h fun σ H Q h => ?_
  obtain ⟨r, B, O, st, rfl, hB, er, sr, p⟩ := h
  rw [hf] at p
  exact Post.rt p sr v (hr _ _)
theorem e_bin {op : Operator} {K : PySem.W.Frag} (hK : X.K = K) {mu : Bool} {f g : Env → M D} (h1 : PE X a (tx K lo W f)) (h2 : PE X b (tx K lo W g)) :
    PE X (.BinOp a op b pos) (tx K lo W (fun r => bnd (f r) fun x => bnd (g r) fun y => binop op mu x y)) := by
  subst hK
  refine PE.weak (pe_op (bin_ok (lo := lo) op mu) h1 h2) fun σ H Q h => ?_
  refine tx_seq h fun r B O st d v hB er sr hv p => ?_
  refine ⟨r, B, O, st, rfl, hB, er, sr, Post.imp p.bind (fun d2 s2 O2 x s3 q v2 hv2 => ?_) fun _ _ _ _ _ q => q⟩
  exact ⟨B, O2, s2, d, d2, _, rfl, hB, hv.on x, hv2, s3, q⟩
theorem un_neg_ok {K : PySem.W.Frag} : UnR X (unaryOp .USub) (fun x H Q => ∃ (B : List Nat) (O : Om) (st : Sto) (d : D) (e : D → Sto → Om → Prop), O.H = H ∧ Rp K O st d x ∧ SR K B O st ∧ Post K ((match d with | .int i => ret (.int (-i)) | _ => bad : M D) st) B O st (QV K Q) e) := by
  intro pins s σ H x v Q I rx h
  obtain ⟨B, O, st, d, e, rfl, hr, sr, p⟩ := h
  cases d with
  | int i =>
    unfold Rp at hr
    subst hr
    exact un_neg pins s σ _ _ v Q I rx ⟨i, rfl, Post.rt p sr _ (by unfold Rp; rfl)⟩
  | _ => exact False.elim p
theorem e_neg {K : PySem.W.Frag} {f : Env → M D} (h1 : PE X a (tx K lo W f)) : PE X (.UnaryOp .USub a pos) (tx K lo W (fun r => bnd (f r) fun x => match x with | .int i => ret (.int (-i)) | _ => bad)) := by
  refine PE.weak (pe_un (un_neg_ok (K := K)) h1) fun σ H Q h => ?_
  exact tx_seq h fun r B O st d v hB er sr hv p => ⟨B, O, st, d, _, rfl, hv, sr, p⟩
theorem e_not {K : PySem.W.Frag} (hK : X.K = K) {f : Env → M D} (h1 : PE X a (tx K lo W f)) : PE X (.UnaryOp .Not a pos) (tx K lo W (fun r => bnd (f r) fun x => bnd (truth x) fun b => ret (.bl (!b)))) := by
  subst hK
  refine PE.weak (pe_notT h1) fun σ H Q h => ?_
  refine tx_seq h fun r B O st d v hB er sr hv p => ?_
  obtain ⟨k, t, p⟩ := truth_ok hv sr p
  exact ⟨k, t, Post.rt p sr _ (by unfold Rp; rfl)⟩
theorem e_cmp {op : CmpOp} {K : PySem.W.Frag} (hK : X.K = K) (hu : X.A.units + 64 < cLine) (hm : behindInMarks op b = false) {f g : Env → M D} (h1 : PE X a (tx K lo W f)) (h2 : PE X b (tx K lo W g)) :
    PE X (.Compare a [op] [b] pos) (tx K lo W (fun r => bnd (f r) fun x => bnd (g r) fun y => bnd (cmpB op x y) fun c => ret (.bl c))) := by
  subst hK
  refine PE.weak (pe_cmpR (cmp_ok (lo := lo) hu op) h1 h2 hm) fun σ H Q h => ?_
  refine tx_seq h fun r B O st d v hB er sr hv p => ?_
  refine ⟨r, B, O, st, rfl, hB, er, sr, Post.imp p.bind (fun d2 s2 O2 x s3 q v2 hv2 => ?_) fun _ _ _ _ _ q => q⟩
  exact ⟨B, O2, s2, d, d2, _, rfl, hB, hv.on x, hv2, s3, Post.imp q.bind (fun k s4 O4 x4 s5 q => Post.rt q s5 _ (by unfold Rp; rfl)) fun _ _ _ _ _ q => q⟩
theorem t_cmp {op : CmpOp} {K : PySem.W.Frag} (hK : X.K = K) (hu : X.A.units + 64 < cLine) (hm : behindInMarks op b = false) {f g : Env → M D} (h1 : PE X a (tx K lo W f)) (h2 : PE X b (tx K lo W g)) :
    PT X (.Compare a [op] [b] pos) (txB K lo W (fun r => bnd (bnd (f r) fun x => bnd (g r) fun y => bnd (cmpB op x y) fun c => ret (.bl c)) truth)) := by
  subst hK
  refine PT.weak (pt_cmpR (cmp_ok (lo := lo) hu op) h1 h2 hm) fun σ H Q h => ?_
  obtain ⟨r, B, O, st, rfl, hB, er, sr, p⟩ := h
  dsimp only at p
  rw [bnd_bnd] at p
  refine ⟨r, B, O, st, rfl, hB, er, sr, Post.imp p.bind (fun d s1 O1 x1 sr1 p v hv => ?_) fun _ _ _ _ _ q => q⟩
  rw [bnd_bnd] at p
  refine ⟨r, B, O1, s1, rfl, hB, er.on x1, sr1, Post.imp p.bind (fun d2 s2 O2 x s3 q v2 hv2 => ?_) fun _ _ _ _ _ q => q⟩
  rw [bnd_bnd] at q
  exact ⟨B, O2, s2, d, d2, _, rfl, hB, hv.on x, hv2, s3, Post.imp q.bind (fun k s4 O4 x4 s5 q => ⟨k, rfl, Post.rt q s5⟩) fun _ _ _ _ _ q => q⟩
theorem e_cmp2 {op op' : CmpOp} {K : PySem.W.Frag} (hK : X.K = K) (hu : X.A.units + 64 < cLine) (hm : lastMarks [op, op'] [b, c] = false) {f g k : Env → M D} (h1 : PE X a (tx K lo W f)) (h2 : PE X b (tx K lo W g)) (h3 : PE X c (tx K lo W k)) :
    PE X (.Compare a [op, op'] [b, c] pos) (tx K lo W (fun r => bnd (f r) fun x => bnd (g r) fun y => bnd (cmpB op x y) fun q => if q then bnd (k r) fun z => bnd (cmpB op' y z) fun k' => ret (.bl k') else ret (.bl false))) := by
  subst hK
  refine PE.weak (pe_chain (cmp_ok (lo := lo) hu op) (cmp_ok (lo := lo) hu op') h1 h2 h3 hm) fun σ H Q h => ?_
  refine tx_seq h fun r B O st d v hB er sr hv p => ?_
  refine ⟨r, B, O, st, rfl, hB, er, sr, Post.imp p.bind (fun d2 s2 O2 x s3 q v2 hv2 => ?_) fun _ _ _ _ _ q => q⟩
  refine ⟨B, O2, s2, d, d2, _, rfl, hB, hv.on x, hv2, s3, Post.imp q.bind (fun k s4 O4 x4 s5 q => ⟨k, rfl, ?_⟩) fun _ _ _ _ _ q => q⟩
  cases k with
  | false => exact Post.rt q s5 _ (by unfold Rp; rfl)
  | true =>
    refine ⟨r, B, O4, s4, rfl, hB, (er.on x).on x4, s5, Post.imp (Post.bind q) (fun d6 s6 O6 x6 s7 q v6 hv6 => ?_) fun _ _ _ _ _ q => q⟩
    exact ⟨B, O6, s6, d2, d6, _, rfl, hB, (hv2.on x4).on x6, hv6, s7, Post.imp q.bind (fun k s4 O4 x4 s5 q => Post.rt q s5 _ (by unfold Rp; rfl)) fun _ _ _ _ _ q => q⟩
theorem t_cmp2 {op op' : CmpOp} {K : PySem.W.Frag} (hK : X.K = K) (hu : X.A.units + 64 < cLine) (hm : lastMarks [op, op'] [b, c] = false) {f g k : Env → M D} (h1 : PE X a (tx K lo W f)) (h2 : PE X b (tx K lo W g)) (h3 : PE X c (tx K lo W k)) :
    PT X (.Compare a [op, op'] [b, c] pos) (txB K lo W (fun r => bnd (bnd (f r) fun x => bnd (g r) fun y => bnd (cmpB op x y) fun q => if q then bnd (k r) fun z => bnd (cmpB op' y z) fun k' => ret (.bl k') else ret (.bl false)) truth)) := by
  subst hK
  refine PT.weak (pt_chain (cmp_ok (lo := lo) hu op) (cmp_ok (lo := lo) hu op') h1 h2 h3 hm) fun σ H Q h => ?_
  obtain ⟨r, B, O, st, rfl, hB, er, sr, p⟩ := h
  dsimp only at p
  rw [bnd_bnd] at p
  refine ⟨r, B, O, st, rfl, hB, er, sr, Post.imp p.bind (fun d s1 O1 x1 sr1 p v hv => ?_) fun _ _ _ _ _ q => q⟩
  rw [bnd_bnd] at p
  refine ⟨r, B, O1, s1, rfl, hB, er.on x1, sr1, Post.imp p.bind (fun d2 s2 O2 x s3 q v2 hv2 => ?_) fun _ _ _ _ _ q => q⟩
  rw [bnd_bnd] at q
  refine ⟨B, O2, s2, d, d2, _, rfl, hB, hv.on x, hv2, s3, Post.imp q.bind (fun k s4 O4 x4 s5 q => ⟨k, rfl, ?_⟩) fun _ _ _ _ _ q => q⟩
  cases k with
  | false => exact ⟨false, rfl, Post.rt q s5⟩
  | true =>
    rw [if_pos rfl, bnd_bnd] at q
    refine ⟨r, B, O4, s4, rfl, hB, ((er.on x1).on x).on x4, s5, Post.imp (Post.bind q) (fun d6 s6 O6 x6 s7 q v6 hv6 => ?_) fun _ _ _ _ _ q => q⟩
    rw [bnd_bnd] at q
    exact ⟨B, O6, s6, d2, d6, _, rfl, hB, (hv2.on x4).on x6, hv6, s7, Post.imp q.bind (fun k s4 O4 x4 s5 q => ⟨k, rfl, Post.rt q s5⟩) fun _ _ _ _ _ q => q⟩
theorem is_non {K : PySem.W.Frag} {B : List Nat} {O : Om} {st : Sto} {d : D} {v : V} {β : Type} {f : Bool → M β} {q : β → Sto → Om → Prop} {e : D → Sto → Om → Prop} (h : Rp K O st d v) (sr : SR K B O st) (p : Post K (bnd (isNon d) f st) B O st q e) :
    Post K (f (decide (v = .non)) st) B O st q e := by
  cases d with
  | non => unfold Rp at h; subst h; exact p
  | bl b => unfold Rp at h; subst h; exact p
  | int b => unfold Rp at h; subst h; exact p
  | str b => unfold Rp at h; rw [h.1]; exact p
  | tup b => unfold Rp at h; obtain ⟨a, vs, rfl, _⟩ := h; exact p
  | lst b => unfold Rp at h; obtain ⟨a, vs, rfl, _⟩ := h; exact p
  | dct b c => unfold Rp at h; obtain ⟨a, vs, rfl, _⟩ := h; exact p
  | ins b c f => unfold Rp at h; obtain ⟨a, _, _, vs, rfl, _⟩ := h; exact p
  | scr b => unfold Rp at h; obtain ⟨a, rfl, _⟩ := h; exact p
  | fn x => unfold Rp at h; obtain ⟨a, rfl, _⟩ := h; exact p
  | ty x => unfold Rp at h; subst h; exact p
  | m k =>
    unfold isNon at p
    rw [bnd_bnd] at p
    obtain ⟨c, g, p⟩ := Post.get p
    unfold Rp at h
    cases c with
    | gone => exact False.elim p
    | lst xs => rw [h.2 ⟨_, g, by intro z; cases z⟩]; exact p
    | dct xs ys => rw [h.2 ⟨_, g, by intro z; cases z⟩]; exact p
    | ins a b c => rw [h.2 ⟨_, g, by intro z; cases z⟩]; exact p
theorem e_isN {neg : Bool} {K : PySem.W.Frag} {j : Nat} {pos' : Pos} {f : Env → M D} (h1 : PE X a (tx K lo W f)) :
    PE X (.Compare a [if neg then .IsNot else .Is] [.Constant .none j pos'] pos) (tx K lo W (fun r => bnd (f r) fun x => bnd (isNon x) fun b => ret (.bl (if neg then !b else b)))) := by
  cases neg with
  | false =>
    refine PE.weak (pe_cmp (pc_isN h1) rfl) fun σ H Q h => ?_
    exact tx_seq h fun r B O st d v hB er sr hv p => by
      have q := is_non hv sr p
      exact Post.rt q sr _ (by unfold Rp; rfl)
  | true =>
    refine PE.weak (pe_cmp (pc_notN h1) rfl) fun σ H Q h => ?_
    exact tx_seq h fun r B O st d v hB er sr hv p => by
      have q := is_non hv sr p
      exact Post.rt q sr _ (by unfold Rp; rfl)
theorem t_isN {neg : Bool} {K : PySem.W.Frag} {j : Nat} {pos' : Pos} {f : Env → M D} (h1 : PE X a (tx K lo W f)) :
    PT X (.Compare a [if neg then .IsNot else .Is] [.Constant .none j pos'] pos) (txB K lo W (fun r => bnd (bnd (f r) fun x => bnd (isNon x) fun b => ret (.bl (if neg then !b else b))) truth)) := by
  cases neg with
  | false =>
    refine PT.weak (pt_cmp (pc_isN h1) rfl) fun σ H Q h => ?_
    obtain ⟨r, B, O, st, rfl, hB, er, sr, p⟩ := h
    dsimp only at p
    rw [bnd_bnd] at p
    refine ⟨r, B, O, st, rfl, hB, er, sr, Post.imp p.bind (fun d s1 O1 x1 sr1 p v hv => ?_) fun _ _ _ _ _ q => q⟩
    rw [bnd_bnd] at p
    have q := is_non hv sr1 p
    exact ⟨_, rfl, Post.rt q sr1⟩
  | true =>
    refine PT.weak (pt_cmp (pc_notN h1) rfl) fun σ H Q h => ?_
    obtain ⟨r, B, O, st, rfl, hB, er, sr, p⟩ := h
    dsimp only at p
    rw [bnd_bnd] at p
    refine ⟨r, B, O, st, rfl, hB, er, sr, Post.imp p.bind (fun d s1 O1 x1 sr1 p v hv => ?_) fun _ _ _ _ _ q => q⟩
    rw [bnd_bnd] at p
    have q := is_non hv sr1 p
    exact ⟨_, rfl, Post.rt q sr1⟩
/-- a test by its value's truth -/
theorem t_val {K : PySem.W.Frag} (hK : X.K = K) {f : Env → M D} (h1 : PE X a (tx K lo W f)) (he : ∀ whole, isTrue a X.env whole = (do let v ← whole; standAt a.pos; holding [v] (truthy v))) : PT X a (txB K lo W (fun r => bnd (f r) truth)) := by
  subst hK
  refine PT.weak (pt_truth h1 he) fun σ H Q h => ?_
  obtain ⟨r, B, O, st, rfl, hB, er, sr, p⟩ := h
  refine ⟨r, B, O, st, rfl, hB, er, sr, Post.imp p.bind (fun d s1 O1 x1 sr1 p v hv => ?_) fun _ _ _ _ _ q => q⟩
  have p' : Post X.K (bnd (truth d) ret s1) B O1 s1 (fun b _ O' => Q b O'.H) (Er X.K W σ) := by
    have e : bnd (truth d) ret = truth d := bnd_ret _
    rw [e]
    exact p
  obtain ⟨k, t, p⟩ := truth_ok hv sr1 p'
  exact ⟨k, t, Post.rt p sr1⟩
theorem t_not {K : PySem.W.Frag} {f : Env → M D} (h1 : PT X a (txB K lo W (fun r => bnd (f r) truth))) : PT X (.UnaryOp .Not a pos) (txB K lo W (fun r => bnd (bnd (f r) fun x => bnd (truth x) fun b => ret (.bl (!b))) truth)) := by
  refine PT.weak (pt_not h1) fun σ H Q h => ?_
  obtain ⟨r, B, O, st, rfl, hB, er, sr, p⟩ := h
  have e : (bnd (bnd (f r) fun x => bnd (truth x) fun b => ret (.bl (!b))) truth) = bnd (bnd (f r) truth) fun b => ret (!b) := by
    rw [bnd_bnd, bnd_bnd]
    congr 1
    funext x
    rw [bnd_bnd]
    rfl
  dsimp only at p
  rw [e] at p
  exact ⟨r, B, O, st, rfl, hB, er, sr, Post.imp p.bind (fun d s1 O1 x1 sr1 p => Post.rt p sr1) fun _ _ _ _ _ q => q⟩
theorem e_ife {K : PySem.W.Frag} {f g k : Env → M D} (h1 : PT X c (txB K lo W (fun r => bnd (f r) truth))) (h2 : PE X a (tx K lo W g)) (h3 : PE X b (tx K lo W k)) :
    PE X (.IfExp c a b pos) (tx K lo W (fun r => bnd (f r) fun x => bnd (truth x) fun q => if q then g r else k r)) := by
  refine PE.weak (pe_ifExp h1 h2 h3) fun σ H Q h => ?_
  obtain ⟨r, B, O, st, rfl, hB, er, sr, p⟩ := h
  have e : (bnd (f r) fun x => bnd (truth x) fun q => if q then g r else k r) = bnd (bnd (f r) truth) fun q => if q then g r else k r := by
    rw [bnd_bnd]
  dsimp only at p
  rw [e] at p
  refine ⟨r, B, O, st, rfl, hB, er, sr, Post.imp p.bind (fun d s1 O1 x1 sr1 p => ?_) fun _ _ _ _ _ q => q⟩
  cases d with
  | true => exact ⟨r, B, O1, s1, rfl, hB, er.on x1, sr1, p⟩
  | false => exact ⟨r, B, O1, s1, rfl, hB, er.on x1, sr1, p⟩
theorem e_sub {K : PySem.W.Frag} (hK : X.K = K) (hp : plainSlice b = true) {f g : Env → M D} (h1 : PE X a (tx K lo W f)) (h2 : PE X b (tx K lo W g)) :
    PE X (.Subscript a b pos) (tx K lo W (fun r => bnd (f r) fun x => bnd (g r) fun y => subV x y)) := by
  subst hK
  refine PE.weak (pe_ix (sub_ok (lo := lo)) h1 h2 (by cases b <;> first | exact fun _ _ => rfl | cases hp)) fun σ H Q h => ?_
  refine tx_seq h fun r B O st d v hB er sr hv p => ?_
  refine ⟨r, B, O, st, rfl, hB, er, sr, Post.imp p.bind (fun d2 s2 O2 x s3 q v2 hv2 => ?_) fun _ _ _ _ _ q => q⟩
  exact ⟨B, O2, s2, d, d2, _, rfl, hB, hv.on x, hv2, s3, q⟩
/-! ### displays, calls -/
theorem a_nil {K : PySem.W.Frag} : PA X [] (txA K lo W (fun _ => ret [])) := by
  refine PA.weak pa_nil fun σ H Q h => ?_
  obtain ⟨r, B, O, st, rfl, hB, er, sr, p⟩ := h
  exact Post.rt p sr _ .nil
theorem a_cons {K : PySem.W.Frag} {es : List Expr} {f : Env → M D} {g : Env → M (List D)} (hs : noStar a = true) (h1 : PE X a (tx K lo W f)) (h2 : PA X es (txA K lo W g)) : PA X (a :: es) (txA K lo W (fun r => bnd (f r) fun x => bnd (g r) fun xs => ret (x :: xs))) := by
  refine PA.weak (pa_cons h1 h2 (star1 hs)) fun σ H Q h => ?_
  obtain ⟨r, B, O, st, rfl, hB, er, sr, p⟩ := h
  refine ⟨r, B, O, st, rfl, hB, er, sr, Post.imp p.bind (fun d s1 O1 x1 sr1 p v hv => ?_) fun _ _ _ _ _ q => q⟩
  refine ⟨r, B, O1, s1, rfl, hB, er.on x1, sr1, Post.imp p.bind (fun d2 s2 O2 x s3 q v2 hv2 => ?_) fun _ _ _ _ _ q => q⟩
  exact Post.rt q s3 _ (.cons (hv.on x) hv2)
theorem k_nil {K : PySem.W.Frag} : PK X [] (txA K lo W (fun _ => ret [])) := by
  refine PK.weak pk_nil fun σ H Q h => ?_
  obtain ⟨r, B, O, st, rfl, hB, er, sr, p⟩ := h
  exact Post.rt p sr _ .nil
theorem k_cons {K : PySem.W.Frag} {es : List Keyword} {nm : Option Str} {kpos : Pos} {f : Env → M D} {g : Env → M (List D)} (h1 : PE X a (tx K lo W f)) (h2 : PK X es (txA K lo W g)) : PK X (⟨nm, a, kpos⟩ :: es) (txA K lo W (fun r => bnd (f r) fun x => bnd (g r) fun xs => ret (x :: xs))) := by
  refine PK.weak (pk_cons h1 h2) fun σ H Q h => ?_
  obtain ⟨r, B, O, st, rfl, hB, er, sr, p⟩ := h
  refine ⟨r, B, O, st, rfl, hB, er, sr, Post.imp p.bind (fun d s1 O1 x1 sr1 p v hv => ?_) fun _ _ _ _ _ q => q⟩
  refine ⟨r, B, O1, s1, rfl, hB, er.on x1, sr1, Post.imp p.bind (fun d2 s2 O2 x s3 q v2 hv2 => ?_) fun _ _ _ _ _ q => q⟩
  exact Post.rt q s3 _ (.cons (hv.on x) hv2)
theorem e_tup {K : PySem.W.Frag} {es : List Expr} {j : Nat} {f : Env → M (List D)} (h1 : PA X es (txA K lo W f)) : PE X (.Tuple es j pos) (tx K lo W (fun r => bnd (f r) mkT)) := by
  refine PE.weak (pe_tup h1) fun σ H Q h => ?_
  obtain ⟨r, B, O, st, rfl, hB, er, sr, p⟩ := h
  exact ⟨r, B, O, st, rfl, hB, er, sr, Post.imp p.bind (fun d s1 O1 x1 sr1 p v hv => Post.nwT sr1 hv p) fun _ _ _ _ _ q => q⟩
theorem e_lst {K : PySem.W.Frag} {es : List Expr} {mu : Bool} {f : Env → M (List D)} (h1 : PA X es (txA K lo W f)) : PE X (.List es pos) (tx K lo W (fun r => bnd (f r) (mkL mu))) := by
  refine PE.weak (pe_lst h1) fun σ H Q h => ?_
  obtain ⟨r, B, O, st, rfl, hB, er, sr, p⟩ := h
  exact ⟨r, B, O, st, rfl, hB, er, sr, Post.imp p.bind (fun d s1 O1 x1 sr1 p v hv => Post.nwL sr1 hv p) fun _ _ _ _ _ q => q⟩
theorem bi_boot (f : Bi) : bootBuiltins f.py = some f.val := by
  cases f <;> decide +kernel
theorem e_bi (hin : In Z W sc X) (ok : Z.Ok) {f : Bi} {mu : Bool} {p : Pos} {e : Expr} {es : List Expr} {ps : List E} {g : Env → M (List D)} (hg : glB sc f.py = true) (hc : cmpL Z.N Z.sg sc ps (e :: es) = true) (h1 : PA X (e :: es) (txA Z.K lo W g)) :
    PE X (.Call (.Name f.py p) (e :: es) [] pos) (tx Z.K lo W (fun r => bnd (g r) (biV f mu))) := by
  have hK := hin.K
  obtain ⟨g1, g2⟩ := hin.gl hg
  have hm : X.mg f.py = none := hin.free ok (by cases f <;> decide)
  have hs0 : ∃ p0 ps0, ps = p0 :: ps0 ∧ noStar e = true ∧ cmpL Z.N Z.sg sc ps0 es = true := by
    cases ps with
    | nil => unfold cmpL at hc; cases hc
    | cons p0 ps0 =>
      unfold cmpL at hc
      obtain ⟨c1, c2⟩ := Bool.and_eq_true_iff.mp hc
      exact ⟨p0, ps0, rfl, (Bool.and_eq_true_iff.mp c1).1, c2⟩
  obtain ⟨p0, ps0, _, hs, hc2⟩ := hs0
  have hs := star1 (es := es) (env := X.env) hs
  have hp : (backTo pos (starEach es X.env)).any (·.1) = false := noStars hc2
  have hn : f.py ≠ "__name__" := by cases f <;> decide
  have go : PE X (.Call (.Name f.py p) (e :: es) [] pos) (tCB (rxA X.K lo (biV f mu)) (txA Z.K lo W g)) := by
    have hb := bi_ok (X := X) (lo := lo) hin.calm hin.guards hin.units (by rw [hK]; exact ok.sys) f mu
    have bt := bi_boot f
    cases f with
    | len => exact pe_callB hb g1 hm bt h1 hn g2 hs hp
    | abs => exact pe_callB hb g1 hm bt h1 hn g2 hs hp
    | min => exact pe_callB hb g1 hm bt h1 hn g2 hs hp
    | all => exact pe_callB hb g1 hm bt h1 hn g2 hs hp
    | repr => exact pe_callB hb g1 hm bt h1 hn g2 hs hp
    | int => exact pe_callTy hb g1 hm bt h1 hn g2 hs hp
    | list => exact pe_callTy hb g1 hm bt h1 hn g2 hs hp
  refine PE.weak go fun σ H Q h => ?_
  obtain ⟨r, B, O, st, rfl, hB, er, sr, p⟩ := h
  refine ⟨r, B, O, st, rfl, hB, er, sr, Post.imp p.bind (fun d s1 O1 x1 sr1 p v hv => ?_) fun _ _ _ _ _ q => q⟩
  rw [hK]
  exact ⟨B, O1, s1, d, _, rfl, hB, hv, sr1, p⟩
end
end Lf
end
section
set_option maxHeartbeats 4000000
/-! The interpreter is sound: slices, and/or, isinstance, methods, calls. -/
namespace Lf
open PySem L2

theorem truth_same {d : D} {s s' : Sto} {k : Bool} (h : truth d s = .ok k s') : s' = s := by
  unfold truth at h
  split at h <;> first | (cases h; rfl) | (cases h; done) | skip
  unfold bnd getC at h
  cases g : s[‹Nat›]? with
  | none =>
    rw [g] at h
    cases h
  | some c =>
    rw [g] at h
    cases c <;> cases h <;> rfl
/-- asked twice -/
theorem truth_twice {d : D} {or : Bool} {f : M Bool} : (bnd (truth d) fun c => if c = or then truth d else f) = bnd (truth d) fun c => if c = or then ret or else f := by
  funext s
  unfold bnd
  cases h : truth d s with
  | ok k s' =>
    have e := truth_same h
    subst e
    show (if k = or then truth d else f) s' = (if k = or then ret or else f) s'
    by_cases z : k = or
    · rw [if_pos z, if_pos z, h, ← z]
      rfl
    · rw [if_neg z, if_neg z]
  | err x s' => rfl
  | bad => rfl
section
variable {Z : Wd} {W : WX} {sc : Scope} {X : Cx} {lo : Nat} {a b c : Expr} {pos : Pos}
def txO (K : PySem.W.Frag) (lo : Nat) (W : WX) (f : Env → M (List D)) : TO := fun σ H Q => ∃ (r : Env) (B : List Nat) (O : Om) (st : Sto), O.H = H ∧ (∀ b ∈ B, b ≤ lo) ∧ ER K O st r σ ∧ SR K B O st ∧ Post K (bnd (f r) part st) B O st (fun o _ O' => Q o O'.H) (Er K W σ)
theorem o_none {K : PySem.W.Frag} : PO X none (txO K lo W (fun _ => ret [])) := by
  refine PO.weak po_none fun σ H Q h => ?_
  obtain ⟨r, B, O, st, rfl, hB, er, sr, p⟩ := h
  have p' : Post K (ret none st) B O st (fun (o : Option Int) _ O' => Q o O'.H) (Er K W σ) := p
  exact Post.rt p' sr
theorem o_some {K : PySem.W.Frag} {f : Env → M D} (h1 : PE X a (tx K lo W f)) : PO X (some a) (txO K lo W (fun r => bnd (f r) fun x => bnd (ret []) fun xs => ret (x :: xs))) := by
  refine PO.weak (po_some h1) fun σ H Q h => ?_
  obtain ⟨r, B, O, st, rfl, hB, er, sr, p⟩ := h
  dsimp only at p
  rw [bnd_bnd] at p
  refine ⟨r, B, O, st, rfl, hB, er, sr, Post.imp p.bind (fun d s1 O1 x1 s2 q v hv => ?_) fun _ _ _ _ _ q => q⟩
  have q : Post K (part [d] s1) B O1 s1 (fun o _ O' => Q o O'.H) (Er K W σ) := q
  cases d with
  | int i =>
    unfold Rp at hv
    exact ⟨i, hv, Post.rt q s2⟩
  | _ => exact False.elim q
theorem e_slc {K : PySem.W.Frag} (hK : X.K = K) {p2 : Pos} {l h : Option Expr} {f : Env → M D} {g k : Env → M (List D)} (h1 : PE X a (tx K lo W f)) (h2 : PO X l (txO K lo W g)) (h3 : PO X h (txO K lo W k)) :
    PE X (.Subscript a (.Slice l h none p2) pos) (tx K lo W (fun r => bnd (f r) fun x => bnd (g r) fun y => bnd (part y) fun i => bnd (k r) fun z => bnd (part z) fun j => slcV x i j)) := by
  subst hK
  refine PE.weak (pe_slice (slc_ok (lo := lo)) h1 h2 h3) fun σ H Q h => ?_
  refine tx_seq h fun r B O st d v hB er sr hv p => ?_
  rw [← bnd_bnd] at p
  refine ⟨r, B, O, st, rfl, hB, er, sr, Post.imp p.bind (fun i s2 O2 x2 s3 q => ?_) fun _ _ _ _ _ q => q⟩
  rw [← bnd_bnd] at q
  refine ⟨r, B, O2, s2, rfl, hB, er.on x2, s3, Post.imp q.bind (fun j s4 O4 x4 s5 q => ?_) fun _ _ _ _ _ q => q⟩
  exact ⟨B, O4, s4, d, _, rfl, hB, (hv.on x2).on x4, s5, q⟩
/-! ### and, or -/
theorem e_bo1 {op : BoolOp} {K : PySem.W.Frag} {f : Env → M D} (h1 : PE X a (tx K lo W f)) : PE X (.BoolOp op [a] pos) (tx K lo W f) := pe_one h1
theorem e_bo2 {or : Bool} {rest : List Expr} {K : PySem.W.Frag} (hK : X.K = K) {f g : Env → M D} (h1 : PE X a (tx K lo W f)) (h2 : PE X (.BoolOp (if or then .Or else .And) (b :: rest) pos) (tx K lo W g)) :
    PE X (.BoolOp (if or then .Or else .And) (a :: b :: rest) pos) (tx K lo W (fun r => bnd (f r) fun x => bnd (truth x) fun c => if c = or then ret x else g r)) := by
  subst hK
  cases or with
  | true =>
    refine PE.weak (pe_orT h1 h2) fun σ H Q h => ?_
    refine tx_seq h fun r B O st d v hB er sr hv p => ?_
    obtain ⟨k, t, p⟩ := truth_ok hv sr p
    refine ⟨k, t, ?_⟩
    cases k with
    | true => exact Post.rt p sr v hv
    | false => exact ⟨r, B, O, st, rfl, hB, er, sr, p⟩
  | false =>
    refine PE.weak (pe_andT h1 h2) fun σ H Q h => ?_
    refine tx_seq h fun r B O st d v hB er sr hv p => ?_
    obtain ⟨k, t, p⟩ := truth_ok hv sr p
    refine ⟨k, t, ?_⟩
    cases k with
    | false => exact Post.rt p sr v hv
    | true => exact ⟨r, B, O, st, rfl, hB, er, sr, p⟩
theorem w_bo1 {or : Bool} {K : PySem.W.Frag} {f : Env → M D} (h1 : PT X a (txB K lo W (fun r => bnd (f r) truth))) : L2.PW X (.BoolOp (if or then .Or else .And) [a] pos) (txB K lo W (fun r => bnd (f r) truth)) := by
  cases or with
  | true => exact pw_or1 h1
  | false => exact pw_and1 h1
theorem w_bo2 {or : Bool} {rest : List Expr} {K : PySem.W.Frag} {f g : Env → M D} (h1 : PT X a (txB K lo W (fun r => bnd (f r) truth))) (h2 : L2.PW X (.BoolOp (if or then .Or else .And) (b :: rest) pos) (txB K lo W (fun r => bnd (g r) truth))) :
    L2.PW X (.BoolOp (if or then .Or else .And) (a :: b :: rest) pos) (txB K lo W (fun r => bnd (bnd (f r) fun x => bnd (truth x) fun c => if c = or then ret x else g r) truth)) := by
  have e : ∀ r, (bnd (bnd (f r) fun x => bnd (truth x) fun c => if c = or then ret x else g r) truth) = bnd (bnd (f r) truth) fun c => if c = or then ret or else bnd (g r) truth := by
    intro r
    rw [bnd_bnd, bnd_bnd]
    congr 1
    funext x
    rw [bnd_bnd, ← truth_twice]
    congr 1
    funext c
    by_cases z : c = or
    · rw [if_pos z, if_pos z]
      rfl
    · rw [if_neg z, if_neg z]
  cases or with
  | true =>
    refine PW.weak (pw_or h1 h2) fun σ H Q h => ?_
    obtain ⟨r, B, O, st, rfl, hB, er, sr, p⟩ := h
    dsimp only at p
    rw [e] at p
    refine ⟨r, B, O, st, rfl, hB, er, sr, Post.imp p.bind (fun c s1 O1 x1 sr1 p => ?_) fun _ _ _ _ _ q => q⟩
    cases c with
    | true => exact Post.rt p sr1
    | false => exact ⟨r, B, O1, s1, rfl, hB, er.on x1, sr1, p⟩
  | false =>
    refine PW.weak (pw_and h1 h2) fun σ H Q h => ?_
    obtain ⟨r, B, O, st, rfl, hB, er, sr, p⟩ := h
    dsimp only at p
    rw [e] at p
    refine ⟨r, B, O, st, rfl, hB, er, sr, Post.imp p.bind (fun c s1 O1 x1 sr1 p => ?_) fun _ _ _ _ _ q => q⟩
    cases c with
    | false => exact Post.rt p sr1
    | true => exact ⟨r, B, O1, s1, rfl, hB, er.on x1, sr1, p⟩
/-! ### isinstance -/
theorem tn_boot (t : Tn) : bootBuiltins t.py = some (.type t.ty) := by
  cases t <;> decide +kernel
theorem p_tn (hin : In Z W sc X) (ok : Z.Ok) {t : Tn} {p : Pos} (hg : glB sc t.py = true) : PE X (.Name t.py p) (tC (.ty t.ty)) := by
  obtain ⟨g1, g2⟩ := hin.gl hg
  exact pe_bltn g1 (hin.free ok (by cases t <;> decide)) (tn_boot t) rfl (by cases t <;> decide) g2
/-- a tuple of classes -/
def tTys (ts : List Tn) : TA := fun _ H Q => Q (ts.map fun t => .ty t.ty) H
theorem p_tns (hin : In Z W sc X) (ok : Z.Ok) : ∀ {ts : List Tn} {es : List Expr}, tnsE sc ts es = true → PA X es (tTys ts)
  | [], [], _ => PA.weak pa_nil fun σ H Q h => h
  | t :: ts, .Name x p :: es, h => by
    unfold tnsE at h
    obtain ⟨h, h3⟩ := Bool.and_eq_true_iff.mp h
    obtain ⟨h1, h2⟩ := Bool.and_eq_true_iff.mp h
    have e := eq_of_beq h1
    subst e
    exact PA.weak (pa_cons (p_tn hin ok h2) (p_tns hin ok h3) rfl) fun σ H Q h => h
  | [], _ :: _, h => by unfold tnsE at h; cases h
  | _ :: _, [], h => by unfold tnsE at h; cases h
  | _ :: _, .BoolOp _ _ _ :: _, h => by unfold tnsE at h; cases h
  | _ :: _, .NamedExpr _ _ _ :: _, h => by unfold tnsE at h; cases h
  | _ :: _, .BinOp _ _ _ _ :: _, h => by unfold tnsE at h; cases h
  | _ :: _, .UnaryOp _ _ _ :: _, h => by unfold tnsE at h; cases h
  | _ :: _, .Lambda .. :: _, h => by unfold tnsE at h; cases h
  | _ :: _, .IfExp _ _ _ _ :: _, h => by unfold tnsE at h; cases h
  | _ :: _, .Dict .. :: _, h => by unfold tnsE at h; cases h
  | _ :: _, .Set .. :: _, h => by unfold tnsE at h; cases h
  | _ :: _, .ListComp .. :: _, h => by unfold tnsE at h; cases h
  | _ :: _, .SetComp .. :: _, h => by unfold tnsE at h; cases h
  | _ :: _, .DictComp .. :: _, h => by unfold tnsE at h; cases h
  | _ :: _, .GeneratorExp .. :: _, h => by unfold tnsE at h; cases h
  | _ :: _, .Await .. :: _, h => by unfold tnsE at h; cases h
  | _ :: _, .Yield .. :: _, h => by unfold tnsE at h; cases h
  | _ :: _, .YieldFrom .. :: _, h => by unfold tnsE at h; cases h
  | _ :: _, .Compare .. :: _, h => by unfold tnsE at h; cases h
  | _ :: _, .Call .. :: _, h => by unfold tnsE at h; cases h
  | _ :: _, .Constant .. :: _, h => by unfold tnsE at h; cases h
  | _ :: _, .Attribute .. :: _, h => by unfold tnsE at h; cases h
  | _ :: _, .Subscript .. :: _, h => by unfold tnsE at h; cases h
  | _ :: _, .Starred .. :: _, h => by unfold tnsE at h; cases h
  | _ :: _, .List .. :: _, h => by unfold tnsE at h; cases h
  | _ :: _, .Tuple .. :: _, h => by unfold tnsE at h; cases h
  | _ :: _, .Slice .. :: _, h => by unfold tnsE at h; cases h
theorem tys_pair : ∀ ts : List Tn, Paired ClsV (ts.map fun t => V.ty t.ty) (ts.map fun t => Value.type t.ty)
  | [] => .nil
  | t :: r => .cons (.ty _) (tys_pair r)
theorem e_isi1 (hin : In Z W sc X) (ok : Z.Ok) {t : Tn} {p p' : Pos} {f : Env → M D} (hg : glB sc "isinstance" = true) (ht : glB sc t.py = true) (h1 : PE X a (tx Z.K lo W f)) (hs : noStar a = true) :
    PE X (.Call (.Name "isinstance" p) [a, .Name t.py p'] [] pos) (tx Z.K lo W (fun r => bnd (f r) fun x => bnd (tagOf x) fun k => ret (.bl ([t].any (isTn k))))) := by
  have hK := hin.K
  obtain ⟨g1, g2⟩ := hin.gl hg
  have hm : X.mg "isinstance" = none := hin.free ok (by decide)
  have ha : PA X [a, .Name t.py p'] _ := pa_cons h1 (pa_cons (p_tn hin ok ht) pa_nil rfl) (star1 hs)
  refine PE.weak (pe_callB call_isi g1 hm (by decide +kernel) ha (by decide) g2 (star1 hs) rfl) fun σ H Q h => ?_
  refine tx_seq h fun r B O st d v hB er sr hv p => ?_
  obtain ⟨k, ty, p⟩ := tag_ok hv sr p
  rw [hK]
  have e : ([t].any (isTn k)) = isTn k t := by
    show (isTn k t || false) = isTn k t
    exact Bool.or_false _
  rw [e] at p
  exact ⟨v, .ty t.ty, _, _, _, rfl, .ty _, ty, kit_tn k t, Post.rt p sr _ (by unfold Rp; rfl)⟩
theorem e_isiT (hin : In Z W sc X) (ok : Z.Ok) {ts : List Tn} {es : List Expr} {j : Nat} {p p' : Pos} {f : Env → M D} (hg : glB sc "isinstance" = true) (ht : tnsE sc ts es = true) (hl : ts.length ≤ sizeLine) (h1 : PE X a (tx Z.K lo W f)) (hs : noStar a = true) :
    PE X (.Call (.Name "isinstance" p) [a, .Tuple es j p'] [] pos) (tx Z.K lo W (fun r => bnd (f r) fun x => bnd (tagOf x) fun k => ret (.bl (ts.any (isTn k))))) := by
  have hK := hin.K
  obtain ⟨g1, g2⟩ := hin.gl hg
  have hm : X.mg "isinstance" = none := hin.free ok (by decide)
  have ha : PA X [a, .Tuple es j p'] _ := pa_cons h1 (pa_cons (pe_tup (p_tns hin ok ht)) pa_nil rfl) (star1 hs)
  refine PE.weak (pe_callB call_isiT g1 hm (by decide +kernel) ha (by decide) g2 (star1 hs) rfl) fun σ H Q h => ?_
  refine tx_seq h fun r B O st d v hB er sr hv p => ?_
  refine ⟨by rw [List.length_map]; exact hl, fun q hq => ?_⟩
  have x1 := ext_lay (O := O) (st := st) (o := .tup (ts.map fun t => V.ty t.ty)) hq
  have s1 := sr_lay (o := .tup (ts.map fun t => V.ty t.ty)) sr hq
  obtain ⟨k, ty, p⟩ := tag_ok (hv.on x1) s1 (Post.later x1 p)
  show rIsiT X.K [v, .ref q] (upd O.H q (.tup (ts.map fun t => V.ty t.ty))) Q
  rw [hK]
  exact ⟨v, q, _, _, _, _, rfl, upd_same, tys_pair ts, ty, kit_any k ts, Post.rt p s1 _ (by unfold Rp; rfl)⟩
/-! ### methods -/
theorem Me.pa (f : Me) : PlainAttrs f.T := by
  cases f with
  | join => exact PySem.F.plainAttrs_str
  | _ => exact PySem.F.plainAttrs_list
theorem Me.slot (f : Me) : Slot f.T f.py f.id := by
  cases f with
  | join => exact PySem.F.slot_str_join
  | append => exact PySem.F.slot_list_append
  | _ => exact PySem.F.slot_list_pop
theorem Me.typ (f : Me) : typeOf (.builtin f.id) = pure (.type "method_descriptor") := by
  cases f with
  | join => exact PySem.F.type_str_join
  | append => exact PySem.F.type_list_append
  | _ => exact PySem.F.type_list_pop
theorem base_of {o : Expr} {name : Str} (h : bareCall o = false) : attributeBase o name X.env (eval o X.env) = eval o X.env := by
  cases o with
  | Call f as ks p =>
    cases f with
    | Name x q =>
      cases as with
      | nil =>
        cases ks with
        | nil => cases h
        | cons k r => rfl
      | cons k r => rfl
    | _ => rfl
  | _ => rfl
theorem stars_all {es : List Expr} {ps : List E} {N : List Str} {sg : Sig} (h : cmpL N sg sc ps es = true) {pos : Pos} {env : PySem.Env} : (backTo pos (starEach es env)).all (fun x => !x.1) = true := by
  have q := noStars h (pos := pos) (env := env)
  rw [List.any_eq_false] at q
  rw [List.all_eq_true]
  intro x hx
  have := q x hx
  simpa using this
theorem cmpL_cons {N : List Str} {sg : Sig} {ps : List E} {e : Expr} {es : List Expr} (h : cmpL N sg sc ps (e :: es) = true) : ∃ p ps', ps = p :: ps' ∧ noStar e = true ∧ cmpE N sg sc p e = true ∧ cmpL N sg sc ps' es = true := by
  cases ps with
  | nil => unfold cmpL at h; cases h
  | cons p ps' =>
    unfold cmpL at h
    obtain ⟨h1, h2⟩ := Bool.and_eq_true_iff.mp h
    obtain ⟨h0, h1⟩ := Bool.and_eq_true_iff.mp h1
    exact ⟨p, ps', rfl, h0, h1, h2⟩
theorem cmpL_len {N : List Str} {sg : Sig} : ∀ {es : List Expr} {ps : List E}, cmpL N sg sc ps es = true → ps.length = es.length
  | [], [], _ => rfl
  | [], _ :: _, h => by unfold cmpL at h; cases h
  | _ :: _, _, h => by
    obtain ⟨p, ps', rfl, _, _, h2⟩ := cmpL_cons h
    rw [List.length_cons, List.length_cons, cmpL_len h2]
theorem e_me {K : PySem.W.Frag} (hK : X.K = K) {m : Me} {apos : Pos} {es : List Expr} {ps : List E} {N : List Str} {sg : Sig} {f : Env → M D} {g : Env → M (List D)} (hl : (apos.endLine == pos.line) = true) (hb : bareCall a = false) (hn : es.length < 29) (hc : cmpL N sg sc ps es = true)
    (h1 : PE X a (tx K lo W f)) (h2 : PA X es (txA K lo W g)) (hg : es = [] → ∀ r, g r = ret []) :
    PE X (.Call (.Attribute a m.py apos) es [] pos) (tx K lo W (fun r => bnd (f r) fun x => bnd (meK m x) fun _ => bnd (g r) fun ys => meV lo m x ys)) := by
  subst hK
  cases es with
  | nil =>
    refine PE.weak (pe_bm0 m.pa m.slot m.typ (me_ok (lo := lo) m) h1 (base_of hb) hl) fun σ H Q h => ?_
    refine tx_seq h fun r B O st d v hB er sr hv p => ?_
    obtain ⟨ty, p⟩ := meK_ok hv sr p
    rw [hg rfl] at p
    exact ⟨ty, B, O, st, d, [], _, rfl, hB, hv, .nil, sr, p⟩
  | cons e es =>
    obtain ⟨p0, ps', rfl, hs, _, hc2⟩ := cmpL_cons hc
    have hfew : ((backTo pos (starEach (e :: es) X.env)).all (fun x => !x.1) && (backToKw pos (keywordEach [] X.env)).all (fun x => x.1.isSome)
      && decide ((e :: es).length + ([] : List Keyword).length + (if ([] : List Keyword).isEmpty then 0 else 1) < 30)) = true := by
      rw [stars_all hc]
      show (true && true && decide ((e :: es).length + 0 + 0 < 30)) = true
      simp only [Bool.true_and, Nat.add_zero]
      exact decide_eq_true (by omega)
    refine PE.weak (pe_bm m.pa m.slot m.typ (me_ok (lo := lo) m) h1 h2 (base_of hb) hfew hl (star1 hs) (noStars hc2)) fun σ H Q h => ?_
    refine tx_seq h fun r B O st d v hB er sr hv p => ?_
    obtain ⟨ty, p⟩ := meK_ok hv sr p
    refine ⟨ty, r, B, O, st, rfl, hB, er, sr, Post.imp p.bind (fun ds s1 O1 x1 sr1 p vs hvs => ?_) fun _ _ _ _ _ q => q⟩
    exact ⟨B, O1, s1, d, ds, _, rfl, hB, hv.on x1, hvs, sr1, p⟩
/-! ### calls of defs -/
theorem rpl_nil {K : PySem.W.Frag} {O : Om} {st : Sto} {ds : List D} (h : RpL K O st ds []) : ds = [] := by
  cases ds with
  | nil => rfl
  | cons d r =>
    unfold RpL at h
    obtain ⟨v, w, e, _⟩ := h
    cases e
theorem Post.bindE {α β : Type} {K : PySem.W.Frag} {B : List Nat} {O : Om} {st : Sto} {r : R α} {f : α → M β} {q : β → Sto → Om → Prop} {e : D → Sto → Om → Prop} (h : Post K (r.bind f) B O st q e) :
    Post K r B O st (fun a s1 O1 => r = .ok a s1 ∧ Post K (f a s1) B O1 s1 q e) e := by
  cases r with
  | ok a s => exact fun O' y _ => ⟨rfl, Post.later y h⟩
  | err d s => exact h
  | bad => exact h
theorem e_call (hin : In Z W sc X) (ok : Z.Ok) {x : Str} {p : Pos} {es : List Expr} {ps : List E} {kws : List Keyword} {ks : List Str} {fi : Nat} {ord : List Nat} {f k : Env → M (List D)} (hx : Z.sg.fn[fi]? = some x) (hg : glB sc x = true) (hs : Z.sg.sg fi es.length ks ord = true) (hk : kws.map (·.arg) = ks.map some)
    (hc : cmpL Z.N Z.sg sc ps es = true) (h1 : PA X es (txA Z.K lo W f)) (h2 : PK X kws (txA Z.K lo W k)) (he : es = [] → ∀ r, f r = ret []) (lf : ∀ r s xs s', f r s = .ok xs s' → xs.length = es.length) (lk : ∀ r s xs s', k r s = .ok xs s' → xs.length = kws.length) :
    PE X (.Call (.Name x p) es kws pos) (tx Z.K lo W (fun r => bnd (f r) fun xs => bnd (k r) fun ys => Z.g.call lo fi (pick ord (xs ++ ys ++ Z.g.dfl fi)))) := by
  obtain ⟨g1, g2⟩ := hin.gl hg
  obtain ⟨fa, e1, e2, run⟩ := ok.call fi es.length ks ord x hx hs
  have hK := hin.K
  have hm : X.mg x = some (.ref fa) := by rw [hin.mg]; exact e1
  have hkp : PySem.W.keepIn X.K (.ref fa) = true := by rw [hK]; exact e2
  obtain ⟨k1, k2, k3⟩ := kwds hk (pos := pos) (env := X.env)
  have hkl : kws.length = ks.length := by
    have := congrArg List.length hk
    rwa [List.length_map, List.length_map] at this
  refine ⟨fun pins s σ H Q I h => ?_⟩
  obtain ⟨r, B, O, st, rfl, hB, er, sr, q⟩ := h
  refine wpAny_Call_Name_kw (ld_glob I g1 hm ?_ g2)
  have first : txA Z.K lo W f σ O.H (fun vs H1 => vs.length = es.length ∧ txA Z.K lo W k σ H1 (fun zs H2 => zs.length = ks.length ∧ rxC Z.K lo W σ (fun xs ys => Z.g.call lo fi (pick ord (xs ++ ys ++ Z.g.dfl fi))) vs zs H2 Q)) := by
    refine ⟨r, B, O, st, rfl, hB, er, sr, Post.imp q.bindE (fun xs s1 O1 x1 sr1 ⟨eq, q⟩ vs hv => ⟨?_, ?_⟩) fun _ _ _ _ _ z => z⟩
    · rw [← hv.length]
      exact lf _ _ _ _ eq
    · refine ⟨r, B, O1, s1, rfl, hB, er.on x1, sr1, Post.imp q.bindE (fun ys s2 O2 x2 sr2 ⟨eq2, q2⟩ zs hz => ⟨?_, ?_⟩) fun _ _ _ _ _ z => z⟩
      · rw [← hz.length, ← hkl]
        exact lk _ _ _ _ eq2
      · exact ⟨B, O2, s2, xs, ys, rfl, hB, hv.on x2, hz, sr2, q2⟩
  cases es with
  | nil =>
    have q : Post Z.K (bnd (f r) (fun xs => bnd (k r) fun ys => Z.g.call lo fi (pick ord (xs ++ ys ++ Z.g.dfl fi))) st) B O st (QV Z.K Q) (Er Z.K W σ) := q
    rw [he rfl r] at q
    have q : Post Z.K (bnd (k r) (fun ys => Z.g.call lo fi (pick ord ([] ++ ys ++ Z.g.dfl fi))) st) B O st (QV Z.K Q) (Er Z.K W σ) := q
    refine PySem.W.callWith_KW0 (h₀ := X.base) I.ok.mod.kin hkp k1 (thn (h2.run pos pins s σ O.H (fun zs H2 => zs.length = ks.length ∧ rxC Z.K lo W σ (fun xs ys => Z.g.call lo fi (pick ord (xs ++ ys ++ Z.g.dfl fi))) [] zs H2 Q) I ⟨r, B, O, st, rfl, hB, er, sr, Post.imp q.bindE (fun ys s2 O2 x2 sr2 ⟨eq2, q2⟩ zs hz => ⟨?_, ?_⟩) fun _ _ _ _ _ z => z⟩) fun ws s2 ⟨zs, H2, I2, rz, hl2, q2⟩ => ?_) (by rw [k3]; rfl)
    · rw [← hz.length, ← hkl]
      exact lk _ _ _ _ eq2
    · exact ⟨B, O2, s2, [], ys, rfl, hB, .nil, hz, sr2, q2⟩
    · rw [k2]
      exact ⟨I2.kIn, run W sc X Z.N hin lo pins s2 σ H2 [] ws [] zs Q I2 .nil rz rfl hl2 q2⟩
  | cons e es =>
    obtain ⟨p0, ps', rfl, hst, _, hc2⟩ := cmpL_cons hc
    have hpl : ((backTo pos (starEach (e :: es) X.env)).any (·.1) || (backToKw pos (keywordEach kws X.env)).any (·.1.isNone)) = false := by
      rw [noStars hc, k3]
      rfl
    refine PySem.W.callWith_KW (h₀ := X.base) I.ok.mod.kin hkp k1 (thn (h1.run pos pins s σ _ _ I first) fun us s1 ⟨vs, H1, I1, rv, hl, q1⟩ => ?_) hpl (star1 hst)
    refine thn (h2.run pos pins s1 σ H1 _ I1 q1) fun ws s2 ⟨zs, H2, I2, rz, hl2, q2⟩ => ?_
    rw [k2]
    exact ⟨I2.kIn, run W sc X Z.N hin lo pins s2 σ H2 us ws vs zs Q I2 rv rz hl hl2 q2⟩
end
end Lf
end
section
set_option maxHeartbeats 4000000
/-! The interpreter is sound: walks, targets, comprehensions. -/
namespace Lf
open PySem L2

/-! ### sameness is equality -/
mutual
theorem D.same_eq : ∀ {x y : D}, D.same x y = true → x = y
  | .non, y, h => by cases y <;> first | rfl | (unfold D.same at h; cases h; done)
  | .bl a, y, h => by cases y <;> first | (unfold D.same at h; cases h; done) | (unfold D.same at h; rw [eq_of_beq h])
  | .int a, y, h => by cases y <;> first | (unfold D.same at h; cases h; done) | (unfold D.same at h; rw [eq_of_beq h])
  | .str a, y, h => by cases y <;> first | (unfold D.same at h; cases h; done) | (unfold D.same at h; rw [eq_of_beq h])
  | .tup a, y, h => by cases y <;> first | (unfold D.same at h; cases h; done) | (unfold D.same at h; rw [sameL_eq h])
  | .lst a, y, h => by cases y <;> first | (unfold D.same at h; cases h; done) | (unfold D.same at h; rw [sameL_eq h])
  | .dct a b, y, h => by cases y <;> first | (unfold D.same at h; cases h; done) | (unfold D.same at h; rw [sameL_eq (Bool.and_eq_true_iff.mp h).1, sameL_eq (Bool.and_eq_true_iff.mp h).2])
  | .ins a b c, y, h => by cases y <;> first | (unfold D.same at h; cases h; done) | (unfold D.same at h; obtain ⟨h1, h2⟩ := Bool.and_eq_true_iff.mp h; obtain ⟨h0, h1⟩ := Bool.and_eq_true_iff.mp h1; rw [eq_of_beq h0, eq_of_beq h1, sameL_eq h2])
  | .scr a, y, h => by cases y <;> first | (unfold D.same at h; cases h; done) | (unfold D.same at h; rw [eq_of_beq h])
  | .m a, y, h => by cases y <;> first | (unfold D.same at h; cases h; done) | (unfold D.same at h; rw [eq_of_beq h])
  | .fn a, y, h => by cases y <;> first | (unfold D.same at h; cases h; done) | (unfold D.same at h; rw [eq_of_beq h])
  | .ty a, y, h => by cases y <;> first | (unfold D.same at h; cases h; done) | (unfold D.same at h; rw [eq_of_beq h])
theorem sameL_eq : ∀ {x y : List D}, sameL x y = true → x = y
  | [], y, h => by cases y <;> first | rfl | (unfold sameL at h; cases h; done)
  | a :: r, y, h => by cases y <;> first | (unfold sameL at h; cases h; done) | (unfold sameL at h; rw [D.same_eq (Bool.and_eq_true_iff.mp h).1, sameL_eq (Bool.and_eq_true_iff.mp h).2])
end
theorem C.same_eq {x y : C} (h : C.same x y = true) : x = y := by
  cases x <;> cases y <;> first
    | rfl
    | (unfold C.same at h; cases h; done)
    | (unfold C.same at h; rw [sameL_eq h]; done)
    | (unfold C.same at h; rw [sameL_eq (Bool.and_eq_true_iff.mp h).1, sameL_eq (Bool.and_eq_true_iff.mp h).2]; done)
    | (unfold C.same at h; obtain ⟨h1, h2⟩ := Bool.and_eq_true_iff.mp h; obtain ⟨h0, h1⟩ := Bool.and_eq_true_iff.mp h1; rw [eq_of_beq h0, eq_of_beq h1, sameL_eq h2])

/-! ### what is walked -/
def Sd (K : PySem.W.Frag) (sd : Option (D × V)) (xs : List D) (O : Om) (st : Sto) : Prop := ∀ d v, sd = some (d, v) → Rp K O st d v ∧ walkV d st = .ok xs st
theorem Sd.on {K : PySem.W.Frag} {sd : Option (D × V)} {xs : List D} {O O' : Om} {st st' : Sto} (x : Ext O st O' st') (h : stays (sd.map Prod.fst) st st' = true) (q : Sd K sd xs O st) : Sd K sd xs O' st' := by
  rintro d v rfl
  obtain ⟨q1, q2⟩ := q d v rfl
  refine ⟨q1.on x, ?_⟩
  cases d with
  | m k =>
    have h : stays (some (.m k)) st st' = true := h
    unfold stays at h
    dsimp only at h
    split at h
    · rename_i c c' g g'
      have e := C.same_eq h
      subst e
      have e1 : ∀ s : Sto, s[k]? = some c → walkV (.m k) s = (bnd (getC k) fun c => match c with
        | .lst xs => ret xs
        | _ => bad) s := fun s _ => rfl
      rw [e1 st g] at q2
      rw [e1 st' g']
      unfold bnd getC at q2 ⊢
      rw [g] at q2
      rw [g']
      cases c with
      | lst ys => cases q2; rfl
      | _ => cases q2
    · cases h
  | _ => cases q2 <;> rfl
structure Wk (K : PySem.W.Frag) (J : It) (sd : Option (D × V)) (xs : List D) : Prop where
  on : ∀ (B : List Nat) (O : Om) (st : Sto), SR K B O st → Sd K sd xs O st → (∀ i, i < xs.length → J.go i O.H ∧ ∀ x H', J.yld i O.H x H' → H' = O.H ∧ ∃ dx, xs[i]? = some dx ∧ Rp K O st dx x) ∧ J.stop xs.length O.H
def jOf (K : PySem.W.Frag) (d : D) (v : V) : It := match v with
  | .ref a => match d with
    | .tup _ => Itt K a
    | _ => Itl K a
  | .str x => Its x
  | _ => Itr 0 0
theorem wk_l {K : PySem.W.Frag} {O : Om} {st : Sto} {a : Addr} {xs : List D} {vs : List V} (h : SqL K O.H a vs) (r : RpL K O st xs vs) :
    (∀ i, i < xs.length → (Itl K a).go i O.H ∧ ∀ x H', (Itl K a).yld i O.H x H' → H' = O.H ∧ ∃ dx, xs[i]? = some dx ∧ Rp K O st dx x) ∧ (Itl K a).stop xs.length O.H := by
  refine ⟨fun i hi => ?_, vs, h, Nat.le_of_eq r.length.symm⟩
  obtain ⟨v, e, hv⟩ := r.get (List.getElem?_eq_getElem hi)
  refine ⟨⟨vs, v, h, e⟩, fun x H' y => ⟨y.1, _, List.getElem?_eq_getElem hi, ?_⟩⟩
  have e2 := y.2 vs h
  rw [e] at e2
  cases e2
  exact hv
theorem wk_t {K : PySem.W.Frag} {O : Om} {st : Sto} {a : Addr} {xs : List D} {vs : List V} (h : SqT K O.H a vs) (r : RpL K O st xs vs) :
    (∀ i, i < xs.length → (Itt K a).go i O.H ∧ ∀ x H', (Itt K a).yld i O.H x H' → H' = O.H ∧ ∃ dx, xs[i]? = some dx ∧ Rp K O st dx x) ∧ (Itt K a).stop xs.length O.H := by
  refine ⟨fun i hi => ?_, vs, h, Nat.le_of_eq r.length.symm⟩
  obtain ⟨v, e, hv⟩ := r.get (List.getElem?_eq_getElem hi)
  refine ⟨⟨vs, v, h, e⟩, fun x H' y => ⟨y.1, _, List.getElem?_eq_getElem hi, ?_⟩⟩
  have e2 := y.2 vs h
  rw [e] at e2
  cases e2
  exact hv
theorem wk_val {K : PySem.W.Frag} {d : D} {v : V} {xs : List D} : Wk K (jOf K d v) (some (d, v)) xs := by
  refine ⟨fun B O st sr h => ?_⟩
  obtain ⟨hr, hw⟩ := h d v rfl
  cases d with
  | tup ys =>
    unfold Rp at hr
    obtain ⟨a, vs, rfl, t, r⟩ := hr
    cases hw
    exact wk_t t.sq r
  | lst ys =>
    unfold Rp at hr
    obtain ⟨a, vs, rfl, _, t, r⟩ := hr
    cases hw
    exact wk_l (SqL.of t) r
  | scr ns =>
    unfold Rp at hr
    obtain ⟨a, rfl, t⟩ := hr
    cases hw
    exact wk_l t.sq (rp_ints ns)
  | str x =>
    unfold Rp at hr
    obtain ⟨rfl, hl⟩ := hr
    cases hw
    refine ⟨fun i hi => ?_, ?_⟩
    · rw [List.length_map, Array.length_toList] at hi
      refine ⟨hi, fun y H' q => ⟨q.1, ?_⟩⟩
      obtain ⟨_, c, e, rfl⟩ := q
      refine ⟨.str ⟨#[c]⟩, ?_, ?_⟩
      · rw [List.getElem?_map, Array.getElem?_toList, e]
        rfl
      · unfold Rp
        exact ⟨rfl, by show 1 ≤ sizeLine; decide⟩
    · rw [List.length_map, Array.length_toList]
      exact Nat.le_refl x.cps.size
  | m k =>
    unfold Rp at hr
    have e1 : walkV (.m k) st = (bnd (getC k) fun c => match c with
        | .lst xs => ret xs
        | _ => bad) st := rfl
    rw [e1] at hw
    unfold bnd getC at hw
    cases g : st[k]? with
    | none =>
      rw [g] at hw
      cases hw
    | some c =>
      rw [g] at hw
      cases c with
      | lst ys =>
        cases hw
        obtain ⟨vs, e2, r⟩ := sr.cel k _ g
        rw [hr.2 ⟨_, g, by intro z; cases z⟩]
        exact wk_l (SqL.of e2) r
      | _ => cases hw
  | _ => cases hw
theorem wk_range {K : PySem.W.Frag} {n : Nat} {i0 : Int} : Wk K (Itr i0 n) none (intsTo n i0) := by
  refine ⟨fun B O st sr h => ⟨fun i hi => ?_, ?_⟩⟩
  · have hi' : i < n := by
      unfold intsTo at hi
      rwa [List.length_map, List.length_range] at hi
    refine ⟨hi', fun x H' y => ⟨y.1, .int (i0 + i), ?_, ?_⟩⟩
    · unfold intsTo
      rw [List.getElem?_map, List.getElem?_range hi']
      rfl
    · unfold Rp
      exact y.2
  · unfold intsTo
    rw [List.length_map, List.length_range]
    exact Nat.le_refl n
/-- what is walked: a reading -/
def txI (K : PySem.W.Frag) (lo : Nat) (W : WX) (w : Lf.W) (fs : Env → M (List D)) : TI := fun σ H R => ∃ (r : Env) (B : List Nat) (O : Om) (st : Sto), O.H = H ∧ (∀ b ∈ B, b ≤ lo) ∧ ER K O st r σ ∧ SR K B O st ∧
  Post K (bnd (fs r) (fun ds => bnd (walkW w ds) fun xs => ret (ds, xs)) st) B O st (fun p s1 O1 => ∀ J sd, Wk K J sd p.2 → Sd K sd p.2 O1 s1 → sd.map Prod.fst = srcOf w p.1 → R J O1.H) (Er K W σ)
section
variable {Z : Wd} {W : WX} {sc : Scope} {X : Cx} {lo : Nat} {tg e : Expr}
def iVal (K : PySem.W.Frag) (te : TE) : TI := fun σ H R => te σ H fun v H1 => (∃ a, v = .ref a ∧ (∃ xs, SqL K H1 a xs) ∧ R (Itl K a) H1) ∨ (∃ a, v = .ref a ∧ (∃ xs, SqT K H1 a xs) ∧ R (Itt K a) H1) ∨ ∃ x, v = .str x ∧ R (Its x) H1
theorem pi_val {te : TE} (he : PE X e te) : PI X tg e (iVal X.K te) := by
  refine ⟨fun pins s σ H R I h => thn (he.run pins s σ H _ I h) fun v s1 ⟨x, H1, I1, r1, q1⟩ => ?_⟩
  rcases q1 with ⟨a, rfl, ⟨xs, hq⟩, q⟩ | ⟨a, rfl, ⟨xs, hq⟩, q⟩ | ⟨x, rfl, q⟩
  · cases r1
    obtain ⟨its, rv, p, hz⟩ := I1.list hq
    exact wpAny_pyIter_list p.isList (pi_one (tk := s1.toks) I1 _ (turn_list a _) ⟨_, Heap.get?_push_size _ rfl, rfl, rfl⟩ q)
  · cases r1
    obtain ⟨its, rv, p, hz⟩ := I1.tuple hq
    exact wpAny_pyIter_tuple (show s1.heap.IsTuple a its.toArray from p) (pi_one (tk := s1.toks) I1 _ (turn_tuple a _) ⟨_, Heap.get?_push_size _ rfl, rfl, rfl⟩ q)
  · obtain ⟨t, rfl⟩ := r1
    cases ha : x.cps.all (· < 128)
    · exact wpAny_pyIter_wide ha (pi_one (tk := s1.toks) I1 _ (turn_str _ x t "str_iterator" (.inr rfl)) ⟨_, Heap.get?_push_size _ rfl, rfl, rfl⟩ q)
    · exact wpAny_pyIter_ascii ha (pi_one (tk := s1.toks) I1 _ (turn_str _ x t "str_ascii_iterator" (.inl rfl)) ⟨_, Heap.get?_push_size _ rfl, rfl, rfl⟩ q)
theorem walk_src {K : PySem.W.Frag} {B : List Nat} {O : Om} {st : Sto} {d : D} {v : V} {q : List D → Sto → Om → Prop} {er : D → Sto → Om → Prop} (h : Rp K O st d v) (sr : SR K B O st) (p : Post K (walkV d st) B O st q er) :
    ∃ xs, walkV d st = .ok xs st ∧ q xs st O := by
  cases d with
  | tup ys => exact ⟨ys, rfl, Post.rt p sr⟩
  | lst ys => exact ⟨ys, rfl, Post.rt p sr⟩
  | scr ns => exact ⟨_, rfl, Post.rt p sr⟩
  | str x => exact ⟨_, rfl, Post.rt p sr⟩
  | m k =>
    have e1 : walkV (.m k) st = (bnd (getC k) fun c => match c with
        | .lst xs => ret xs
        | _ => bad) st := rfl
    rw [e1] at p ⊢
    obtain ⟨c, g, p⟩ := Post.get p
    cases c with
    | lst ys =>
      refine ⟨ys, ?_, Post.rt p sr⟩
      unfold bnd getC
      rw [g]
      rfl
    | _ => exact False.elim p
  | _ => exact False.elim p
theorem i_val {K : PySem.W.Frag} (hK : X.K = K) {f : Env → M D} (h1 : PE X e (tx K lo W f)) : PI X tg e (txI K lo W .val (fun r => bnd (f r) fun x => bnd (ret []) fun xs => ret (x :: xs))) := by
  subst hK
  refine PI.weak (pi_val h1) fun σ H R h => ?_
  obtain ⟨r, B, O, st, rfl, hB, er, sr, p⟩ := h
  rw [bnd_bnd] at p
  refine ⟨r, B, O, st, rfl, hB, er, sr, Post.imp p.bind (fun d s1 O1 x1 sr1 p v hv => ?_) fun _ _ _ _ _ q => q⟩
  have p : Post X.K (bnd (walkV d) (fun xs => ret ([d], xs)) s1) B O1 s1 _ _ := p
  obtain ⟨xs, ew, q⟩ := walk_src hv sr1 p.bind
  have q := Post.rt q sr1 (jOf X.K d v) (some (d, v)) wk_val (fun d' v' z => by cases z; exact ⟨hv, ew⟩) rfl
  cases d with
  | tup ys =>
    unfold Rp at hv
    obtain ⟨a, vs, rfl, t, r⟩ := hv
    exact .inr (.inl ⟨a, rfl, ⟨vs, t.sq⟩, q⟩)
  | lst ys =>
    unfold Rp at hv
    obtain ⟨a, vs, rfl, _, t, r⟩ := hv
    exact .inl ⟨a, rfl, ⟨vs, SqL.of t⟩, q⟩
  | scr ns =>
    unfold Rp at hv
    obtain ⟨a, rfl, t⟩ := hv
    exact .inl ⟨a, rfl, ⟨_, t.sq⟩, q⟩
  | str x =>
    unfold Rp at hv
    obtain ⟨rfl, hl⟩ := hv
    exact .inr (.inr ⟨x, rfl, q⟩)
  | m k =>
    obtain ⟨ys, a, vs, rfl, k1, r1, _⟩ := Post.list (q := fun _ _ _ => True) (e := fun _ _ _ => True) hv sr1 (f := ret) (by
      rw [bnd_ret]
      have : walkV (.m k) s1 = listIn (.m k) s1 := rfl
      rw [← this, ew]
      exact fun _ _ _ => trivial)
    exact .inl ⟨a, rfl, ⟨vs, SqL.of k1⟩, q⟩
  | _ => cases ew
theorem Post.rng {β : Type} {K : PySem.W.Frag} {B : List Nat} {O : Om} {st : Sto} {ds : List D} {k : List D → M β} {q : β → Sto → Om → Prop} {er : D → Sto → Om → Prop} (p : Post K (bnd (rangeV ds) k st) B O st q er) :
    (∃ j : Int, ds = [.int j] ∧ j < 16777216 ∧ -(2 ^ 62) ≤ j ∧ Post K (k (intsTo j.toNat 0) st) B O st q er) ∨
    (∃ i j : Int, ds = [.int i, .int j] ∧ (-(2 ^ 62) ≤ i ∧ i < 2 ^ 62 ∧ -(2 ^ 62) ≤ j ∧ j < 2 ^ 62) ∧ Post K (k (intsTo (j - i).toNat i) st) B O st q er) := by
  unfold rangeV at p
  split at p
  · rename_i j
    obtain ⟨c, p⟩ := Post.ckb p
    obtain ⟨c1, c2⟩ := Bool.and_eq_true_iff.mp c
    exact .inl ⟨j, rfl, of_decide_eq_true c1, of_decide_eq_true c2, p⟩
  · rename_i i j
    obtain ⟨c, p⟩ := Post.ckb p
    obtain ⟨c, c5⟩ := Bool.and_eq_true_iff.mp c
    obtain ⟨c, c4⟩ := Bool.and_eq_true_iff.mp c
    obtain ⟨c, c3⟩ := Bool.and_eq_true_iff.mp c
    obtain ⟨c1, c2⟩ := Bool.and_eq_true_iff.mp c
    exact .inr ⟨i, j, rfl, ⟨of_decide_eq_true c1, of_decide_eq_true c2, of_decide_eq_true c3, of_decide_eq_true c4⟩, p⟩
  · exact False.elim p
theorem i_rng (hin : In Z W sc X) (ok : Z.Ok) {es : List Expr} {p pos : Pos} {ps : List E} {fs : Env → M (List D)} (hg : glB sc "range" = true) (hc : cmpL Z.N Z.sg sc ps es = true) (hl : es.length = 1 ∨ es.length = 2) (h1 : PA X es (txA Z.K lo W fs)) (lf : ∀ r s xs s', fs r s = .ok xs s' → xs.length = es.length) :
    PI X tg (.Call (.Name "range" p) es [] pos) (txI Z.K lo W .range fs) := by
  obtain ⟨g1, g2⟩ := hin.gl hg
  have hm : X.mg "range" = none := hin.free ok (by decide)
  match es, hc, hl, h1, lf with
  | [a], hc, _, h1, lf =>
    obtain ⟨p0, ps', rfl, hs, _, _⟩ := cmpL_cons hc
    refine PI.weak (pi_range1 g1 hm h1 (star1 hs)) fun σ H R h => ?_
    obtain ⟨r, B, O, st, rfl, hB, er, sr, p⟩ := h
    refine ⟨r, B, O, st, rfl, hB, er, sr, Post.imp p.bindE (fun ds s1 O1 x1 sr1 ⟨eq, p⟩ vs hv => ?_) fun _ _ _ _ _ q => q⟩
    have ll := lf _ _ _ _ eq
    rcases Post.rng p with ⟨j, rfl, c1, c2, p⟩ | ⟨i, j, rfl, _, p⟩
    · obtain ⟨v, rfl, h0⟩ := rpl1 hv
      unfold Rp at h0
      subst h0
      exact ⟨j, rfl, c2, by omega, Post.rt p sr1 (Itr 0 j.toNat) none wk_range (fun d v z => by cases z) rfl⟩
    · cases ll
  | [a, b], hc, _, h1, lf =>
    obtain ⟨p0, ps', rfl, hs, _, hc2⟩ := cmpL_cons hc
    obtain ⟨p1, ps2, rfl, hs2, _, _⟩ := cmpL_cons hc2
    have e2 := star1 (es := []) (env := X.env) hs2
    refine PI.weak (pi_range2 g1 hm h1 (by rw [star1 hs, e2]; rfl) e2) fun σ H R h => ?_
    obtain ⟨r, B, O, st, rfl, hB, er, sr, p⟩ := h
    refine ⟨r, B, O, st, rfl, hB, er, sr, Post.imp p.bindE (fun ds s1 O1 x1 sr1 ⟨eq, p⟩ vs hv => ?_) fun _ _ _ _ _ q => q⟩
    have ll := lf _ _ _ _ eq
    rcases Post.rng p with ⟨j, rfl, _, _, p⟩ | ⟨i, j, rfl, c, p⟩
    · cases ll
    · obtain ⟨v, u, rfl, h0, h1⟩ := rpl2 hv
      unfold Rp at h0 h1
      subst h0 h1
      exact ⟨i, j, rfl, c, Post.rt p sr1 (Itr i (j - i).toNat) none wk_range (fun d v z => by cases z) rfl⟩
  | [], _, hl, _, _ => rcases hl with h | h <;> cases h
  | _ :: _ :: _ :: _, _, hl, _, _ =>
    rcases hl with h | h <;> simp at h
end

/-! ### targets -/
theorem ER.put {K : PySem.W.Frag} {O : Om} {st : Sto} {r : Env} {σ : St} {i : Nat} {d : D} {v : V} (h : ER K O st r σ) (hv : Rp K O st d v) : ER K O st (r.set i (some d)) (σ.set i (some v)) where
  len := by rw [List.length_set, List.length_set, h.len]
  at_ := fun j c e => by
    by_cases hj : i = j
    · subst hj
      by_cases hl : i < r.length
      · rw [List.getElem?_set_self hl] at e
        cases e
        exact ⟨v, List.getElem?_set_self (by rw [← h.len]; exact hl), hv⟩
      · rw [List.getElem?_eq_none (by rw [List.length_set]; omega)] at e
        cases e
    · rw [List.getElem?_set_ne hj] at e ⊢
      exact h.at_ j c e
theorem wipe_set {σ : St} {i : Nat} {v : Option V} : ∀ {vs : List Nat}, i ∈ vs → wipe (σ.set i v) vs = wipe σ vs
  | w :: vs, h => by
    unfold wipe
    by_cases hi : i ∈ vs
    · rw [wipe_set hi]
    · have e : i = w := (List.mem_cons.mp h).resolve_right hi
      subst e
      have go : ∀ {us : List Nat}, i ∉ us → wipe (σ.set i v) us = (wipe σ us).set i v := by
        intro us
        induction us with
        | nil => intro _; rfl
        | cons u us ih =>
          intro hu
          unfold wipe
          rw [ih fun z => hu (List.mem_cons_of_mem _ z)]
          exact List.set_comm _ _ fun e => hu (by rw [← e]; exact List.mem_cons_self)
      rw [go hi, List.set_set]
theorem ER.wipe {K : PySem.W.Frag} {O : Om} {st : Sto} {r : Env} {σ : St} (h : ER K O st r σ) : ∀ vs : List Nat, ER K O st (wipeE r vs) (L2.wipe σ vs)
  | [] => h
  | w :: vs => by
    have ih := h.wipe vs
    unfold wipeE L2.wipe
    refine ⟨by rw [List.length_set, List.length_set, ih.len], fun j c e => ?_⟩
    by_cases hj : w = j
    · subst hj
      by_cases hl : w < (wipeE r vs).length
      · rw [List.getElem?_set_self hl] at e
        cases e
      · rw [List.getElem?_eq_none (by rw [List.length_set]; omega)] at e
        cases e
    · rw [List.getElem?_set_ne hj] at e ⊢
      exact ih.at_ j c e
def txG (K : PySem.W.Frag) (t : T) : TG := fun v σ H Q => ∃ (r r1 : Env) (O : Om) (st : Sto) (d : D), O.H = H ∧ Rp K O st d v ∧ ER K O st r σ ∧ asgT t d r = some r1 ∧ ∀ σ1, ER K O st r1 σ1 → (∀ vs : List Nat, t.all vs.contains = true → wipe σ1 vs = wipe σ vs) → Q σ1 H
theorem PG.weak {X : Cx} {e : Expr} {t t' : TG} (h : PG X e t) (w : ∀ v σ H Q, t' v σ H Q → t v σ H Q) : PG X e t' := ⟨fun pins s σ H v u Q I rv q => h.run pins s σ H v u Q I rv (w v σ H Q q)⟩
section
variable {Z : Wd} {W : WX} {sc : Scope} {X : Cx} {lo : Nat} {pos : Pos}
theorem g_name (hin : In Z W sc X) {i : Nat} {x : Str} (hN : Z.N[i]? = some x) (hl : lclB sc x = true) : PG X (.Name x pos) (txG Z.K (.nm i)) := by
  have hN : X.N[i]? = some x := by rw [hin.N]; exact hN
  refine PG.weak (pg_name hin.nd hN (.inl (hin.lcl hl)) (.inr (hin.lcl hl))) fun v σ H Q h => ?_
  obtain ⟨r, r1, O, st, d, rfl, hv, er, ea, q⟩ := h
  unfold asgT at ea
  dsimp only at ea
  by_cases hi : i < r.length
  · rw [if_pos hi] at ea
    cases ea
    refine q _ (er.put hv) fun vs hc => wipe_set ?_
    exact List.contains_iff_mem.mp hc
  · rw [if_neg hi] at ea
    cases ea
def gNms : List Nat → TGs := fun is vs σ H Q => vs.length = is.length ∧ Q ((is.zip vs).foldl (fun σ p => σ.set p.1 (some p.2)) σ) H
theorem PGs.weak {X : Cx} {e : List Expr} {t t' : TGs} (h : PGs X e t) (w : ∀ v σ H Q, t' v σ H Q → t v σ H Q) : PGs X e t' := ⟨fun pins s σ H v u Q I rv q => h.run pins s σ H v u Q I rv (w v σ H Q q)⟩
theorem nmsE_cons {N : List Str} {is : List Nat} {e : Expr} {es : List Expr} (h : nmsE N sc is (e :: es) = true) : ∃ i is' x p, is = i :: is' ∧ e = .Name x p ∧ N[i]? = some x ∧ lclB sc x = true ∧ nmsE N sc is' es = true := by
  cases is with
  | nil => unfold nmsE at h; cases h
  | cons i is' =>
    cases e with
    | Name x p =>
      unfold nmsE at h
      obtain ⟨h, h3⟩ := Bool.and_eq_true_iff.mp h
      obtain ⟨h1, h2⟩ := Bool.and_eq_true_iff.mp h
      exact ⟨i, is', x, p, rfl, rfl, of_decide_eq_true h1, h2, h3⟩
    | _ => unfold nmsE at h; cases h
theorem g_names (hin : In Z W sc X) : ∀ {es : List Expr} {is : List Nat}, nmsE Z.N sc is es = true → PGs X es (gNms is) ∧ (assignEach es X.env).length = is.length ∧ (assignEach es X.env).findIdx? (·.1) = none
  | [], is, h => by
    cases is with
    | nil =>
      refine ⟨PGs.weak pgs_nil fun v σ H Q h => ?_, rfl, rfl⟩
      obtain ⟨h1, h2⟩ := h
      cases v with
      | nil => exact ⟨rfl, h2⟩
      | cons _ _ => cases h1
    | cons i is => unfold nmsE at h; cases h
  | e :: es, is, h => by
    obtain ⟨i, is', x, p, rfl, rfl, hN, hl, h3⟩ := nmsE_cons h
    obtain ⟨h4, h5, h6⟩ := g_names hin h3
    have hN : X.N[i]? = some x := by rw [hin.N]; exact hN
    refine ⟨PGs.weak (pgs_cons (pg_name hin.nd hN (.inl (hin.lcl hl)) (.inr (hin.lcl hl))) h4 rfl) fun vs σ H Q h => ?_, ?_, ?_⟩
    · obtain ⟨q1, q2⟩ := h
      cases vs with
      | nil => cases q1
      | cons v vs => exact ⟨v, vs, rfl, Nat.succ.inj q1, q2⟩
    · show (assignEach es X.env).length + 1 = is'.length + 1
      rw [h5]
    · show ((false, _) :: assignEach es X.env).findIdx? (·.1) = none
      rw [List.findIdx?_cons, h6]
      rfl
theorem er_names {K : PySem.W.Frag} {O : Om} {st : Sto} : ∀ {is : List Nat} {ds : List D} {vs : List V} {r : Env} {σ : St}, ER K O st r σ → RpL K O st ds vs → ER K O st ((is.zip ds).foldl (fun r p => r.set p.1 (some p.2)) r) ((is.zip vs).foldl (fun σ p => σ.set p.1 (some p.2)) σ)
  | [], _, _, _, _, er, _ => er
  | i :: is, [], vs, _, _, er, h => by unfold RpL at h; subst h; exact er
  | i :: is, d :: ds, vs, r, σ, er, h => by
    unfold RpL at h
    obtain ⟨v, w, rfl, h1, h2⟩ := h
    show ER K O st ((is.zip ds).foldl _ (r.set i (some d))) ((is.zip w).foldl _ (σ.set i (some v)))
    exact er_names (er.put h1) h2
theorem wipe_names {us : List Nat} : ∀ {is : List Nat} {vs : List V} {σ : St}, is.all us.contains = true → wipe ((is.zip vs).foldl (fun σ p => σ.set p.1 (some p.2)) σ) us = wipe σ us
  | [], _, _, _ => rfl
  | i :: is, [], _, _ => rfl
  | i :: is, v :: vs, σ, h => by
    rw [List.all_cons] at h
    obtain ⟨h1, h2⟩ := Bool.and_eq_true_iff.mp h
    show wipe ((is.zip vs).foldl _ (σ.set i (some v))) us = _
    rw [wipe_names h2, wipe_set (List.contains_iff_mem.mp h1)]
theorem g_tup (hin : In Z W sc X) {es : List Expr} {j : Nat} {is : List Nat} (h : nmsE Z.N sc is es = true) : PG X (.Tuple es j pos) (txG Z.K (.tp is)) := by
  obtain ⟨h1, h2, h3⟩ := g_names hin h
  refine PG.weak (pg_tup hin.calm h1 h2 h3) fun v σ H Q h => ?_
  obtain ⟨r, r1, O, st, d, rfl, hv, er, ea, q⟩ := h
  cases d with
  | tup xs =>
    unfold asgT at ea
    dsimp only at ea
    split at ea
    · rename_i hc
      cases ea
      unfold Rp at hv
      obtain ⟨a, vs, rfl, t, rl⟩ := hv
      rw [hin.K]
      refine ⟨a, vs, rfl, t.sq, by rw [← rl.length, hc.1], by rw [← rl.length, hc.1], ?_⟩
      exact q _ (er_names er rl) fun us hu => wipe_names (σ := σ) hu
    · cases ea
  | _ => cases ea
theorem g_tgt (hin : In Z W sc X) {t : T} {e : Expr} (h : tgtE Z.N sc t e = true) : PG X e (txG Z.K t) := by
  unfold tgtE at h
  split at h
  · obtain ⟨h1, h2⟩ := Bool.and_eq_true_iff.mp h
    exact g_name hin (of_decide_eq_true h1) h2
  · exact g_tup hin h
  · cases h
end
end Lf
end
section
set_option maxHeartbeats 4000000
/-! The interpreter is sound: comprehensions. -/
namespace Lf
open PySem L2
section
variable {K : PySem.W.Frag} {B : List Nat} {O E : Om} {st s2 : Sto} {p : Addr} {o : HO}
theorem unhold_get {a : Addr} {u : HO} (f : Fro (E.hold p o) st a) (h : (E.hold p o).H a = some u) : E.H a = some u := by
  have n : a ≠ p := fun e => f.1 (by rw [e]; exact List.mem_cons_self)
  have h' : upd E.H p o a = some u := h
  rwa [upd_ne n] at h'
theorem fro_unhold {a : Addr} (f : Fro (E.hold p o) st a) : Fro E st a := ⟨fun z => f.1 (List.mem_cons_of_mem _ z), f.2⟩
theorem rd_unhold {a : Addr} {u : HO} (f : Fro (E.hold p o) st a) (r : Rd (E.hold p o).H a u) : Rd E.H a u := by
  rcases r with r | ⟨ob, r⟩
  · exact .inl (unhold_get f r)
  · exact .inr ⟨ob, unhold_get f r⟩
mutual
theorem rp_unhold : ∀ {d : D} {v : V}, Rp K (E.hold p o) st d v → Rp K E st d v
  | .non, _, h => by unfold Rp at h ⊢; exact h
  | .bl _, _, h => by unfold Rp at h ⊢; exact h
  | .int _, _, h => by unfold Rp at h ⊢; exact h
  | .str _, _, h => by unfold Rp at h ⊢; exact h
  | .tup _, _, h => by
    unfold Rp at h ⊢
    obtain ⟨a, vs, e, t, r⟩ := h
    exact ⟨a, vs, e, t.elim (fun q => .inl ⟨fro_unhold q.1, rd_unhold q.1 q.2⟩) .inr, rpl_unhold r⟩
  | .lst _, _, h => by
    unfold Rp at h ⊢
    obtain ⟨a, vs, e, f, t, r⟩ := h
    exact ⟨a, vs, e, fro_unhold f, unhold_get f t, rpl_unhold r⟩
  | .dct _ _, _, h => by
    unfold Rp at h ⊢
    obtain ⟨a, kvs, e, f, t, r1, r2⟩ := h
    exact ⟨a, kvs, e, fro_unhold f, unhold_get f t, rpl_unhold r1, rpl_unhold r2⟩
  | .ins _ _ _, _, h => by
    unfold Rp at h ⊢
    obtain ⟨a, ca, dx, fvs, e, f, t, c, n, r⟩ := h
    exact ⟨a, ca, dx, fvs, e, fro_unhold f, unhold_get f t, c, n, rpl_unhold r⟩
  | .scr _, _, h => by
    unfold Rp at h ⊢
    obtain ⟨a, e, t⟩ := h
    exact ⟨a, e, t.elim (fun q => .inl ⟨fro_unhold q.1, rd_unhold q.1 q.2⟩) .inr⟩
  | .m k, _, h => by unfold Rp at h ⊢; exact h
  | .fn _, _, h => by unfold Rp at h ⊢; exact h
  | .ty _, _, h => by unfold Rp at h ⊢; exact h
theorem rpl_unhold : ∀ {ds : List D} {vs : List V}, RpL K (E.hold p o) st ds vs → RpL K E st ds vs
  | [], _, h => by unfold RpL at h ⊢; exact h
  | _ :: _, _, h => by
    unfold RpL at h ⊢
    obtain ⟨v, r, e, h1, h2⟩ := h
    exact ⟨v, r, e, rp_unhold h1, rpl_unhold h2⟩
end
theorem cel_unhold {a : Addr} {c : C} (n : c ≠ .gone → a ≠ p) (h : CelAt K (E.hold p o) st a c) : CelAt K E st a c := by
  have get : ∀ u : HO, c ≠ .gone → (E.hold p o).H a = some u → E.H a = some u := fun u g e => by
    have e' : upd E.H p o a = some u := e
    rwa [upd_ne (n g)] at e'
  cases c with
  | gone => trivial
  | lst xs =>
    obtain ⟨vs, e1, r⟩ := h
    exact ⟨vs, get _ (by intro z; cases z) e1, rpl_unhold r⟩
  | dct ks xs =>
    obtain ⟨vs, e1, r, q⟩ := h
    exact ⟨vs, get _ (by intro z; cases z) e1, rpl_unhold r, rpl_unhold q⟩
  | ins c fs xs =>
    obtain ⟨ca, dx, fvs, e1, r, q, t⟩ := h
    exact ⟨ca, dx, fvs, get _ (by intro z; cases z) e1, r, q, rpl_unhold t⟩
theorem sr_unhold (hp : E.H p = none) (hn : p ∉ E.res) (sr : SR K B (E.hold p o) st) : SR K B E st where
  cel := fun k c h => cel_unhold (fun g => (sr.res p List.mem_cons_self).2 k ⟨c, h, g⟩) (sr.cel k c h)
  inj := sr.inj
  res := fun a ha => by
    obtain ⟨⟨u, e⟩, n⟩ := sr.res a (List.mem_cons_of_mem _ ha)
    refine ⟨⟨u, ?_⟩, n⟩
    have e' : upd E.H p o a = some u := e
    rwa [upd_ne (fun z => hn (by rw [← z]; exact ha))] at e'
  wf := sr.wf
/-- without what stands at p -/
def Om.era (O : Om) (p : Addr) (rs : List Addr) : Om := ⟨O.mu, fun a => if a = p then none else O.H a, rs⟩
theorem split_hold (hp : E.H p = none) (sr : SR K B E st) (x : Ext (E.hold p o) st O s2) (sr2 : SR K B O s2) : ∃ E2, O = E2.hold p o ∧ E2.H p = none ∧ Ext E st E2 s2 ∧ SR K B E2 s2 := by
  have hO : O.H p = some o := x.keep p o upd_same (fro_lay (o := o) sr hp).2
  have hr : O.res = p :: E.res := x.res
  have eq : O = (O.era p E.res).hold p o := by
    obtain ⟨mu, H, rs⟩ := O
    have hr : rs = p :: E.res := hr
    have hO : H p = some o := hO
    subst hr
    have e : H = upd (fun a => if a = p then none else H a) p o := by
      funext a
      by_cases ha : a = p
      · subst ha
        rw [upd_same]
        exact hO
      · rw [upd_ne ha, if_neg ha]
    show Om.mk mu H (p :: E.res) = Om.mk mu (upd (fun a => if a = p then none else H a) p o) (p :: E.res)
    rw [← e]
  have h2 : (O.era p E.res).H p = none := if_pos rfl
  have hn : p ∉ (O.era p E.res).res := sr.notres hp
  refine ⟨O.era p E.res, eq, h2, ?_, sr_unhold h2 hn (by rw [← eq]; exact sr2)⟩
  exact {
    len := x.len
    old := x.old
    new := fun k hk l => by
      have n : upd E.H p o (O.mu k) = none := x.new k hk l
      by_cases e : O.mu k = p
      · rw [e, upd_same] at n; cases n
      · rwa [upd_ne e] at n
    keep := fun a u h f => by
      have n := ne_of_none h hp
      show (if a = p then none else O.H a) = some u
      rw [if_neg n]
      exact x.keep a u (hold_get hp h) f
    trk := fun a h => by
      by_cases e : a = p
      · rw [e]; exact hp
      · have h' : (if a = p then none else O.H a) = none := h
        rw [if_neg e] at h'
        have n : upd E.H p o a = none := x.trk a h'
        rwa [upd_ne e] at n
    res := rfl }
theorem Post.up {α : Type} {r : R α} {q : α → Sto → Om → Prop} {e : D → Sto → Om → Prop} (o : HO) (hp : E.H p = none) (sr : SR K B E st) (h : Post K r B E st q e) :
    Post K r B (E.hold p o) st (fun a s2 O2 => ∃ E2, O2 = E2.hold p o ∧ E2.H p = none ∧ Ext E st E2 s2 ∧ SR K B E2 s2 ∧ q a s2 E2) (fun x s2 O2 => ∃ E2, O2 = E2.hold p o ∧ E2.H p = none ∧ Ext E st E2 s2 ∧ SR K B E2 s2 ∧ e x s2 E2) := by
  cases r with
  | ok a s =>
    intro O2 x s'
    obtain ⟨E2, h1, h2, h3, h4⟩ := split_hold hp sr x s'
    exact ⟨E2, h1, h2, h3, h4, h E2 h3 h4⟩
  | err a s =>
    intro O2 x s'
    obtain ⟨E2, h1, h2, h3, h4⟩ := split_hold hp sr x s'
    exact ⟨E2, h1, h2, h3, h4, h E2 h3 h4⟩
  | bad => exact h
theorem ER.hold {r : Env} {σ : St} (hp : O.H p = none) (h : ER K O st r σ) : ER K (O.hold p o) st r σ :=
  ⟨h.len, fun i d e => let ⟨v, e1, e2⟩ := h.at_ i d e; ⟨v, e1, rp_hold hp e2⟩⟩
theorem ER.unhold {r : Env} {σ : St} (h : ER K (E.hold p o) st r σ) : ER K E st r σ :=
  ⟨h.len, fun i d e => let ⟨v, e1, e2⟩ := h.at_ i d e; ⟨v, e1, rp_unhold e2⟩⟩
theorem Sd.hold {sd : Option (D × V)} {xs : List D} (hp : O.H p = none) (h : Sd K sd xs O st) : Sd K sd xs (O.hold p o) st := fun d v e => ⟨rp_hold hp (h d v e).1, (h d v e).2⟩
theorem Post.noE {α β : Type} {m : M α} {f : α → M β} {q : β → Sto → Om → Prop} {e : D → Sto → Om → Prop} (h : Post K (bnd (noErr m) f st) B O st q e) : Post K (m st) B O st (fun a s1 O1 => Post K (f a s1) B O1 s1 q e) (fun _ _ _ => False) := by
  unfold bnd noErr at h
  cases z : m st with
  | ok a s =>
    rw [z] at h
    exact fun O' y _ => Post.later y h
  | err d s =>
    rw [z] at h
    exact False.elim h
  | bad =>
    rw [z] at h
    exact h
theorem Post.sty {β : Type} {d : Option D} {s0 : Sto} {f : Unit → M β} {q : β → Sto → Om → Prop} {e : D → Sto → Om → Prop} (h : Post K (bnd (stay d s0) f st) B O st q e) : stays d s0 st = true ∧ Post K (f () st) B O st q e := by
  unfold bnd stay at h
  by_cases z : stays d s0 st = true
  · rw [if_pos z] at h
    exact ⟨z, h⟩
  · rw [if_neg z] at h
    exact False.elim h
/-- a list made, or a cell -/
theorem Post.nw2 {mu : Bool} {xs : List D} {vs : List V} {Q : VK} {e : D → Sto → Om → Prop} (sr : SR K B O st) (r : RpL K O st xs vs) (q : Post K ((if mu then new (.lst xs) else ret (.lst xs) : M D) st) B O st (QV K Q) e) (hp : O.H p = none) : Q (.ref p) (upd O.H p (.lst vs)) := by
  cases mu with
  | true =>
    have p' : Post K (.ok (.m st.length) (st ++ [.lst xs])) B O st (QV K Q) e := q
    exact p' (O.cell st.length p (.lst vs)) (ext_cell hp) (sr_cell sr hp ⟨vs, upd_same, r.on (ext_cell hp)⟩) (.ref p) rp_cell
  | false =>
    have p' : Post K (.ok (.lst xs) st) B O st (QV K Q) e := q
    exact p' (O.lay p (.lst vs)) (ext_lay hp) (sr_lay sr hp) (.ref p) (rp_newL sr hp r)
end
theorem upd_upd {H : Hp} {a : Addr} {o u : HO} : upd (upd H a o) a u = upd H a u := by
  funext b
  by_cases e : b = a
  · subst e
    rw [upd_same, upd_same]
  · rw [upd_ne e, upd_ne e, upd_ne e]
theorem wipe_wipe {σ : St} {us : List Nat} : ∀ {vs : List Nat}, (∀ v ∈ vs, v ∈ us) → wipe (wipe σ vs) us = wipe σ us
  | [], _ => rfl
  | v :: vs, h => by
    show wipe ((wipe σ vs).set v none) us = _
    rw [wipe_set (h v List.mem_cons_self), wipe_wipe fun z hz => h z (List.mem_cons_of_mem _ hz)]
abbrev WF : WX := fun _ _ _ _ => False
section
variable {K : PySem.W.Frag} {lo : Nat} {W : WX}
theorem lc_walk {mu : Bool} {t : T} {w : Lf.W} {own : List Nat} {fs : Env → M (List D)} {fc : Env → M Bool} {fe : Env → M D} (ht : t.all own.contains = true) {σ : St} {H : Hp} {Q : VK}
    (h : tx K lo W (fun r => bnd (fs r) fun ds => bnd (walkW w ds) fun xs => chk (decide (xs.length ≤ sizeLine)) (bnd (compL t (srcOf w ds) fc fe (wipeE r own) xs) fun ys => if mu then new (.lst ys) else ret (.lst ys))) σ H Q) :
    tLc (txI K lo W w fs) (txG K t) (txB K lo WF fc) (tx K lo WF fe) own σ H Q := by
  obtain ⟨r, B, O, st, rfl, hB, er, sr, q⟩ := h
  have e : (bnd (fs r) fun ds => bnd (walkW w ds) fun xs => chk (decide (xs.length ≤ sizeLine)) (bnd (compL t (srcOf w ds) fc fe (wipeE r own) xs) fun ys => if mu then new (.lst ys) else ret (.lst ys))) =
      bnd (bnd (fs r) fun ds => bnd (walkW w ds) fun xs => ret (ds, xs)) fun pr => chk (decide (pr.2.length ≤ sizeLine)) (bnd (compL t (srcOf w pr.1) fc fe (wipeE r own) pr.2) fun ys => if mu then new (.lst ys) else ret (.lst ys)) := by
    rw [bnd_bnd]
    congr 1
    funext ds
    rw [bnd_bnd]
    rfl
  dsimp only at q
  rw [e] at q
  refine ⟨r, B, O, st, rfl, hB, er, sr, Post.imp q.bind (fun pr s1 O1 x1 sr1 q J sd wk hsd heq Dd hD => ?_) fun _ _ _ _ _ q => q⟩
  obtain ⟨ds, xs⟩ := pr
  obtain ⟨hlen, q⟩ := Post.ck q
  have hlen : xs.length ≤ sizeLine := of_decide_eq_true hlen
  have wk : Wk K J sd xs := wk
  have hsd : Sd K sd xs O1 s1 := hsd
  have heq : sd.map Prod.fst = srcOf w ds := heq
  rw [← heq] at q
  have q : Post K (bnd (compL t (sd.map Prod.fst) fc fe (wipeE r own) xs) (fun ys => if mu then new (.lst ys) else ret (.lst ys)) s1) B O1 s1 (QV K Q) (Er K W σ) := q
  refine ⟨fun i m H => m = xs.length - i ∧ i ≤ xs.length ∧ ∃ (E : Om) (s : Sto) (acc : List V) (ad : List D), H = upd E.H Dd (.lst acc) ∧ E.H Dd = none ∧ SR K B E s ∧ ER K E s (wipeE r own) (L2.wipe σ own) ∧ Sd K sd xs E s ∧ RpL K E s ad acc ∧ ad.length ≤ i ∧
    Post K (bnd (compL t (sd.map Prod.fst) fc fe (wipeE r own) (xs.drop i)) (fun ys => if mu then new (.lst (ad ++ ys)) else ret (.lst (ad ++ ys))) s) B E s (QV K Q) (Er K W σ), ⟨xs.length, by simp, Nat.zero_le _, O1, s1, [], [], rfl, hD, sr1, (er.on x1).wipe own, hsd, .nil, Nat.le_refl _, q⟩, ?_⟩
  rintro i m H ⟨rfl, hi, E, s, acc, ad, rfl, hp, srE, erE, sdE, rl, al, q⟩
  have wkE := wk.on B (E.hold Dd (.lst acc)) s (sr_hold srE hp) (sdE.hold hp)
  by_cases hlt : i < xs.length
  · refine .inr ⟨(wkE.1 i hlt).1, fun H' => ∃ (E : Om) (s : Sto) (acc : List V) (ad : List D), H' = upd E.H Dd (.lst acc) ∧ E.H Dd = none ∧ SR K B E s ∧ ER K E s (wipeE r own) (L2.wipe σ own) ∧ Sd K sd xs E s ∧ RpL K E s ad acc ∧ ad.length ≤ i + 1 ∧
      Post K (bnd (compL t (sd.map Prod.fst) fc fe (wipeE r own) (xs.drop (i + 1))) (fun ys => if mu then new (.lst (ad ++ ys)) else ret (.lst (ad ++ ys))) s) B E s (QV K Q) (Er K W σ), fun H' n => ⟨xs.length - (i + 1), by omega, rfl, hlt, n⟩, fun x H' y => ?_⟩
    obtain ⟨eH, dx, edx, hdx⟩ := (wkE.1 i hlt).2 x H' y
    subst eH
    have edr : xs.drop i = dx :: xs.drop (i + 1) := by
      rw [List.drop_eq_getElem_cons hlt]
      rw [List.getElem?_eq_getElem hlt] at edx
      rw [Option.some.inj edx]
    rw [edr] at q
    have q : Post K (bnd (bnd (ofO (asgT t dx (wipeE r own))) fun r1 => bnd (noErr (fc r1)) fun c =>
      if c then bnd (noErr (fe r1)) fun y => bnd (stay (sd.map Prod.fst) s) fun _ => bnd (compL t (sd.map Prod.fst) fc fe (wipeE r own) (xs.drop (i + 1))) fun ys => ret (y :: ys) else bnd (stay (sd.map Prod.fst) s) fun _ => compL t (sd.map Prod.fst) fc fe (wipeE r own) (xs.drop (i + 1)))
      (fun ys => if mu then new (.lst (ad ++ ys)) else ret (.lst (ad ++ ys))) s) B E s (QV K Q) (Er K W σ) := q
    rw [bnd_bnd] at q
    obtain ⟨r1, ea, q⟩ := Post.of q
    rw [bnd_bnd] at q
    refine ⟨wipeE r own, r1, E.hold Dd (.lst acc), s, dx, rfl, hdx, erE.hold hp, ea, fun σ1 er1 hw => ⟨?_, r1, B, E.hold Dd (.lst acc), s, rfl, hB, er1, sr_hold srE hp, Post.imp (Post.up _ hp srE (Post.noE q)) (fun b s2 O2 x2 sr2 ⟨E2, eO, hp2, xE, srE2, q⟩ => ?_) fun _ _ _ _ _ ⟨_, _, _, _, _, q⟩ => False.elim q⟩⟩
    · rw [hw own ht, wipe_wipe fun _ h => h]
    · subst eO
      cases b with
      | false =>
        have q : Post K (bnd (bnd (stay (sd.map Prod.fst) s) fun _ => compL t (sd.map Prod.fst) fc fe (wipeE r own) (xs.drop (i + 1))) (fun ys => if mu then new (.lst (ad ++ ys)) else ret (.lst (ad ++ ys))) s2) B E2 s2 (QV K Q) (Er K W σ) := q
        rw [bnd_bnd] at q
        obtain ⟨hst, q⟩ := Post.sty q
        exact ⟨E2, s2, acc, ad, rfl, hp2, srE2, erE.on xE, sdE.on xE hst, rl.on xE, Nat.le_succ_of_le al, q⟩
      | true =>
        have q : Post K (bnd (bnd (noErr (fe r1)) fun y => bnd (stay (sd.map Prod.fst) s) fun _ => bnd (compL t (sd.map Prod.fst) fc fe (wipeE r own) (xs.drop (i + 1))) fun ys => ret (y :: ys)) (fun ys => if mu then new (.lst (ad ++ ys)) else ret (.lst (ad ++ ys))) s2) B E2 s2 (QV K Q) (Er K W σ) := q
        rw [bnd_bnd] at q
        refine ⟨r1, B, E2.hold Dd (.lst acc), s2, rfl, hB, er1.on x2, sr2, Post.imp (Post.up _ hp2 srE2 (Post.noE q)) (fun dy s3 O3 x3 sr3 ⟨E3, eO3, hp3, xE3, srE3, q⟩ => ?_) fun _ _ _ _ _ ⟨_, _, _, _, _, q⟩ => False.elim q⟩
        subst eO3
        intro y hy
        rw [bnd_bnd] at q
        obtain ⟨hst, q⟩ := Post.sty q
        rw [bnd_bnd] at q
        refine ⟨acc, upd_same, by rw [← rl.length]; omega, E3, s3, acc ++ [y], ad ++ [dy], upd_upd, hp3, srE3, (erE.on xE).on xE3, sdE.on (xE.trans xE3) hst, ((rl.on xE).on xE3).app (.cons (rp_unhold hy) .nil), by rw [List.length_append]; simp; omega, ?_⟩
        have e2 : (fun ys => if mu then new (.lst (ad ++ [dy] ++ ys)) else ret (.lst (ad ++ [dy] ++ ys)) : List D → M D) = fun ys => bnd (ret (dy :: ys)) fun ys => if mu then new (.lst (ad ++ ys)) else ret (.lst (ad ++ ys)) := by
          funext ys
          rw [List.append_assoc]
          rfl
        rw [e2]
        exact q
  · have e : i = xs.length := by omega
    subst e
    refine .inl ⟨wkE.2, ?_⟩
    rw [List.drop_length] at q
    have q : Post K ((if mu then new (.lst (ad ++ [])) else ret (.lst (ad ++ [])) : M D) s) B E s (QV K Q) (Er K W σ) := q
    rw [List.append_nil] at q
    exact Post.nw2 srE rl q hp
end
section
variable {Z : Wd} {W : WX} {sc : Scope} {X : Cx} {lo : Nat} {elt tg iter : Expr} {ifs : List Expr} {scope : Scope} {own : List (Str × Nat)} {pos : Pos}
theorem ts_nil {K : PySem.W.Frag} : PTs X [] (txB K lo W (fun _ => ret true)) := by
  refine ⟨fun pins s σ H Q I h => pts_nil.run pins s σ H Q I ?_⟩
  obtain ⟨r, B, O, st, rfl, hB, er, sr, p⟩ := h
  exact Post.rt p sr
theorem ts_one {K : PySem.W.Frag} {c : Expr} {f : Env → M D} (h : PT X c (txB K lo W (fun r => bnd (f r) truth))) : PTs X [c] (txB K lo W (fun r => bnd (f r) fun x => bnd (truth x) fun b => if b then ret true else ret false)) := by
  refine ⟨fun pins s σ H Q I q => (pts_one h).run pins s σ H Q I ?_⟩
  have e : (fun r => bnd (f r) fun x => bnd (truth x) fun b => if b then ret true else ret false) = fun r => bnd (f r) truth := by
    funext r
    congr 1
    funext x
    have e2 : (fun b : Bool => if b then ret true else ret false) = ret := by
      funext b
      cases b <;> rfl
    rw [e2]
    exact bnd_ret _
  rw [e] at q
  exact q
theorem fold_none (h : noSet iter = true) : ∀ x, foldedSetIterable iter X.env x = pure x := by
  cases iter <;> first | exact fun _ => rfl | cases h
theorem In.blk (hin : In Z W sc X) (s : Shared) (H : Hp) (C : Addr) (cl : List (Str × Addr)) (fp : List Addr) : In Z WF (relS scope sc) (X.blk s H scope (compEnvC scope cl C X.env) fp) where
  prog := hin.prog
  w := hin.w
  K := hin.K
  mg := hin.mg
  base := hin.base
  N := hin.N
  nd := hin.nd
  calm := hin.calm
  room := hin.room
  guards := hin.guards
  sc := by rw [← hin.sc]; rfl
  takes := fun u s' x => by
    obtain ⟨a, B, sI, pins, σ, H, cls, d, _, _, _, _, _, _, _, _, w⟩ := x
    exact w
theorem e_lc (hin : In Z W sc X) {mu : Bool} {t : T} {w : Lf.W} {fs : Env → M (List D)} {fc : Env → M Bool} {fe : Env → M D} (hs : noSet iter = true) (hb : blkC Z.N sc scope own = true) (ht : tgtE Z.N (relS scope sc) t tg = true) (hw : t.all (own.map (·.2)).contains = true)
    (hi : PI X tg iter (txI Z.K lo W w fs)) (hc : ∀ X', In Z WF (relS scope sc) X' → PTs X' ifs (txB Z.K lo WF fc)) (he : ∀ X', In Z WF (relS scope sc) X' → PE X' elt (tx Z.K lo WF fe)) :
    PE X (.ListComp elt [⟨tg, iter, ifs, 0⟩] scope pos) (tx Z.K lo W (fun r => bnd (fs r) fun ds => bnd (walkW w ds) fun xs => chk (decide (xs.length ≤ sizeLine)) (bnd (compL t (srcOf w ds) fc fe (wipeE r (own.map (·.2))) xs) fun ys => if mu then new (.lst ys) else ret (.lst ys)))) := by
  have ok : BlkOk X.N X.env.scope scope own := by
    rw [hin.N, hin.sc]
    exact blkOk_by hb
  exact PE.weak (pe_lc hin.calm hin.nd hi ok (fun s H C cl fp => g_tgt (hin.blk s H C cl fp) ht) (fun s H C cl fp => hc _ (hin.blk s H C cl fp)) (fun s H C cl fp => he _ (hin.blk s H C cl fp)) (fold_none hs)) fun σ H Q h => lc_walk hw h
theorem p_lc (hin : In Z W sc X) {mu : Bool} {t : T} {w : Lf.W} {fs : Env → M (List D)} {fc : Env → M Bool} {fe : Env → M D} {i : Nat} {y : Str} {py spos : Pos} (hy : Z.N[i]? = some y) (hyl : lclB sc y = true)
    (hl : (py.line == pos.line) = true) (ha : (scope.names.any fun (n, k) => n == y && (k == .local || k == .cell)) = false) (hk : sc.kind = .function)
    (hs : noSet iter = true) (hb : blkC Z.N sc scope own = true) (ht : tgtE Z.N (relS scope sc) t tg = true) (hw : t.all (own.map (·.2)).contains = true)
    (hi : PI X tg iter (txI Z.K lo W w fs)) (hc : ∀ X', In Z WF (relS scope sc) X' → PTs X' ifs (txB Z.K lo WF fc)) (he : ∀ X', In Z WF (relS scope sc) X' → PE X' elt (tx Z.K lo WF fe)) :
    PS X (.Assign [.Name y py] (.ListComp elt [⟨tg, iter, ifs, 0⟩] scope pos) spos) (tAsg (tx Z.K lo W (fun r => bnd (fs r) fun ds => bnd (walkW w ds) fun xs => chk (decide (xs.length ≤ sizeLine)) (bnd (compL t (srcOf w ds) fc fe (wipeE r (own.map (·.2))) xs) fun ys => if mu then new (.lst ys) else ret (.lst ys)))) (gName i)) := by
  have ok : BlkOk X.N X.env.scope scope own := by
    rw [hin.N, hin.sc]
    exact blkOk_by hb
  have hN : X.N[i]? = some y := by rw [hin.N]; exact hy
  have sw : swapsWith (.ListComp elt [⟨tg, iter, ifs, 0⟩] scope pos) (some (.Name y py)) spos.line X.env = pure true := sw_true (by rw [hin.sc]; exact hk) (hin.lcl hyl) hl ha
  have q := ps_setLc hin.calm hin.nd hN (hin.lcl hyl) sw hi ok (fun s H C cl fp => g_tgt (hin.blk s H C cl fp) ht) (fun s H C cl fp => hc _ (hin.blk s H C cl fp)) (fun s H C cl fp => he _ (hin.blk s H C cl fp)) (fold_none hs)
  exact ⟨fun pins s σ H D I h => q.run pins s σ H D I (lc_walk hw h)⟩
end
end Lf
end
section
set_option maxHeartbeats 4000000
/-! The interpreter is sound: written dicts. -/
namespace Lf
open PySem L2
def flat2 : List (V × V) → List V
  | [] => []
  | p :: r => p.1 :: p.2 :: flat2 r
section
variable {K : PySem.W.Frag} {B : List Nat} {O : Om} {st : Sto}
theorem key_rel {d : D} {k : Key} {v : V} (h : Rp K O st d v) (e : keyD d = some k) : v = kV k ∧ Rp K O st (keyOf k) (kV k) := by
  cases d with
  | int i =>
    cases e
    unfold Rp at h
    subst h
    exact ⟨rfl, by unfold keyOf; unfold Rp; rfl⟩
  | str x =>
    cases e
    unfold Rp at h
    obtain ⟨rfl, hl⟩ := h
    exact ⟨rfl, by unfold keyOf; unfold Rp; exact ⟨rfl, hl⟩⟩
  | _ => cases e
theorem pair_rel : ∀ {ps : List (V × V)} {ds : List D} {pd : List (Key × D)}, pairD ds = some pd → RpL K O st ds (flat2 ps) →
    ∃ kvs : List (Key × V), ps = kvs.map (fun kv => (kV kv.1, kv.2)) ∧ kvs.map Prod.fst = pd.map Prod.fst ∧ RpL K O st (pd.map fun p => keyOf p.1) (kvs.map fun p => kV p.1) ∧ RpL K O st (pd.map Prod.snd) (kvs.map fun p => p.2)
  | [], ds, pd, e, h => by
    have hl := h.length
    have e0 : ds = [] := List.eq_nil_of_length_eq_zero hl
    subst e0
    unfold pairD at e
    cases e
    exact ⟨[], rfl, rfl, .nil, .nil⟩
  | p :: ps, ds, pd, e, h => by
    match ds, h, e with
    | [], h, _ =>
      have := h.length
      unfold flat2 at this
      cases this
    | [_], h, _ =>
      have := h.length
      unfold flat2 at this
      rw [List.length_cons, List.length_cons, List.length_cons] at this
      simp at this
    | k :: v :: r, h, e =>
      unfold pairD at e
      unfold flat2 at h
      unfold RpL at h
      obtain ⟨x, rr, e1, h1, h⟩ := h
      obtain ⟨e1, e2⟩ := List.cons.inj e1
      subst e1 e2
      unfold RpL at h
      obtain ⟨y, rr, e1, h2, h⟩ := h
      obtain ⟨e1, e2⟩ := List.cons.inj e1
      subst e1 e2
      split at e
      · rename_i a qs ea eq
        cases e
        obtain ⟨kvs, i1, i2, i3, i4⟩ := pair_rel eq h
        obtain ⟨k1, k2⟩ := key_rel h1 ea
        refine ⟨(a, p.2) :: kvs, ?_, ?_, ?_, ?_⟩
        · rw [List.map_cons, ← i1, ← k1]
        · rw [List.map_cons, List.map_cons, i2]
        · rw [List.map_cons, List.map_cons]
          exact .cons k2 i3
        · rw [List.map_cons, List.map_cons]
          exact .cons h2 i4
      · cases e
theorem valV_notin {k : Key} : ∀ {kvs : List (Key × V)}, k ∉ kvs.map Prod.fst → valV kvs k = none
  | [], _ => valV_nil
  | p :: r, h => by
    rw [List.map_cons, List.mem_cons, not_or] at h
    rw [valV_neg (fun e => h.1 e.symm)]
    exact valV_notin h.2
theorem merge_new : ∀ {more kvs : List (Key × V)}, ((kvs ++ more).map Prod.fst).Nodup → mergeK kvs more = kvs ++ more
  | [], kvs, _ => (List.append_nil _).symm
  | p :: r, kvs, h => by
    have h2 : p.1 ∉ kvs.map Prod.fst := by
      rw [List.map_append, List.nodup_append] at h
      exact fun z => h.2.2 _ z _ (by rw [List.map_cons]; exact List.mem_cons_self) rfl
    show mergeK (putK kvs p.1 p.2) r = _
    rw [putK_new p.2 (valV_notin h2)]
    have e : kvs ++ p :: r = (kvs ++ [p]) ++ r := by rw [List.append_assoc]; rfl
    rw [e]
    exact merge_new (by rw [← e]; exact h)
theorem Post.nwD {mu : Bool} {ks xs : List D} {kvs : List (Key × V)} {Q : VK} {e : D → Sto → Om → Prop} {p : Addr} (sr : SR K B O st) (r : RpL K O st ks (kvs.map fun p => kV p.1)) (r' : RpL K O st xs (kvs.map fun p => p.2)) (q : Post K ((if mu then new (.dct ks xs) else ret (.dct ks xs) : M D) st) B O st (QV K Q) e) (hp : O.H p = none) : Q (.ref p) (upd O.H p (.dK kvs)) := by
  cases mu with
  | true =>
    have p' : Post K (.ok (.m st.length) (st ++ [.dct ks xs])) B O st (QV K Q) e := q
    exact p' (O.cell st.length p (.dK kvs)) (ext_cell hp) (sr_cell sr hp ⟨kvs, upd_same, r.on (ext_cell hp), r'.on (ext_cell hp)⟩) (.ref p) rp_cell
  | false =>
    have p' : Post K (.ok (.dct ks xs) st) B O st (QV K Q) e := q
    exact p' (O.lay p (.dK kvs)) (ext_lay hp) (sr_lay sr hp) (.ref p) (rp_newD sr hp r r')
end
section
variable {Z : Wd} {W : WX} {sc : Scope} {X : Cx} {lo : Nat} {pos : Pos}
def RdP (K : PySem.W.Frag) (lo : Nat) (W : WX) (trs : List (TE × TE)) (h : Env → M (List D)) : Prop := ∀ σ H Q, txA K lo W h σ H (fun vs H' => ∀ ps : List (V × V), vs = flat2 ps → Q ps H') → tPairs trs σ H Q
theorem rdp_nil {K : PySem.W.Frag} : RdP K lo W [] (fun _ => ret []) := by
  intro σ H Q h
  obtain ⟨r, B, O, st, rfl, hB, er, sr, p⟩ := h
  exact Post.rt p sr [] .nil [] rfl
theorem rdp_cons {K : PySem.W.Frag} {f g : Env → M D} {h : Env → M (List D)} {trs : List (TE × TE)} (q : RdP K lo W trs h) : RdP K lo W ((tx K lo W f, tx K lo W g) :: trs) (fun r => bnd (f r) fun d => bnd (bnd (g r) fun e => bnd (h r) fun ds => ret (e :: ds)) fun xs => ret (d :: xs)) := by
  intro σ H Q h
  obtain ⟨r, B, O, st, rfl, hB, er, sr, p⟩ := h
  refine ⟨r, B, O, st, rfl, hB, er, sr, Post.imp p.bind (fun d s1 O1 x1 sr1 p x hx => ?_) fun _ _ _ _ _ q => q⟩
  rw [bnd_bnd] at p
  refine ⟨r, B, O1, s1, rfl, hB, er.on x1, sr1, Post.imp p.bind (fun e s2 O2 x2 sr2 p y hy => ?_) fun _ _ _ _ _ q => q⟩
  rw [bnd_bnd] at p
  refine q σ O2.H _ ⟨r, B, O2, s2, rfl, hB, (er.on x1).on x2, sr2, Post.imp p.bind (fun ds s3 O3 x3 sr3 p vs hvs ps hps => ?_) fun _ _ _ _ _ q => q⟩
  exact Post.rt p sr3 (x :: y :: vs) (.cons ((hx.on x2).on x3) (.cons (hy.on x3) hvs)) ((x, y) :: ps) (by rw [hps]; rfl)
theorem e_dnil {K : PySem.W.Frag} {mu : Bool} : PE X (.Dict [] [] pos) (tx K lo W (fun _ => bnd (noErr (ret [])) (mkD mu))) := by
  refine PE.weak pe_dnewK fun σ H Q h => ?_
  obtain ⟨r, B, O, st, rfl, hB, er, sr, q⟩ := h
  have q : Post K (bnd (noErr (ret [])) (mkD mu) st) B O st (QV K Q) (Er K W σ) := q
  have q := Post.rt (Post.noE q) sr
  unfold mkD pairD at q
  have q : Post K ((if mu then new (.dct [] []) else ret (.dct [] []) : M D) st) B O st (QV K Q) (Er K W σ) := q
  exact fun p hp => Post.nwD (kvs := []) sr .nil .nil q hp
theorem e_dct {K : PySem.W.Frag} {mu : Bool} {keys : List (Option Expr)} {values : List Expr} {trs : List (TE × TE)} {h : Env → M (List D)} (hp : PPs X pos keys values trs) (hr : RdP K lo WF trs h) (hall : keys.all (·.isSome) = true) (hl : keys.length = values.length) (h0 : keys ≠ []) (h15 : keys.length ≤ 15) :
    PE X (.Dict keys values pos) (tx K lo W (fun r => bnd (noErr (h r)) (mkD mu))) := by
  refine PE.weak (pe_disp hp hall hl h0 h15) fun σ H Q q => ?_
  obtain ⟨r, B, O, st, rfl, hB, er, sr, q⟩ := q
  intro p hp
  refine hr σ _ _ ⟨r, B, O.hold p (.dK []), st, rfl, hB, er.hold hp, sr_hold sr hp, Post.imp (Post.up _ hp sr (Post.noE q)) (fun ds s2 O2 x2 sr2 ⟨E2, eO, hp2, xE, srE2, q⟩ vs hvs ps hps => ?_) fun _ _ _ _ _ ⟨_, _, _, _, _, q⟩ => False.elim q⟩
  subst eO hps
  unfold mkD at q
  obtain ⟨pd, e1, q⟩ := Post.of q
  obtain ⟨c, q⟩ := Post.ck q
  obtain ⟨c1, c2⟩ := Bool.and_eq_true_iff.mp c
  have c1 := of_decide_eq_true c1
  have c2 := of_decide_eq_true c2
  obtain ⟨kvs, i1, i2, i3, i4⟩ := pair_rel e1 hvs
  have hlen : kvs.length = pd.length := by
    have := congrArg List.length i2
    rwa [List.length_map, List.length_map] at this
  refine ⟨upd_same, kvs, i1, by omega, ?_⟩
  have em : mergeK [] kvs = kvs := merge_new (by rw [List.nil_append, i2]; exact c2)
  rw [em]
  have eu : upd (E2.hold p (.dK [])).H p (.dK kvs) = upd E2.H p (.dK kvs) := upd_upd
  rw [eu]
  exact Post.nwD srE2 (rpl_unhold i3) (rpl_unhold i4) q hp2
end
end Lf
end
section
set_option maxHeartbeats 4000000
/-! The interpreter is sound: every expression. -/
namespace Lf
open PySem L2
section
variable {X : Cx} {lo : Nat} {W : WX} {K : PySem.W.Frag} {a b c : Expr} {pos : Pos}
theorem t_ife {f g k : Env → M D} (h1 : PT X c (txB K lo W (fun r => bnd (f r) truth))) (h2 : PT X a (txB K lo W (fun r => bnd (g r) truth))) (h3 : PT X b (txB K lo W (fun r => bnd (k r) truth))) :
    PT X (.IfExp c a b pos) (txB K lo W (fun r => bnd (bnd (f r) fun x => bnd (truth x) fun q => if q then g r else k r) truth)) := by
  refine ⟨fun pins s σ H Q I h => ?_⟩
  obtain ⟨r, B, O, st, rfl, hB, er, sr, p⟩ := h
  have e : (bnd (bnd (f r) fun x => bnd (truth x) fun q => if q then g r else k r) truth) = bnd (bnd (f r) truth) fun q => if q then bnd (g r) truth else bnd (k r) truth := by
    rw [bnd_bnd, bnd_bnd]
    congr 1
    funext x
    rw [bnd_bnd]
    congr 1
    funext q
    cases q <;> rfl
  dsimp only at p
  rw [e] at p
  show wpAny _ _ (isTrue c X.env (eval c X.env) >>= fun k => if k = true then isTrue a X.env (eval a X.env) else isTrue b X.env (eval b X.env)) _ _ s
  refine wpAny_bind (thn (h1.run pins s σ O.H (fun q H1 => (if q = true then txB K lo W (fun r => bnd (g r) truth) else txB K lo W (fun r => bnd (k r) truth)) σ H1 Q) I ⟨r, B, O, st, rfl, hB, er, sr, Post.imp p.bind (fun q s1 O1 x1 sr1 p => ?_) fun _ _ _ _ _ q => q⟩) fun q s1 ⟨H1, I1, q1⟩ => ?_)
  · cases q with
    | true => exact ⟨r, B, O1, s1, rfl, hB, er.on x1, sr1, p⟩
    | false => exact ⟨r, B, O1, s1, rfl, hB, er.on x1, sr1, p⟩
  · cases q with
    | true => exact h2.run pins s1 σ H1 Q I1 q1
    | false => exact h3.run pins s1 σ H1 Q I1 q1
end
/-- both readings -/
structure Snd (Z : Wd) (lo : Nat) (p : E) (e : Expr) (W : WX) (sc : Scope) (X : Cx) : Prop where
  pe : PE X e (tx Z.K lo W (fun r => ev Z.g lo p r))
  pt : PT X e (txB Z.K lo W (fun r => bnd (ev Z.g lo p r) truth))
theorem Snd.val {Z : Wd} {lo : Nat} {p : E} {e : Expr} {W : WX} {sc : Scope} {X : Cx} (hin : In Z W sc X) (h : PE X e (tx Z.K lo W (fun r => ev Z.g lo p r))) (he : ∀ whole, isTrue e X.env whole = (do let v ← whole; standAt e.pos; holding [v] (truthy v))) : Snd Z lo p e W sc X := ⟨h, t_val hin.K h he⟩
section
variable {Z : Wd} {lo : Nat} {W : WX} {sc : Scope} {X : Cx}
theorem In.wf (hin : In Z W sc X) : In Z WF sc X where
  prog := hin.prog
  w := hin.w
  K := hin.K
  mg := hin.mg
  base := hin.base
  N := hin.N
  nd := hin.nd
  calm := hin.calm
  room := hin.room
  guards := hin.guards
  sc := hin.sc
  takes := fun u s' x => by
    obtain ⟨a, B, sI, pins, σ, H, cls, d, _, _, _, _, _, _, _, _, w⟩ := x
    exact False.elim w
theorem evs_len {g : G} : ∀ {ps : List E} {r : Env} {s s' : Sto} {xs : List D}, evs g lo ps r s = .ok xs s' → xs.length = ps.length
  | [], _, _, _, _, h => by
    unfold evs at h
    cases h
    rfl
  | p :: ps, r, s, s', xs, h => by
    unfold evs at h
    unfold bnd at h
    cases e1 : ev g lo p r s with
    | ok d s1 =>
      rw [e1] at h
      have h : (evs g lo ps r s1).bind (fun xs => ret (d :: xs)) = .ok xs s' := h
      cases e2 : evs g lo ps r s1 with
      | ok ds s2 =>
        rw [e2] at h
        cases h
        rw [List.length_cons, List.length_cons, evs_len e2]
      | err x s2 => rw [e2] at h; cases h
      | bad => rw [e2] at h; cases h
    | err x s1 => rw [e1] at h; cases h
    | bad => rw [e1] at h; cases h
theorem own_map {N : List Str} : ∀ {own : List Nat}, (own.all fun i => (N[i]?).isSome) = true → (own.filterMap fun i => (N[i]?).map fun x => (x, i)).map (·.2) = own
  | [], _ => rfl
  | i :: own, h => by
    rw [List.all_cons] at h
    obtain ⟨h1, h2⟩ := Bool.and_eq_true_iff.mp h
    obtain ⟨x, e⟩ := Option.isSome_iff_exists.mp h1
    rw [List.filterMap_cons, e]
    show i :: (own.filterMap fun i => (N[i]?).map fun x => (x, i)).map (·.2) = i :: own
    rw [own_map h2]
theorem of_and {a b : Bool} (h : (a && b) = true) : a = true ∧ b = true := Bool.and_eq_true_iff.mp h
theorem not_f {a : Bool} (h : (!a) = true) : a = false := by
  cases a <;> first | rfl | cases h
theorem nonE {es : List E} (h : (!es.isEmpty) = true) : es ≠ [] := by
  cases es with
  | nil => cases h
  | cons a r => exact fun z => by cases z
structure SndL (Z : Wd) (lo : Nat) (ps : List E) (es : List Expr) (W : WX) (X : Cx) : Prop where
  pa : PA X es (txA Z.K lo W (fun r => evs Z.g lo ps r))
  one : ∀ p e, ps = [p] → es = [e] → PE X e (tx Z.K lo W (fun r => ev Z.g lo p r))
theorem i_src (hin : In Z W sc X) (ok : Z.Ok) {w : Lf.W} {tg it : Expr} {ps : List E} (hw : walkB sc w ps.length it = true) (h : cmpL Z.N Z.sg sc ps (walkE w it) = true) (q : SndL Z lo ps (walkE w it) W X) : PI X tg it (txI Z.K lo W w (fun r => evs Z.g lo ps r)) := by
  cases w with
  | val =>
    have hw : (ps.length == 1 && noSet it) = true := hw
    have hl := eq_of_beq (of_and hw).1
    match ps, hl, q with
    | [p], _, q =>
      unfold evs
      unfold evs
      exact i_val hin.K (q.one p it rfl rfl)
  | range =>
    match it, hw, h, q with
    | .Call (.Name x p) es [] pos, hw, h, q =>
      unfold walkB at hw
      obtain ⟨h1, h2⟩ := of_and hw
      obtain ⟨h1, h3⟩ := of_and h1
      cases eq_of_beq h1
      have el : ps.length = es.length := cmpL_len h
      refine i_rng hin ok h3 h ?_ q.pa fun r s xs s' z => by rw [← el]; exact evs_len z
      rw [← el]
      rcases Bool.or_eq_true_iff.mp h2 with z | z
      · exact .inl (eq_of_beq z)
      · exact .inr (eq_of_beq z)
mutual
theorem snd (ok : Z.Ok) : ∀ (p : E) {e : Expr} {sc : Scope} {W : WX} {X : Cx}, In Z W sc X → cmpE Z.N Z.sg sc p e = true → Snd Z lo p e W sc X
  | .var i, e, sc, W, X, hin, h => by
    cases e with
    | Name x pos =>
      unfold cmpE at h
      obtain ⟨h, h4⟩ := of_and h
      obtain ⟨h, h3⟩ := of_and h
      obtain ⟨h1, h2⟩ := of_and h
      refine .val hin ?_ fun _ => rfl
      have q := e_name (K := Z.K) (lo := lo) (W := W) (pos := pos) (by rw [hin.N]; exact of_decide_eq_true h1) (hin.vis h2) (not_f h3) (not_f h4)
      unfold ev
      exact q
    | _ => unfold cmpE at h; cases h
  | .int i, e, sc, W, X, hin, h => by
    cases e with
    | Constant k j pos =>
      cases k with
      | int z =>
        unfold cmpE at h
        cases eq_of_beq h
        refine .val hin ?_ fun _ => rfl
        exact e_const (X := X) (pe_int (X := X)) (fun r => by unfold ev; rfl) (fun O st => by unfold Rp; rfl)
      | _ => unfold cmpE at h; cases h
    | _ => unfold cmpE at h; cases h
  | .bl i, e, sc, W, X, hin, h => by
    cases e with
    | Constant k j pos =>
      cases k with
      | bool z =>
        unfold cmpE at h
        cases eq_of_beq h
        refine .val hin ?_ fun _ => rfl
        exact e_const (X := X) (pe_bl (X := X)) (fun r => by unfold ev; rfl) (fun O st => by unfold Rp; rfl)
      | _ => unfold cmpE at h; cases h
    | _ => unfold cmpE at h; cases h
  | .non, e, sc, W, X, hin, h => by
    cases e with
    | Constant k j pos =>
      cases k with
      | none =>
        unfold cmpE at h

        refine .val hin ?_ fun _ => rfl
        exact e_const (X := X) (pe_non (X := X)) (fun r => by unfold ev; rfl) (fun O st => by unfold Rp; rfl)
      | _ => unfold cmpE at h; cases h
    | _ => unfold cmpE at h; cases h
  | .str x, e, sc, W, X, hin, h => by
    cases e with
    | Constant k j pos =>
      cases k with
      | str z =>
        unfold cmpE at h
        obtain ⟨h1, h2⟩ := of_and h
        cases eq_of_beq h1
        refine .val hin ?_ fun _ => rfl
        exact e_const (X := X) (pe_str (X := X)) (fun r => by unfold ev; rfl) (fun O st => by unfold Rp; exact ⟨rfl, of_decide_eq_true h2⟩)
      | _ => unfold cmpE at h; cases h
    | _ => unfold cmpE at h; cases h
  | .glo i, e, sc, W, X, hin, h => by
    cases e with
    | Name y pos =>
      unfold cmpE at h
      obtain ⟨h1, h2⟩ := of_and h
      have h1 := of_decide_eq_true h1
      obtain ⟨g1, g2⟩ := hin.gl h2
      refine .val hin ?_ fun _ => rfl
      cases eg : Z.g.glo i with
      | none =>
        refine ⟨fun pins s σ H Q I h => ?_⟩
        obtain ⟨r, B, O, st, rfl, hB, er, sr, p⟩ := h
        dsimp only at p
        unfold ev at p
        rw [eg] at p
        exact False.elim p
      | some d =>
        obtain ⟨u, v, e1, e2, e3⟩ := ok.glo i y d h1 eg
        exact e_const (pe_glob g1 (by rw [hin.mg]; exact e1) e2 g2) (fun r => by unfold ev; rw [eg]; rfl) e3
    | _ => unfold cmpE at h; cases h
  | .tup es, e, sc, W, X, hin, h => by
    cases e with
    | Tuple es' j pos =>
      unfold cmpE at h
      refine .val hin ?_ fun _ => rfl
      unfold ev
      exact e_tup (sndL ok es hin h).pa
    | _ => unfold cmpE at h; cases h
  | .lst mu es, e, sc, W, X, hin, h => by
    cases e with
    | List es' pos =>
      unfold cmpE at h
      refine .val hin ?_ fun _ => rfl
      unfold ev
      exact e_lst (sndL ok es hin h).pa
    | _ => unfold cmpE at h; cases h
  | .dct mu es, e, sc, W, X, hin, h => by
    cases e with
    | Dict keys values pos =>
      unfold cmpE at h
      obtain ⟨h, h3⟩ := of_and h
      obtain ⟨h1, h2⟩ := of_and h
      have h1 := of_decide_eq_true h1
      have h2 := of_decide_eq_true h2
      obtain ⟨trs, q1, q2, q3⟩ := sndP ok es (pos := pos) hin.wf h3
      refine .val hin ?_ fun _ => rfl
      cases keys with
      | nil =>
        cases values with
        | nil =>
          have e0 : es = [] := by
            cases es with
            | nil => rfl
            | cons a r =>
              cases r <;> (unfold cmpP at h3; cases h3)
          subst e0
          unfold ev
          unfold evs
          exact e_dnil
        | cons _ _ => cases h1
      | cons k0 kr =>
        unfold ev
        exact e_dct q1 q2 q3 h1 (fun z => by cases z) h2
    | _ => unfold cmpE at h; cases h
  | .bin op mu a b, e, sc, W, X, hin, h => by
    cases e with
    | BinOp a' op' b' pos =>
      unfold cmpE at h
      obtain ⟨h, h3⟩ := of_and h
      obtain ⟨h1, h2⟩ := of_and h
      cases of_decide_eq_true h1
      refine .val hin ?_ fun _ => rfl
      unfold ev
      exact e_bin hin.K (snd ok a hin h2).pe (snd ok b hin h3).pe
    | _ => unfold cmpE at h; cases h
  | .neg a, e, sc, W, X, hin, h => by
    cases e with
    | UnaryOp op a' pos =>
      cases op with
      | USub =>
        unfold cmpE at h
        refine .val hin ?_ fun _ => rfl
        unfold ev
        exact e_neg (snd ok a hin h).pe
      | _ => unfold cmpE at h; cases h
    | _ => unfold cmpE at h; cases h
  | .nt a, e, sc, W, X, hin, h => by
    cases e with
    | UnaryOp op a' pos =>
      cases op with
      | Not =>
        unfold cmpE at h
        have q := snd ok a hin h
        refine ⟨?_, ?_⟩
        · unfold ev
          exact e_not hin.K q.pe
        · unfold ev
          exact t_not q.pt
      | _ => unfold cmpE at h; cases h
    | _ => unfold cmpE at h; cases h
  | .bo or es, e, sc, W, X, hin, h => by
    cases e with
    | BoolOp op es' pos =>
      unfold cmpE at h
      obtain ⟨h1, h2⟩ := of_and h
      cases of_decide_eq_true h1
      obtain ⟨q1, q2⟩ := sndB ok es or (pos := pos) hin h2
      refine ⟨?_, ?_⟩
      · unfold ev
        exact q1
      · unfold ev
        exact q2.pt
    | _ => unfold cmpE at h; cases h
  | .cmp op a b, e, sc, W, X, hin, h => by
    match e, h with
    | .Compare a' [op'] [b'] pos, h =>
      unfold cmpE at h
      obtain ⟨h, h4⟩ := of_and h
      obtain ⟨h, h3⟩ := of_and h
      obtain ⟨h1, h2⟩ := of_and h
      cases of_decide_eq_true h1
      have hu := hin.units
      refine ⟨?_, ?_⟩
      · unfold ev
        exact e_cmp hin.K (by omega) (not_f h2) (snd ok a hin h3).pe (snd ok b hin h4).pe
      · unfold ev
        exact t_cmp hin.K (by omega) (not_f h2) (snd ok a hin h3).pe (snd ok b hin h4).pe
  | .cmp2 o1 o2 a b c, e, sc, W, X, hin, h => by
    match e, h with
    | .Compare a' [p1, p2] [b', c'] pos, h =>
      unfold cmpE at h
      obtain ⟨h, h6⟩ := of_and h
      obtain ⟨h, h5⟩ := of_and h
      obtain ⟨h, h4⟩ := of_and h
      obtain ⟨h, h3⟩ := of_and h
      obtain ⟨h1, h2⟩ := of_and h
      cases of_decide_eq_true h1
      cases of_decide_eq_true h2
      have hu := hin.units
      refine ⟨?_, ?_⟩
      · unfold ev
        exact e_cmp2 hin.K (by omega) (not_f h3) (snd ok a hin h4).pe (snd ok b hin h5).pe (snd ok c hin h6).pe
      · unfold ev
        exact t_cmp2 hin.K (by omega) (not_f h3) (snd ok a hin h4).pe (snd ok b hin h5).pe (snd ok c hin h6).pe
  | .isN neg a, e, sc, W, X, hin, h => by
    match e, h with
    | .Compare a' [op'] [.Constant .none j pos'] pos, h =>
      unfold cmpE at h
      obtain ⟨h1, h2⟩ := of_and h
      cases of_decide_eq_true h1
      refine ⟨?_, ?_⟩
      · unfold ev
        exact e_isN (snd ok a hin h2).pe
      · unfold ev
        exact t_isN (snd ok a hin h2).pe
  | .ife c a b, e, sc, W, X, hin, h => by
    cases e with
    | IfExp c' a' b' pos =>
      unfold cmpE at h
      obtain ⟨h, h3⟩ := of_and h
      obtain ⟨h1, h2⟩ := of_and h
      refine ⟨?_, ?_⟩
      · unfold ev
        exact e_ife (snd ok c hin h1).pt (snd ok a hin h2).pe (snd ok b hin h3).pe
      · unfold ev
        exact t_ife (snd ok c hin h1).pt (snd ok a hin h2).pt (snd ok b hin h3).pt
    | _ => unfold cmpE at h; cases h
  | .call f ks ord es kes, e, sc, W, X, hin, h => by
    match e, h with
    | .Call (.Name f' p) es' kws pos, h =>
      unfold cmpE at h
      obtain ⟨h, h6⟩ := of_and h
      obtain ⟨h, h5⟩ := of_and h
      obtain ⟨h, h4⟩ := of_and h
      obtain ⟨h, h3⟩ := of_and h
      obtain ⟨h1, h2⟩ := of_and h
      have h1 := of_decide_eq_true h1
      have el := cmpL_len h5
      have kl := cmpL_len h6
      rw [List.length_map] at kl
      refine .val hin ?_ fun _ => rfl
      unfold ev
      refine e_call hin ok h1 h2 (by rw [← el]; exact h3) (of_decide_eq_true h4) h5 (sndL ok es hin h5).pa (sndK ok kes hin h6) (fun z r => ?_) (fun r s xs s' z => by rw [← el]; exact evs_len z) (fun r s xs s' z => by rw [← kl]; exact evs_len z)
      subst z
      have e0 : es = [] := List.eq_nil_of_length_eq_zero el
      subst e0
      unfold evs
      rfl
  | .bi f mu es, e, sc, W, X, hin, h => by
    match e, h with
    | .Call (.Name x p) es' [] pos, h =>
      unfold cmpE at h
      obtain ⟨h, h4⟩ := of_and h
      obtain ⟨h, h3⟩ := of_and h
      obtain ⟨h1, h2⟩ := of_and h
      cases eq_of_beq h1
      refine .val hin ?_ fun _ => rfl
      unfold ev
      cases es' with
      | nil =>
        have e0 := cmpL_len h4
        exact absurd (List.eq_nil_of_length_eq_zero e0) (nonE h3)
      | cons e0 es' => exact e_bi hin ok h2 h4 (sndL ok es hin h4).pa
  | .isi a ts, e, sc, W, X, hin, h => by
    match e, h with
    | .Call (.Name x p) [a', .Name t p'] [] pos, h =>
      unfold cmpE at h
      obtain ⟨h, h4⟩ := of_and h
      obtain ⟨h, hs⟩ := of_and h
      obtain ⟨h, h3⟩ := of_and h
      obtain ⟨h1, h2⟩ := of_and h
      cases eq_of_beq h1
      match ts, h3 with
      | [t'], h3 =>
        unfold tnsE at h3
        obtain ⟨h5, _⟩ := of_and h3
        obtain ⟨h5, h6⟩ := of_and h5
        cases eq_of_beq h5
        refine .val hin ?_ fun _ => rfl
        unfold ev
        exact e_isi1 hin ok h2 h6 (snd ok a hin h4).pe hs
      | [], h3 => unfold tnsE at h3; cases h3
      | _ :: _ :: _, h3 =>
        unfold tnsE at h3
        obtain ⟨_, h3⟩ := of_and h3
        unfold tnsE at h3
        cases h3
    | .Call (.Name x p) [a', .Tuple es j p'] [] pos, h =>
      unfold cmpE at h
      obtain ⟨h, h5⟩ := of_and h
      obtain ⟨h, h4⟩ := of_and h
      obtain ⟨h, hs⟩ := of_and h
      obtain ⟨h, h3⟩ := of_and h
      obtain ⟨h1, h2⟩ := of_and h
      cases eq_of_beq h1
      refine .val hin ?_ fun _ => rfl
      unfold ev
      exact e_isiT hin ok h2 h3 (of_decide_eq_true h4) (snd ok a hin h5).pe hs
  | .me o f es, e, sc, W, X, hin, h => by
    match e, h with
    | .Call (.Attribute o' m apos) es' [] cpos, h =>
      unfold cmpE at h
      obtain ⟨h, h6⟩ := of_and h
      obtain ⟨h, h5⟩ := of_and h
      obtain ⟨h, h4⟩ := of_and h
      obtain ⟨h, h3⟩ := of_and h
      obtain ⟨h1, h2⟩ := of_and h
      cases eq_of_beq h1
      have el := cmpL_len h6
      refine .val hin ?_ fun _ => rfl
      unfold ev
      refine e_me hin.K h2 (not_f h3) (by rw [← el]; exact of_decide_eq_true h4) h6 (snd ok o hin h5).pe (sndL ok es hin h6).pa (fun z r => ?_)
      subst z
      have e0 : es = [] := List.eq_nil_of_length_eq_zero el
      subst e0
      unfold evs
      rfl
  | .sub o i, e, sc, W, X, hin, h => by
    cases e with
    | Subscript o' i' pos =>
      have e : (plainSlice i' && cmpE Z.N Z.sg sc o o' && cmpE Z.N Z.sg sc i i') = true := by
        cases i' <;> (unfold cmpE at h; exact h)
      obtain ⟨h, h3⟩ := of_and e
      obtain ⟨h1, h2⟩ := of_and h
      refine .val hin ?_ fun _ => rfl
      unfold ev
      exact e_sub hin.K h1 (snd ok o hin h2).pe (snd ok i hin h3).pe
    | _ => unfold cmpE at h; cases h
  | .slc o l hh, e, sc, W, X, hin, h => by
    match e, h with
    | .Subscript o' (.Slice l' h' none p2) pos, h =>
      unfold cmpE at h
      obtain ⟨h, h3⟩ := of_and h
      obtain ⟨h1, h2⟩ := of_and h
      refine .val hin ?_ fun _ => rfl
      unfold ev
      exact e_slc hin.K (snd ok o hin h1).pe (sndO ok l hin h2) (sndO ok hh hin h3)
  | .comp mu elt own t w src cs, e, sc, W, X, hin, h => by
    cases e with
    | ListComp elt' gens scope pos =>
      cases gens with
      | nil => unfold cmpE at h; cases h
      | cons g gens =>
        cases gens with
        | cons _ _ =>
          obtain ⟨t', it, cs', n⟩ := g
          unfold cmpE at h
          cases h
        | nil =>
          obtain ⟨t', it, cs', n⟩ := g
          unfold cmpE at h
          obtain ⟨h, h12⟩ := of_and h
          obtain ⟨h, h11⟩ := of_and h
          obtain ⟨h, h10⟩ := of_and h
          obtain ⟨h, h9⟩ := of_and h
          obtain ⟨h, h8⟩ := of_and h
          obtain ⟨h, h7⟩ := of_and h
          obtain ⟨h, h6⟩ := of_and h
          obtain ⟨h, h5⟩ := of_and h
          obtain ⟨h, h4⟩ := of_and h
          obtain ⟨h, h3⟩ := of_and h
          obtain ⟨h1, h2⟩ := of_and h
          cases of_decide_eq_true h1
          have om := own_map h3
          refine .val hin ?_ fun _ => rfl
          have q := e_lc (own := own.filterMap fun i => (Z.N[i]?).map fun x => (x, i)) (mu := mu) (pos := pos) hin h11 h2 h4 (by rw [om]; exact h5) (i_src hin ok h10 h12 (sndL ok src hin h12)) (fun X' hin' => sndC ok cs hin' (of_decide_eq_true h6) h7) (fun X' hin' => (snd ok elt hin' h9).pe)
          rw [om] at q
          unfold ev
          exact q
    | _ => unfold cmpE at h; cases h
theorem sndL (ok : Z.Ok) : ∀ (ps : List E) {es : List Expr} {sc : Scope} {W : WX} {X : Cx}, In Z W sc X → cmpL Z.N Z.sg sc ps es = true → SndL Z lo ps es W X
  | [], es, sc, W, X, hin, h => by
    cases es with
    | nil =>
      refine ⟨?_, fun p e z => by cases z⟩
      unfold evs
      exact a_nil
    | cons e es => unfold cmpL at h; cases h
  | p :: ps, es, sc, W, X, hin, h => by
    cases es with
    | nil => unfold cmpL at h; cases h
    | cons e es =>
      unfold cmpL at h
      obtain ⟨h, h3⟩ := of_and h
      obtain ⟨h1, h2⟩ := of_and h
      have q1 := (snd ok p hin h2).pe
      have q2 := (sndL ok ps hin h3).pa
      refine ⟨?_, fun p' e' z1 z2 => by cases z1; cases z2; exact q1⟩
      unfold evs
      exact a_cons h1 q1 q2
theorem sndP (ok : Z.Ok) : ∀ (ps : List E) {keys : List (Option Expr)} {values : List Expr} {pos : Pos} {sc : Scope} {W : WX} {X : Cx}, In Z W sc X → cmpP Z.N Z.sg sc ps keys values = true →
    ∃ trs, PPs X pos keys values trs ∧ RdP Z.K lo W trs (fun r => evs Z.g lo ps r) ∧ keys.all (·.isSome) = true
  | [], keys, values, pos, sc, W, X, hin, h => by
    cases keys with
    | nil =>
      cases values with
      | nil =>
        refine ⟨[], pps_nil, ?_, rfl⟩
        unfold evs
        exact rdp_nil
      | cons _ _ => unfold cmpP at h; cases h
    | cons _ _ => unfold cmpP at h; cases h
  | [_], keys, values, pos, sc, W, X, hin, h => by unfold cmpP at h; cases h
  | k :: v :: ps, keys, values, pos, sc, W, X, hin, h => by
    cases keys with
    | nil => unfold cmpP at h; cases h
    | cons k' ks =>
      cases k' with
      | none => unfold cmpP at h; cases h
      | some k' =>
        cases values with
        | nil => unfold cmpP at h; cases h
        | cons v' vs =>
          unfold cmpP at h
          obtain ⟨h, h3⟩ := of_and h
          obtain ⟨h1, h2⟩ := of_and h
          obtain ⟨trs, q1, q2, q3⟩ := sndP ok ps (pos := pos) hin h3
          refine ⟨_, pps_cons (snd ok k hin h1).pe (snd ok v hin h2).pe q1, ?_, by rw [List.all_cons, q3]; rfl⟩
          unfold evs
          unfold evs
          exact rdp_cons q2
theorem sndK (ok : Z.Ok) : ∀ (ps : List E) {kws : List Keyword} {sc : Scope} {W : WX} {X : Cx}, In Z W sc X → cmpL Z.N Z.sg sc ps (kws.map (·.value)) = true → PK X kws (txA Z.K lo W (fun r => evs Z.g lo ps r))
  | [], es, sc, W, X, hin, h => by
    cases es with
    | nil =>
      unfold evs
      exact k_nil
    | cons e es => rw [List.map_cons] at h; unfold cmpL at h; cases h
  | p :: ps, es, sc, W, X, hin, h => by
    cases es with
    | nil => rw [List.map_nil] at h; unfold cmpL at h; cases h
    | cons e es =>
      rw [List.map_cons] at h
      unfold cmpL at h
      obtain ⟨h, h3⟩ := of_and h
      obtain ⟨h1, h2⟩ := of_and h
      unfold evs
      obtain ⟨nm, v, kp⟩ := e
      exact k_cons (snd ok p hin h2).pe (sndK ok ps hin h3)
theorem sndB (ok : Z.Ok) : ∀ (ps : List E) (or : Bool) {es : List Expr} {pos : Pos} {sc : Scope} {W : WX} {X : Cx}, In Z W sc X → cmpL Z.N Z.sg sc ps es = true →
    PE X (.BoolOp (if or then .Or else .And) es pos) (tx Z.K lo W (fun r => evb Z.g lo or ps r)) ∧ L2.PW X (.BoolOp (if or then .Or else .And) es pos) (txB Z.K lo W (fun r => bnd (evb Z.g lo or ps r) truth))
  | [], or, es, pos, sc, W, X, hin, h => by
    unfold evb
    refine ⟨⟨fun pins s σ H Q I h => ?_⟩, ⟨fun w pins s σ H Q I h => ?_⟩⟩
    · obtain ⟨r, B, O, st, rfl, hB, er, sr, p⟩ := h
      exact False.elim p
    · obtain ⟨r, B, O, st, rfl, hB, er, sr, p⟩ := h
      exact False.elim p
  | p :: ps, or, es, pos, sc, W, X, hin, h => by
    cases es with
    | nil => unfold cmpL at h; cases h
    | cons e es =>
      unfold cmpL at h
      obtain ⟨h, h3⟩ := of_and h
      obtain ⟨h1, h2⟩ := of_and h
      have q := snd ok p hin h2
      cases ps with
      | nil =>
        cases es with
        | nil =>
          unfold evb
          exact ⟨e_bo1 q.pe, w_bo1 q.pt⟩
        | cons _ _ => unfold cmpL at h3; cases h3
      | cons p2 ps =>
        cases es with
        | nil => unfold cmpL at h3; cases h3
        | cons e2 es =>
          obtain ⟨i1, i2⟩ := sndB ok (p2 :: ps) or (pos := pos) hin h3
          have e0 : (fun r => evb Z.g lo or (p :: p2 :: ps) r) = fun r => bnd (ev Z.g lo p r) fun x => bnd (truth x) fun c => if c = or then ret x else evb Z.g lo or (p2 :: ps) r := by
            funext r
            conv => lhs; unfold evb
          have e1 : (fun r => bnd (evb Z.g lo or (p :: p2 :: ps) r) truth) = fun r => bnd (bnd (ev Z.g lo p r) fun x => bnd (truth x) fun c => if c = or then ret x else evb Z.g lo or (p2 :: ps) r) truth := by
            funext r
            rw [congrFun e0 r]
          rw [e0, e1]
          exact ⟨e_bo2 hin.K q.pe i1, w_bo2 q.pt i2⟩
theorem sndO (ok : Z.Ok) : ∀ (ps : List E) {o : Option Expr} {sc : Scope} {W : WX} {X : Cx}, In Z W sc X → cmpL Z.N Z.sg sc ps (optL o) = true → PO X o (txO Z.K lo W (fun r => evs Z.g lo ps r))
  | [], o, sc, W, X, hin, h => by
    cases o with
    | none =>
      unfold evs
      exact o_none
    | some e => unfold optL at h; unfold cmpL at h; cases h
  | p :: ps, o, sc, W, X, hin, h => by
    cases o with
    | none => unfold optL at h; unfold cmpL at h; cases h
    | some e =>
      unfold optL at h
      unfold cmpL at h
      obtain ⟨h, h3⟩ := of_and h
      obtain ⟨h1, h2⟩ := of_and h
      cases ps with
      | nil =>
        unfold evs
        unfold evs
        exact o_some (snd ok p hin h2).pe
      | cons _ _ => unfold cmpL at h3; cases h3
theorem sndC (ok : Z.Ok) : ∀ (ps : List E) {es : List Expr} {sc : Scope} {W : WX} {X : Cx}, In Z W sc X → ps.length ≤ 1 → cmpL Z.N Z.sg sc ps es = true → PTs X es (txB Z.K lo W (fun r => evc Z.g lo ps r))
  | [], es, sc, W, X, hin, hl, h => by
    cases es with
    | nil =>
      unfold evc
      exact ts_nil
    | cons e es => unfold cmpL at h; cases h
  | p :: ps, es, sc, W, X, hin, hl, h => by
    cases es with
    | nil => unfold cmpL at h; cases h
    | cons e es =>
      unfold cmpL at h
      obtain ⟨h, h3⟩ := of_and h
      obtain ⟨h1, h2⟩ := of_and h
      cases ps with
      | nil =>
        cases es with
        | nil =>
          unfold evc
          unfold evc
          exact ts_one (snd ok p hin h2).pt
        | cons _ _ => unfold cmpL at h3; cases h3
      | cons _ _ =>
        rw [List.length_cons, List.length_cons] at hl
        omega
end
end
end Lf
end
section
set_option maxHeartbeats 4000000
/-! The interpreter is sound: statements. -/
namespace Lf
open PySem L2

/-! ### does the code stand for this text -/
def isComp : Expr → Bool
  | .ListComp _ _ _ _ => true
  | .SetComp _ _ _ _ => true
  | .DictComp _ _ _ _ _ => true
  | _ => false
def isTup : Expr → Bool
  | .Tuple _ _ _ => true
  | _ => false
def compAt (sc : Scope) (y : Str) (py : Pos) : Expr → Bool
  | .ListComp _ _ scope pos => py.line == pos.line && !(scope.names.any fun (n, k) => n == y && (k == .local || k == .cell))
  | _ => false
def parB (sc : Scope) (x y : Str) (px py : Pos) (a b : Expr) : Bool :=
  lclB sc x && lclB sc y && px.line == py.line && !(x == y) && noStar a && noStar b && !([a, b].all (foldedForSure 8)) && !([a, b].all (constantsAlone 8))
mutual
def cmpS (N : List Str) (sg : Sig) (sc : Scope) : S → Stmt → Bool
  | .set t e, st => match st with
    | .Assign [tg] e' _ => cmpE N sg sc e e' && tgtE N sc t tg && match t, tg with
      | .nm _, .Name x p => !isComp e' || compAt sc x p e'
      | _, _ => !isTup e' && !isComp e'
    | _ => false
  | .par i j a b, st => match st with
    | .Assign [.Tuple [.Name x px, .Name y py] _ _] (.Tuple [a', b'] _ _) _ => decide (N[i]? = some x) && decide (N[j]? = some y) && parB sc x y px py a' b' && cmpE N sg sc a a' && cmpE N sg sc b b'
    | _ => false
  | .sts o i e, st => match st with
    | .Assign [.Subscript o' i' _] e' _ => plainSlice i' && !isComp e' && cmpE N sg sc e e' && cmpE N sg sc o o' && cmpE N sg sc i i'
    | _ => false
  | .ex e, st => match st with
    | .Expr e' _ => !isComp e' && cmpE N sg sc e e'
    | _ => false
  | .ret e, st => match st with
    | .Return (some e') _ => cmpE N sg sc e e'
    | _ => false
  | .retn, st => match st with
    | .Return none _ => true
    | _ => false
  | .ife c a b, st => match st with
    | .If c' a' b' _ => cmpE N sg sc c c' && cmpSs N sg sc a a' && cmpSs N sg sc b b'
    | _ => false
  | .for_ t w src body, st => match st with
    | .For tg it body' [] _ => tgtE N sc t tg && walkB sc w src.length it && noSet it && cmpL N sg sc src (walkE w it) && cmpSs N sg sc body body'
    | _ => false
  | .whl c body, st => match st with
    | .While c' body' [] _ => cmpE N sg sc c c' && cmpSs N sg sc body body'
    | _ => false
  | .brk, st => match st with
    | .Break _ => true
    | _ => false
  | .cont, st => match st with
    | .Continue _ => true
    | _ => false
  | .pass, st => match st with
    | .Pass _ => true
    | .Expr (.Constant (.str _) _ _) _ => true
    | _ => false
def cmpSs (N : List Str) (sg : Sig) (sc : Scope) : List S → List Stmt → Bool
  | [], [] => true
  | s :: ss, s' :: ss' => cmpS N sg sc s s' && cmpSs N sg sc ss ss'
  | _, _ => false
end

/-! ### readings -/
section
variable {K : PySem.W.Frag} {W : WX} {D : Ends} {B : List Nat} {O O1 : Om} {st st1 : Sto} {lo : Nat}
def PostO (K : PySem.W.Frag) (W : WX) (D : Ends) (o : Lf.O) (B : List Nat) (O : Om) (st : Sto) : Prop := match o with
  | .nx r s' => ∀ O', Ext O st O' s' → SR K B O' s' → ∀ σ', ER K O' s' r σ' → D.nx σ' O'.H
  | .bk r s' => ∀ O', Ext O st O' s' → SR K B O' s' → ∀ σ', ER K O' s' r σ' → D.bk σ' O'.H
  | .ct r s' => ∀ O', Ext O st O' s' → SR K B O' s' → ∀ σ', ER K O' s' r σ' → D.ct σ' O'.H
  | .rt d s' => ∀ O', Ext O st O' s' → SR K B O' s' → ∀ v, Rp K O' s' d v → D.rt v O'.H
  | .err x r s' => ∀ O', Ext O st O' s' → SR K B O' s' → ∀ σ', ER K O' s' r σ' → Er K W σ' x s' O'
  | .bad => False
theorem PostO.later {o : Lf.O} (x : Ext O st O1 st1) (h : PostO K W D o B O st) : PostO K W D o B O1 st1 := by
  cases o with
  | nx r s => exact fun O' y s' => h O' (x.trans y) s'
  | bk r s => exact fun O' y s' => h O' (x.trans y) s'
  | ct r s => exact fun O' y s' => h O' (x.trans y) s'
  | rt r s => exact fun O' y s' => h O' (x.trans y) s'
  | err d r s => exact fun O' y s' => h O' (x.trans y) s'
  | bad => exact h
theorem PostO.of {α : Type} {m : R α} {r : Env} {f : α → Sto → Lf.O} {σ : St} (er : ER K O st r σ) (h : PostO K W D (m.to r f) B O st) : Post K m B O st (fun a s1 O1 => PostO K W D (f a s1) B O1 s1) (Er K W σ) := by
  cases m with
  | ok a s => exact fun O' y _ => PostO.later y h
  | err d s => exact fun O' y s' => h O' y s' σ (er.on y)
  | bad => exact h
def txS (K : PySem.W.Frag) (lo : Nat) (W : WX) (f : Env → Sto → Lf.O) : TS := fun D σ H => ∃ (r : Env) (B : List Nat) (O : Om) (st : Sto), O.H = H ∧ (∀ b ∈ B, b ≤ lo) ∧ ER K O st r σ ∧ SR K B O st ∧ PostO K W D (f r st) B O st
theorem PostO.seq {o : Lf.O} {f : Env → Sto → Lf.O} (hB : ∀ b ∈ B, b ≤ lo) (h : PostO K W D (o.seq f) B O st) : PostO K W { D with nx := txS K lo W f D } o B O st := by
  cases o with
  | nx r s => exact fun O' y s' σ' er => ⟨r, B, O', s, rfl, hB, er, s', PostO.later y h⟩
  | bk r s => exact h
  | ct r s => exact h
  | rt r s => exact h
  | err d r s => exact h
  | bad => exact h
theorem PostO.loop {o : Lf.O} {k : Env → Sto → Lf.O} {N : St → Hp → Prop} (hN : ∀ r s O' σ', Ext O st O' s → SR K B O' s → ER K O' s r σ' → PostO K W D (k r s) B O' s → N σ' O'.H)
    (h : PostO K W D (match o with | .nx r s => k r s | .ct r s => k r s | .bk r s => .nx r s | o => o) B O st) : PostO K W { D with nx := N, ct := N, bk := D.nx } o B O st := by
  cases o with
  | nx r s => exact fun O' y s' σ' er => hN r s O' σ' y s' er (PostO.later y h)
  | bk r s => exact h
  | ct r s => exact fun O' y s' σ' er => hN r s O' σ' y s' er (PostO.later y h)
  | rt r s => exact h
  | err d r s => exact h
  | bad => exact h
end
section
variable {X : Cx}
theorem PSs.weak {e : List Stmt} {t t' : TS} (h : PSs X e t) (w : ∀ D σ H, t' D σ H → t D σ H) : PSs X e t' := ⟨fun pins s σ H D I q => h.run pins s σ H D I (w D σ H q)⟩
theorem PS.weak {e : Stmt} {t t' : TS} (h : PS X e t) (w : ∀ D σ H, t' D σ H → t D σ H) : PS X e t' := ⟨fun pins s σ H D I q => h.run pins s σ H D I (w D σ H q)⟩
end
section
variable {Z : Wd} {W : WX} {sc : Scope} {X : Cx} {lo : Nat} {pos : Pos} {K : PySem.W.Frag}
theorem s_nil : PSs X [] (txS K lo W (fun r s => .nx r s)) := by
  refine PSs.weak pss_nil fun D σ H h => ?_
  obtain ⟨r, B, O, st, rfl, hB, er, sr, p⟩ := h
  exact p O Ext.rfl sr σ er
theorem s_cons {a : Stmt} {r : List Stmt} {f g : Env → Sto → Lf.O} (h1 : PS X a (txS K lo W f)) (h2 : PSs X r (txS K lo W g)) : PSs X (a :: r) (txS K lo W (fun r s => (f r s).seq g)) := by
  refine PSs.weak (pss_cons h1 h2) fun D σ H h => ?_
  obtain ⟨r, B, O, st, rfl, hB, er, sr, p⟩ := h
  exact ⟨r, B, O, st, rfl, hB, er, sr, PostO.seq hB p⟩
theorem s_asg {e tg : Expr} {t : T} {f : Env → M D} {g : TG} (h1 : PS X (.Assign [tg] e pos) (tAsg (tx K lo W f) g)) (hg : ∀ v σ H Q, txG K t v σ H Q → g v σ H Q) :
    PS X (.Assign [tg] e pos) (txS K lo W (fun r s => (f r s).to r fun d s1 => match asgT t d r with | some r1 => .nx r1 s1 | none => .bad)) := by
  refine PS.weak h1 fun D σ H h => ?_
  obtain ⟨r, B, O, st, rfl, hB, er, sr, p⟩ := h
  refine ⟨r, B, O, st, rfl, hB, er, sr, Post.imp (PostO.of er p) (fun d s1 O1 x1 sr1 p v hv => ?_) fun _ _ _ _ _ q => q⟩
  cases ea : asgT t d r with
  | none =>
    rw [ea] at p
    exact False.elim p
  | some r1 =>
    rw [ea] at p
    exact hg _ _ _ _ ⟨r, r1, O1, s1, d, rfl, hv, er.on x1, ea, fun σ1 er1 _ => p O1 Ext.rfl sr1 σ1 er1⟩
theorem g_gName {i : Nat} : ∀ v σ H Q, txG K (.nm i) v σ H Q → gName i v σ H Q := by
  intro v σ H Q h
  obtain ⟨r, r1, O, st, d, rfl, hv, er, ea, q⟩ := h
  unfold asgT at ea
  dsimp only at ea
  by_cases hi : i < r.length
  · rw [if_pos hi] at ea
    cases ea
    exact q _ (er.put hv) fun vs hc => wipe_set (List.contains_iff_mem.mp hc)
  · rw [if_neg hi] at ea
    cases ea
theorem sw_false {e : Expr} {o : Option Expr} {n : Nat} {env : PySem.Env} (h : isComp e = false) : swapsWith e o n env = pure false := by
  cases e <;> first | rfl | cases h
theorem sole_false {e tg : Expr} {n : Nat} {env : PySem.Env} (h : isComp e = false) : swapsWithSole [tg] e n env = pure false := by
  unfold swapsWithSole
  exact sw_false h
theorem ss_none {e : Expr} {tg : Expr} {env : PySem.Env} (h : isTup e = false) : swappedStores [tg] e env = pure none := by
  cases e <;> first | (cases tg <;> rfl) | cases h
theorem s_name (hin : In Z W sc X) {i : Nat} {x : Str} {p : Pos} {e : Expr} {f : Env → M D} (hN : Z.N[i]? = some x) (hl : lclB sc x = true) (hc : isComp e = false) (he : PE X e (tx K lo W f)) : PS X (.Assign [.Name x p] e pos) (tAsg (tx K lo W f) (gName i)) :=
  ps_set hin.nd (by rw [hin.N]; exact hN) (.inl (hin.lcl hl)) he (sw_false hc) (.inr (hin.lcl hl))
theorem s_tup (hin : In Z W sc X) {es : List Expr} {is : List Nat} {j : Nat} {p : Pos} {e : Expr} {f : Env → M D} (hn : nmsE Z.N sc is es = true) (ht : isTup e = false) (hc : isComp e = false) (he : PE X e (tx K lo W f)) : PS X (.Assign [.Tuple es j p] e pos) (tAsg (tx K lo W f) (txG Z.K (.tp is))) :=
  ps_asg he (g_tup hin hn) (sole_false hc) (ss_none ht)
theorem s_sub (hin : In Z W sc X) {o i e : Expr} {p : Pos} {f g h : Env → M D} (hs : plainSlice i = true) (hc : isComp e = false) (he : PE X e (tx Z.K lo W f)) (ho : PE X o (tx Z.K lo W g)) (hi : PE X i (tx Z.K lo W h)) :
    PS X (.Assign [.Subscript o i p] e pos) (txS Z.K lo W (fun r s => (f r s).to r fun d s1 => (g r s1).to r fun x s2 => (h r s2).to r fun y s3 => (stsV lo x y d s3).to r fun _ s4 => .nx r s4)) := by
  have hg : PG X (.Subscript o i p) _ := pg_sub ho hi (sts_ok (X := X) (lo := lo)) (by cases i <;> first | exact fun _ => rfl | cases hs)
  have st : isTup e = true ∨ isTup e = false := by cases isTup e <;> simp
  have hw : swappedStores [.Subscript o i p] e X.env = pure none := by cases e <;> rfl
  refine PS.weak (ps_asg he hg (sole_false hc) hw) fun D σ H q => ?_
  obtain ⟨r, B, O, st, rfl, hB, er, sr, q⟩ := q
  refine ⟨r, B, O, st, rfl, hB, er, sr, Post.imp (PostO.of er q) (fun d s1 O1 x1 sr1 q v hv => ?_) fun _ _ _ _ _ q => q⟩
  have er1 := er.on x1
  refine ⟨r, B, O1, s1, rfl, hB, er1, sr1, Post.imp (PostO.of er1 q) (fun x s2 O2 x2 sr2 q xv hx => ?_) fun _ _ _ _ _ q => q⟩
  have er2 := er1.on x2
  refine ⟨r, B, O2, s2, rfl, hB, er2, sr2, Post.imp (PostO.of er2 q) (fun y s3 O3 x3 sr3 q yv hy => ?_) fun _ _ _ _ _ q => q⟩
  have er3 := er2.on x3
  rw [hin.K]
  exact ⟨B, O3, s3, x, y, d, _, rfl, hB, hx.on x3, hy, (hv.on x2).on x3, sr3, Post.imp (PostO.of er3 q) (fun _ s4 O4 x4 sr4 q => q O4 Ext.rfl sr4 σ (er3.on x4)) fun _ _ _ _ _ q => q⟩
theorem s_ex {e : Expr} {f : Env → M D} (hc : isComp e = false) (he : PE X e (tx K lo W f)) : PS X (.Expr e pos) (txS K lo W (fun r s => (f r s).to r fun _ s1 => .nx r s1)) := by
  refine PS.weak (ps_expr he (sw_false hc)) fun D σ H h => ?_
  obtain ⟨r, B, O, st, rfl, hB, er, sr, p⟩ := h
  exact ⟨r, B, O, st, rfl, hB, er, sr, Post.imp (PostO.of er p) (fun d s1 O1 x1 sr1 p v hv => p O1 Ext.rfl sr1 σ (er.on x1)) fun _ _ _ _ _ q => q⟩
theorem s_ret {e : Expr} {f : Env → M D} (he : PE X e (tx K lo W f)) : PS X (.Return (some e) pos) (txS K lo W (fun r s => (f r s).to r fun d s1 => .rt d s1)) := by
  refine PS.weak (ps_ret he) fun D σ H h => ?_
  obtain ⟨r, B, O, st, rfl, hB, er, sr, p⟩ := h
  exact ⟨r, B, O, st, rfl, hB, er, sr, Post.imp (PostO.of er p) (fun d s1 O1 x1 sr1 p v hv => p O1 Ext.rfl sr1 v hv) fun _ _ _ _ _ q => q⟩
theorem s_retn : PS X (.Return none pos) (txS K lo W (fun _ s => .rt .non s)) := by
  refine PS.weak ps_retN fun D σ H h => ?_
  obtain ⟨r, B, O, st, rfl, hB, er, sr, p⟩ := h
  exact p O Ext.rfl sr .non (by unfold Rp; rfl)
theorem s_if {c : Expr} {a b : List Stmt} {f : Env → M Bool} {g k : Env → Sto → Lf.O} (h1 : PT X c (txB K lo W f)) (h2 : PSs X a (txS K lo W g)) (h3 : PSs X b (txS K lo W k)) : PS X (.If c a b pos) (txS K lo W (fun r s => (f r s).to r fun q s1 => if q then g r s1 else k r s1)) := by
  refine PS.weak (ps_if h1 h2 h3) fun D σ H h => ?_
  obtain ⟨r, B, O, st, rfl, hB, er, sr, p⟩ := h
  refine ⟨r, B, O, st, rfl, hB, er, sr, Post.imp (PostO.of er p) (fun d s1 O1 x1 sr1 p => ?_) fun _ _ _ _ _ q => q⟩
  cases d with
  | true => exact ⟨r, B, O1, s1, rfl, hB, er.on x1, sr1, p⟩
  | false => exact ⟨r, B, O1, s1, rfl, hB, er.on x1, sr1, p⟩
theorem s_brk : PS X (.Break pos) (txS K lo W (fun r s => .bk r s)) := by
  refine PS.weak ps_break fun D σ H h => ?_
  obtain ⟨r, B, O, st, rfl, hB, er, sr, p⟩ := h
  exact p O Ext.rfl sr σ er
theorem s_cont : PS X (.Continue pos) (txS K lo W (fun r s => .ct r s)) := by
  refine PS.weak ps_continue fun D σ H h => ?_
  obtain ⟨r, B, O, st, rfl, hB, er, sr, p⟩ := h
  exact p O Ext.rfl sr σ er
theorem s_pass : PS X (.Pass pos) (txS K lo W (fun r s => .nx r s)) := by
  refine PS.weak ps_pass fun D σ H h => ?_
  obtain ⟨r, B, O, st, rfl, hB, er, sr, p⟩ := h
  exact p O Ext.rfl sr σ er
theorem s_doc {x : Str} {j : Nat} {p : Pos} : PS X (.Expr (.Constant (.str x) j p) pos) (txS K lo W (fun r s => .nx r s)) := by
  refine PS.weak ps_doc fun D σ H h => ?_
  obtain ⟨r, B, O, st, rfl, hB, er, sr, p⟩ := h
  exact p O Ext.rfl sr σ er
theorem s_for (hp : PassesOwn (model X.prog X.w) X.A X.env X.xe) (hc : X.calm = true) {tg it : Expr} {body : List Stmt} {t : T} {w : Lf.W} {fs : Env → M (List D)} {f : Env → Sto → Lf.O} (hi : PI X tg it (txI K lo W w fs)) (hg : PG X tg (txG K t)) (hb : PSs X body (txS K lo W f)) (hs : noSet it = true) :
    PS X (.For tg it body [] pos) (txS K lo W (fun r s => (fs r s).to r fun ds s1 => (walkW w ds s1).to r fun xs s2 => forL t (srcOf w ds) f xs r s2)) := by
  refine PS.weak (ps_for hp hc hi hg hb (fold_none hs)) fun D σ H h => ?_
  obtain ⟨r, B, O, st, rfl, hB, er, sr, p⟩ := h
  have e : ((fs r st).to r fun ds s1 => (walkW w ds s1).to r fun xs s2 => forL t (srcOf w ds) f xs r s2) = (bnd (fs r) (fun ds => bnd (walkW w ds) fun xs => ret (ds, xs)) st).to r fun pr s2 => forL t (srcOf w pr.1) f pr.2 r s2 := by
    unfold bnd
    cases h1 : fs r st with
    | ok ds s1 =>
      show (walkW w ds s1).to r _ = ((walkW w ds s1).bind _).to r _
      cases h2 : walkW w ds s1 <;> rfl
    | err _ _ => rfl
    | bad => rfl
  dsimp only at p
  rw [e] at p
  refine ⟨r, B, O, st, rfl, hB, er, sr, Post.imp (PostO.of er p) (fun pr s1 O1 x1 sr1 p J sd wk hsd heq => ?_) fun _ _ _ _ _ q => q⟩
  obtain ⟨ds, xs⟩ := pr
  have wk : Wk K J sd xs := wk
  have hsd : Sd K sd xs O1 s1 := hsd
  have heq : sd.map Prod.fst = srcOf w ds := heq
  have p : PostO K W D (forL t (srcOf w ds) f xs r s1) B O1 s1 := p
  rw [← heq] at p
  refine ⟨fun i m σ H => m = xs.length - i ∧ i ≤ xs.length ∧ ∃ (r : Env) (E : Om) (s : Sto), E.H = H ∧ SR K B E s ∧ ER K E s r σ ∧ Sd K sd xs E s ∧ PostO K W D (forL t (sd.map Prod.fst) f (xs.drop i) r s) B E s, ⟨xs.length, by simp, Nat.zero_le _, r, O1, s1, rfl, sr1, er.on x1, hsd, p⟩, ?_⟩
  rintro i m σ H ⟨rfl, hi, r, E, s, rfl, srE, erE, sdE, p⟩
  have wkE := wk.on B E s srE sdE
  by_cases hlt : i < xs.length
  · refine .inr ⟨(wkE.1 i hlt).1, fun σ' H' => ∃ (r : Env) (E : Om) (s : Sto), E.H = H' ∧ SR K B E s ∧ ER K E s r σ' ∧ Sd K sd xs E s ∧ PostO K W D (forL t (sd.map Prod.fst) f (xs.drop (i + 1)) r s) B E s, fun σ' H' n => ⟨xs.length - (i + 1), by omega, rfl, hlt, n⟩, fun x H' y => ?_⟩
    obtain ⟨eH, dx, edx, hdx⟩ := (wkE.1 i hlt).2 x H' y
    subst eH
    have edr : xs.drop i = dx :: xs.drop (i + 1) := by
      rw [List.drop_eq_getElem_cons hlt]
      rw [List.getElem?_eq_getElem hlt] at edx
      rw [Option.some.inj edx]
    rw [edr] at p
    unfold forL at p
    cases ea : asgT t dx r with
    | none =>
      rw [ea] at p
      exact False.elim p
    | some r1 =>
      rw [ea] at p
      refine ⟨r, r1, E, s, dx, rfl, hdx, erE, ea, fun σ1 er1 _ => ⟨r1, B, E, s, rfl, hB, er1, srE, ?_⟩⟩
      refine PostO.loop (k := fun r2 s2 => if stays (sd.map Prod.fst) s s2 = true then forL t (sd.map Prod.fst) f (xs.drop (i + 1)) r2 s2 else .bad) (fun r2 s2 O' σ' x2 sr2 er2 q => ?_) p
      by_cases z : stays (sd.map Prod.fst) s s2 = true
      · rw [if_pos z] at q
        exact ⟨r2, O', s2, rfl, sr2, er2, sdE.on x2 z, q⟩
      · rw [if_neg z] at q
        exact False.elim q
  · have e : i = xs.length := by omega
    subst e
    rw [List.drop_length] at p
    exact .inl ⟨wkE.2, p E Ext.rfl srE σ erE⟩
theorem s_whl (hp : PassesOwn (model X.prog X.w) X.A X.env X.xe) {c : Expr} {body : List Stmt} {fc : Env → M Bool} {f : Env → Sto → Lf.O} {n : Nat} (h1 : PT X c (txB K lo W fc)) (hb : PSs X body (txS K lo W f)) :
    PS X (.While c body [] pos) (txS K lo W (fun r s => whlN fc f n r s)) := by
  refine PS.weak (ps_while hp h1 hb) fun D σ H h => ?_
  obtain ⟨r, B, O, st, rfl, hB, er, sr, p⟩ := h
  refine ⟨fun m σ H => ∃ (r : Env) (E : Om) (s : Sto), E.H = H ∧ SR K B E s ∧ ER K E s r σ ∧ PostO K W D (whlN fc f m r s) B E s, ⟨n, r, O, st, rfl, sr, er, p⟩, ?_⟩
  rintro m σ H ⟨r, E, s, rfl, srE, erE, p⟩
  cases m with
  | zero => exact False.elim p
  | succ m =>
    unfold whlN at p
    refine ⟨r, B, E, s, rfl, hB, erE, srE, Post.imp (PostO.of erE p) (fun b s1 O1 x1 sr1 p => ?_) fun _ _ _ _ _ q => q⟩
    cases b with
    | false => exact p O1 Ext.rfl sr1 σ (erE.on x1)
    | true =>
      refine ⟨fun σ' H' => ∃ (r : Env) (E : Om) (s : Sto), E.H = H' ∧ SR K B E s ∧ ER K E s r σ' ∧ PostO K W D (whlN fc f m r s) B E s, fun σ' H' q => ⟨m, Nat.lt_succ_self m, q⟩, r, B, O1, s1, rfl, hB, erE.on x1, sr1, ?_⟩
      exact PostO.loop (k := fun r2 s2 => whlN fc f m r2 s2) (fun r2 s2 O' σ' x2 sr2 er2 q => ⟨r2, O', s2, rfl, sr2, er2, q⟩) p
theorem par_ok {x y : Str} {px py pt pt2 : Pos} {kt k2 : Nat} {a b : Expr} (hin : In Z W sc X) (hk : sc.kind = .function) (h : parB sc x y px py a b = true) : swappedStores [.Tuple [.Name x px, .Name y py] kt pt] (.Tuple [a, b] k2 pt2) X.env = pure (some [x, y]) := by
  unfold parB at h
  obtain ⟨h, h8⟩ := of_and h
  obtain ⟨h, h7⟩ := of_and h
  obtain ⟨h, h6⟩ := of_and h
  obtain ⟨h, h5⟩ := of_and h
  obtain ⟨h, h4⟩ := of_and h
  obtain ⟨h, h3⟩ := of_and h
  obtain ⟨h1, h2⟩ := of_and h
  have kx : X.env.kindOf x = some .local := hin.lcl h1
  have ky : X.env.kindOf y = some .local := hin.lcl h2
  have hb : X.env.blockKind = .function := by
    unfold Env.blockKind
    rw [hin.sc, hk]
    rfl
  have sa : ∀ e : Expr, noStar e = true → (match e with | .Starred .. => true | _ => false) = false := by
    intro e he
    cases e <;> first | rfl | cases he
  have s0 : ([a, b].any fun e => match e with | .Starred .. => true | _ => false) = false := by
    rw [List.any_cons, List.any_cons, sa a h5, sa b h6]
    rfl
  have l3 := eq_of_beq h3
  have h7 := not_f h7
  have h8 := not_f h8
  have hne : x ≠ y := fun z => by
    rw [z] at h4
    simp at h4
  have hnb : (x == y) = false := by simpa using hne
  unfold swappedStores
  have hyx : (y == x) = false := by simpa using (Ne.symm hne)
  have ed : [x, y].eraseDups.length = 2 := by simp [List.eraseDups_cons, hyx]
  simp [hb, kx, ky, l3, h7, h8, Expr.pos, hne]
  rw [if_neg, if_pos ed]
  rintro (z | z)
  · cases a <;> first | (cases h5; done) | (cases z; done)
  · cases b <;> first | (cases h6; done) | (cases z; done)
theorem s_par (hin : In Z W sc X) (hk : sc.kind = .function) {i j : Nat} {x y : Str} {px py pt pt2 : Pos} {kt k2 : Nat} {a b : Expr} {f g : Env → M D} (hi : Z.N[i]? = some x) (hj : Z.N[j]? = some y) (h : parB sc x y px py a b = true) (h1 : PE X a (tx K lo W f)) (h2 : PE X b (tx K lo W g)) :
    PS X (.Assign [.Tuple [.Name x px, .Name y py] kt pt] (.Tuple [a, b] k2 pt2) pos) (txS K lo W (fun r s => (f r s).to r fun u s1 => (g r s1).to r fun v s2 => if i < r.length ∧ j < r.length then .nx ((r.set i (some u)).set j (some v)) s2 else .bad)) := by
  have hw := par_ok (px := px) (py := py) (pt := pt) (pt2 := pt2) (kt := kt) (k2 := k2) hin hk h
  unfold parB at h
  obtain ⟨h, _⟩ := of_and h
  obtain ⟨h, _⟩ := of_and h
  obtain ⟨h, h6⟩ := of_and h
  obtain ⟨h, h5⟩ := of_and h
  obtain ⟨h, h4⟩ := of_and h
  obtain ⟨h, h3⟩ := of_and h
  obtain ⟨l1, l2⟩ := of_and h
  have hij : i ≠ j := fun z => by
    rw [z, hj] at hi
    cases hi
    simp at h4
  have ha : PA X [a, b] (txA K lo W (fun r => bnd (f r) fun x => bnd (bnd (g r) fun y => bnd (ret []) fun ys => ret (y :: ys)) fun xs => ret (x :: xs))) := a_cons h5 h1 (a_cons h6 h2 a_nil)
  refine PS.weak (ps_par hin.calm hin.nd (by rw [hin.N]; exact hi) (by rw [hin.N]; exact hj) hij (hin.lcl l1) (hin.lcl l2) ha hw (sole_false rfl)) fun D σ H q => ?_
  obtain ⟨r, B, O, st, rfl, hB, er, sr, q⟩ := q
  have e : ((f r st).to r fun u s1 => (g r s1).to r fun v s2 => if i < r.length ∧ j < r.length then .nx ((r.set i (some u)).set j (some v)) s2 else .bad) =
      (bnd (f r) (fun u => bnd (g r) fun v => ret (u, v)) st).to r fun p s2 => if i < r.length ∧ j < r.length then .nx ((r.set i (some p.1)).set j (some p.2)) s2 else .bad := by
    unfold bnd
    cases h1 : f r st with
    | ok ds s1 =>
      show (g r s1).to r _ = ((g r s1).bind _).to r _
      cases h2 : g r s1 <;> rfl
    | err _ _ => rfl
    | bad => rfl
  dsimp only at q
  rw [e] at q
  have q2 := PostO.of er q
  refine ⟨r, B, O, st, rfl, hB, er, sr, Post.imp (q := fun ds s1 O1 => ∃ u v, ds = [u, v] ∧ PostO K W D (if i < r.length ∧ j < r.length then .nx ((r.set i (some u)).set j (some v)) s1 else .bad) B O1 s1) ?_ (fun ds s1 O1 x1 sr1 q vs hvs => ?_) fun _ _ _ _ _ q => q⟩
  · have e2 : bnd (f r) (fun x => bnd (bnd (g r) fun y => bnd (ret []) fun ys => ret (y :: ys)) fun xs => ret (x :: xs)) = bnd (bnd (f r) fun u => bnd (g r) fun v => ret (u, v)) fun p => ret [p.1, p.2] := by
      rw [bnd_bnd]
      congr 1
      funext x
      rw [bnd_bnd, bnd_bnd]
      rfl
    show Post K ((bnd (f r) (fun x => bnd (bnd (g r) fun y => bnd (ret []) fun ys => ret (y :: ys)) fun xs => ret (x :: xs))) st) B O st _ _
    rw [e2]
    show Post K ((bnd (f r) (fun u => bnd (g r) fun v => ret (u, v)) st).bind fun p => ret [p.1, p.2]) B O st _ _
    generalize (bnd (f r) (fun u => bnd (g r) fun v => ret (u, v)) st) = m at q2
    cases m with
    | ok p s => exact fun O' y s' => ⟨p.1, p.2, rfl, q2 O' y s'⟩
    | err p s => exact q2
    | bad => exact q2
  · obtain ⟨u, v, rfl, q⟩ := q
    by_cases c : i < r.length ∧ j < r.length
    · rw [if_pos c] at q
      obtain ⟨x, y, rfl, hx, hy⟩ := rpl2 hvs
      exact ⟨x, y, rfl, q O1 Ext.rfl sr1 _ (((er.on x1).put hx).put hy)⟩
    · rw [if_neg c] at q
      exact False.elim q
/-- a def's own context -/
structure InF (Z : Wd) (W : WX) (sc : Scope) (X : Cx) : Prop where
  i : In Z W sc X
  passes : PassesOwn (model X.prog X.w) X.A X.env X.xe
  kind : sc.kind = .function
/-- name = [..] -/
theorem s_comp (hin : In Z W sc X) (ok : Z.Ok) (hk : sc.kind = .function) {p : E} {i : Nat} {y : Str} {py : Pos} {e : Expr} (hN : Z.N[i]? = some y) (hl : lclB sc y = true) (hc : compAt sc y py e = true) (h : cmpE Z.N Z.sg sc p e = true) : PS X (.Assign [.Name y py] e pos) (tAsg (tx Z.K lo W (fun r => ev Z.g lo p r)) (gName i)) := by
  cases e with
  | ListComp elt' gens scope cpos =>
    unfold compAt at hc
    obtain ⟨c1, c2⟩ := of_and hc
    cases p with
    | comp mu elt own t w src cs =>
      cases gens with
      | nil => unfold cmpE at h; cases h
      | cons g gens =>
        cases gens with
        | cons _ _ =>
          obtain ⟨t', it, cs', n⟩ := g
          unfold cmpE at h
          cases h
        | nil =>
          obtain ⟨t', it, cs', n⟩ := g
          unfold cmpE at h
          obtain ⟨h, h12⟩ := of_and h
          obtain ⟨h, h11⟩ := of_and h
          obtain ⟨h, h10⟩ := of_and h
          obtain ⟨h, h9⟩ := of_and h
          obtain ⟨h, h8⟩ := of_and h
          obtain ⟨h, h7⟩ := of_and h
          obtain ⟨h, h6⟩ := of_and h
          obtain ⟨h, h5⟩ := of_and h
          obtain ⟨h, h4⟩ := of_and h
          obtain ⟨h, h3⟩ := of_and h
          obtain ⟨h1, h2⟩ := of_and h
          cases of_decide_eq_true h1
          have om := own_map h3
          have q := p_lc (lo := lo) (own := own.filterMap fun i => (Z.N[i]?).map fun x => (x, i)) (mu := mu) (pos := cpos) (spos := pos) hin hN hl c1 (not_f c2) hk h11 h2 h4 (by rw [om]; exact h5) (i_src hin ok h10 h12 (sndL ok src hin h12)) (fun X' hin' => sndC ok cs hin' (of_decide_eq_true h6) h7) (fun X' hin' => (snd ok elt hin' h9).pe)
          rw [om] at q
          unfold ev
          exact q
    | _ => unfold cmpE at h; cases h
  | _ => cases hc
mutual
theorem sndS (ok : Z.Ok) : ∀ (p : S) {e : Stmt} {sc : Scope} {W : WX} {X : Cx}, InF Z W sc X → cmpS Z.N Z.sg sc p e = true → PS X e (txS Z.K lo W (fun r s => ex Z.g lo p r s))
  | .set t e, st, sc, W, X, hin, h => by
    unfold cmpS at h
    split at h
    · rename_i tg e' pos
      obtain ⟨h, h3⟩ := of_and h
      obtain ⟨h1, h2⟩ := of_and h
      have pe := (snd (lo := lo) ok e hin.i h1).pe
      cases t with
      | nm i =>
        cases tg with
        | Name x p =>
          obtain ⟨l1, l2⟩ := of_and h2
          have l1 := of_decide_eq_true l1
          unfold ex
          rcases Bool.or_eq_true_iff.mp h3 with z | z
          · exact s_asg (s_name hin.i l1 l2 (not_f z) pe) g_gName
          · exact s_asg (s_comp hin.i ok hin.kind l1 l2 z h1) g_gName
        | _ => cases h2
      | tp is =>
        cases tg with
        | Tuple es k p =>
          obtain ⟨z1, z2⟩ := of_and h3
          unfold ex
          exact s_asg (s_tup hin.i h2 (not_f z1) (not_f z2) pe) fun _ _ _ _ q => q
        | _ => cases h2
    · cases h
  | .par i j a b, st, sc, W, X, hin, h => by
    unfold cmpS at h
    split at h
    · rename_i x px y py k1 p1 a' b' k2 p2 pos
      obtain ⟨h, h5⟩ := of_and h
      obtain ⟨h, h4⟩ := of_and h
      obtain ⟨h, h3⟩ := of_and h
      obtain ⟨h1, h2⟩ := of_and h
      unfold ex
      exact s_par hin.i hin.kind (of_decide_eq_true h1) (of_decide_eq_true h2) h3 (snd ok a hin.i h4).pe (snd ok b hin.i h5).pe
    · cases h
  | .sts o i e, st, sc, W, X, hin, h => by
    unfold cmpS at h
    split at h
    · rename_i o' i' p e' pos
      obtain ⟨h, h5⟩ := of_and h
      obtain ⟨h, h4⟩ := of_and h
      obtain ⟨h, h3⟩ := of_and h
      obtain ⟨h1, h2⟩ := of_and h
      unfold ex
      exact s_sub hin.i h1 (not_f h2) (snd ok e hin.i h3).pe (snd ok o hin.i h4).pe (snd ok i hin.i h5).pe
    · cases h
  | .ex e, st, sc, W, X, hin, h => by
    unfold cmpS at h
    split at h
    · rename_i e' pos
      obtain ⟨h1, h2⟩ := of_and h
      unfold ex
      exact s_ex (not_f h1) (snd ok e hin.i h2).pe
    · cases h
  | .ret e, st, sc, W, X, hin, h => by
    unfold cmpS at h
    split at h
    · rename_i some e' pos
      unfold ex
      exact s_ret (snd ok e hin.i h).pe
    · cases h
  | .retn, st, sc, W, X, hin, h => by
    unfold cmpS at h
    split at h
    · rename_i none pos
      unfold ex
      exact s_retn
    · cases h
  | .ife c a b, st, sc, W, X, hin, h => by
    unfold cmpS at h
    split at h
    · rename_i c' a' b' pos
      obtain ⟨h, h3⟩ := of_and h
      obtain ⟨h1, h2⟩ := of_and h
      unfold ex tst
      exact s_if (snd ok c hin.i h1).pt (sndSs ok a hin h2) (sndSs ok b hin h3)
    · cases h
  | .for_ t w src body, st, sc, W, X, hin, h => by
    unfold cmpS at h
    split at h
    · rename_i tg it body' pos
      obtain ⟨h, h5⟩ := of_and h
      obtain ⟨h, h4⟩ := of_and h
      obtain ⟨h, h3⟩ := of_and h
      obtain ⟨h1, h2⟩ := of_and h
      unfold ex
      exact s_for hin.passes hin.i.calm (i_src hin.i ok h2 h4 (sndL ok src hin.i h4)) (g_tgt hin.i h1) (sndSs ok body hin h5) h3
    · cases h
  | .whl c body, st, sc, W, X, hin, h => by
    unfold cmpS at h
    split at h
    · rename_i c' body' pos
      obtain ⟨h1, h2⟩ := of_and h
      unfold ex
      exact s_whl hin.passes (snd ok c hin.i h1).pt (sndSs ok body hin h2)
    · cases h
  | .brk, st, sc, W, X, hin, h => by
    unfold cmpS at h
    split at h
    · rename_i pos
      unfold ex
      exact s_brk
    · cases h
  | .cont, st, sc, W, X, hin, h => by
    unfold cmpS at h
    split at h
    · rename_i pos
      unfold ex
      exact s_cont
    · cases h
  | .pass, st, sc, W, X, hin, h => by
    unfold cmpS at h
    split at h
    · rename_i pos
      unfold ex
      exact s_pass
    · rename_i pos
      unfold ex
      exact s_doc
    · cases h
theorem sndSs (ok : Z.Ok) : ∀ (ps : List S) {es : List Stmt} {sc : Scope} {W : WX} {X : Cx}, InF Z W sc X → cmpSs Z.N Z.sg sc ps es = true → PSs X es (txS Z.K lo W (fun r s => exs Z.g lo ps r s))
  | [], es, sc, W, X, hin, h => by
    cases es with
    | nil =>
      unfold exs
      exact s_nil
    | cons _ _ => unfold cmpSs at h; cases h
  | p :: ps, es, sc, W, X, hin, h => by
    cases es with
    | nil => unfold cmpSs at h; cases h
    | cons e es =>
      unfold cmpSs at h
      obtain ⟨h1, h2⟩ := of_and h
      unfold exs
      exact s_cons (sndS ok p hin h1) (sndSs ok ps hin h2)
end
end
end Lf
end
section
set_option maxHeartbeats 4000000
/-! The interpreter is sound: calls of defs. -/
namespace Lf
open PySem L2

/-! ### what a value names lies in the store -/
section
variable {K : PySem.W.Frag} {B : List Nat} {O : Om} {st : Sto} {n : Nat}
mutual
theorem rp_under : ∀ {d : D} {v : V}, Rp K O st d v → d.under st.length = true
  | .non, _, _ => by unfold D.under; rfl
  | .bl _, _, _ => by unfold D.under; rfl
  | .int _, _, _ => by unfold D.under; rfl
  | .str _, _, _ => by unfold D.under; rfl
  | .tup _, _, h => by
    unfold Rp at h
    unfold D.under
    obtain ⟨_, _, _, _, r⟩ := h
    exact rpl_under r
  | .lst _, _, h => by
    unfold Rp at h
    unfold D.under
    obtain ⟨_, _, _, _, _, r⟩ := h
    exact rpl_under r
  | .dct _ _, _, h => by
    unfold Rp at h
    unfold D.under
    obtain ⟨_, _, _, _, _, r1, r2⟩ := h
    exact Bool.and_eq_true_iff.mpr ⟨rpl_under r1, rpl_under r2⟩
  | .ins _ _ _, _, h => by
    unfold Rp at h
    unfold D.under
    obtain ⟨_, _, _, _, _, _, _, _, _, r⟩ := h
    exact rpl_under r
  | .scr _, _, _ => by unfold D.under; rfl
  | .m k, _, h => by
    unfold Rp at h
    unfold D.under
    exact decide_eq_true h.1
  | .fn _, _, _ => by unfold D.under; rfl
  | .ty _, _, _ => by unfold D.under; rfl
theorem rpl_under : ∀ {ds : List D} {vs : List V}, RpL K O st ds vs → underL st.length ds = true
  | [], _, _ => by unfold underL; rfl
  | _ :: _, _, h => by
    unfold RpL at h
    unfold underL
    obtain ⟨_, _, _, h1, h2⟩ := h
    exact Bool.and_eq_true_iff.mpr ⟨rp_under h1, rpl_under h2⟩
end
theorem cel_under {a : Addr} {c : C} (h : CelAt K O st a c) : c.under st.length = true := by
  cases c with
  | gone => rfl
  | lst xs =>
    obtain ⟨vs, e1, r⟩ := h
    exact rpl_under r
  | dct ks xs =>
    obtain ⟨vs, e1, r, q⟩ := h
    exact Bool.and_eq_true_iff.mpr ⟨rpl_under r, rpl_under q⟩
  | ins c fs xs =>
    obtain ⟨ca, dx, fvs, e1, r, q, t⟩ := h
    exact rpl_under t
theorem SR.line (sr : SR K B O st) : SR K (st.length :: B) O st :=
  ⟨sr.cel, sr.inj, sr.res, fun b hb => (List.mem_cons.mp hb).elim (fun e => by subst e; exact ⟨Nat.le_refl _, fun k c _ e => cel_under (sr.cel k c e)⟩) (sr.wf b)⟩
theorem get_take {c : C} {k : Nat} (e : (st.take n)[k]? = some c) : k < n ∧ st[k]? = some c := by
  have hk : k < n := by
    rcases Nat.lt_or_ge k n with h | h
    · exact h
    · rw [List.getElem?_eq_none (Nat.le_trans (List.length_take_le n st) h)] at e; cases e
  rw [List.getElem?_take_of_lt hk] at e
  exact ⟨hk, e⟩
theorem cel_take {a : Addr} {c : C} (u : c.under n = true) (h : CelAt K O st a c) : CelAt K O (st.take n) a c := by
  cases c with
  | gone => trivial
  | lst xs =>
    obtain ⟨vs, e1, r⟩ := h
    exact ⟨vs, e1, r.cut u⟩
  | dct ks xs =>
    obtain ⟨vs, e1, r, q⟩ := h
    obtain ⟨u1, u2⟩ := Bool.and_eq_true_iff.mp u
    exact ⟨vs, e1, r.cut u1, q.cut u2⟩
  | ins c fs xs =>
    obtain ⟨ca, dx, fvs, e1, r, q, t⟩ := h
    exact ⟨ca, dx, fvs, e1, r, q, t.cut u⟩
theorem sr_take (sr : SR K (n :: B) O st) (hb : ∀ b ∈ B, b ≤ n) : SR K B O (st.take n) where
  cel := fun k c e => by
    obtain ⟨hk, e⟩ := get_take e
    exact cel_take ((sr.wf n List.mem_cons_self).2 k c hk e) (sr.cel k c e)
  inj := fun j k lj lk e => sr.inj j k (live_take lj).1 (live_take lk).1 e
  res := fun a ha => ⟨(sr.res a ha).1, fun k l => (sr.res a ha).2 k (live_take l).1⟩
  wf := fun b h => by
    refine ⟨?_, fun k c hk e => (sr.wf b (List.mem_cons_of_mem _ h)).2 k c hk (get_take e).2⟩
    rw [List.length_take]
    exact Nat.le_min.mpr ⟨hb b h, (sr.wf b (List.mem_cons_of_mem _ h)).1⟩
theorem ext_take {O' : Om} {s1 : Sto} (x : Ext O st O' s1) : Ext O st O' (s1.take st.length) where
  len := by
    rw [List.length_take]
    exact Nat.le_min.mpr ⟨Nat.le_refl _, x.len⟩
  old := fun k hk l => x.old k hk (live_take l).1
  new := fun k hk l => absurd (live_take l).2 (Nat.not_lt.mpr hk)
  keep := x.keep
  trk := x.trk
  res := x.res
/-! ### frozen -/
mutual
theorem rp_frz {rec : Nat → Option D} (hr : ∀ k d' v, rec k = some d' → k < st.length → (Live st k → v = .ref (O.mu k)) → Rp K O (st.take n) d' v) : ∀ {d d' : D} {v : V}, frzW rec d = some d' → Rp K O st d v → Rp K O (st.take n) d' v
  | .non, _, _, e, h => by unfold frzW at e; cases e; unfold Rp at h ⊢; exact h
  | .bl _, _, _, e, h => by unfold frzW at e; cases e; unfold Rp at h ⊢; exact h
  | .int _, _, _, e, h => by unfold frzW at e; cases e; unfold Rp at h ⊢; exact h
  | .str _, _, _, e, h => by unfold frzW at e; cases e; unfold Rp at h ⊢; exact h
  | .fn _, _, _, e, h => by unfold frzW at e; cases e; unfold Rp at h ⊢; exact h
  | .ty _, _, _, e, h => by unfold frzW at e; cases e; unfold Rp at h ⊢; exact h
  | .scr _, _, _, e, h => by
    unfold frzW at e
    cases e
    unfold Rp at h ⊢
    obtain ⟨a, e, t⟩ := h
    exact ⟨a, e, t.take⟩
  | .m k, _, _, e, h => by
    unfold frzW at e
    unfold Rp at h
    exact hr k _ _ e h.1 h.2
  | .tup xs, _, _, e, h => by
    unfold frzW at e
    obtain ⟨ys, ez, rfl⟩ := Option.map_eq_some_iff.mp e
    unfold Rp at h ⊢
    obtain ⟨a, vs, e1, t, r⟩ := h
    exact ⟨a, vs, e1, t.take, rpl_frz hr ez r⟩
  | .lst xs, _, _, e, h => by
    unfold frzW at e
    obtain ⟨ys, ez, rfl⟩ := Option.map_eq_some_iff.mp e
    unfold Rp at h ⊢
    obtain ⟨a, vs, e1, f, t, r⟩ := h
    exact ⟨a, vs, e1, f.take, t, rpl_frz hr ez r⟩
  | .dct ks xs, _, _, e, h => by
    unfold frzW at e
    split at e
    · rename_i ys zs ea eb
      cases e
      unfold Rp at h ⊢
      obtain ⟨a, kvs, e1, f, t, r1, r2⟩ := h
      exact ⟨a, kvs, e1, f.take, t, rpl_frz hr ea r1, rpl_frz hr eb r2⟩
    · cases e
  | .ins c fs xs, _, _, e, h => by
    unfold frzW at e
    obtain ⟨ys, ez, rfl⟩ := Option.map_eq_some_iff.mp e
    unfold Rp at h ⊢
    obtain ⟨a, ca, dx, fvs, e1, f, t, c, nn, r⟩ := h
    exact ⟨a, ca, dx, fvs, e1, f.take, t, c, nn, rpl_frz hr ez r⟩
theorem rpl_frz {rec : Nat → Option D} (hr : ∀ k d' v, rec k = some d' → k < st.length → (Live st k → v = .ref (O.mu k)) → Rp K O (st.take n) d' v) : ∀ {ds ds' : List D} {vs : List V}, frzWL rec ds = some ds' → RpL K O st ds vs → RpL K O (st.take n) ds' vs
  | [], _, _, e, h => by
    unfold frzWL at e
    cases e
    unfold RpL at h ⊢
    exact h
  | _ :: _, _, _, e, h => by
    unfold frzWL at e
    split at e
    · rename_i y ys ea eb
      cases e
      unfold RpL at h
      obtain ⟨v, r, rfl, h1, h2⟩ := h
      exact .cons (rp_frz hr ea h1) (rpl_frz hr eb h2)
    · cases e
end
theorem frzC_ok (sr : SR K B O st) : ∀ (m k : Nat) (d' : D) (v : V), frzC n st m k = some d' → k < st.length → (Live st k → v = .ref (O.mu k)) → Rp K O (st.take n) d' v
  | 0, _, _, _, e, _, _ => by unfold frzC at e; cases e
  | m + 1, k, d', v, e, hk, hv => by
    unfold frzC at e
    by_cases hn : k < n
    · rw [if_pos hn] at e
      cases e
      unfold Rp
      exact ⟨by rw [List.length_take]; exact Nat.lt_min.mpr ⟨hn, hk⟩, fun l => hv (live_take l).1⟩
    · rw [if_neg hn] at e
      have fro : Live st k → Fro O (st.take n) (O.mu k) := fun l => ⟨fun z => (sr.res _ z).2 k l rfl, fun j lj ej => by
        obtain ⟨l1, l2⟩ := live_take lj
        have := sr.inj j k l1 l ej
        omega⟩
      split at e
      · rename_i xs g
        obtain ⟨ys, ez, rfl⟩ := Option.map_eq_some_iff.mp e
        have l : Live st k := ⟨_, g, by intro z; cases z⟩
        obtain ⟨vs, e1, r⟩ := sr.cel k _ g
        unfold Rp
        exact ⟨_, vs, hv l, fro l, e1, rpl_frz (frzC_ok sr m) ez r⟩
      · rename_i ks xs g
        split at e
        · rename_i ys zs ea eb
          cases e
          have l : Live st k := ⟨_, g, by intro z; cases z⟩
          obtain ⟨vs, e1, r, q⟩ := sr.cel k _ g
          unfold Rp
          exact ⟨_, vs, hv l, fro l, e1, rpl_frz (frzC_ok sr m) ea r, rpl_frz (frzC_ok sr m) eb q⟩
        · cases e
      · rename_i c fs xs g
        obtain ⟨ys, ez, rfl⟩ := Option.map_eq_some_iff.mp e
        have l : Live st k := ⟨_, g, by intro z; cases z⟩
        obtain ⟨ca, dx, fvs, e1, r, q, t⟩ := sr.cel k _ g
        unfold Rp
        exact ⟨_, ca, dx, fvs, hv l, fro l, e1, r, q, rpl_frz (frzC_ok sr m) ez t⟩
      · cases e
theorem frz_ok (sr : SR K B O st) {d d' : D} {v : V} (e : frz n d st = some d') (h : Rp K O st d v) : Rp K O (st.take n) d' v := rp_frz (frzC_ok sr 20) e h
theorem xrp_frz (sr : SR K B O st) {d d' : D} {cls : Value} {dd : Option Addr} (e : frz n d st = some d') (h : XRp K O st d cls dd) : XRp K O (st.take n) d' cls dd := by
  cases d with
  | ins c fs vs =>
    have e : (frzWL (frzC n st 20) vs).map (D.ins c fs) = some d' := by
      unfold frz frzW at e
      exact e
    obtain ⟨ys, ez, rfl⟩ := Option.map_eq_some_iff.mp e
    obtain ⟨ca, h1, h2, h3⟩ := h
    refine ⟨ca, h1, h2, h3.imp id ?_⟩
    rintro ⟨d, fvs, q1, q2, q3, q4, q5⟩
    exact ⟨d, fvs, q1, q2.take, q3, q4, rpl_frz (frzC_ok sr 20) ez q5⟩
  | _ => exact False.elim h
theorem er_start {ds : List D} {vs : List V} {N : List Str} (h : RpL K O st ds vs) : ER K O st (startE N.length ds) (L2.start N vs) where
  len := by
    unfold startE L2.start
    rw [List.length_append, List.length_append, List.length_map, List.length_map, List.length_replicate, List.length_replicate, h.length]
  at_ := fun i d e => by
    unfold startE at e
    unfold L2.start
    by_cases hi : i < ds.length
    · rw [List.getElem?_append_left (by rw [List.length_map]; exact hi), List.getElem?_map] at e
      obtain ⟨d', e1, e2⟩ := Option.map_eq_some_iff.mp e
      cases e2
      obtain ⟨v, e3, hv⟩ := h.get e1
      refine ⟨v, ?_, hv⟩
      rw [List.getElem?_append_left (by rw [List.length_map, ← h.length]; exact hi), List.getElem?_map, e3]
      rfl
    · rw [List.getElem?_append_right (by rw [List.length_map]; omega), List.getElem?_replicate] at e
      split at e <;> cases e
/-- what a call is to end in -/
def Ends.of (Q : VK) : Ends := { nx := fun _ H' => Q .non H', rt := Q }
theorem PostO.run {g : G} {lo : Nat} {f : Fn} {ds : List D} {Q : VK} {E : XK} (hB : ∀ b ∈ B, b ≤ lo) (sr : SR K B O st)
    (p : Post K (runFn g lo f ds st) B O st (QV K Q) (fun x st' O' => ∀ cls dd, XRp K O' st' x cls dd → E cls dd O'.H)) :
    ∃ lo' B', (∀ b ∈ B', b ≤ lo') ∧ SR K B' O st ∧ PostO K (fun cls d _ H => E cls d H) (Ends.of Q) (exs g lo' f.body (startE f.n ds) st) B' O st := by
  unfold runFn at p
  cases hk : f.keep with
  | true =>
    rw [hk] at p
    refine ⟨lo, B, hB, sr, ?_⟩
    rw [if_pos rfl] at p
    cases hx : exs g lo f.body (startE f.n ds) st with
    | nx r s1 =>
      rw [hx] at p
      exact fun O' x s' σ' er => p O' x s' .non (by unfold Rp; rfl)
    | rt d s1 =>
      rw [hx] at p
      exact fun O' x s' v hv => p O' x s' v hv
    | err x r s1 =>
      rw [hx] at p
      exact fun O' y s' σ' er cls dd h => p O' y s' cls dd h
    | bk _ _ => rw [hx] at p; exact False.elim p
    | ct _ _ => rw [hx] at p; exact False.elim p
    | bad => rw [hx] at p; exact False.elim p
  | false =>
    rw [hk] at p
    rw [if_neg Bool.false_ne_true] at p
    have hb : ∀ b ∈ B, b ≤ st.length := fun b h => (sr.wf b h).1
    refine ⟨st.length, st.length :: B, fun b h => (List.mem_cons.mp h).elim (fun e => Nat.le_of_eq e) (hb b), sr.line, ?_⟩
    cases hx : exs g st.length f.body (startE f.n ds) st with
    | nx r s1 =>
      rw [hx] at p
      exact fun O' x s' σ' er => p O' (ext_take x) (sr_take s' hb) .non (by unfold Rp; rfl)
    | rt d s1 =>
      rw [hx] at p
      intro O' x s' v hv
      dsimp only at p
      cases hf : frz st.length d s1 with
      | none => rw [hf] at p; exact False.elim p
      | some d' =>
        rw [hf] at p
        exact p O' (ext_take x) (sr_take s' hb) v (frz_ok s' hf hv)
    | err d r s1 =>
      rw [hx] at p
      intro O' x s' σ' er cls dd hv
      dsimp only at p
      cases hf : frz st.length d s1 with
      | none => rw [hf] at p; exact False.elim p
      | some d' =>
        rw [hf] at p
        exact p O' (ext_take x) (sr_take s' hb) cls dd (xrp_frz s' hf hv)
    | bk _ _ => rw [hx] at p; exact False.elim p
    | ct _ _ => rw [hx] at p; exact False.elim p
    | bad => rw [hx] at p; exact False.elim p
end
/-! ### a def's body keeps the promise -/
theorem fnG {P : Program} {w : World} {K : PySem.W.Frag} {mg : Str → Option Value} {base : Heap} {k : Nat} {f : Addr} {name qual : Str} {params : Arguments} {body : List Stmt} {scope : Scope} {dV kV doc pm cdv ct oc : Value} {an od : Option Addr}
    {osl : Array (Option Value)} {N ps : List Str} {g : G} {sg : Sig} {fn : Fn} (lk : K.lookup f = some ⟨oc, od, .func (PySem.W.fnOf name qual params body scope dV kV doc pm an cdv ct), osl⟩) (hcd : PySem.W.codeIn K cdv qual = true) (S : FnScope N ps scope)
    (ok : Wd.Ok ⟨P, w, K, mg, base, k, g, sg, N⟩) (hc : cmpSs N sg scope fn.body body = true) (hn : fn.n = N.length)
    {A : Around} {outer : List PySem.Env} {s : Shared} {args : Args} {us : List Value} {vs : List V} {Q : VK} {E : XK} {lo : Nat} {B : List Nat} {O : Om} {st : Sto} {ds : List D} (hr : Room (k + 1) A) (hgd : A.guards = some []) (e0 : Env0 P w K mg base A outer s O.H)
    (hb : BindsTo s (PySem.W.fnOf name qual params body scope dV kV doc pm an cdv ct) args (ps.zip us)) (hl : vs.length = ps.length) (r : Vals vs us) (hB : ∀ b ∈ B, b ≤ lo) (hd : RpL K O st ds vs) (sr : SR K B O st)
    (p : Post K (runFn g lo fn ds st) B O st (QV K Q) (fun x st' O' => ∀ cls dd, XRp K O' st' x cls dd → E cls dd O'.H)) :
    codeAny (model P w) A (.call (.ref f) args) (CR (CX P w) outer P w O.H s Q E) s := by
  have KX : K.In s.heap := e0.mod.kin.keeps fun b o e => (e0.bs b o e).1
  have lim : s.heap.NoLimit := e0.mod.nolimit.keeps fun b o e => (e0.bs b o e).1
  have hkind : ∀ y ∈ ps.zip us, scope.names.lookup y.1 = some .local ∨ (scope.names.lookup y.1 = some .cell ∧ ((cellsFrom (s.heap.objs.size + 1) scope.names []).lookup y.1).isSome = true) := by
    rintro ⟨n, v⟩ hy
    refine (S.par n (List.of_mem_zip hy).1).imp id fun q => ⟨q, PySem.W.cellsFrom_some _ _ _ (.inl q)⟩
  refine codeAny_call_function hr.depth (KX _ _ lk) rfl S.co S.gen rfl (PySem.W.codeRec_of KX hcd) (hb _ _ _ _ ?_)
  refine wpAny_newFunctionEnv_cells S.kind hkind fun env he s1 x => ?_
  subst he
  refine ⟨lim.keeps x.toInCall.keep, codeAny_func ?_⟩
  obtain ⟨lo', B', hB', sr', p'⟩ := PostO.run hB sr p
  rw [hn] at p'
  have I : L2.Inv (cxOf (CX P w) P w K mg base N qual scope f cdv A outer s O.H E) [] (L2.start N vs) O.H s1 := inv_start S hr.hd e0 hl r x
  have hin : InF ⟨P, w, K, mg, base, k, g, sg, N⟩ (fun cls d _ H => E cls d H) scope (cxOf (CX P w) P w K mg base N qual scope f cdv A outer s O.H E) :=
    ⟨⟨rfl, rfl, rfl, rfl, rfl, rfl, S.nd, rfl, hr.deeper _, hgd, rfl, takes_of rfl rfl rfl rfl⟩, passes_of rfl, S.kind⟩
  have ht := sndSs (lo := lo') ok fn.body hin hc
  refine wpAny_mono (ht.run [] s1 (L2.start N vs) O.H (Ends.of Q) I ⟨startE N.length ds, B', O, st, rfl, hB', er_start hd, sr', p'⟩) (fun fl s' hs => ?_) fun e s' hs => hs
  have fin : ∀ {σ' : St} {H' : Hp} {v : V} {u : Value}, L2.Inv (cxOf (CX P w) P w K mg base N qual scope f cdv A outer s O.H E) [] σ' H' s' → RelV v u → Q v H' → CE outer P w O.H s Q u s' :=
    fun {σ' H' v u} J rv q => ⟨v, H', J.os, J.bare, J.base, J.hok, rv, q⟩
  cases fl with
  | ret u =>
    obtain ⟨v, σ', H', J, rv, q⟩ := hs
    exact fin J rv q
  | next =>
    obtain ⟨σ', H', J, q⟩ := hs
    exact fin (v := V.non) (u := Value.none) J rfl q
  | brk =>
    obtain ⟨_, _, _, q⟩ := hs
    exact False.elim q
  | cont =>
    obtain ⟨_, _, _, q⟩ := hs
    exact False.elim q
end Lf
end
section
set_option maxHeartbeats 4000000
/-! The interpreter is sound: whole programs. -/
namespace Lf
open PySem L2
theorem pick_vals {ord : List Nat} {vs : List V} {us : List Value} (h : Vals vs us) : Vals (pick ord vs) (pick ord us) := by
  induction ord with
  | nil => exact .nil
  | cons i ord ih =>
    unfold pick at ih ⊢
    rw [List.filterMap_cons, List.filterMap_cons]
    cases e : vs[i]? with
    | none =>
      have e2 : us[i]? = none := by
        rw [List.getElem?_eq_none_iff] at e ⊢
        rw [← h.length]
        exact e
      rw [e2]
      exact ih
    | some v =>
      obtain ⟨u, e2, r⟩ := h.get e
      rw [e2]
      exact .cons r ih
theorem pick_rp {K : PySem.W.Frag} {O : Om} {st : Sto} {ord : List Nat} {ds : List D} {vs : List V} (h : RpL K O st ds vs) : RpL K O st (pick ord ds) (pick ord vs) := by
  induction ord with
  | nil => exact .nil
  | cons i ord ih =>
    unfold pick at ih ⊢
    rw [List.filterMap_cons, List.filterMap_cons]
    cases e : ds[i]? with
    | none =>
      have e2 : vs[i]? = none := by
        rw [List.getElem?_eq_none_iff] at e ⊢
        rw [← h.length]
        exact e
      rw [e2]
      exact ih
    | some v =>
      obtain ⟨u, e2, r⟩ := h.get e
      rw [e2]
      exact .cons r ih
/-- a def of the table, as it stands -/
structure DefOk (K : PySem.W.Frag) (mg : Str → Option Value) (sg : Sig) (i : Nat) (fn : Fn) : Prop where
  ex : ∃ (x name qual : Str) (fa : Addr) (params : Arguments) (body : List Stmt) (scope : Scope) (dV kV doc pm cdv ct oc : Value) (an od : Option Addr) (osl : Array (Option Value)) (N ps : List Str) (its : List Value) (dvs : List V),
    sg.fn[i]? = some x ∧ mg x = some (.ref fa) ∧ PySem.W.keepIn K (.ref fa) = true ∧ K.lookup fa = some ⟨oc, od, .func (PySem.W.fnOf name qual params body scope dV kV doc pm an cdv ct), osl⟩ ∧ PySem.W.codeIn K cdv qual = true ∧ FnScope N ps scope ∧
      fn.np = ps.length ∧ fn.n = N.length ∧ cmpSs N sg scope fn.body body = true ∧ Vals dvs its ∧ (∀ O st, RpL K O st fn.dfl dvs) ∧
      ∀ n ks ord, sg.sg i n ks ord = true → ∀ (s : Shared) (us ws : List Value), K.In s.heap → us.length = n → ws.length = ks.length →
        BindsTo s (PySem.W.fnOf name qual params body scope dV kV doc pm an cdv ct) ⟨us, ks.zip ws⟩ (ps.zip (pick ord (us ++ ws ++ its)))
structure PrOk (K : PySem.W.Frag) (mg : Str → Option Value) (sg : Sig) (p : Prog) : Prop where
  sys : SysK K
  blt : ∀ x ∈ blts, mg x = none
  glo : ∀ (i : Nat) (x : Str) (d : D), sg.gn[i]? = some x → p.glo[i]? = some d → ∃ u v, mg x = some u ∧ RelV v u ∧ ∀ O st, Rp K O st d v
  fns : ∀ (i n : Nat) ks ord, sg.sg i n ks ord = true → ∃ fn, p.fns[i]? = some fn
  defs : ∀ (i : Nat) (fn : Fn), p.fns[i]? = some fn → DefOk K mg sg i fn
theorem prog_ok {P : Program} {w : World} {K : PySem.W.Frag} {mg : Str → Option Value} {base : Heap} {sg : Sig} {p : Prog} {turns : Nat} (h : PrOk K mg sg p) : ∀ (n : Nat) (N : List Str), Wd.Ok ⟨P, w, K, mg, base, n, p.at_ turns n, sg, N⟩
  | 0, N => ⟨h.sys, h.blt, h.glo, fun f n ks ord x hx hs => by
    obtain ⟨fn, efn⟩ := h.fns f n ks ord hs
    obtain ⟨x', name, qual, fa, params, body, scope, dV, kV, doc, pm, cdv, ct, oc, an, od, osl, N', ps, its, dvs, q1, q2, q3, _⟩ := (h.defs f fn efn).ex
    have hx : sg.fn[f]? = some x := hx
    rw [q1] at hx
    cases hx
    refine ⟨fa, q2, q3, fun W sc X N hin lo pins s σ H us ws vs zs Q I rv rz hl1 hl2 hrx => ?_⟩
    obtain ⟨B, O, st, xs, ys, _, _, _, _, _, q⟩ := hrx
    exact False.elim q⟩
  | n + 1, N => ⟨h.sys, h.blt, h.glo, fun f nn ks ord x hx hs => by
    obtain ⟨fn, efn⟩ := h.fns f nn ks ord hs
    obtain ⟨x', name, qual, fa, params, body, scope, dV, kV, doc, pm, cdv, ct, oc, an, od, osl, N', ps, its, dvs, q1, q2, q3, q4, q5, q6, q7, q8, q9, q10, q11, q12⟩ := (h.defs f fn efn).ex
    have hx : sg.fn[f]? = some x := hx
    rw [q1] at hx
    cases hx
    refine ⟨fa, q2, q3, fun W sc X N hin lo pins s σ H us ws vs zs Q I rv rz hl1 hl2 hrx => ?_⟩
    obtain ⟨B, O, st, xs, ys, rfl, hB, hvx, hvy, sr, q⟩ := hrx
    have hp := hin.prog
    have hw := hin.w
    have hK := hin.K
    have hmg := hin.mg
    have hba := hin.base
    have hro : Room (n + 1) X.A := hin.room
    have hgu := hin.guards
    have hta := hin.takes
    clear hin
    obtain ⟨Xp, Xw, XK, Xm, Xb, XA, XN, Xs, XH, Xe, Xo, Xst, Xex, Xf, Xc, Xpn, Xxe⟩ := X
    have hp : Xp = P := hp
    have hw : Xw = w := hw
    have hK : XK = K := hK
    have hmg : Xm = mg := hmg
    have hba : Xb = base := hba
    subst hp hw hK hmg hba
    have q : Post XK (((p.at_ turns (n + 1)).call lo f (pick ord (xs ++ ys ++ (p.at_ turns (n + 1)).dfl f))) st) B O st (QV XK Q) (Er XK W σ) := q
    unfold Prog.at_ at q
    dsimp only at q
    rw [efn] at q
    dsimp only at q
    have hpl : (pick ord (xs ++ ys ++ fn.dfl)).length = fn.np := by
      by_cases z : (pick ord (xs ++ ys ++ fn.dfl)).length = fn.np
      · exact z
      · rw [if_neg z] at q
        exact False.elim q
    rw [if_pos hpl] at q
    have hds : RpL XK O st (pick ord (xs ++ ys ++ fn.dfl)) (pick ord (vs ++ zs ++ dvs)) := pick_rp ((hvx.app hvy).app (q11 O st))
    have hvs : Vals (pick ord (vs ++ zs ++ dvs)) (pick ord (us ++ ws ++ its)) := pick_vals ((rv.append rz).append q10)
    have bd := q12 nn ks ord hs s us ws I.kIn (by rw [← rv.length]; exact hl1) (by rw [← rz.length]; exact hl2)
    refine wpAny_call (codeAny_mono (fnG (E := fun cls d H' => W cls d σ H') (outer := Xst) q4 q5 q6 (prog_ok h n N') q9 q8 hro hgu I.env0 bd (by rw [← hds.length, hpl, q7]) hvs hB hds sr q) fun r s' hq => ?_)
    cases r with
    | error e => exact hta _ _ (XE.of_call I (fun cls d H' h => h) hq)
    | ok fl =>
      cases fl with
      | ret u => exact I.after hq
      | next => exact False.elim hq
      | brk => exact False.elim hq
      | cont => exact False.elim hq⟩
end Lf
end
section
set_option maxHeartbeats 4000000
/-! The law's end: its def called with the script, over the interpreter. -/
namespace Lf
open PySem PySem.Spec PyProof.Rows L2
/-- what the law's def is to give -/
def Gives (p : Prog) (turns m : Nat) (fn : Fn) (n : Nat) : Prop := ∀ ns : List Int, ns.length ≤ n → ∃ s, runFn (p.at_ turns m) 0 fn [.scr ns] [] = .ok (.bl true) s
section
variable {P : Program} {w : World} {K : PySem.W.Frag} {mg mb : Str → Option Value} {sg : Sig} {p : Prog} {turns m i : Nat} {fn : Fn} {fa a : Addr} {x : Str} {s1 : Shared} {us : List Value} {ns : List Int}
theorem law_from (hp : PrOk K mg sg p) (hfn : p.fns[i]? = some fn) (hx : sg.fn[i]? = some x) (hmg : mg x = some (.ref fa)) (hs : sg.sg i 1 [] [0] = true) (h1 : fn.np = 1) (hro : Room (m + 1) callerA)
    {O : Om} {base : Heap} (hres : O.res = []) (hS : SqL K O.H a (ns.map V.int)) (he : Env0 P w K mg base callerA [] s1 O.H) (g : ∃ s, runFn (p.at_ turns m) 0 fn [.scr ns] [] = .ok (.bl true) s) :
    codeAny (model P w) callerA (.call (.ref fa) ⟨[.ref a], []⟩) (CR (CX P w) [] P w O.H s1 (fun v _ => v = .bl true) fun _ _ _ => False) s1 := by
  obtain ⟨x', name, qual, fb, params, body, scope, dV, kV, doc, pm, cdv, ct, oc, an, od, osl, N, ps, its, dvs, q1, q2, q3, q4, q5, q6, q7, q8, q9, q10, q11, q12⟩ := (hp.defs i fn hfn).ex
  rw [hx] at q1
  cases q1
  rw [hmg] at q2
  cases q2
  have inK : K.In s1.heap := fun b o e => (he.bs b o (he.mod.kin b o e)).1
  have bd := q12 1 [] [0] hs s1 [.ref a] [] inK rfl rfl
  have hD : Rp K O [] (.scr ns) (.ref a) := by
    unfold Rp
    refine ⟨a, rfl, ?_⟩
    rcases hS with z | z
    · have n0 : a ∉ O.res := by
        rw [hres]
        exact List.not_mem_nil
      refine .inl ⟨⟨n0, fun k l => ?_⟩, z⟩
      obtain ⟨c, e, _⟩ := l
      cases e
    · exact .inr z
  have sr : SR K [] O [] := {
    cel := fun k c e => by cases e
    inj := fun j k lj _ _ => by
      obtain ⟨c, e, _⟩ := lj
      cases e
    res := fun b hb => by
      rw [hres] at hb
      cases hb
    wf := fun b hb => by cases hb }
  obtain ⟨sE, eq⟩ := g
  have post : Post K (runFn (p.at_ turns m) 0 fn [.scr ns] []) [] O [] (QV K fun v _ => v = .bl true) (fun d st' O' => ∀ cls dd, XRp K O' st' d cls dd → False) := by
    rw [eq]
    intro O' _ _ v hv
    unfold Rp at hv
    exact hv
  exact fnG (E := fun _ _ _ => False) (outer := []) (us := [.ref a]) (vs := [.ref a]) q4 q5 q6 (prog_ok hp m N) q9 q8 hro rfl he bd (by rw [← q7, h1]; rfl) (.cons rfl .nil) (fun b hb => by cases hb) (.cons hD .nil) sr post
/-- an abstract heap that holds the script at most -/
theorem law_at (inK : K.In s1.heap) (gN : s1.heap.Ns mainGlobals mg) (bN : s1.heap.Ns builtinsNs mb) (bB : ∀ y : Str, y ≠ "__name__" → mb y = bootBuiltins y) (lim : s1.heap.NoLimit) (gens : s1.gens = #[])
    (hp : PrOk K mg sg p) (hfn : p.fns[i]? = some fn) (hx : sg.fn[i]? = some x) (hmg : mg x = some (.ref fa)) (hs : sg.sg i 1 [] [0] = true) (h1 : fn.np = 1) (hro : Room (m + 1) callerA)
    (g : ∃ s, runFn (p.at_ turns m) 0 fn [.scr ns] [] = .ok (.bl true) s) {H : Hp} (only : Only H) (hS : SqL K H a (ns.map V.int)) (ok : HOk P w H s1.heap) (at_a : ∀ b, H b ≠ none → b = a) (notK : H a ≠ none → K.lookup a = none)
    (isL : ∀ {o : Obj}, s1.heap.get? a = some o → ∀ es n, o.data ≠ .dict es n) :
    codeAny (model P w) callerA (.call (.ref fa) ⟨[.ref a], []⟩) (fun r s' => r = .ok (.ret (.bool true)) ∧ OldK s1.heap s'.heap ∧ s'.os = s1.os ∧ AllBare s'.gens) s1 := by
  have free : ∀ {b : Addr}, (b = a → H b = none) → H b = none := fun {b} h => by
    by_cases hb : b = a
    · exact h hb
    · cases q : H b with
      | none => rfl
      | some u => exact absurd (at_a b (by rw [q]; exact fun z => by cases z)) hb
  have freeK : ∀ {b : Addr} {o : Obj}, K.lookup b = some o → H b = none := fun {b o} e => free fun hb => by
    cases q : H b with
    | none => rfl
    | some u =>
      rw [hb] at q e
      rw [notK (by rw [q]; exact fun z => by cases z)] at e
      cases e
  have freeD : ∀ {b : Addr} {o : Obj} {es : Array DictEntry} {n : Nat}, s1.heap.get? b = some o → o.data = .dict es n → H b = none := fun {b o es n} e d => free fun hb => absurd d (isL (by rw [← hb]; exact e) es n)
  have ns_of : ∀ {b : Addr} {f : Str → Option Value}, s1.heap.Ns b f → (hidT s1.heap H).Ns b f := fun {b f} ⟨o, es, n, e, d, r⟩ => ⟨o, es, n, hidT_get e (freeD e d), d, r⟩
  have inB : K.In (hidT s1.heap H) := fun b o e => hidT_get (inK b o e) (freeK e)
  have md : Mod K mg (hidT s1.heap H) := by
    obtain ⟨lm, l1, l2⟩ := lim
    exact ⟨inB, ns_of gN, ⟨mb, ns_of bN, bB⟩, ⟨lm, ns_of l1, l2⟩⟩
  have e0 : Env0 P w K mg (hidT s1.heap H) callerA [] s1 H := {
    frames := rfl
    mod := md
    bs := fun _ _ e => of_hidT e
    bsz := Nat.le_of_eq (hidT_size _ _)
    funs := trivial
    frf := fun b hb => by cases hb
    hok := ok
    bare := .of_eq gens }
  refine codeAny_mono (law_from (O := ⟨fun _ => 0, H, []⟩) hp hfn hx hmg hs h1 hro rfl hS e0 g) fun r s2 h => ?_
  cases r with
  | error e =>
    obtain ⟨_, _, _, _, _, _, _, _, _, _, _, _, z⟩ := h
    exact False.elim z
  | ok fl =>
    cases fl with
    | next => exact False.elim h
    | brk => exact False.elim h
    | cont => exact False.elim h
    | ret u =>
      obtain ⟨v, H2, os, bare, un, ok2, rv, hv⟩ := h
      have hv : v = .bl true := hv
      subst hv
      have eu : u = Value.bool true := rv
      subst eu
      refine ⟨rfl, OldK.of_keep fun b o e => ?_, os, bare⟩
      rcases only b with z | ⟨ob, xs, z⟩
      · exact un.keep b o e z (fun y => by cases y) (fun y => by cases y)
      · have f1 := (ok b _ z).1
        have f2 := (ok2 b _ (un.frzs b ob _ z)).1
        rw [e] at f1
        cases f1
        exact f2
theorem ints_vals {vs : List Value} {ns : List Int} (h : IntsAre vs ns) : Vals (ns.map V.int) vs := by
  induction h with
  | nil => exact .nil
  | cons n t _ ih => exact .cons ⟨t, rfl⟩ ih
theorem law_run (inK : K.In s1.heap) (gN : s1.heap.Ns mainGlobals mg) (bN : s1.heap.Ns builtinsNs mb) (bB : ∀ y : Str, y ≠ "__name__" → mb y = bootBuiltins y) (lim : s1.heap.NoLimit) (gens : s1.gens = #[])
    (hp : PrOk K mg sg p) (hfn : p.fns[i]? = some fn) (hx : sg.fn[i]? = some x) (hmg : mg x = some (.ref fa)) (hs : sg.sg i 1 [] [0] = true) (h1 : fn.np = 1) (hro : Room (m + 1) callerA)
    (g : ∃ s, runFn (p.at_ turns m) 0 fn [.scr ns] [] = .ok (.bl true) s) (at_a : s1.heap.get? a = some { cls := .type "list", data := .seq us.toArray }) (hi : IntsAre us ns) (hl : ns.length ≤ sizeLine) :
    codeAny (model P w) callerA (.call (.ref fa) ⟨[.ref a], []⟩) (fun r s' => r = .ok (.ret (.bool true)) ∧ OldK s1.heap s'.heap ∧ s'.os = s1.os ∧ AllBare s'.gens) s1 := by
  have rv := ints_vals hi
  have isL : ∀ {o : Obj}, s1.heap.get? a = some o → ∀ es n, o.data ≠ .dict es n := fun {o} e es n z => by
    rw [at_a] at e
    cases e
    cases z
  cases lk : K.lookup a with
  | some o =>
    have e := inK a o lk
    rw [at_a] at e
    cases e
    refine law_at (H := fun _ => none) inK gN bN bB lim gens hp hfn hx hmg hs h1 hro g (fun _ => .inl rfl) (.inr ⟨_, us.toArray, _, lk, rfl, rfl, rfl, ?_, by simpa using rv⟩) (fun b u z => by cases z) (fun b z => absurd rfl z) (fun z => absurd rfl z) isL
    rw [List.size_toArray, hi.length]
    exact hl
  | none =>
    have at1 : ∀ b, (if b = a then some (HO.frz { cls := .type "list", data := .seq us.toArray } (.lst (ns.map V.int))) else none) = none ∨ b = a := fun b => by
      by_cases hb : b = a
      · exact .inr hb
      · exact .inl (if_neg hb)
    refine law_at (H := fun b => if b = a then some (.frz { cls := .type "list", data := .seq us.toArray } (.lst (ns.map V.int))) else none) inK gN bN bB lim gens hp hfn hx hmg hs h1 hro g (fun b => (at1 b).imp id fun e => ⟨_, _, if_pos e⟩)
      (.inl (.inr ⟨_, if_pos rfl⟩)) (fun b u z => ?_) (fun b z => (at1 b).resolve_left z) (fun _ => lk) isL
    have z : (if b = a then some (HO.frz { cls := .type "list", data := .seq us.toArray } (.lst (ns.map V.int))) else none) = some u := z
    rcases at1 b with e | e
    · rw [e] at z
      cases z
    · subst e
      rw [if_pos rfl] at z
      cases z
      exact ⟨at_a, by rw [List.length_map]; exact hl, us, _, rv, at_a⟩
end
/-- a law, over the interpreter -/
theorem law_end {l : PySem.W.OpenLaw} {n : Nat} {q : Program} {loose : List Str} {XP : (Str → Option Value) → Heap → Prop} {YP : World → Heap → Prop} {d : DefRec} (hn : l.most = some n) (hn2 : n ≤ sizeLine) (hdf : d.params.defaults = [])
    (F : ∀ (w : World) (mg : Str → Option Value) (h : Heap), YP w h → h.Ns mainGlobals mg → ∃ (K : PySem.W.Frag) (sg : Sig) (p : Prog) (i : Nat) (fn : Fn) (turns m : Nat), K.In h ∧ PrOk K mg sg p ∧ p.fns[i]? = some fn ∧ sg.fn[i]? = some d.name ∧ sg.sg i 1 [] [0] = true ∧ fn.np = 1 ∧ Room (m + 1) callerA ∧ Gives p turns m fn n) :
    PySem.W.WalkO q loose XP YP l.row.toRowW d [] (fun f vs => PySem.call f vs) := by
  refine Att.attach_call hn hdf fun w s0 s1 mg mb fa o pm cd doc a vs ns G Y _ _ _ hmg hobj hints hlen hg => ?_
  obtain ⟨K, sg, p, i, fn, turns, m, inK, hp, hfn, hx, hs, h1, hro, gv⟩ := F w mg _ Y G.T.g
  exact law_run inK G.T.g G.T.b G.T.builtins G.T.nolimit hg hp hfn hx hmg hs h1 hro (gv ns hlen) hobj hints (Nat.le_trans hlen hn2)
end Lf
end
section
set_option maxHeartbeats 4000000
/-! The heap behind the top: what is looked at, what it gives. -/
namespace Lf
open PySem PySem.Spec PyProof.Rows L2
mutual
/-- this value stands for this constant -/
def cstB (K : PySem.W.Frag) : D → Value → Bool
  | .non, .none => true
  | .bl b, .bool c => b == c
  | .int i, .int j _ => i == j
  | .str x, .str y _ => x == y && decide (x.length ≤ sizeLine)
  | .tup ds, .ref a => match K.lookup a with
    | some ⟨.type c, _, .seq its _, _⟩ => c == "tuple" && decide (its.size ≤ sizeLine) && cstL K ds its.toList
    | _ => false
  | .fn x, .ref a => decide (PySem.W.nsIn K mainGlobals x = some (some (.ref a)))
  | _, _ => false
def cstL (K : PySem.W.Frag) : List D → List Value → Bool
  | [], [] => true
  | d :: ds, u :: us => cstB K d u && cstL K ds us
  | _, _ => false
end
mutual
theorem cst_ok {K : PySem.W.Frag} : ∀ {d : D} {u : Value}, cstB K d u = true → ∃ v, RelV v u ∧ ∀ O st, Rp K O st d v
  | .non, u, h => by
    cases u <;> first | (unfold cstB at h; cases h; done) | exact ⟨.non, rfl, fun O st => by unfold Rp; rfl⟩
  | .bl b, u, h => by
    cases u with
    | bool c =>
      unfold cstB at h
      cases eq_of_beq h
      exact ⟨.bl b, rfl, fun O st => by unfold Rp; rfl⟩
    | _ => unfold cstB at h; cases h
  | .int b, u, h => by
    cases u with
    | int c t =>
      unfold cstB at h
      cases eq_of_beq h
      exact ⟨.int b, ⟨t, rfl⟩, fun O st => by unfold Rp; rfl⟩
    | _ => unfold cstB at h; cases h
  | .str b, u, h => by
    cases u with
    | str c t =>
      unfold cstB at h
      obtain ⟨h1, h2⟩ := of_and h
      cases eq_of_beq h1
      exact ⟨.str b, ⟨t, rfl⟩, fun O st => by unfold Rp; exact ⟨rfl, of_decide_eq_true h2⟩⟩
    | _ => unfold cstB at h; cases h
  | .tup ds, u, h => by
    cases u with
    | ref a =>
      unfold cstB at h
      split at h
      · rename_i c od its n sl lk
        obtain ⟨h, h3⟩ := of_and h
        obtain ⟨h1, h2⟩ := of_and h
        obtain ⟨vs, rv, rp⟩ := cstL_ok h3
        refine ⟨.ref a, rfl, fun O st => ?_⟩
        unfold Rp
        exact ⟨a, vs, rfl, .inr ⟨_, its, n, lk, by rw [eq_of_beq h1], rfl, of_decide_eq_true h2, rv⟩, rp O st⟩
      · cases h
    | _ => unfold cstB at h; cases h
  | .fn x, u, h => by
    cases u with
    | ref a =>
      unfold cstB at h
      have h' : PySem.W.nsIn K mainGlobals x = some (some (.ref a)) := of_decide_eq_true h
      exact ⟨.ref a, rfl, fun O st => by unfold Rp; exact ⟨a, rfl, h'⟩⟩
    | _ => unfold cstB at h; cases h
  | .lst _, u, h => by cases u <;> (unfold cstB at h; cases h)
  | .dct _ _, u, h => by cases u <;> (unfold cstB at h; cases h)
  | .ins _ _ _, u, h => by cases u <;> (unfold cstB at h; cases h)
  | .scr _, u, h => by cases u <;> (unfold cstB at h; cases h)
  | .m _, u, h => by cases u <;> (unfold cstB at h; cases h)
  | .ty _, u, h => by cases u <;> (unfold cstB at h; cases h)
theorem cstL_ok {K : PySem.W.Frag} : ∀ {ds : List D} {us : List Value}, cstL K ds us = true → ∃ vs, Vals vs us ∧ ∀ O st, RpL K O st ds vs
  | [], us, h => by
    cases us with
    | nil => exact ⟨[], .nil, fun _ _ => .nil⟩
    | cons _ _ => unfold cstL at h; cases h
  | d :: ds, us, h => by
    cases us with
    | nil => unfold cstL at h; cases h
    | cons u us =>
      unfold cstL at h
      obtain ⟨h1, h2⟩ := of_and h
      obtain ⟨v, r1, p1⟩ := cst_ok h1
      obtain ⟨vs, r2, p2⟩ := cstL_ok h2
      exact ⟨v :: vs, .cons r1 r2, fun O st => .cons (p1 O st) (p2 O st)⟩
end
/-- a def of the top: how it stands, its names, the parameters first, its calls -/
structure Df where
  d : He.DefD
  N : List Str
  ps : List Str
  fn : Fn
  sh : List (Nat × List Str × List Nat)
/-- what a law's text leans on -/
structure Hd where
  cs : List (Str × D)
  df : List Df
def Hd.sg (h : Hd) : Sig := ⟨h.cs.map Prod.fst, h.df.map fun f => f.d.at_.1, fun i n ks ord => match h.df[i]? with
  | some f => f.sh.any fun t => t.1 == n && t.2.1 == ks && t.2.2 == ord
  | none => false⟩
def Hd.prog (h : Hd) : Prog := ⟨h.cs.map Prod.snd, h.df.map fun f => f.fn⟩
def sysB (K : PySem.W.Frag) : Bool := match K.lookup sysModules with
  | some ⟨.type c, _, .dict _ _, _⟩ => c == "dict"
  | _ => false
def csB (K : PySem.W.Frag) (c : Str × D) : Bool := match PySem.W.nsIn K mainGlobals c.1 with
  | some (some u) => cstB K c.2 u
  | _ => false
def dfB (K : PySem.W.Frag) (f : Df) : Bool := f.d.ok K && He.eqO (PySem.W.nsIn K mainGlobals f.d.at_.1) (some (some (.ref (He.fAd K f.d.at_))))
def Hd.ok (h : Hd) (K : PySem.W.Frag) : Bool := sysB K && (blts.all fun x => He.eqO (PySem.W.nsIn K mainGlobals x) (some none)) && (h.cs.all (csB K)) && h.df.all (dfB K)
/-- the calls that are written of a def bind so -/
def Shape (d : He.DefD) (ps : List Str) (t : Nat × List Str × List Nat) : Prop := ∀ (kV doc pm : Value) (an : Option Addr) (cdv ct : Value) (us ws : List Value), us.length = t.1 → ws.length = t.2.1.length →
  bindArgs (PySem.W.fnOf d.name d.qual d.params d.body d.scope .none kV doc pm an cdv ct) ⟨us, t.2.1.zip ws⟩ = pure (ps.zip (pick t.2.2 (us ++ ws ++ [])))
/-- a def's text is what its reading says -/
structure Df.Ok (sg : Sig) (f : Df) : Prop where
  sc : FnScope f.N f.ps f.d.scope
  np : f.fn.np = f.ps.length
  n : f.fn.n = f.N.length
  d0 : f.d.dfl = []
  f0 : f.fn.dfl = []
  body : cmpSs f.N sg f.d.scope f.fn.body f.d.body = true
  sh : ∀ t ∈ f.sh, Shape f.d f.ps t
theorem sys_ok {K : PySem.W.Frag} (h : sysB K = true) : SysK K := by
  unfold sysB at h
  split at h
  · rename_i c od es n sl lk
    exact ⟨_, es, n, lk, rfl, by rw [eq_of_beq h]⟩
  · cases h
theorem Hd.prOk {h : Hd} {K : PySem.W.Frag} {mg : Str → Option Value} {hp : Heap} (X : K.In hp) (G : hp.Ns mainGlobals mg) (ok : h.ok K = true) (he : ∀ f ∈ h.df, He.fnW K f.d.at_ = f.d.val) (hf : ∀ f ∈ h.df, f.Ok h.sg) : PrOk K mg h.sg h.prog := by
  unfold Hd.ok at ok
  obtain ⟨ok, o4⟩ := of_and ok
  obtain ⟨ok, o3⟩ := of_and ok
  obtain ⟨o1, o2⟩ := of_and ok
  rw [List.all_eq_true] at o2 o3 o4
  refine ⟨sys_ok o1, fun x hx => PySem.W.mg_none_of X G (He.eqO_ok (o2 x hx)), fun i x d e1 e2 => ?_, fun i n ks ord hs => ?_, fun i fn hfn => ?_⟩
  · have e1 : (h.cs.map Prod.fst)[i]? = some x := e1
    have e2 : (h.cs.map Prod.snd)[i]? = some d := e2
    rw [List.getElem?_map] at e1 e2
    obtain ⟨c, ec, rfl⟩ := Option.map_eq_some_iff.mp e1
    rw [ec] at e2
    cases e2
    have q := o3 c (List.mem_of_getElem? ec)
    unfold csB at q
    split at q
    · rename_i u eu
      obtain ⟨v, r, p⟩ := cst_ok q
      exact ⟨u, v, PySem.W.mg_of X G eu, r, p⟩
    · cases q
  · have hs : (match h.df[i]? with
      | some f => f.sh.any fun t => t.1 == n && t.2.1 == ks && t.2.2 == ord
      | none => false) = true := hs
    cases e : h.df[i]? with
    | none => rw [e] at hs; cases hs
    | some f => exact ⟨f.fn, by show (h.df.map fun f => f.fn)[i]? = _; rw [List.getElem?_map, e]; rfl⟩
  · have hfn : (h.df.map fun f => f.fn)[i]? = some fn := hfn
    rw [List.getElem?_map] at hfn
    obtain ⟨f, ef, rfl⟩ := Option.map_eq_some_iff.mp hfn
    have mem := List.mem_of_getElem? ef
    have F := hf f mem
    have q := o4 f mem
    obtain ⟨q1, q2⟩ := of_and q
    have q2 := He.eqO_ok q2
    obtain ⟨fd, fD⟩ := He.DefD.funD (he f mem) q1
    obtain ⟨oc, od, dV, kV, doc, pm, an, cdv, ct, osl, rfl, lk, hcd, hD, hK⟩ := fD.ex
    have hdv : dV = .none := by
      rcases hD with ⟨_, e⟩ | ⟨e, _⟩
      · exact e
      · refine absurd ?_ e
        unfold He.DefD.dvs
        rw [F.d0]
        rfl
    subst hdv
    refine ⟨f.d.at_.1, f.d.name, f.d.qual, He.fAd K f.d.at_, f.d.params, f.d.body, f.d.scope, .none, kV, doc, pm, cdv, ct, oc, an, od, osl, f.N, f.ps, [], [], ?_, PySem.W.mg_of X G q2, fD.kp, lk, hcd, F.sc, F.np, F.n, F.body, .nil, fun O st => by rw [F.f0]; exact .nil, fun n ks ord hs s us ws _ l1 l2 => ?_⟩
    · show (h.df.map fun f => f.d.at_.1)[i]? = _
      rw [List.getElem?_map, ef]
      rfl
    · have hs : (match h.df[i]? with
        | some f => f.sh.any fun t => t.1 == n && t.2.1 == ks && t.2.2 == ord
        | none => false) = true := hs
      rw [ef] at hs
      obtain ⟨t, tm, te⟩ := List.any_eq_true.mp hs
      obtain ⟨te, t3⟩ := of_and te
      obtain ⟨t1, t2⟩ := of_and te
      have t1 := eq_of_beq t1
      have t2 := eq_of_beq t2
      have t3 := eq_of_beq t3
      obtain ⟨a, b, c⟩ := t
      cases t1
      cases t2
      cases t3
      exact BindsTo.of_looks fun M => PySem.W.Looks.of_pure (F.sh _ tm kV doc pm an cdv ct us ws l1 l2)
/-! ### what the run looks at -/
def obH (n : Nat) (h : Hd) (g : Addr → Option Obj) : Bool × List He.FnW := (h.ok (He.frG g (sysModules :: He.asD g n)), h.df.map fun f => He.fnW (He.frG g (sysModules :: He.asD g n)) f.d.at_)
def valH (h : Hd) : Bool × List He.FnW := (true, h.df.map fun f => f.d.val)
def hookH (n : Nat) (h : Hd) : PySem.W.Hook where
  α := Bool × List He.FnW
  obs := fun s => obH n h s.heap.get?
  val := fun _ => valH h
  says := fun _ hp => ∃ K : PySem.W.Frag, K.In hp ∧ h.ok K = true ∧ h.df.map (fun f => He.fnW K f.d.at_) = h.df.map fun f => f.d.val
  of := fun _ _ e => ⟨_, He.frG_in, (Prod.mk.inj e).1, (Prod.mk.inj e).2⟩
  keeps := fun _ _ _ ⟨K, hK, c⟩ k => ⟨K, PySem.W.Frag.In.keeps hK k, c⟩
theorem obH_eq {n : Nat} {h : Hd} {g : Addr → Option Obj} {s : Shared} (e : ∀ a, g a = s.heap.get? a) : obH n h g = (hookH n h).obs s := by
  have : g = s.heap.get? := funext e
  subst this
  rfl
theorem map_each {α β : Type} {f g : α → β} : ∀ {l : List α}, l.map f = l.map g → ∀ a ∈ l, f a = g a
  | [], _, a, h => by cases h
  | b :: l, e, a, h => by
    rw [List.map_cons, List.map_cons] at e
    obtain ⟨e1, e2⟩ := List.cons.inj e
    rcases List.mem_cons.mp h with rfl | h
    · exact e1
    · exact map_each e2 a h
end Lf
end
section
set_option maxHeartbeats 4000000
/-! What a run of the interpreter is to end in. -/
namespace Lf
open PySem
def WpM {α : Type} (m : R α) (Q : α → Sto → Prop) : Prop := match m with
  | .ok a s => Q a s
  | _ => False
def Wp (o : O) (N B C : Env → Sto → Prop) (T : D → Sto → Prop) : Prop := match o with
  | .nx r s => N r s
  | .bk r s => B r s
  | .ct r s => C r s
  | .rt d s => T d s
  | _ => False
section
variable {α β : Type} {s : Sto} {Q Q' : α → Sto → Prop}
theorem WpM.mono {m : R α} (h : WpM m Q) (q : ∀ a s, Q a s → Q' a s) : WpM m Q' := by
  cases m with
  | ok a s => exact q a s h
  | err _ _ => exact h
  | bad => exact h
theorem wm_ret {a : α} : WpM (ret a s) Q = Q a s := rfl
theorem wm_bnd {m : M β} {f : β → M α} : WpM (bnd m f s) Q = WpM (m s) fun b s1 => WpM (f b s1) Q := by
  unfold bnd
  cases m s <;> rfl
theorem wm_chk {c : Bool} {m : M α} : WpM (chk c m s) Q = (c = true ∧ WpM (m s) Q) := by
  unfold chk
  cases c
  · show False = _
    simp
  · simp
theorem wm_some {a : α} : WpM (ofO (some a) s) Q = Q a s := rfl
theorem wm_noErr {m : M α} : WpM (noErr m s) Q = WpM (m s) Q := by
  unfold noErr
  cases m s <;> rfl
theorem wm_eq {m : R α} {a : α} {s : Sto} (h : m = .ok a s) : WpM m Q = Q a s := by
  rw [h]
  rfl
theorem WpM.get {m : R α} (h : WpM m Q) : ∃ a s, m = .ok a s ∧ Q a s := by
  cases m with
  | ok a s => exact ⟨a, s, rfl, h⟩
  | err _ _ => exact False.elim h
  | bad => exact False.elim h
end
section
variable {g : G} {lo : Nat} {r : Env} {s : Sto} {N B C : Env → Sto → Prop} {T : D → Sto → Prop}
theorem Wp.mono {o : O} {N' B' C' : Env → Sto → Prop} {T' : D → Sto → Prop} (h : Wp o N B C T) (n : ∀ r s, N r s → N' r s) (b : ∀ r s, B r s → B' r s) (c : ∀ r s, C r s → C' r s) (t : ∀ d s, T d s → T' d s) : Wp o N' B' C' T' := by
  cases o with
  | nx r s => exact n r s h
  | bk r s => exact b r s h
  | ct r s => exact c r s h
  | rt d s => exact t d s h
  | err _ _ _ => exact h
  | bad => exact h
theorem wp_to {α : Type} {m : R α} {f : α → Sto → O} : Wp (m.to r f) N B C T = WpM m fun a s1 => Wp (f a s1) N B C T := by
  cases m <;> rfl
theorem wp_nx : Wp (.nx r s) N B C T = N r s := rfl
theorem wp_rt {d : D} : Wp (.rt d s) N B C T = T d s := rfl
theorem wp_bk : Wp (.bk r s) N B C T = B r s := rfl
theorem wp_ct : Wp (.ct r s) N B C T = C r s := rfl
theorem wp_nil : Wp (exs g lo [] r s) N B C T = N r s := rfl
theorem wp_cons {x : S} {xs : List S} : Wp (exs g lo (x :: xs) r s) N B C T = Wp (ex g lo x r s) (fun r1 s1 => Wp (exs g lo xs r1 s1) N B C T) B C T := by
  conv => lhs; unfold exs
  cases ex g lo x r s <;> rfl
theorem wp_set {t : Lf.T} {e : E} : Wp (ex g lo (.set t e) r s) N B C T = WpM (ev g lo e r s) fun d s1 => match asgT t d r with
    | some r1 => N r1 s1
    | none => False := by
  unfold ex
  rw [wp_to]
  congr 1
  funext d s1
  cases asgT t d r <;> rfl
theorem wp_par {i j : Nat} {a b : E} : Wp (ex g lo (.par i j a b) r s) N B C T = WpM (ev g lo a r s) fun x s1 => WpM (ev g lo b r s1) fun y s2 => if i < r.length ∧ j < r.length then N ((r.set i (some x)).set j (some y)) s2 else False := by
  unfold ex
  rw [wp_to]
  congr 1
  funext x s1
  rw [wp_to]
  congr 1
  funext y s2
  by_cases h : i < r.length ∧ j < r.length
  · rw [if_pos h, if_pos h]
    rfl
  · rw [if_neg h, if_neg h]
    rfl
theorem wp_sts {o i e : E} : Wp (ex g lo (.sts o i e) r s) N B C T = WpM (ev g lo e r s) fun d s1 => WpM (ev g lo o r s1) fun x s2 => WpM (ev g lo i r s2) fun y s3 => WpM (stsV lo x y d s3) fun _ s4 => N r s4 := by
  unfold ex
  rw [wp_to]
  congr 1
  funext d s1
  rw [wp_to]
  congr 1
  funext x s2
  rw [wp_to]
  congr 1
  funext y s3
  rw [wp_to]
  rfl
theorem wp_ex {e : E} : Wp (ex g lo (.ex e) r s) N B C T = WpM (ev g lo e r s) fun _ s1 => N r s1 := by
  unfold ex
  rw [wp_to]
  rfl
theorem wp_ret {e : E} : Wp (ex g lo (.ret e) r s) N B C T = WpM (ev g lo e r s) T := by
  unfold ex
  rw [wp_to]
  rfl
theorem wp_retn : Wp (ex g lo .retn r s) N B C T = T .non s := by
  unfold ex
  rfl
theorem wp_ife {c : E} {a b : List S} : Wp (ex g lo (.ife c a b) r s) N B C T = WpM (tst g lo c r s) fun k s1 => if k = true then Wp (exs g lo a r s1) N B C T else Wp (exs g lo b r s1) N B C T := by
  unfold ex
  rw [wp_to]
  congr 1
  funext k s1
  cases k <;> rfl
theorem wp_for {t : Lf.T} {w : W} {src : List E} {body : List S} : Wp (ex g lo (.for_ t w src body) r s) N B C T = WpM (evs g lo src r s) fun ds s1 => WpM (walkW w ds s1) fun xs s2 => Wp (forL t (srcOf w ds) (fun r1 s3 => exs g lo body r1 s3) xs r s2) N B C T := by
  unfold ex
  rw [wp_to]
  congr 1
  funext ds s1
  rw [wp_to]
theorem wp_forL {t : Lf.T} {d : Option D} {f : Env → Sto → O} (I : List D → Env → Sto → Prop)
    (step : ∀ x rest r s, I (x :: rest) r s → ∃ r1, asgT t x r = some r1 ∧ Wp (f r1 s) (fun r2 s2 => stays d s s2 = true ∧ I rest r2 s2) N (fun r2 s2 => stays d s s2 = true ∧ I rest r2 s2) T) (done : ∀ r s, I [] r s → N r s) :
    ∀ {xs : List D} {r : Env} {s : Sto}, I xs r s → Wp (forL t d f xs r s) N B C T
  | [], r, s, h => done r s h
  | x :: xs, r, s, h => by
    obtain ⟨r1, ea, w⟩ := step x xs r s h
    unfold forL
    rw [ea]
    show Wp (match f r1 s with
      | .nx r2 s2 => if stays d s s2 = true then forL t d f xs r2 s2 else .bad
      | .ct r2 s2 => if stays d s s2 = true then forL t d f xs r2 s2 else .bad
      | .bk r2 s2 => .nx r2 s2
      | o => o) N B C T
    cases e : f r1 s with
    | nx r2 s2 =>
      rw [e] at w
      obtain ⟨w1, w2⟩ := w
      show Wp (if stays d s s2 = true then forL t d f xs r2 s2 else .bad) N B C T
      rw [if_pos w1]
      exact wp_forL I step done w2
    | ct r2 s2 =>
      rw [e] at w
      obtain ⟨w1, w2⟩ := w
      show Wp (if stays d s s2 = true then forL t d f xs r2 s2 else .bad) N B C T
      rw [if_pos w1]
      exact wp_forL I step done w2
    | bk r2 s2 => rw [e] at w; exact w
    | rt d s2 => rw [e] at w; exact w
    | err _ _ _ => rw [e] at w; exact w
    | bad => rw [e] at w; exact w
end
/-! ### calls -/
theorem frzW_pure {rec : Nat → Option D} : ∀ {d : D}, d.under 0 = true → frzW rec d = some d := by
  have go : ∀ n : Nat, (∀ d : D, sizeOf d < n → d.under 0 = true → frzW rec d = some d) ∧ (∀ ds : List D, sizeOf ds < n → underL 0 ds = true → frzWL rec ds = some ds) := by
    intro n
    induction n with
    | zero => exact ⟨fun _ h => absurd h (Nat.not_lt_zero _), fun _ h => absurd h (Nat.not_lt_zero _)⟩
    | succ n ih =>
      refine ⟨fun d hd h => ?_, fun ds hd h => ?_⟩
      · cases d with
        | m k =>
          unfold D.under at h
          simp at h
        | tup xs =>
          unfold D.under at h
          unfold frzW
          rw [ih.2 xs (by simp at hd; omega) h]
          rfl
        | lst xs =>
          unfold D.under at h
          unfold frzW
          rw [ih.2 xs (by simp at hd; omega) h]
          rfl
        | dct ks vs =>
          unfold D.under at h
          obtain ⟨h1, h2⟩ := Bool.and_eq_true_iff.mp h
          unfold frzW
          rw [ih.2 ks (by simp at hd; omega) h1, ih.2 vs (by simp at hd; omega) h2]
        | ins c fs xs =>
          unfold D.under at h
          unfold frzW
          rw [ih.2 xs (by simp at hd; omega) h]
          rfl
        | _ => unfold frzW; rfl
      · cases ds with
        | nil => unfold frzWL; rfl
        | cons x xs =>
          unfold underL at h
          obtain ⟨h1, h2⟩ := Bool.and_eq_true_iff.mp h
          unfold frzWL
          rw [ih.1 x (by simp at hd; omega) h1, ih.2 xs (by simp at hd; omega) h2]
  exact fun {d} h => (go (sizeOf d + 1)).1 d (Nat.lt_succ_self _) h
theorem frz_pure {lo : Nat} {d : D} {s : Sto} (h : d.under 0 = true) : frz lo d s = some d := frzW_pure h
/-- a def that keeps nothing: what it gives is pure -/
theorem wm_run {g : G} {lo : Nat} {f : Fn} {vs : List D} {s : Sto} {Q : D → Sto → Prop} (hk : f.keep = false)
    (h : Wp (exs g s.length f.body (startE f.n vs) s) (fun _ s1 => Q .non (s1.take s.length)) (fun _ _ => False) (fun _ _ => False) (fun d s1 => d.under 0 = true ∧ Q d (s1.take s.length))) : WpM (runFn g lo f vs s) Q := by
  unfold runFn
  rw [hk, if_neg Bool.false_ne_true]
  cases e : exs g s.length f.body (startE f.n vs) s with
  | nx r s1 => rw [e] at h; exact h
  | rt d s1 =>
    rw [e] at h
    obtain ⟨h1, h2⟩ := h
    show WpM (match frz s.length d s1 with
      | some d' => .ok d' (s1.take s.length)
      | none => .bad) Q
    rw [frz_pure h1]
    exact h2
  | bk _ _ => rw [e] at h; exact False.elim h
  | ct _ _ => rw [e] at h; exact False.elim h
  | err _ _ _ => rw [e] at h; exact False.elim h
  | bad => rw [e] at h; exact False.elim h
theorem wm_runK {g : G} {lo : Nat} {f : Fn} {vs : List D} {s : Sto} {Q : D → Sto → Prop} (hk : f.keep = true)
    (h : Wp (exs g lo f.body (startE f.n vs) s) (fun _ s1 => Q .non s1) (fun _ _ => False) (fun _ _ => False) Q) : WpM (runFn g lo f vs s) Q := by
  unfold runFn
  rw [hk, if_pos rfl]
  cases e : exs g lo f.body (startE f.n vs) s with
  | nx r s1 => rw [e] at h; exact h
  | rt d s1 => rw [e] at h; exact h
  | bk _ _ => rw [e] at h; exact False.elim h
  | ct _ _ => rw [e] at h; exact False.elim h
  | err _ _ _ => rw [e] at h; exact False.elim h
  | bad => rw [e] at h; exact False.elim h
theorem wm_call {p : Prog} {turns n lo i : Nat} {f : Fn} {vs : List D} {s : Sto} {Q : D → Sto → Prop} (hf : p.fns[i]? = some f) (hl : vs.length = f.np) (h : WpM (runFn (p.at_ turns n) lo f vs s) Q) : WpM ((p.at_ turns (n + 1)).call lo i vs s) Q := by
  unfold Prog.at_
  dsimp only
  rw [hf]
  dsimp only
  rw [if_pos hl]
  exact h
/-! ### step by step -/
section
variable {g : G} {lo : Nat} {r : Env} {s s1 s2 s3 s4 : Sto} {N B C : Env → Sto → Prop} {T : D → Sto → Prop} {e o i : E} {xs : List S} {d x y : D}
theorem st_set {i : Nat} (h : ev g lo e r s = .ok d s1) (hi : i < r.length) (k : Wp (exs g lo xs (r.set i (some d)) s1) N B C T) : Wp (exs g lo (.set (.nm i) e :: xs) r s) N B C T := by
  rw [wp_cons, wp_set, wm_eq h]
  unfold asgT
  dsimp only
  rw [if_pos hi]
  exact k
theorem st_setW {i : Nat} (hi : i < r.length) (h : WpM (ev g lo e r s) fun d s1 => Wp (exs g lo xs (r.set i (some d)) s1) N B C T) : Wp (exs g lo (.set (.nm i) e :: xs) r s) N B C T := by
  rw [wp_cons, wp_set]
  refine h.mono fun d s1 q => ?_
  unfold asgT
  dsimp only
  rw [if_pos hi]
  exact q
theorem st_sts (h1 : ev g lo e r s = .ok d s1) (h2 : ev g lo o r s1 = .ok x s2) (h3 : ev g lo i r s2 = .ok y s3) (h4 : stsV lo x y d s3 = .ok () s4) (k : Wp (exs g lo xs r s4) N B C T) : Wp (exs g lo (.sts o i e :: xs) r s) N B C T := by
  rw [wp_cons, wp_sts, wm_eq h1, wm_eq h2, wm_eq h3, wm_eq h4]
  exact k
theorem st_ret (h : ev g lo e r s = .ok d s1) (k : T d s1) : Wp (exs g lo (.ret e :: xs) r s) N B C T := by
  rw [wp_cons, wp_ret, wm_eq h]
  exact k
theorem st_retW (h : WpM (ev g lo e r s) T) : Wp (exs g lo (.ret e :: xs) r s) N B C T := by
  rw [wp_cons, wp_ret]
  exact h
theorem st_if {a b : List S} {c : Bool} (h : tst g lo e r s = .ok c s1) (k : c = true → Wp (exs g lo a r s1) (fun r1 s2 => Wp (exs g lo xs r1 s2) N B C T) B C T) (k2 : c = false → Wp (exs g lo b r s1) (fun r1 s2 => Wp (exs g lo xs r1 s2) N B C T) B C T) : Wp (exs g lo (.ife e a b :: xs) r s) N B C T := by
  rw [wp_cons, wp_ife, wm_eq h]
  cases c with
  | true => exact k rfl
  | false => exact k2 rfl
theorem bnd_app {α β : Type} {m : M α} {f : α → M β} : bnd m f s = (m s).bind f := rfl
theorem bind_ok {α β : Type} {a : α} {f : α → M β} : (R.ok a s).bind f = f a s := rfl
theorem ret_app {α : Type} {a : α} : ret a s = .ok a s := rfl
theorem chk_app {α : Type} {c : Bool} {m : M α} : chk c m s = if c = true then m s else .bad := rfl
theorem ofO_app {α : Type} {a : α} : ofO (some a) s = .ok a s := rfl
theorem getC_app {k : Nat} {c : Lf.C} (h : s[k]? = some c) : getC k s = .ok c s := by
  unfold getC
  rw [h]
theorem ev_var {i : Nat} {d : D} (h : r[i]? = some (some d)) : ev g lo (.var i) r s = .ok d s := by
  unfold ev
  rw [h]
  rfl
end
end Lf
end
section
set_option maxHeartbeats 4000000
/-! The laws' draws. -/
namespace Lf
open PySem
/-- the draw's cells: numbers at c, the state at k; b counts what was taken -/
def Draw (s : Sto) (k c : Nat) (b : Int) : Prop := ∃ (xs : List Int) (a d2 d3 : Int), s[k]? = some (.lst [.m c, .int a, .int d2, .int d3]) ∧ s[c]? = some (.lst (xs.map D.int)) ∧ xs ≠ [] ∧ (∀ x ∈ xs, 0 ≤ x) ∧ xs.length ≤ 64 ∧ 0 ≤ d2 ∧ d2 < 2147483647 ∧ 0 ≤ d3 ∧ d3 ≤ b ∧ c < k
structure Fr (k c : Nat) (s s' : Sto) : Prop where
  len : s'.length = s.length
  oth : ∀ j, j ≠ k → j ≠ c → s'[j]? = s[j]?
theorem Fr.rfl {k c : Nat} {s : Sto} : Fr k c s s := ⟨Eq.refl _, fun _ _ _ => Eq.refl _⟩
theorem Fr.trans {k c : Nat} {s s1 s2 : Sto} (x : Fr k c s s1) (y : Fr k c s1 s2) : Fr k c s s2 := ⟨y.len.trans x.len, fun j h1 h2 => (y.oth j h1 h2).trans (x.oth j h1 h2)⟩
theorem Draw.le {s : Sto} {k c : Nat} {b b' : Int} (h : Draw s k c b) (l : b ≤ b') : Draw s k c b' := by
  obtain ⟨xs, a, d2, d3, h1, h2, h3, h4, h5, h6, h7, h8, h9, h10⟩ := h
  exact ⟨xs, a, d2, d3, h1, h2, h3, h4, h5, h6, h7, h8, by omega, h10⟩
def takeB : List S :=
   [.set (.nm 2) (.sub (.var 0) (.int 0)),
    .set (.nm 3) (.bin .Mod false (.bi .int false [.sub (.var 0) (.int 1)]) (.bi .len false [.var 2])),
    .set (.nm 4) (.sub (.var 2) (.var 3)),
    .ife (.cmp .GtE (.var 4) (.bin .Pow false (.int 10) (.int 18))) [.sts (.var 2) (.var 3) (.bin .FloorDiv false (.var 4) (.var 1)),
    .ret (.bin .Mod false (.bi .int false [.var 4]) (.var 1))] [],
    .sts (.var 0) (.int 1) (.bin .Add false (.sub (.var 0) (.int 1)) (.int 1)),
    .sts (.var 0) (.int 3) (.bin .Add false (.sub (.var 0) (.int 3)) (.int 1)),
    .sts (.var 0) (.int 2) (.bin .Mod false (.bi .int false [.bin .Add false (.bin .Add false (.bin .Add false (.bin .Mult false (.sub (.var 0) (.int 2)) (.int 48271)) (.var 4)) (.bin .Mult false (.int 7919) (.sub (.var 0) (.int 3)))) (.int 12345)]) (.int 2147483647)),
    .set (.nm 5) (.bin .Mod false (.bi .int false [.bin .Mult false (.sub (.var 0) (.int 2)) (.sub (.var 0) (.int 2))]) (.int 2147483629)),
    .ret (.bin .Mod false (.bi .int false [.bin .FloorDiv false (.var 5) (.int 16)]) (.var 1))]
theorem mod_ok {a b : Int} {s : Sto} (h : 0 < b) : Lf.binop .Mod false (.int a) (.int b) s = .ok (.int (a % b)) s := by
  show chk (decide (0 < b)) (ret (D.int (a % b))) s = _
  rw [decide_eq_true h]
  rfl
theorem fdiv_ok {a b : Int} {s : Sto} (h : 0 < b) (h2 : b < 2 ^ 64) : Lf.binop .FloorDiv false (.int a) (.int b) s = .ok (.int (a / b)) s := by
  show chk (decide (0 < b) && decide (b.natAbs.log2 < 9000)) (ret (D.int (a / b))) s = _
  have : b.natAbs.log2 < 9000 := by
    have h3 : b.natAbs < 2 ^ 9000 := Nat.lt_of_lt_of_le (show b.natAbs < 2 ^ 64 by omega) (Nat.pow_le_pow_right (by omega) (by omega))
    by_cases hz : b.natAbs = 0
    · omega
    · exact (Nat.log2_lt hz).mpr h3
  rw [decide_eq_true h, decide_eq_true this]
  rfl
theorem log_small {a : Int} (h : -(2 ^ 64) < a) (h2 : a < 2 ^ 64) : a.natAbs.log2 < 64 := by
  by_cases hz : a.natAbs = 0
  · rw [hz]; decide
  · exact (Nat.log2_lt hz).mpr (by omega)
theorem mul_ok {a b : Int} {s : Sto} (h : -(2 ^ 64) < a) (h2 : a < 2 ^ 64) (h3 : -(2 ^ 64) < b) (h4 : b < 2 ^ 64) : Lf.binop .Mult false (.int a) (.int b) s = .ok (.int (a * b)) s := by
  show chk (decide (a.natAbs.log2 + b.natAbs.log2 < 1000000)) (ret (D.int (a * b))) s = _
  have := log_small h h2
  have := log_small h3 h4
  rw [decide_eq_true (by omega)]
  rfl
theorem add_ok {a b : Int} {s : Sto} : Lf.binop .Add false (.int a) (.int b) s = .ok (.int (a + b)) s := rfl
theorem bin_ev {g : G} {lo : Nat} {op : Operator} {mu : Bool} {a b : E} {r : Env} {s s1 s2 : Sto} {x y : D} (h1 : ev g lo a r s = .ok x s1) (h2 : ev g lo b r s1 = .ok y s2) : ev g lo (.bin op mu a b) r s = Lf.binop op mu x y s2 := by
  conv => lhs; unfold ev
  rw [bnd_app, h1, bind_ok, bnd_app, h2, bind_ok]
theorem int_ev {g : G} {lo : Nat} {a : E} {r : Env} {s s1 : Sto} {i : Int} (h1 : ev g lo a r s = .ok (.int i) s1) : ev g lo (.bi .int false [a]) r s = .ok (.int i) s1 := by
  unfold ev evs evs
  rw [bnd_app, bnd_app, h1]
  rfl
theorem sub_ev {g : G} {lo : Nat} {a b : E} {r : Env} {s s1 s2 : Sto} {x y d : D} {s3 : Sto} (h1 : ev g lo a r s = .ok x s1) (h2 : ev g lo b r s1 = .ok y s2) (h3 : subV x y s2 = .ok d s3) : ev g lo (.sub a b) r s = .ok d s3 := by
  conv => lhs; unfold ev
  rw [bnd_app, h1, bind_ok, bnd_app, h2, bind_ok]
  exact h3
theorem sub_cell {s : Sto} {k : Nat} {xs : List D} {i : Int} {d : D} (h : s[k]? = some (.lst xs)) (e : L2.atI xs i = some d) : subV (.m k) (.int i) s = .ok d s := by
  show bnd (bnd (getC k) fun c => match c with | .lst xs => ret xs | _ => bad) (fun xs => ofO (L2.atI xs i)) s = _
  rw [bnd_app, bnd_app, getC_app h, bind_ok]
  show ofO (L2.atI xs i) s = _
  rw [e]
  rfl
theorem len_cell {s : Sto} {k : Nat} {xs : List D} (h : s[k]? = some (.lst xs)) : lenV (.m k) s = .ok (.int xs.length) s := by
  show bnd (bnd (getC k) fun c => match c with | .lst xs => ret xs | _ => bad) (fun xs => ret (D.int xs.length)) s = _
  rw [bnd_app, bnd_app, getC_app h, bind_ok]
  rfl
theorem atI_at {α : Type} {xs : List α} {i : Int} {d : α} (h0 : 0 ≤ i) (h : xs[i.toNat]? = some d) : L2.atI xs i = some d := by
  have hl : i.toNat < xs.length := (List.getElem?_eq_some_iff.mp h).1
  unfold L2.atI L2.ixN
  rw [if_pos h0, if_pos (by omega)]
  exact h
theorem sts_cell {lo : Nat} {s : Sto} {k : Nat} {xs : List D} {i : Int} {d : D} (h : s[k]? = some (.lst xs)) (h0 : 0 ≤ i) (hi : i.toNat < xs.length) (hu : (C.lst (xs.set i.toNat d)).under (k + 1) = true) : stsV lo (.m k) (.int i) d s = .ok () (s.set k (.lst (xs.set i.toNat d))) := by
  have e : L2.ixN xs.length i = some i.toNat := by
    unfold L2.ixN
    rw [if_pos h0, if_pos (by omega)]
  show bnd (bnd (getC k) fun c => match c with | .lst xs => ret (k, xs) | _ => bad) (fun p => bnd (ofO (intOf (.int i))) fun j => bnd (ofO (L2.ixN p.2.length j)) fun n => put lo p.1 (.lst (p.2.set n d))) s = _
  rw [bnd_app, bnd_app, getC_app h, bind_ok]
  show (bnd (ofO (some i)) fun j => bnd (ofO (L2.ixN xs.length j)) fun n => put lo k (.lst (xs.set n d))) s = _
  rw [bnd_app, ofO_app, bind_ok, bnd_app, e, ofO_app, bind_ok]
  unfold put
  rw [hu, Bool.or_true, if_pos rfl]
theorem ints_under {xs : List Int} {n : Nat} : underL n (xs.map D.int) = true := by
  induction xs with
  | nil => rfl
  | cons x xs ih =>
    rw [List.map_cons]
    unfold underL D.under
    rw [ih]
    rfl
theorem pow18 {g : G} {lo : Nat} {r : Env} {s : Sto} : ev g lo (.bin .Pow false (.int 10) (.int 18)) r s = .ok (.int 1000000000000000000) s := by rfl
theorem ge_ev {g : G} {lo : Nat} {a b : E} {r : Env} {s s1 s2 : Sto} {i j : Int} (h1 : ev g lo a r s = .ok (.int i) s1) (h2 : ev g lo b r s1 = .ok (.int j) s2) : tst g lo (.cmp .GtE a b) r s = .ok (decide (j ≤ i)) s2 := by
  unfold tst ev
  rw [bnd_app, bnd_app, h1, bind_ok, bnd_app, h2, bind_ok]
  rfl
theorem take_body {g : G} {lo : Nat} {s : Sto} {k c : Nat} {b many : Int} {N B C : Env → Sto → Prop} {T : D → Sto → Prop} (hm : 0 < many) (hm2 : many < 2 ^ 64) (hd : Draw s k c b) (hb : b < 2 ^ 60)
    (q : ∀ n s', 0 ≤ n → n < many → Draw s' k c (b + 1) → Fr k c s s' → T (.int n) s') : Wp (exs g lo takeB (startE 6 [.m k, .int many]) s) N B C T := by
  obtain ⟨xs, a, d2, d3, h1, h2, h3, h4, h5, h6, h7, h8, h9, h10⟩ := hd
  have lk : k < s.length := (List.getElem?_eq_some_iff.mp h1).1
  have lc : c < s.length := (List.getElem?_eq_some_iff.mp h2).1
  have lx : 0 < xs.length := List.length_pos_iff.mpr h3
  unfold takeB
  show Wp (exs g lo _ [some (.m k), some (.int many), none, none, none, none] s) N B C T
  refine st_set (sub_ev (ev_var rfl) rfl (sub_cell h1 rfl)) (by simp) ?_
  show Wp (exs g lo _ [some (.m k), some (.int many), some (.m c), none, none, none] s) N B C T
  have ep : ev g lo (.bin .Mod false (.bi .int false [.sub (.var 0) (.int 1)]) (.bi .len false [.var 2])) [some (.m k), some (.int many), some (.m c), none, none, none] s = .ok (.int (a % (xs.length : Int))) s := by
    rw [bin_ev (int_ev (sub_ev (ev_var rfl) rfl (sub_cell h1 rfl))) (y := .int (xs.length : Int)) (s2 := s)]
    · exact mod_ok (by omega)
    · unfold ev evs evs
      rw [bnd_app, bnd_app, ev_var rfl, bind_ok]
      show lenV (.m c) s = _
      rw [len_cell h2, List.length_map]
  refine st_set ep (by simp) ?_
  have p0 : 0 ≤ a % (xs.length : Int) := Int.emod_nonneg _ (by omega)
  have p1 : a % (xs.length : Int) < xs.length := Int.emod_lt_of_pos _ (by omega)
  generalize a % (xs.length : Int) = pl at p0 p1
  show Wp (exs g lo _ [some (.m k), some (.int many), some (.m c), some (.int pl), none, none] s) N B C T
  obtain ⟨x, ex⟩ : ∃ x, xs[pl.toNat]? = some x := ⟨_, List.getElem?_eq_getElem (by omega)⟩
  have x0 : 0 ≤ x := h4 x (List.mem_of_getElem? ex)
  refine st_set (sub_ev (ev_var rfl) (ev_var rfl) (sub_cell (d := .int x) h2 (atI_at p0 (by rw [List.getElem?_map, ex]; rfl)))) (by simp) ?_
  show Wp (exs g lo _ [some (.m k), some (.int many), some (.m c), some (.int pl), some (.int x), none] s) N B C T
  refine st_if (ge_ev (ev_var rfl) pow18) (fun hc => ?_) (fun hc => ?_)
  · have hx : (xs.map D.int).set pl.toNat (.int (x / many)) = (xs.set pl.toNat (x / many)).map D.int := by rw [List.map_set]
    have hu : (Lf.C.lst ((xs.map D.int).set pl.toNat (.int (x / many)))).under (c + 1) = true := by
      rw [hx]
      exact ints_under
    refine st_sts (by rw [bin_ev (ev_var rfl) (ev_var rfl)]; exact fdiv_ok hm hm2) (ev_var rfl) (ev_var rfl) (sts_cell h2 p0 (by rw [List.length_map]; omega) hu) ?_
    refine st_ret (by rw [bin_ev (int_ev (ev_var rfl)) (ev_var rfl)]; exact mod_ok hm) ?_
    refine q _ _ (Int.emod_nonneg _ (by omega)) (Int.emod_lt_of_pos _ hm) ?_ ⟨List.length_set, fun j n1 n2 => List.getElem?_set_ne (Ne.symm n2)⟩
    rw [hx]
    refine ⟨xs.set pl.toNat (x / many), a, d2, d3, ?_, ?_, ?_, ?_, by rw [List.length_set]; exact h5, h6, h7, h8, by omega, h10⟩
    · rw [List.getElem?_set_ne (by omega)]
      exact h1
    · exact List.getElem?_set_self lc
    · exact fun z => h3 (by rw [← List.length_eq_zero_iff, ← List.length_set (as := xs) (i := pl.toNat) (a := x / many), z]; rfl)
    · intro y hy
      rcases List.mem_or_eq_of_mem_set hy with z | z
      · exact h4 y z
      · rw [z]
        exact Int.ediv_nonneg x0 (by omega)
  · have hx18 : x < 1000000000000000000 := by
      have := of_decide_eq_false hc
      omega
    rw [wp_nil]
    have u1 : ∀ (i1 i2 i3 : Int), (Lf.C.lst [.m c, .int i1, .int i2, .int i3]).under (k + 1) = true := by
      intro i1 i2 i3
      show (decide (c < k + 1) && true) = true
      rw [decide_eq_true (by omega)]
      rfl
    refine st_sts (s1 := s) (d := .int (a + 1)) (by rw [bin_ev (sub_ev (ev_var rfl) rfl (sub_cell h1 rfl)) rfl]; rfl) (ev_var rfl) rfl (sts_cell h1 (by omega) (by simp) (u1 (a + 1) d2 d3)) ?_
    have g1 : (s.set k (.lst [.m c, .int (a + 1), .int d2, .int d3]))[k]? = some (.lst [.m c, .int (a + 1), .int d2, .int d3]) := List.getElem?_set_self lk
    show Wp (exs g lo _ _ (s.set k (.lst [.m c, .int (a + 1), .int d2, .int d3]))) N B C T
    generalize hs1 : s.set k (.lst [.m c, .int (a + 1), .int d2, .int d3]) = s1 at g1
    have l1 : k < s1.length := (List.getElem?_eq_some_iff.mp g1).1
    refine st_sts (s1 := s1) (d := .int (d3 + 1)) (by rw [bin_ev (sub_ev (ev_var rfl) rfl (sub_cell g1 rfl)) rfl]; rfl) (ev_var rfl) rfl (sts_cell g1 (by omega) (by simp) (u1 (a + 1) d2 (d3 + 1))) ?_
    have g2 : (s1.set k (.lst [.m c, .int (a + 1), .int d2, .int (d3 + 1)]))[k]? = some (.lst [.m c, .int (a + 1), .int d2, .int (d3 + 1)]) := List.getElem?_set_self l1
    show Wp (exs g lo _ _ (s1.set k (.lst [.m c, .int (a + 1), .int d2, .int (d3 + 1)]))) N B C T
    generalize hs2 : s1.set k (.lst [.m c, .int (a + 1), .int d2, .int (d3 + 1)]) = s2 at g2
    have l2 : k < s2.length := (List.getElem?_eq_some_iff.mp g2).1
    have em : ev g lo (.bin .Mod false (.bi .int false [.bin .Add false (.bin .Add false (.bin .Add false (.bin .Mult false (.sub (.var 0) (.int 2)) (.int 48271)) (.var 4)) (.bin .Mult false (.int 7919) (.sub (.var 0) (.int 3)))) (.int 12345)]) (.int 2147483647))
        [some (.m k), some (.int many), some (.m c), some (.int pl), some (.int x), none] s2 = .ok (.int ((d2 * 48271 + x + 7919 * (d3 + 1) + 12345) % 2147483647)) s2 := by
      have e1 : ev g lo (.bin .Mult false (.sub (.var 0) (.int 2)) (.int 48271)) [some (.m k), some (.int many), some (.m c), some (.int pl), some (.int x), none] s2 = .ok (.int (d2 * 48271)) s2 := by
        rw [bin_ev (sub_ev (ev_var rfl) rfl (sub_cell (d := .int d2) g2 rfl)) rfl]
        exact mul_ok (by omega) (by omega) (by omega) (by omega)
      have e2 : ev g lo (.bin .Mult false (.int 7919) (.sub (.var 0) (.int 3))) [some (.m k), some (.int many), some (.m c), some (.int pl), some (.int x), none] s2 = .ok (.int (7919 * (d3 + 1))) s2 := by
        rw [bin_ev rfl (sub_ev (ev_var rfl) rfl (sub_cell (d := .int (d3 + 1)) g2 rfl))]
        exact mul_ok (by omega) (by omega) (by omega) (by omega)
      rw [bin_ev (int_ev (by rw [bin_ev (by rw [bin_ev (by rw [bin_ev e1 (ev_var rfl)]; exact add_ok) e2]; exact add_ok) rfl]; exact add_ok)) rfl]
      exact mod_ok (by omega)
    refine st_sts em (ev_var rfl) rfl (sts_cell g2 (by omega) (by simp) (u1 (a + 1) _ (d3 + 1))) ?_
    have m0 : 0 ≤ (d2 * 48271 + x + 7919 * (d3 + 1) + 12345) % 2147483647 := Int.emod_nonneg _ (by omega)
    have m1 : (d2 * 48271 + x + 7919 * (d3 + 1) + 12345) % 2147483647 < 2147483647 := Int.emod_lt_of_pos _ (by omega)
    generalize (d2 * 48271 + x + 7919 * (d3 + 1) + 12345) % 2147483647 = dn at m0 m1
    have g3 : (s2.set k (.lst [.m c, .int (a + 1), .int dn, .int (d3 + 1)]))[k]? = some (.lst [.m c, .int (a + 1), .int dn, .int (d3 + 1)]) := List.getElem?_set_self l2
    show Wp (exs g lo _ _ (s2.set k (.lst [.m c, .int (a + 1), .int dn, .int (d3 + 1)]))) N B C T
    generalize hs3 : s2.set k (.lst [.m c, .int (a + 1), .int dn, .int (d3 + 1)]) = s3 at g3
    have e5 : ev g lo (.bin .Mod false (.bi .int false [.bin .Mult false (.sub (.var 0) (.int 2)) (.sub (.var 0) (.int 2))]) (.int 2147483629)) [some (.m k), some (.int many), some (.m c), some (.int pl), some (.int x), none] s3 = .ok (.int (dn * dn % 2147483629)) s3 := by
      rw [bin_ev (int_ev (by rw [bin_ev (sub_ev (ev_var rfl) rfl (sub_cell (d := .int dn) g3 rfl)) (sub_ev (ev_var rfl) rfl (sub_cell (d := .int dn) g3 rfl))]; exact mul_ok (by omega) (by omega) (by omega) (by omega))) rfl]
      exact mod_ok (by omega)
    refine st_set e5 (by simp) ?_
    generalize dn * dn % 2147483629 = dm
    show Wp (exs g lo _ [some (.m k), some (.int many), some (.m c), some (.int pl), some (.int x), some (.int dm)] s3) N B C T
    refine st_ret (by rw [bin_ev (int_ev (by rw [bin_ev (ev_var rfl) rfl]; exact fdiv_ok (by omega) (by omega))) (ev_var rfl)]; exact mod_ok hm) ?_
    have oth : ∀ j, j ≠ k → s3[j]? = s[j]? := fun j n => by
      rw [← hs3, List.getElem?_set_ne (Ne.symm n), ← hs2, List.getElem?_set_ne (Ne.symm n), ← hs1, List.getElem?_set_ne (Ne.symm n)]
    refine q _ _ (Int.emod_nonneg _ (by omega)) (Int.emod_lt_of_pos _ hm) ⟨xs, a + 1, dn, d3 + 1, g3, ?_, h3, h4, h5, m0, m1, by omega, by omega, h10⟩ ⟨by rw [← hs3, List.length_set, ← hs2, List.length_set, ← hs1, List.length_set], fun j n1 _ => oth j n1⟩
    rw [oth c (by omega)]
    exact h2
section
variable {p : Prog} {turns n lo ti pi : Nat} {s : Sto} {k c : Nat} {b many : Int} {Q : D → Sto → Prop}
abbrev takeF : Fn := ⟨2, [], 6, false, takeB⟩
theorem take_len {s1 s : Sto} {j c k : Nat} (h : Fr k c s s1) : s1.take s.length = s1 := by
  rw [← h.len, List.take_length]
theorem take_wp (hT : p.fns[ti]? = some takeF) (hm : 0 < many) (hm2 : many < 2 ^ 64) (hd : Draw s k c b) (hb : b < 2 ^ 60)
    (q : ∀ i s', 0 ≤ i → i < many → Draw s' k c (b + 1) → Fr k c s s' → Q (.int i) s') : WpM ((p.at_ turns (n + 1)).call lo ti [.m k, .int many] s) Q := by
  refine wm_call hT rfl (wm_run rfl (take_body hm hm2 hd hb fun i s' h1 h2 h3 h4 => ⟨rfl, ?_⟩))
  rw [← h4.len, List.take_length]
  exact q i s' h1 h2 h3 h4
abbrev pickB (ti : Nat) : List S := [.ret (.sub (.var 1) (.call ti [] [0, 1] [.var 0, .bi .len false [.var 1]] []))]
abbrev pickF (ti : Nat) : Fn := ⟨2, [], 2, false, pickB ti⟩
theorem wm_callE {g : G} {f : Nat} {ks : List Str} {ord : List Nat} {es kes : List E} {r : Env} {Q : D → Sto → Prop} : WpM (ev g lo (.call f ks ord es kes) r s) Q = WpM (evs g lo es r s) fun xs s1 => WpM (evs g lo kes r s1) fun ys s2 => WpM (g.call lo f (pick ord (xs ++ ys ++ g.dfl f)) s2) Q := by
  conv => lhs; unfold ev
  rw [wm_bnd]
  congr 1
  funext xs s1
  rw [wm_bnd]
theorem wm_sub {g : G} {a b : E} {r : Env} {Q : D → Sto → Prop} : WpM (ev g lo (.sub a b) r s) Q = WpM (ev g lo a r s) fun x s1 => WpM (ev g lo b r s1) fun y s2 => WpM (subV x y s2) Q := by
  conv => lhs; unfold ev
  rw [wm_bnd]
  congr 1
  funext xs s1
  rw [wm_bnd]
theorem pick_wp (hT : p.fns[ti]? = some takeF) (hP : p.fns[pi]? = some (pickF ti)) {xs : List D} (h0 : xs ≠ []) (hl : xs.length < 2 ^ 64) (hu : underL 0 xs = true) (hd : Draw s k c b) (hb : b < 2 ^ 60)
    (q : ∀ x s', x ∈ xs → Draw s' k c (b + 1) → Fr k c s s' → Q x s') : WpM ((p.at_ turns (n + 2)).call lo pi [.m k, .lst xs] s) Q := by
  have lx : 0 < xs.length := List.length_pos_iff.mpr h0
  refine wm_call hP rfl (wm_run rfl (st_retW ?_))
  show WpM (ev _ _ _ [some (.m k), some (.lst xs)] s) _
  rw [wm_sub, wm_eq (ev_var rfl), wm_callE]
  show WpM ((p.at_ turns (n + 1)).call s.length ti (pick [0, 1] ([.m k, .int xs.length] ++ [] ++ (p.at_ turns (n + 1)).dfl ti)) s) _
  show WpM ((p.at_ turns (n + 1)).call s.length ti [.m k, .int xs.length] s) _
  refine take_wp hT (by omega) (by omega) hd hb fun i s' h1 h2 h3 h4 => ?_
  have hi : i.toNat < xs.length := by omega
  have e : subV (.lst xs) (.int i) s' = .ok (xs[i.toNat]) s' := by
    show ofO (L2.atI xs i) s' = _
    rw [atI_at h1 (List.getElem?_eq_getElem hi)]
    rfl
  rw [wm_eq e]
  have mem : xs[i.toNat] ∈ xs := List.getElem_mem hi
  have pure : ∀ {ds : List D} {d : D}, underL 0 ds = true → d ∈ ds → d.under 0 = true := by
    intro ds d h hm
    induction ds with
    | nil => cases hm
    | cons a r ih =>
      unfold underL at h
      obtain ⟨h1, h2⟩ := Bool.and_eq_true_iff.mp h
      rcases List.mem_cons.mp hm with rfl | hm
      · exact h1
      · exact ih h2 hm
  refine ⟨pure hu mem, ?_⟩
  rw [← h4.len, List.take_length]
  exact q _ s' mem h3 h4
theorem pick_str (hT : p.fns[ti]? = some takeF) (hP : p.fns[pi]? = some (pickF ti)) {x : Str} (h0 : 0 < x.length) (hl : x.length < 2 ^ 64) (hd : Draw s k c b) (hb : b < 2 ^ 60)
    (q : ∀ ch s', ch ∈ x.cps.toList → Draw s' k c (b + 1) → Fr k c s s' → Q (.str ⟨#[ch]⟩) s') : WpM ((p.at_ turns (n + 2)).call lo pi [.m k, .str x] s) Q := by
  refine wm_call hP rfl (wm_run rfl (st_retW ?_))
  show WpM (ev _ _ _ [some (.m k), some (.str x)] s) _
  rw [wm_sub, wm_eq (ev_var rfl), wm_callE]
  show WpM ((p.at_ turns (n + 1)).call s.length ti [.m k, .int x.length] s) _
  refine take_wp hT (by omega) (by omega) hd hb fun i s' h1 h2 h3 h4 => ?_
  have el : x.cps.toList.length = x.length := by
    rw [Array.length_toList]
    rfl
  have hi : i.toNat < x.cps.toList.length := by omega
  have e : subV (.str x) (.int i) s' = .ok (.str ⟨#[x.cps.toList[i.toNat]]⟩) s' := by
    show ofO ((L2.atI x.cps.toList i).map fun c => D.str ⟨#[c]⟩) s' = _
    rw [atI_at h1 (List.getElem?_eq_getElem hi)]
    rfl
  rw [wm_eq e]
  refine ⟨rfl, ?_⟩
  rw [← h4.len, List.take_length]
  exact q _ s' (List.getElem_mem hi) h3 h4
end
/-! ### comprehensions -/
theorem compL_map {t : T} {d : Option D} {fc : Env → M Bool} {fe : Env → M D} {r : Env} {s : Sto} {f : D → D} (hs : stays d s s = true) : ∀ {xs : List D}, (∀ x ∈ xs, ∃ r1, asgT t x r = some r1 ∧ fc r1 s = .ok true s ∧ fe r1 s = .ok (f x) s) → compL t d fc fe r xs s = .ok (xs.map f) s
  | [], _ => rfl
  | x :: xs, h => by
    obtain ⟨r1, h1, h2, h3⟩ := h x List.mem_cons_self
    have ih := compL_map (fc := fc) (fe := fe) (f := f) hs (xs := xs) fun y hy => h y (List.mem_cons_of_mem _ hy)
    unfold compL
    rw [h1, bnd_app, ofO_app, bind_ok, bnd_app]
    unfold noErr
    rw [h2, bind_ok, if_pos rfl, bnd_app, h3, bind_ok, bnd_app]
    unfold stay
    rw [hs, if_pos rfl, bind_ok, bnd_app, ih]
    rfl
theorem compL_filter {t : T} {d : Option D} {fc : Env → M Bool} {fe : Env → M D} {r : Env} {s : Sto} {b : D → Bool} {f : D → D} (hs : stays d s s = true) : ∀ {xs : List D}, (∀ x ∈ xs, ∃ r1, asgT t x r = some r1 ∧ fc r1 s = .ok (b x) s ∧ (b x = true → fe r1 s = .ok (f x) s)) → compL t d fc fe r xs s = .ok ((xs.filter b).map f) s
  | [], _ => rfl
  | x :: xs, h => by
    obtain ⟨r1, h1, h2, h3⟩ := h x List.mem_cons_self
    have ih := compL_filter (fc := fc) (fe := fe) (f := f) (b := b) hs (xs := xs) fun y hy => h y (List.mem_cons_of_mem _ hy)
    unfold compL
    rw [h1, bnd_app, ofO_app, bind_ok, bnd_app]
    unfold noErr
    rw [h2, bind_ok]
    cases hb : b x with
    | true =>
      rw [if_pos rfl, bnd_app, h3 hb, bind_ok, bnd_app]
      unfold stay
      rw [hs, if_pos rfl, bind_ok, bnd_app, ih, List.filter_cons, if_pos hb]
      rfl
    | false =>
      rw [if_neg Bool.false_ne_true, bnd_app]
      unfold stay
      rw [hs, if_pos rfl, bind_ok, ih, List.filter_cons, if_neg (by rw [hb]; exact Bool.false_ne_true)]
abbrev beginB : List S := [.ret (.lst true [.bo true [.comp true (.bi .abs true [.var 1]) [1] (.nm 1) .val [.slc (.var 0) [] [.int 63]] [], .lst true [.int 7]], .int 0, .int 1, .int 0])]
abbrev beginF : Fn := ⟨1, [], 2, true, beginB⟩
theorem cut_ints {ns : List Int} (h : ns.length ≤ 63) : ∃ zs : List Int, cutD (ns.map D.int) none (some 63) = zs.map D.int ∧ zs.length ≤ 63 := by
  unfold cutD
  refine ⟨(ns.drop 0).take (HT.sIx (ns.map D.int).length (ns.map D.int).length (some 63) - HT.sIx (ns.map D.int).length 0 none), ?_, ?_⟩
  · rw [List.map_take, List.map_drop]
    rfl
  · rw [List.length_take, List.length_drop]
    omega
theorem begin_comp {g : G} {lo : Nat} {ns : List Int} (h : ns.length ≤ 63) : ∃ zs : List Int, (∀ z ∈ zs, 0 ≤ z) ∧ zs.length ≤ 63 ∧
    ev g lo (.comp true (.bi .abs true [.var 1]) [1] (.nm 1) .val [.slc (.var 0) [] [.int 63]] []) [some (.scr ns), none] [] = .ok (.m 0) [.lst (zs.map D.int)] := by
  obtain ⟨zs, e1, e2⟩ := cut_ints h
  refine ⟨zs.map fun i => if i < 0 then -i else i, ?_, by rw [List.length_map]; exact e2, ?_⟩
  · intro z hz
    obtain ⟨i, _, rfl⟩ := List.mem_map.mp hz
    split <;> omega
  · have e3 : ev g lo (.slc (.var 0) [] [.int 63]) [some (.scr ns), none] [] = .ok (.lst (zs.map D.int)) [] := by
      show R.ok (D.lst (cutD (ns.map D.int) none (some 63))) [] = _
      rw [e1]
    unfold ev evs evs
    rw [bnd_app, bnd_app, e3, bind_ok]
    show ((bnd (walkW .val [.lst (zs.map D.int)]) fun xs => chk (decide (xs.length ≤ sizeLine)) (bnd (compL (.nm 1) (srcOf .val [.lst (zs.map D.int)]) (fun r1 => evc g lo [] r1) (fun r1 => ev g lo (.bi .abs true [.var 1]) r1) (wipeE [some (.scr ns), none] [1]) xs) fun ys => if true = true then new (.lst ys) else ret (.lst ys))) []) = _
    have e4 : compL (.nm 1) (srcOf .val [.lst (zs.map D.int)]) (fun r1 => evc g lo [] r1) (fun r1 => ev g lo (.bi .abs true [.var 1]) r1) (wipeE [some (.scr ns), none] [1]) (zs.map D.int) [] =
        .ok ((zs.map D.int).map fun d => match d with | .int i => .int (if i < 0 then -i else i) | d => d) [] := by
      refine compL_map rfl fun x hx => ?_
      obtain ⟨i, _, rfl⟩ := List.mem_map.mp hx
      exact ⟨[some (.scr ns), some (.int i)], rfl, rfl, rfl⟩
    show (chk (decide ((zs.map D.int).length ≤ sizeLine)) (bnd (compL (.nm 1) (srcOf .val [.lst (zs.map D.int)]) (fun r1 => evc g lo [] r1) (fun r1 => ev g lo (.bi .abs true [.var 1]) r1) (wipeE [some (.scr ns), none] [1]) (zs.map D.int)) fun ys => if true = true then new (.lst ys) else ret (.lst ys))) [] = _
    have l1 : (zs.map D.int).length ≤ sizeLine := by
      rw [List.length_map]
      exact Nat.le_trans e2 (by decide)
    rw [chk_app, if_pos (decide_eq_true l1), bnd_app, e4, bind_ok, if_pos rfl, List.map_map, List.map_map]
    rfl
theorem begin_wp {p : Prog} {turns n lo bi : Nat} (hB : p.fns[bi]? = some beginF) {ns : List Int} (h : ns.length ≤ 63) {Q : D → Sto → Prop} (q : ∀ k c s', Draw s' k c 0 → s'.length = k + 1 → Q (.m k) s') : WpM ((p.at_ turns (n + 1)).call lo bi [.scr ns] []) Q := by
  obtain ⟨zs, h1, h2, h3⟩ := begin_comp (g := p.at_ turns n) (lo := lo) h
  refine wm_call hB rfl (wm_runK rfl ?_)
  show Wp (exs (p.at_ turns n) lo beginB [some (.scr ns), none] []) _ _ _ _
  cases zs with
  | nil =>
    have e : ev (p.at_ turns n) lo (.bo true [.comp true (.bi .abs true [.var 1]) [1] (.nm 1) .val [.slc (.var 0) [] [.int 63]] [], .lst true [.int 7]]) [some (.scr ns), none] [] = .ok (.m 1) [.lst [], .lst [.int 7]] := by
      unfold ev evb evb
      rw [bnd_app, h3]
      rfl
    refine st_ret (d := .m 2) (s1 := [.lst [], .lst [.int 7], .lst [.m 1, .int 0, .int 1, .int 0]]) ?_ (q 2 1 _ ⟨[7], 0, 1, 0, rfl, rfl, by simp, by simp, by simp, by omega, by omega, by omega, by omega, by omega⟩ rfl)
    unfold ev evs
    rw [bnd_app, bnd_app, e]
    rfl
  | cons z zs =>
    have e : ev (p.at_ turns n) lo (.bo true [.comp true (.bi .abs true [.var 1]) [1] (.nm 1) .val [.slc (.var 0) [] [.int 63]] [], .lst true [.int 7]]) [some (.scr ns), none] [] = .ok (.m 0) [.lst ((z :: zs).map D.int)] := by
      unfold ev evb
      rw [bnd_app, h3]
      rfl
    refine st_ret (d := .m 1) (s1 := [.lst ((z :: zs).map D.int), .lst [.m 0, .int 0, .int 1, .int 0]]) ?_ (q 1 0 _ ⟨z :: zs, 0, 1, 0, rfl, rfl, by simp, h1, by omega, by omega, by omega, by omega, by omega, by omega⟩ rfl)
    unfold ev evs
    rw [bnd_app, bnd_app, e]
    rfl
end Lf
end
section
set_option maxHeartbeats 4000000
/-! Values of expressions, one construct at a time. -/
namespace Lf
open PySem
section
variable {g : G} {lo : Nat} {r : Env} {s s1 s2 : Sto} {a b c e : E} {d x y : D} {i j : Int}
theorem glo_ev {k : Nat} (h : g.glo k = some d) : ev g lo (.glo k) r s = .ok d s := by
  unfold ev
  rw [h]
  rfl
theorem nt_ev {b : Bool} (h : ev g lo a r s = .ok (.bl b) s1) : ev g lo (.nt a) r s = .ok (.bl (!b)) s1 := by
  unfold ev
  rw [bnd_app, h]
  rfl
theorem isi_ev {t : Tg} {ts : List Tn} (h : ev g lo a r s = .ok d s1) (h2 : tagOf d s1 = .ok t s1) : ev g lo (.isi a ts) r s = .ok (.bl (ts.any (isTn t))) s1 := by
  unfold ev
  rw [bnd_app, h, bind_ok, bnd_app, h2]
  rfl
theorem bo1_ev {or : Bool} (h : ev g lo a r s = .ok d s1) : ev g lo (.bo or [a]) r s = .ok d s1 := by
  unfold ev evb
  exact h
theorem boT_ev {or : Bool} {es : List E} (h : ev g lo a r s = .ok d s1) (h2 : truth d s1 = .ok or s1) : ev g lo (.bo or (a :: b :: es)) r s = .ok d s1 := by
  unfold ev evb
  rw [bnd_app, h, bind_ok, bnd_app, h2, bind_ok, if_pos rfl]
  rfl
theorem boF_ev {or : Bool} {es : List E} {k : Bool} (h : ev g lo a r s = .ok d s1) (h2 : truth d s1 = .ok k s1) (hk : k ≠ or) (h3 : ev g lo (.bo or (b :: es)) r s1 = .ok x s2) : ev g lo (.bo or (a :: b :: es)) r s = .ok x s2 := by
  have e3 : evb g lo or (b :: es) r s1 = .ok x s2 := by
    unfold ev at h3
    exact h3
  unfold ev
  conv => lhs; unfold evb
  rw [bnd_app, h, bind_ok, bnd_app, h2, bind_ok, if_neg hk]
  exact e3
/-- two bools -/
theorem or_ev {p q : Bool} (h : ev g lo a r s = .ok (.bl p) s) (h2 : ev g lo b r s = .ok (.bl q) s) : ev g lo (.bo true [a, b]) r s = .ok (.bl (p || q)) s := by
  cases p with
  | true => exact boT_ev h rfl
  | false => exact boF_ev h rfl Bool.false_ne_true (bo1_ev h2)
theorem and_ev {p q : Bool} (h : ev g lo a r s = .ok (.bl p) s) (h2 : p = true → ev g lo b r s = .ok (.bl q) s) : ev g lo (.bo false [a, b]) r s = .ok (.bl (p && q)) s := by
  cases p with
  | false => exact boT_ev h rfl
  | true => exact boF_ev h rfl (fun z => by cases z) (bo1_ev (h2 rfl))
theorem cmp_ev {op : CmpOp} {k : Bool} (h : ev g lo a r s = .ok x s1) (h2 : ev g lo b r s1 = .ok y s2) (h3 : cmpB op x y s2 = .ok k s2) : ev g lo (.cmp op a b) r s = .ok (.bl k) s2 := by
  unfold ev
  rw [bnd_app, h, bind_ok, bnd_app, h2, bind_ok, bnd_app, h3]
  rfl
theorem cmp2_ev {op op' : CmpOp} {k k' : Bool} {z : D} (h : ev g lo a r s = .ok x s) (h2 : ev g lo b r s = .ok y s) (h3 : cmpB op x y s = .ok k s) (h4 : ev g lo c r s = .ok z s) (h5 : cmpB op' y z s = .ok k' s) : ev g lo (.cmp2 op op' a b c) r s = .ok (.bl (k && k')) s := by
  unfold ev
  rw [bnd_app, h, bind_ok, bnd_app, h2, bind_ok, bnd_app, h3, bind_ok]
  cases k with
  | true =>
    rw [if_pos rfl, bnd_app, h4, bind_ok, bnd_app, h5]
    rfl
  | false => rfl
theorem tst_ev {k : Bool} (h : ev g lo a r s = .ok d s1) (h2 : truth d s1 = .ok k s1) : tst g lo a r s = .ok k s1 := by
  unfold tst
  rw [bnd_app, h, bind_ok]
  exact h2
theorem evs_nil : evs g lo [] r s = .ok [] s := rfl
theorem evs_cons {es : List E} {ds : List D} (h : ev g lo a r s = .ok d s1) (h2 : evs g lo es r s1 = .ok ds s2) : evs g lo (a :: es) r s = .ok (d :: ds) s2 := by
  conv => lhs; unfold evs
  rw [bnd_app, h, bind_ok, bnd_app, h2]
  rfl
theorem lst_ev {es : List E} {ds : List D} (h : evs g lo es r s = .ok ds s1) (hl : ds.length ≤ sizeLine) : ev g lo (.lst false es) r s = .ok (.lst ds) s1 := by
  unfold ev
  rw [bnd_app, h, bind_ok]
  unfold mkL
  rw [chk_app, if_pos (decide_eq_true hl)]
  rfl
theorem tup_ev {es : List E} {ds : List D} (h : evs g lo es r s = .ok ds s1) (hl : ds.length ≤ sizeLine) : ev g lo (.tup es) r s = .ok (.tup ds) s1 := by
  unfold ev
  rw [bnd_app, h, bind_ok]
  unfold mkT
  rw [chk_app, if_pos (decide_eq_true hl)]
  rfl
theorem bi1_ev {f : Bi} {mu : Bool} (h : ev g lo a r s = .ok d s1) (h2 : biV f mu [d] s1 = .ok x s2) : ev g lo (.bi f mu [a]) r s = .ok x s2 := by
  unfold ev
  rw [bnd_app, evs_cons h evs_nil, bind_ok]
  exact h2
theorem comp_val {elt : E} {own : List Nat} {t : T} {cs : List E} {xs ys : List D} (h1 : ev g lo a r s = .ok d s) (h2 : walkV d s = .ok xs s) (hl : xs.length ≤ sizeLine)
    (h3 : compL t (some d) (fun r1 => evc g lo cs r1) (fun r1 => ev g lo elt r1) (wipeE r own) xs s = .ok ys s) : ev g lo (.comp false elt own t .val [a] cs) r s = .ok (.lst ys) s := by
  unfold ev
  rw [bnd_app, evs_cons h1 evs_nil, bind_ok, bnd_app]
  show ((walkV d s).bind _) = _
  rw [h2, bind_ok, chk_app, if_pos (decide_eq_true hl), bnd_app]
  show ((compL t (some d) (fun r1 => evc g lo cs r1) (fun r1 => ev g lo elt r1) (wipeE r own) xs s).bind _) = _
  rw [h3]
  rfl
theorem xs_ret {xs : List S} (h : ev g lo a r s = .ok d s1) : exs g lo (.ret a :: xs) r s = .rt d s1 := by
  unfold exs ex
  rw [h]
  rfl
theorem xs_if {p q xs : List S} {k : Bool} (h : tst g lo a r s = .ok k s1) : exs g lo (.ife a p q :: xs) r s = (if k = true then exs g lo p r s1 else exs g lo q r s1).seq fun r1 s1 => exs g lo xs r1 s1 := by
  conv => lhs; unfold exs ex
  rw [h]
  rfl
theorem call_ev {f : Nat} {ks : List Str} {ord : List Nat} {es kes : List E} {xs ys : List D} (h : evs g lo es r s = .ok xs s1) (h2 : evs g lo kes r s1 = .ok ys s2) {s3 : Sto} (h3 : g.call lo f (pick ord (xs ++ ys ++ g.dfl f)) s2 = .ok d s3) : ev g lo (.call f ks ord es kes) r s = .ok d s3 := by
  conv => lhs; unfold ev
  rw [bnd_app, h, bind_ok, bnd_app, h2, bind_ok]
  exact h3
end
/-- a call that reads and writes nothing -/
def Pu (g : G) (i : Nat) (vs : List D) (d : D) : Prop := ∀ lo s, g.call lo i vs s = .ok d s
theorem pu_call {p : Prog} {turns n i : Nat} {f : Fn} {vs : List D} {d : D} (hf : p.fns[i]? = some f) (hl : vs.length = f.np) (hk : f.keep = false) (hu : d.under 0 = true) (h : ∀ lo s, exs (p.at_ turns n) lo f.body (startE f.n vs) s = .rt d s) : Pu (p.at_ turns (n + 1)) i vs d := by
  intro lo s
  unfold Prog.at_
  dsimp only
  rw [hf]
  dsimp only
  rw [if_pos hl]
  unfold runFn
  rw [hk, if_neg Bool.false_ne_true, h]
  dsimp only
  rw [frz_pure hu]
  dsimp only
  rw [List.take_length]
/-- one value, no defaults -/
theorem pu_ev {g : G} {lo f : Nat} {ks : List Str} {a : E} {r : Env} {s : Sto} {x d : D} (h : ev g lo a r s = .ok x s) (hd : g.dfl f = []) (h3 : Pu g f [x] d) : ev g lo (.call f ks [0] [a] []) r s = .ok d s ∧ ev g lo (.call f ks [0] [] [a]) r s = .ok d s := by
  have e1 : pick [0] ([x] ++ [] ++ g.dfl f) = [x] := by rw [hd]; rfl
  have e2 : pick [0] ([] ++ [x] ++ g.dfl f) = [x] := by rw [hd]; rfl
  exact ⟨call_ev (evs_cons h evs_nil) evs_nil (by rw [e1]; exact h3 lo s), call_ev evs_nil (evs_cons h evs_nil) (by rw [e2]; exact h3 lo s)⟩
/-! ### data -/
theorem pyW_pure {rec : Nat → Option PyData} : ∀ {d : D} {p : PyData}, D.pyW (fun _ => none) d = some p → D.pyW rec d = some p := by
  have go : ∀ n : Nat, (∀ (d : D) (p : PyData), sizeOf d < n → D.pyW (fun _ => none) d = some p → D.pyW rec d = some p) ∧ (∀ (ds : List D) (ps : List PyData), sizeOf ds < n → pyWL (fun _ => none) ds = some ps → pyWL rec ds = some ps) := by
    intro n
    induction n with
    | zero => exact ⟨fun _ _ h => absurd h (Nat.not_lt_zero _), fun _ _ h => absurd h (Nat.not_lt_zero _)⟩
    | succ n ih =>
      refine ⟨fun d p hd h => ?_, fun ds ps hd h => ?_⟩
      · cases d with
        | m k => unfold D.pyW at h; cases h
        | tup xs =>
          unfold D.pyW at h ⊢
          obtain ⟨q, e, rfl⟩ := Option.map_eq_some_iff.mp h
          rw [ih.2 xs q (by simp at hd; omega) e]
          rfl
        | lst xs =>
          unfold D.pyW at h ⊢
          obtain ⟨q, e, rfl⟩ := Option.map_eq_some_iff.mp h
          rw [ih.2 xs q (by simp at hd; omega) e]
          rfl
        | dct ks vs =>
          unfold D.pyW at h ⊢
          split at h
          · rename_i a b ea eb
            cases h
            rw [ih.2 ks a (by simp at hd; omega) ea, ih.2 vs b (by simp at hd; omega) eb]
          · cases h
        | _ =>
          unfold D.pyW at h ⊢
          exact h
      · cases ds with
        | nil =>
          unfold pyWL at h ⊢
          exact h
        | cons x xs =>
          unfold pyWL at h ⊢
          split at h
          · rename_i a b ea eb
            cases h
            rw [ih.1 x a (by simp at hd; omega) ea, ih.2 xs b (by simp at hd; omega) eb]
          · cases h
  exact fun {d p} h => (go (sizeOf d + 1)).1 d p (Nat.lt_succ_self _) h
/-- what a pure value reads as -/
def dat (d : D) : Option PyData := D.pyW (fun _ => none) d
theorem py_pure {d : D} {p : PyData} {s : Sto} (h : dat d = some p) : py d s = .ok p s := by
  show ofO (D.pyW (pyC s 20) d) s = _
  rw [pyW_pure h]
  rfl
/-- repr goes through -/
def shB (p : PyData) : Bool := p.showable && decide (p.depth ≤ 64) && decide (p.shown.length ≤ sizeLine)
theorem repr_pure {d : D} {p : PyData} {s : Sto} {mu : Bool} (h : dat d = some p) (h2 : shB p = true) : biV .repr mu [d] s = .ok (.str p.shown) s := by
  show bnd (py d) (fun p => chk (p.showable && decide (p.depth ≤ 64) && decide (p.shown.length ≤ sizeLine)) (ret (D.str p.shown))) s = _
  rw [bnd_app, py_pure h, bind_ok, chk_app]
  have h2 : (p.showable && decide (p.depth ≤ 64) && decide (p.shown.length ≤ sizeLine)) = true := h2
  rw [if_pos h2]
  rfl
theorem eq_str {x y : Str} {s : Sto} : eqB (.str x) (.str y) s = .ok (x == y) s := rfl
theorem eq_pure {x y : D} {p q : PyData} {s : Sto} (h0 : txtOf x = none) (h : dat x = some p) (h2 : dat y = some q) (h3 : plain p = true) (h4 : plain q = true) : eqB x y s = .ok (PyData.eqv p q) s := by
  unfold eqB
  rw [h0]
  dsimp only
  rw [bnd_app, py_pure h, bind_ok, bnd_app, py_pure h2, bind_ok, chk_app, h3, h4]
  rfl
theorem plain_strs {A : List Str} (h : A.all PyData.strOk = true) : plain (.list (A.map PyData.str)) = true := by
  have h2 : ∀ A : List Str, PyData.depthAll (A.map PyData.str) = 0 := by
    intro A
    induction A with
    | nil => rfl
    | cons a r ih =>
      rw [List.map_cons]
      unfold PyData.depthAll PyData.depth
      rw [ih]
      rfl
  have h3 : ∀ A : List Str, A.all PyData.strOk = true → PyData.canLayAll0 (A.map PyData.str) = true := by
    intro A
    induction A with
    | nil => intro _; rfl
    | cons a r ih =>
      intro h
      rw [List.all_cons] at h
      obtain ⟨q1, q2⟩ := Bool.and_eq_true_iff.mp h
      rw [List.map_cons]
      unfold PyData.canLayAll0 PyData.canLay0
      rw [ih q2, q1]
      rfl
  show (PyData.canLay0 (.list (A.map PyData.str)) && decide ((PyData.list (A.map PyData.str)).depth ≤ 64)) = true
  unfold PyData.canLay0 PyData.depth
  rw [h3 A h, h2 A]
  rfl
theorem dat_strs : ∀ {A : List Str}, pyWL (fun _ => none) (A.map D.str) = some (A.map PyData.str)
  | [] => rfl
  | a :: r => by
    rw [List.map_cons, List.map_cons]
    unfold pyWL D.pyW
    rw [dat_strs]
theorem dat_lst {xs : List D} {ps : List PyData} (h : pyWL (fun _ => none) xs = some ps) : dat (.lst xs) = some (.list ps) := by
  unfold dat D.pyW
  rw [h]
  rfl
/-! ### draws in expressions -/
theorem at_glo {p : Prog} {turns n i : Nat} : (p.at_ turns n).glo i = p.glo[i]? := by cases n <;> rfl
theorem at_dfl {p : Prog} {turns n i : Nat} {f : Fn} (h : p.fns[i]? = some f) : (p.at_ turns n).dfl i = f.dfl := by
  cases n <;> (unfold Prog.at_; dsimp only; rw [h])
section
variable {p : Prog} {turns n lo ti pi : Nat} {s : Sto} {k c : Nat} {b many : Int} {r : Env} {ea eb : E} {Q : D → Sto → Prop}
theorem take_ev (hT : p.fns[ti]? = some takeF) (ha : ev (p.at_ turns (n + 1)) lo ea r s = .ok (.m k) s) (hb : ev (p.at_ turns (n + 1)) lo eb r s = .ok (.int many) s) (hm : 0 < many) (hm2 : many < 2 ^ 64) (hd : Draw s k c b) (hb0 : b < 2 ^ 60)
    (q : ∀ i s', 0 ≤ i → i < many → Draw s' k c (b + 1) → Fr k c s s' → Q (.int i) s') : WpM (ev (p.at_ turns (n + 1)) lo (.call ti [] [0, 1] [ea, eb] []) r s) Q := by
  rw [wm_callE, wm_eq (evs_cons ha (evs_cons hb evs_nil)), wm_eq evs_nil, at_dfl hT]
  exact take_wp hT hm hm2 hd hb0 q
theorem pick_ev (hT : p.fns[ti]? = some takeF) (hP : p.fns[pi]? = some (pickF ti)) {xs : List D} (ha : ev (p.at_ turns (n + 2)) lo ea r s = .ok (.m k) s) (hb : ev (p.at_ turns (n + 2)) lo eb r s = .ok (.lst xs) s) (h0 : xs ≠ []) (hl : xs.length < 2 ^ 64) (hu : underL 0 xs = true) (hd : Draw s k c b) (hb0 : b < 2 ^ 60)
    (q : ∀ x s', x ∈ xs → Draw s' k c (b + 1) → Fr k c s s' → Q x s') : WpM (ev (p.at_ turns (n + 2)) lo (.call pi [] [0, 1] [ea, eb] []) r s) Q := by
  rw [wm_callE, wm_eq (evs_cons ha (evs_cons hb evs_nil)), wm_eq evs_nil, at_dfl hP]
  exact pick_wp hT hP h0 hl hu hd hb0 q
theorem pick_evS (hT : p.fns[ti]? = some takeF) (hP : p.fns[pi]? = some (pickF ti)) {x : Str} (ha : ev (p.at_ turns (n + 2)) lo ea r s = .ok (.m k) s) (hb : ev (p.at_ turns (n + 2)) lo eb r s = .ok (.str x) s) (h0 : 0 < x.length) (hl : x.length < 2 ^ 64) (hd : Draw s k c b) (hb0 : b < 2 ^ 60)
    (q : ∀ ch s', ch ∈ x.cps.toList → Draw s' k c (b + 1) → Fr k c s s' → Q (.str ⟨#[ch]⟩) s') : WpM (ev (p.at_ turns (n + 2)) lo (.call pi [] [0, 1] [ea, eb] []) r s) Q := by
  rw [wm_callE, wm_eq (evs_cons ha (evs_cons hb evs_nil)), wm_eq evs_nil, at_dfl hP]
  exact pick_str hT hP h0 hl hd hb0 q
end
section
variable {g : G} {lo : Nat} {r : Env} {s : Sto} {Q : D → Sto → Prop}
theorem wm_ife {a b c : E} : WpM (ev g lo (.ife c a b) r s) Q = WpM (ev g lo c r s) fun x s1 => WpM (truth x s1) fun k s2 => if k = true then WpM (ev g lo a r s2) Q else WpM (ev g lo b r s2) Q := by
  conv => lhs; unfold ev
  rw [wm_bnd]
  congr 1
  funext x s1
  rw [wm_bnd]
  congr 1
  funext k s2
  cases k <;> rfl
theorem wm_cmp {op : CmpOp} {a b : E} : WpM (ev g lo (.cmp op a b) r s) Q = WpM (ev g lo a r s) fun x s1 => WpM (ev g lo b r s1) fun y s2 => WpM (cmpB op x y s2) fun k s3 => Q (.bl k) s3 := by
  conv => lhs; unfold ev
  rw [wm_bnd]
  congr 1
  funext x s1
  rw [wm_bnd]
  congr 1
  funext y s2
  rw [wm_bnd]
  rfl
theorem wm_bin {op : Operator} {mu : Bool} {a b : E} : WpM (ev g lo (.bin op mu a b) r s) Q = WpM (ev g lo a r s) fun x s1 => WpM (ev g lo b r s1) fun y s2 => WpM (Lf.binop op mu x y s2) Q := by
  conv => lhs; unfold ev
  rw [wm_bnd]
  congr 1
  funext x s1
  rw [wm_bnd]
theorem wm_tst {a : E} {Q : Bool → Sto → Prop} : WpM (tst g lo a r s) Q = WpM (ev g lo a r s) fun x s1 => WpM (truth x s1) Q := by
  unfold tst
  rw [wm_bnd]
theorem wm_evs0 {Q : List D → Sto → Prop} : WpM (evs g lo [] r s) Q = Q [] s := rfl
theorem wm_evs {a : E} {es : List E} {Q : List D → Sto → Prop} : WpM (evs g lo (a :: es) r s) Q = WpM (ev g lo a r s) fun x s1 => WpM (evs g lo es r s1) fun xs s2 => Q (x :: xs) s2 := by
  conv => lhs; unfold evs
  rw [wm_bnd]
  congr 1
  funext x s1
  rw [wm_bnd]
  rfl
theorem wm_evs_app {es1 es2 : List E} : ∀ {s : Sto} {Q : List D → Sto → Prop}, WpM (evs g lo (es1 ++ es2) r s) Q = WpM (evs g lo es1 r s) fun xs s1 => WpM (evs g lo es2 r s1) fun ys s2 => Q (xs ++ ys) s2 := by
  induction es1 with
  | nil => intro s Q; rfl
  | cons a es1 ih =>
    intro s Q
    rw [List.cons_append, wm_evs, wm_evs]
    congr 1
    funext x s1
    rw [ih]
    congr 1
theorem wm_lst {es : List E} : WpM (ev g lo (.lst false es) r s) Q = WpM (evs g lo es r s) fun ds s1 => ds.length ≤ sizeLine ∧ Q (.lst ds) s1 := by
  conv => lhs; unfold ev
  rw [wm_bnd]
  congr 1
  funext ds s1
  show WpM (chk (decide (ds.length ≤ sizeLine)) (ret (D.lst ds)) s1) Q = _
  rw [wm_chk, decide_eq_true_eq]
  rfl
theorem wm_me {o : E} {f : Me} {es : List E} : WpM (ev g lo (.me o f es) r s) Q = WpM (ev g lo o r s) fun x s1 => WpM (meK f x s1) fun _ s2 => WpM (evs g lo es r s2) fun ys s3 => WpM (meV lo f x ys s3) Q := by
  conv => lhs; unfold ev
  rw [wm_bnd]
  congr 1
  funext x s1
  rw [wm_bnd]
  congr 1
  funext y s2
  rw [wm_bnd]
theorem wm_comp {elt : E} {own : List Nat} {t : T} {w : W} {src cs : List E} : WpM (ev g lo (.comp false elt own t w src cs) r s) Q = WpM (evs g lo src r s) fun ds s1 => WpM (walkW w ds s1) fun xs s2 => xs.length ≤ sizeLine ∧ WpM (compL t (srcOf w ds) (fun r1 => evc g lo cs r1) (fun r1 => ev g lo elt r1) (wipeE r own) xs s2) fun ys s3 => Q (.lst ys) s3 := by
  conv => lhs; unfold ev
  rw [wm_bnd]
  congr 1
  funext ds s1
  rw [wm_bnd]
  congr 1
  funext xs s2
  rw [wm_chk, wm_bnd, decide_eq_true_eq]
  rfl
theorem compL_wp {t : T} {d : Option D} {fc : Env → M Bool} {fe : Env → M D} {r : Env} (I : List D → List D → Sto → Prop)
    (step : ∀ x rest acc s, I (x :: rest) acc s → ∃ r1, asgT t x r = some r1 ∧ WpM (fc r1 s) fun k s1 => if k = true then WpM (fe r1 s1) fun y s2 => stays d s s2 = true ∧ I rest (acc ++ [y]) s2 else stays d s s1 = true ∧ I rest acc s1) :
    ∀ {xs acc : List D} {s : Sto} {Q : List D → Sto → Prop}, I xs acc s → (∀ ys s, I [] (acc ++ ys) s → Q ys s) → WpM (compL t d fc fe r xs s) Q
  | [], acc, s, Q, h, q => q [] s (by rw [List.append_nil]; exact h)
  | x :: xs, acc, s, Q, h, q => by
    obtain ⟨r1, ea, w⟩ := step x xs acc s h
    unfold compL
    rw [ea, wm_bnd, wm_eq ofO_app, wm_bnd, wm_noErr]
    refine w.mono fun k s1 w => ?_
    cases k with
    | true =>
      have w : WpM (fe r1 s1) fun y s2 => stays d s s2 = true ∧ I xs (acc ++ [y]) s2 := w
      rw [if_pos rfl, wm_bnd, wm_noErr]
      refine w.mono fun y s2 w => ?_
      rw [wm_bnd]
      unfold stay
      rw [w.1, if_pos rfl]
      show WpM (bnd (compL t d fc fe r xs) (fun ys => ret (y :: ys)) s2) Q
      rw [wm_bnd]
      refine compL_wp I step w.2 fun ys s3 h3 => ?_
      exact q (y :: ys) s3 (by rw [List.append_assoc] at h3; exact h3)
    | false =>
      have w : stays d s s1 = true ∧ I xs acc s1 := w
      rw [if_neg Bool.false_ne_true, wm_bnd]
      unfold stay
      rw [w.1, if_pos rfl]
      exact compL_wp I step w.2 q
end
end Lf
end
section
set_option maxHeartbeats 4000000
namespace K02
open PySem PySem.Spec PyProof.Rows L2 Lf
abbrev prog : Program := PySem.Challenge.pw_levelfolds_k02_names_titles_and_worths
def top (i : Nat) : Stmt := prog.main.body.getD i (.Pass ⟨0, 0, 0, 0⟩)
/-- is_name: 0=value 1=sign -/
def b0 : List S :=
   [.ife (.bo true [.nt (.isi (.var 0) [.str]), .nt (.cmp2 .LtE .LtE (.int 1) (.bi .len false [.var 0]) (.glo 2))]) [.ret (.bl false)] [],
    .ret (.bi .all false [.comp false (.cmp .In (.var 1) (.glo 0)) [1] (.nm 1) .val [.var 0] []])]
/-- is_title: 0=value 1=sign -/
def b1 : List S :=
   [.ife (.bo true [.nt (.isi (.var 0) [.str]), .nt (.cmp2 .LtE .LtE (.int 1) (.bi .len false [.var 0]) (.glo 2))]) [.ret (.bl false)] [],
    .ret (.bo false [.cmp .In (.sub (.var 0) (.int 0)) (.glo 1), .bi .all false [.comp false (.cmp .In (.var 1) (.glo 0)) [1] (.nm 1) .val [.slc (.var 0) [.int 1] []] []]])]
/-- is_number: 0=value -/
def b2 : List S :=
   [.ret (.bo false [.isi (.var 0) [.int], .nt (.isi (.var 0) [.bool])])]
/-- is_worth: 0=value -/
def b3 : List S :=
   [.ret (.call 2 [] [0] [.var 0] [])]
/-- _law_begin: 0=_law_script 1=_law_cell -/
def b4 : List S :=
   [.ret (.lst true [.bo true [.comp true (.bi .abs true [.var 1]) [1] (.nm 1) .val [.slc (.var 0) [] [.int 63]] [], .lst true [.int 7]], .int 0, .int 1, .int 0])]
/-- _law_take: 0=_law_draw 1=_law_many 2=_law_cells 3=_law_place 4=_law_cell 5=_law_mixed -/
def b5 : List S :=
   [.set (.nm 2) (.sub (.var 0) (.int 0)),
    .set (.nm 3) (.bin .Mod false (.bi .int false [.sub (.var 0) (.int 1)]) (.bi .len false [.var 2])),
    .set (.nm 4) (.sub (.var 2) (.var 3)),
    .ife (.cmp .GtE (.var 4) (.bin .Pow false (.int 10) (.int 18))) [.sts (.var 2) (.var 3) (.bin .FloorDiv false (.var 4) (.var 1)),
    .ret (.bin .Mod false (.bi .int false [.var 4]) (.var 1))] [],
    .sts (.var 0) (.int 1) (.bin .Add false (.sub (.var 0) (.int 1)) (.int 1)),
    .sts (.var 0) (.int 3) (.bin .Add false (.sub (.var 0) (.int 3)) (.int 1)),
    .sts (.var 0) (.int 2) (.bin .Mod false (.bi .int false [.bin .Add false (.bin .Add false (.bin .Add false (.bin .Mult false (.sub (.var 0) (.int 2)) (.int 48271)) (.var 4)) (.bin .Mult false (.int 7919) (.sub (.var 0) (.int 3)))) (.int 12345)]) (.int 2147483647)),
    .set (.nm 5) (.bin .Mod false (.bi .int false [.bin .Mult false (.sub (.var 0) (.int 2)) (.sub (.var 0) (.int 2))]) (.int 2147483629)),
    .ret (.bin .Mod false (.bi .int false [.bin .FloorDiv false (.var 5) (.int 16)]) (.var 1))]
/-- _law_pick: 0=_law_draw 1=_law_some -/
def b6 : List S :=
   [.ret (.sub (.var 1) (.call 5 [] [0, 1] [.var 0, .bi .len false [.var 1]] []))]
/-- _law_amount: 0=_law_draw -/
def b7 : List S :=
   [.ret (.call 6 [] [0, 1] [.var 0, .lst false [.int 0, .int 1, .int 2, .int 1, .int 2, .int 3, .neg (.int 1), .bin .Add false (.int 7) (.call 5 [] [0, 1] [.var 0, .int 90] []), .bin .Pow false (.int 10) (.int 30), .bin .Sub false (.int 0) (.bin .Pow false (.int 10) (.int 39))]] [])]
/-- _law_odd: 0=_law_draw 1=_law_some -/
def b8 : List S :=
   [.set (.nm 1) (.lst false [.non, .bl true, .str "", .str "Aa b", .str "abcdefghi", .str "a1", .str "aB", .tup [], .lst false [], .dct false [], .tup [.str "read"], .tup [.tup [.str "x"]], .lst false [.lst false [.str "A"]], .dct false [.str "x", .int 1]]),
    .ret (.call 6 [] [0, 1] [.var 0, .bin .Add false (.var 1) (.lst false [.str "Aabcdefgh", .str "A-", .tup [.str "plain", .str "x"], .tup [.str "all", .tup [.str "lack"]], .tup [.non], .lst false [.str "A", .str "A"]])] [])]
/-- _law_note: 0=_law_draw 1=_law_small 2=_law_found 3=_law_k 4=_law_sign 5=_law_sort -/
def b9 : List S :=
   [.par 1 2 (.call 6 [] [0, 1] [.var 0, .lst false [.str "abcxyz", .str "abcdefghijklmnopqrstuvwxyz"]] []) (.str ""),
    .for_ (.nm 3) .range [.call 6 [] [0, 1] [.var 0, .lst false [.int 0, .int 1, .int 1, .int 2, .int 3, .int 7, .int 8, .int 9]] []] [.set (.nm 4) (.call 6 [] [0, 1] [.var 0, .var 1] []),
    .set (.nm 5) (.call 5 [] [0, 1] [.var 0, .int 12] []),
    .ife (.bo true [.cmp .Eq (.var 5) (.int 0), .bo false [.cmp .Eq (.var 3) (.int 0), .cmp .Lt (.var 5) (.int 6)]]) [.set (.nm 4) (.call 6 [] [0, 1] [.var 0, .str "ABCDEFGHIJKLMNOPQRSTUVWXYZ"] [])] [.ife (.cmp .Eq (.var 5) (.int 11)) [.set (.nm 4) (.call 6 [] [0, 1] [.var 0, .str " 0_-A\n\u0040[`{~"] [])] []],
    .set (.nm 2) (.bin .Add false (.var 2) (.var 4))],
    .ret (.var 2)]
/-- _law_even_note: 0=_law_draw 1=_law_first 2=_law_k -/
def b10 : List S :=
   [.set (.nm 1) (.call 6 [] [0, 1] [.var 0, .lst false [.str "a", .str "z", .str "q", .str "A", .str "Z", .str "Q"]] []),
    .ret (.bin .Add false (.var 1) (.me (.str "") .join [.comp false (.call 6 [] [0, 1] [.var 0, .str "abcxyz"] []) [2] (.nm 2) .range [.call 6 [] [0, 1] [.var 0, .lst false [.int 0, .int 6, .int 7, .int 8]] []] []]))]
/-- _law_is_small: 0=_law_note_here 1=_law_sign -/
def b11 : List S :=
   [.ret (.cmp .Eq (.comp false (.var 1) [1] (.nm 1) .val [.var 0] [.nt (.cmp2 .LtE .LtE (.str "a") (.var 1) (.str "z"))]) (.lst false []))]
/-- _law_due: 0=_law_thing -/
def b12 : List S :=
   [.ife (.nt (.isi (.var 0) [.str])) [.ret (.lst false [.bl false, .bl false, .bo false [.isi (.var 0) [.int], .nt (.isi (.var 0) [.bool])]])] [],
    .ife (.nt (.cmp2 .Lt .Lt (.int 0) (.bi .len false [.var 0]) (.int 9))) [.ret (.lst false [.bl false, .bl false, .bl false])] [],
    .ret (.lst false [.call 11 [] [0] [.var 0] [], .bo false [.cmp2 .LtE .LtE (.str "A") (.sub (.var 0) (.int 0)) (.str "Z"), .call 11 [] [0] [.slc (.var 0) [.int 1] []] []], .bl false])]
/-- law: 0=_law_script 1=_law_draw 2=_law_turn 3=_law_thing 4=_law_shown -/
def b13 : List S :=
   [.set (.nm 1) (.call 4 [] [0] [.var 0] []),
    .for_ (.nm 2) .range [.bin .Add false (.int 20) (.bi .min false [.bi .len false [.var 0], .int 40])] [.set (.nm 3) (.ife (.cmp .Gt (.call 5 [] [0, 1] [.var 1, .int 4] []) (.int 0)) (.call 9 [] [0] [.var 1] []) (.call 8 [] [0] [.var 1] [])),
    .set (.nm 3) (.ife (.cmp .Eq (.call 5 [] [0, 1] [.var 1, .int 3] []) (.int 0)) (.call 10 [] [0] [.var 1] []) (.var 3)),
    .ife (.cmp .Eq (.call 5 [] [0, 1] [.var 1, .int 5] []) (.int 0)) [.set (.nm 3) (.call 6 [] [0, 1] [.var 1, .lst false [.int 0, .int 1, .neg (.int 1), .bl true, .bl false, .bin .Pow false (.int 10) (.int 40), .call 7 [] [0] [.var 1] [], .lst false [.str "x"], .tup [.str "A"]]] [])] [],
    .set (.nm 4) (.bi .repr false [.var 3]),
    .ife (.cmp .NotEq (.bi .repr false [.lst false [.call 0 [] [0] [.var 3] [], .call 1 [] [0] [.var 3] [], .call 3 [] [0] [.var 3] []]]) (.bi .repr false [.call 12 [] [0] [.var 3] []])) [.ret (.bl false)] [],
    .ife (.cmp .NotEq (.bi .repr false [.lst false [.call 0 ["value"] [0] [] [.var 3], .call 1 ["value"] [0] [] [.var 3], .call 3 ["value"] [0] [] [.var 3]]]) (.bi .repr false [.call 12 [] [0] [.var 3] []])) [.ret (.bl false)] [],
    .ife (.cmp .NotEq (.bi .repr false [.var 3]) (.var 4)) [.ret (.bl false)] []],
    .ret (.bl true)]
def f0 : Df := ⟨⟨("is_name", none), "is_name", "is_name", defArgs (top 4), defBody (top 4), defScope (top 4), [], []⟩, ["value", "sign"], ["value"],
  ⟨1, [], 2, false, b0⟩, [(0, ["value"], [0]), (1, [], [0])]⟩
def f1 : Df := ⟨⟨("is_title", none), "is_title", "is_title", defArgs (top 5), defBody (top 5), defScope (top 5), [], []⟩, ["value", "sign"], ["value"],
  ⟨1, [], 2, false, b1⟩, [(0, ["value"], [0]), (1, [], [0])]⟩
def f2 : Df := ⟨⟨("is_number", none), "is_number", "is_number", defArgs (top 6), defBody (top 6), defScope (top 6), [], []⟩, ["value"], ["value"],
  ⟨1, [], 1, false, b2⟩, [(1, [], [0])]⟩
def f3 : Df := ⟨⟨("is_worth", none), "is_worth", "is_worth", defArgs (top 7), defBody (top 7), defScope (top 7), [], []⟩, ["value"], ["value"],
  ⟨1, [], 1, false, b3⟩, [(0, ["value"], [0]), (1, [], [0])]⟩
def f4 : Df := ⟨⟨("_law_begin", none), "_law_begin", "_law_begin", defArgs (top 9), defBody (top 9), defScope (top 9), [], []⟩, ["_law_script", "_law_cell"], ["_law_script"],
  ⟨1, [], 2, true, b4⟩, [(1, [], [0])]⟩
def f5 : Df := ⟨⟨("_law_take", none), "_law_take", "_law_take", defArgs (top 10), defBody (top 10), defScope (top 10), [], []⟩, ["_law_draw", "_law_many", "_law_cells", "_law_place", "_law_cell", "_law_mixed"], ["_law_draw", "_law_many"],
  ⟨2, [], 6, false, b5⟩, [(2, [], [0, 1])]⟩
def f6 : Df := ⟨⟨("_law_pick", none), "_law_pick", "_law_pick", defArgs (top 11), defBody (top 11), defScope (top 11), [], []⟩, ["_law_draw", "_law_some"], ["_law_draw", "_law_some"],
  ⟨2, [], 2, false, b6⟩, [(2, [], [0, 1])]⟩
def f7 : Df := ⟨⟨("_law_amount", none), "_law_amount", "_law_amount", defArgs (top 12), defBody (top 12), defScope (top 12), [], []⟩, ["_law_draw"], ["_law_draw"],
  ⟨1, [], 1, false, b7⟩, [(1, [], [0])]⟩
def f8 : Df := ⟨⟨("_law_odd", none), "_law_odd", "_law_odd", defArgs (top 13), defBody (top 13), defScope (top 13), [], []⟩, ["_law_draw", "_law_some"], ["_law_draw"],
  ⟨1, [], 2, false, b8⟩, [(1, [], [0])]⟩
def f9 : Df := ⟨⟨("_law_note", none), "_law_note", "_law_note", defArgs (top 14), defBody (top 14), defScope (top 14), [], []⟩, ["_law_draw", "_law_small", "_law_found", "_law_k", "_law_sign", "_law_sort"], ["_law_draw"],
  ⟨1, [], 6, false, b9⟩, [(1, [], [0])]⟩
def f10 : Df := ⟨⟨("_law_even_note", none), "_law_even_note", "_law_even_note", defArgs (top 15), defBody (top 15), defScope (top 15), [], []⟩, ["_law_draw", "_law_first", "_law_k"], ["_law_draw"],
  ⟨1, [], 3, false, b10⟩, [(1, [], [0])]⟩
def f11 : Df := ⟨⟨("_law_is_small", none), "_law_is_small", "_law_is_small", defArgs (top 16), defBody (top 16), defScope (top 16), [], []⟩, ["_law_note_here", "_law_sign"], ["_law_note_here"],
  ⟨1, [], 2, false, b11⟩, [(1, [], [0])]⟩
def f12 : Df := ⟨⟨("_law_due", none), "_law_due", "_law_due", defArgs (top 17), defBody (top 17), defScope (top 17), [], []⟩, ["_law_thing"], ["_law_thing"],
  ⟨1, [], 1, false, b12⟩, [(1, [], [0])]⟩
def f13 : Df := ⟨⟨("law", none), "law", "law", defArgs (top 18), defBody (top 18), defScope (top 18), [], []⟩, ["_law_script", "_law_draw", "_law_turn", "_law_thing", "_law_shown"], ["_law_script"],
  ⟨1, [], 5, false, b13⟩, [(1, [], [0])]⟩
def hd : Hd := ⟨[("SMALL", .str "abcdefghijklmnopqrstuvwxyz"), ("GREAT", .str "ABCDEFGHIJKLMNOPQRSTUVWXYZ"), ("LONGEST", .int (8))],
  [f0, f1, f2, f3, f4, f5, f6, f7, f8, f9, f10, f11, f12, f13]⟩
abbrev pr : Prog := hd.prog
end K02
end
section
set_option maxHeartbeats 4000000
namespace K02
open PySem PySem.Spec PyProof.Rows L2 Lf
theorem ok0 : f0.Ok hd.sg := ⟨⟨rfl, rfl, rfl, by decide +kernel, rfl, by decide +kernel, by decide +kernel⟩, rfl, rfl, rfl, rfl, by kernel_rfl,
  List.forall_mem_cons.mpr ⟨fun _ _ _ _ _ _ us ws h1 h2 => match us, ws, h1, h2 with | [], [_], _, _ => rfl, List.forall_mem_cons.mpr ⟨fun _ _ _ _ _ _ us ws h1 h2 => match us, ws, h1, h2 with | [_], [], _, _ => rfl, List.forall_mem_nil _⟩⟩⟩
theorem ok1 : f1.Ok hd.sg := ⟨⟨rfl, rfl, rfl, by decide +kernel, rfl, by decide +kernel, by decide +kernel⟩, rfl, rfl, rfl, rfl, by kernel_rfl,
  List.forall_mem_cons.mpr ⟨fun _ _ _ _ _ _ us ws h1 h2 => match us, ws, h1, h2 with | [], [_], _, _ => rfl, List.forall_mem_cons.mpr ⟨fun _ _ _ _ _ _ us ws h1 h2 => match us, ws, h1, h2 with | [_], [], _, _ => rfl, List.forall_mem_nil _⟩⟩⟩
theorem ok2 : f2.Ok hd.sg := ⟨⟨rfl, rfl, rfl, by decide +kernel, rfl, by decide +kernel, by decide +kernel⟩, rfl, rfl, rfl, rfl, by kernel_rfl,
  List.forall_mem_cons.mpr ⟨fun _ _ _ _ _ _ us ws h1 h2 => match us, ws, h1, h2 with | [_], [], _, _ => rfl, List.forall_mem_nil _⟩⟩
theorem ok3 : f3.Ok hd.sg := ⟨⟨rfl, rfl, rfl, by decide +kernel, rfl, by decide +kernel, by decide +kernel⟩, rfl, rfl, rfl, rfl, by kernel_rfl,
  List.forall_mem_cons.mpr ⟨fun _ _ _ _ _ _ us ws h1 h2 => match us, ws, h1, h2 with | [], [_], _, _ => rfl, List.forall_mem_cons.mpr ⟨fun _ _ _ _ _ _ us ws h1 h2 => match us, ws, h1, h2 with | [_], [], _, _ => rfl, List.forall_mem_nil _⟩⟩⟩
theorem ok4 : f4.Ok hd.sg := ⟨⟨rfl, rfl, rfl, by decide +kernel, rfl, by decide +kernel, by decide +kernel⟩, rfl, rfl, rfl, rfl, by kernel_rfl,
  List.forall_mem_cons.mpr ⟨fun _ _ _ _ _ _ us ws h1 h2 => match us, ws, h1, h2 with | [_], [], _, _ => rfl, List.forall_mem_nil _⟩⟩
theorem ok5 : f5.Ok hd.sg := ⟨⟨rfl, rfl, rfl, by decide +kernel, rfl, by decide +kernel, by decide +kernel⟩, rfl, rfl, rfl, rfl, by kernel_rfl,
  List.forall_mem_cons.mpr ⟨fun _ _ _ _ _ _ us ws h1 h2 => match us, ws, h1, h2 with | [_, _], [], _, _ => rfl, List.forall_mem_nil _⟩⟩
theorem ok6 : f6.Ok hd.sg := ⟨⟨rfl, rfl, rfl, by decide +kernel, rfl, by decide +kernel, by decide +kernel⟩, rfl, rfl, rfl, rfl, by kernel_rfl,
  List.forall_mem_cons.mpr ⟨fun _ _ _ _ _ _ us ws h1 h2 => match us, ws, h1, h2 with | [_, _], [], _, _ => rfl, List.forall_mem_nil _⟩⟩
theorem ok7 : f7.Ok hd.sg := ⟨⟨rfl, rfl, rfl, by decide +kernel, rfl, by decide +kernel, by decide +kernel⟩, rfl, rfl, rfl, rfl, by kernel_rfl,
  List.forall_mem_cons.mpr ⟨fun _ _ _ _ _ _ us ws h1 h2 => match us, ws, h1, h2 with | [_], [], _, _ => rfl, List.forall_mem_nil _⟩⟩
theorem ok8 : f8.Ok hd.sg := ⟨⟨rfl, rfl, rfl, by decide +kernel, rfl, by decide +kernel, by decide +kernel⟩, rfl, rfl, rfl, rfl, by kernel_rfl,
  List.forall_mem_cons.mpr ⟨fun _ _ _ _ _ _ us ws h1 h2 => match us, ws, h1, h2 with | [_], [], _, _ => rfl, List.forall_mem_nil _⟩⟩
theorem ok9 : f9.Ok hd.sg := ⟨⟨rfl, rfl, rfl, by decide +kernel, rfl, by decide +kernel, by decide +kernel⟩, rfl, rfl, rfl, rfl, by kernel_rfl,
  List.forall_mem_cons.mpr ⟨fun _ _ _ _ _ _ us ws h1 h2 => match us, ws, h1, h2 with | [_], [], _, _ => rfl, List.forall_mem_nil _⟩⟩
theorem ok10 : f10.Ok hd.sg := ⟨⟨rfl, rfl, rfl, by decide +kernel, rfl, by decide +kernel, by decide +kernel⟩, rfl, rfl, rfl, rfl, by kernel_rfl,
  List.forall_mem_cons.mpr ⟨fun _ _ _ _ _ _ us ws h1 h2 => match us, ws, h1, h2 with | [_], [], _, _ => rfl, List.forall_mem_nil _⟩⟩
theorem ok11 : f11.Ok hd.sg := ⟨⟨rfl, rfl, rfl, by decide +kernel, rfl, by decide +kernel, by decide +kernel⟩, rfl, rfl, rfl, rfl, by kernel_rfl,
  List.forall_mem_cons.mpr ⟨fun _ _ _ _ _ _ us ws h1 h2 => match us, ws, h1, h2 with | [_], [], _, _ => rfl, List.forall_mem_nil _⟩⟩
theorem ok12 : f12.Ok hd.sg := ⟨⟨rfl, rfl, rfl, by decide +kernel, rfl, by decide +kernel, by decide +kernel⟩, rfl, rfl, rfl, rfl, by kernel_rfl,
  List.forall_mem_cons.mpr ⟨fun _ _ _ _ _ _ us ws h1 h2 => match us, ws, h1, h2 with | [_], [], _, _ => rfl, List.forall_mem_nil _⟩⟩
theorem ok13 : f13.Ok hd.sg := ⟨⟨rfl, rfl, rfl, by decide +kernel, rfl, by decide +kernel, by decide +kernel⟩, rfl, rfl, rfl, rfl, by kernel_rfl,
  List.forall_mem_cons.mpr ⟨fun _ _ _ _ _ _ us ws h1 h2 => match us, ws, h1, h2 with | [_], [], _, _ => rfl, List.forall_mem_nil _⟩⟩
theorem oks : ∀ f ∈ hd.df, f.Ok hd.sg := List.forall_mem_cons.mpr ⟨ok0, List.forall_mem_cons.mpr ⟨ok1, List.forall_mem_cons.mpr ⟨ok2, List.forall_mem_cons.mpr ⟨ok3, List.forall_mem_cons.mpr ⟨ok4, List.forall_mem_cons.mpr ⟨ok5, List.forall_mem_cons.mpr ⟨ok6, List.forall_mem_cons.mpr ⟨ok7, List.forall_mem_cons.mpr ⟨ok8, List.forall_mem_cons.mpr ⟨ok9, List.forall_mem_cons.mpr ⟨ok10, List.forall_mem_cons.mpr ⟨ok11, List.forall_mem_cons.mpr ⟨ok12, List.forall_mem_cons.mpr ⟨ok13, List.forall_mem_nil _⟩⟩⟩⟩⟩⟩⟩⟩⟩⟩⟩⟩⟩⟩
abbrev rw0 : PySem.W.OpenRow := PySem.W.OpenLaw.row PySem.Challenge.rw_levelfolds_k02_names_titles_and_worths
abbrev hk : PySem.W.Hook := hookH 4 hd
def ob (s : PySem.W.SharedT) : Bool × List He.FnW := obH 4 hd (HandSHeadRun.getT s)
theorem ob_eq (s : PySem.W.SharedT) : ob s = hk.obs s.abs := obH_eq (HandSHeadRun.getT_eq s)
def loose : List Str := (["SMALL", "GREAT", "LONGEST", "is_name", "is_title", "is_number", "is_worth", "_law_begin", "_law_take", "_law_pick", "_law_amount", "_law_odd", "_law_note", "_law_even_note", "_law_is_small", "_law_due"] : List Str)
theorem run (w : World) : HandSHeadRun.RunEq rw0 (PySem.W.view rw0.prog [18]) hk ob 3800 loose w := by
  intro os
  kernel_rfl
end K02
end
section
set_option maxHeartbeats 4000000
namespace K02
open PySem Lf
abbrev TURNS : Nat := 1
abbrev DEPTH : Nat := 6
abbrev G (n : Nat) : Lf.G := pr.at_ TURNS n
theorem hT : pr.fns[5]? = some takeF := rfl
theorem hP : pr.fns[6]? = some (pickF 5) := rfl
theorem hB : pr.fns[4]? = some beginF := rfl
def smallC (c : Nat) : Bool := decide (97 ≤ c) && decide (c ≤ 122)
def greatC (c : Nat) : Bool := decide (65 ≤ c) && decide (c ≤ 90)
def SM : Str := "abcdefghijklmnopqrstuvwxyz"
def GR : Str := "ABCDEFGHIJKLMNOPQRSTUVWXYZ"
def OD : Str := " 0_-A\n\u0040[`{~"
def alpha : List Nat := SM.cps.toList ++ GR.cps.toList ++ OD.cps.toList ++ [49]
def leS (x y : Str) : Bool := !decide (y.cps.toList < x.cps.toList)
def okC (c : Nat) : Bool := (hasSign ⟨#[c]⟩ SM == smallC c) && (hasSign ⟨#[c]⟩ GR == greatC c) && ((leS "a" ⟨#[c]⟩ && leS ⟨#[c]⟩ "z") == smallC c) && ((leS "A" ⟨#[c]⟩ && leS ⟨#[c]⟩ "Z") == greatC c) && decide (c < 0x110000)
theorem alpha_ok : alpha.all okC = true := by decide +kernel
structure CharOk (c : Nat) : Prop where
  sm : hasSign ⟨#[c]⟩ SM = smallC c
  gr : hasSign ⟨#[c]⟩ GR = greatC c
  le : (leS "a" ⟨#[c]⟩ && leS ⟨#[c]⟩ "z") = smallC c
  ge : (leS "A" ⟨#[c]⟩ && leS ⟨#[c]⟩ "Z") = greatC c
  lt : c < 0x110000
theorem charOk {c : Nat} (h : c ∈ alpha) : CharOk c := by
  have q := List.all_eq_true.mp alpha_ok c h
  unfold okC at q
  simp only [Bool.and_eq_true] at q
  obtain ⟨⟨⟨⟨h1, h2⟩, h3⟩, h4⟩, h5⟩ := q
  exact ⟨eq_of_beq h1, eq_of_beq h2, eq_of_beq h3, eq_of_beq h4, of_decide_eq_true h5⟩
/-- a note: of these signs, short -/
def Nt (x : Str) : Prop := x.length ≤ 16 ∧ ∀ c ∈ x.cps.toList, c ∈ alpha
def signs (x : Str) : List D := x.cps.toList.map fun c => .str ⟨#[c]⟩
/-! ### the program's functions, the law's, at a note -/
def lenOk (x : Str) : Bool := decide (1 ≤ x.length) && decide (x.length ≤ 8)
def allSm (x : Str) : Bool := x.cps.toList.all smallC
theorem cmp_eq {x y : D} {s : Sto} : cmpB .Eq x y s = Lf.eqB x y s := rfl
theorem all_bl {l : List Nat} {f : Nat → Bool} {s : Sto} : biV .all false [.lst (l.map fun c => D.bl (f c))] s = .ok (.bl (l.all f)) s := by
  have e : bools (l.map fun c => D.bl (f c)) = some (l.map f) := by
    induction l with
    | nil => rfl
    | cons a r ih =>
      rw [List.map_cons, List.map_cons]
      unfold bools
      rw [ih]
      rfl
  show (bnd (ofO (bools (l.map fun c => D.bl (f c)))) fun bs => ret (D.bl (bs.all id))) s = _
  rw [e, bnd_app, ofO_app, bind_ok, List.all_map]
  rfl
theorem len16 {x : Str} (h : Nt x) : (signs x).length ≤ sizeLine := by
  unfold signs
  rw [List.length_map, Array.length_toList]
  exact Nat.le_trans h.1 (by decide)
/-- [sign in SMALL for sign in x] -/
theorem comp_small {n lo : Nat} {x : Str} {s : Sto} {a : E} {r : Lf.Env} (hx : Nt x) (ha : ev (G n) lo a r s = .ok (.str x) s) (hr : 1 < r.length) :
    ev (G n) lo (.comp false (.cmp .In (.var 1) (.glo 0)) [1] (.nm 1) .val [a] []) r s = .ok (.lst (x.cps.toList.map fun c => .bl (smallC c))) s := by
  have e := comp_val (elt := .cmp .In (.var 1) (.glo 0)) (own := [1]) (t := .nm 1) (cs := []) (ys := (signs x).map fun d => match d with | .str z => .bl (hasSign z SM) | d => d) ha (xs := signs x) rfl (len16 hx) (compL_map rfl fun d hd => ?_)
  · rw [e]
    unfold signs
    rw [List.map_map]
    congr 2
    refine List.map_congr_left fun c hc => ?_
    show D.bl (hasSign ⟨#[c]⟩ SM) = _
    rw [(charOk (hx.2 c hc)).sm]
  · obtain ⟨c, hc, rfl⟩ := List.mem_map.mp hd
    have hl : 1 < (wipeE r [1]).length := by
      show 1 < (r.set 1 none).length
      rw [List.length_set]
      exact hr
    refine ⟨(wipeE r [1]).set 1 (some (.str ⟨#[c]⟩)), if_pos hl, rfl, ?_⟩
    exact cmp_ev (ev_var (List.getElem?_set_self hl)) (glo_ev (by rw [at_glo]; rfl)) rfl
/-- the first test of is_name, is_title -/
theorem tst_len {n lo : Nat} {x : Str} {s : Sto} {o : Option D} : tst (G n) lo (.bo true [.nt (.isi (.var 0) [.str]), .nt (.cmp2 .LtE .LtE (.int 1) (.bi .len false [.var 0]) (.glo 2))]) [some (.str x), o] s = .ok (!lenOk x) s := by
  refine tst_ev (or_ev (nt_ev (isi_ev (t := .str) (ev_var rfl) rfl)) (nt_ev (cmp2_ev rfl (bi1_ev (ev_var rfl) rfl) rfl (glo_ev (by rw [at_glo]; rfl)) rfl))) ?_
  show ret (false || !(decide ((1 : Int) ≤ (x.length : Int)) && decide ((x.length : Int) ≤ 8))) s = _
  unfold lenOk
  rw [Bool.false_or]
  congr 3
  · exact decide_eq_decide.mpr (by omega)
  · exact decide_eq_decide.mpr (by omega)
theorem pu_name {n : Nat} {x : Str} (hx : Nt x) : Pu (G (n + 1)) 0 [.str x] (.bl (lenOk x && allSm x)) := by
  refine pu_call (f := f0.fn) rfl rfl rfl rfl fun lo s => ?_
  show exs (G n) lo b0 [some (.str x), none] s = _
  unfold b0
  rw [xs_if tst_len]
  cases hl : lenOk x with
  | false =>
    show (exs (G n) lo [.ret (.bl false)] [some (.str x), none] s).seq _ = _
    rw [xs_ret (d := .bl false) (s1 := s) rfl]
    rfl
  | true =>
    show exs (G n) lo [.ret _] [some (.str x), none] s = _
    rw [xs_ret (bi1_ev (comp_small hx (ev_var rfl) (by simp)) all_bl)]
    rfl
/-- [sign for sign in x if not 'a' <= sign <= 'z'] == [] -/
theorem pu_small {n : Nat} {x : Str} (hx : Nt x) : Pu (G (n + 1)) 11 [.str x] (.bl (allSm x)) := by
  refine pu_call (f := f11.fn) rfl rfl rfl rfl fun lo s => ?_
  show exs (G n) lo b11 [some (.str x), none] s = _
  unfold b11
  have e1 : ev (G n) lo (.comp false (.var 1) [1] (.nm 1) .val [.var 0] [.nt (.cmp2 .LtE .LtE (.str "a") (.var 1) (.str "z"))]) [some (.str x), none] s =
      .ok (.lst ((x.cps.toList.filter fun c => !smallC c).map fun c => .str ⟨#[c]⟩)) s := by
    have e := comp_val (elt := .var 1) (own := [1]) (t := .nm 1) (cs := [.nt (.cmp2 .LtE .LtE (.str "a") (.var 1) (.str "z"))]) (ys := ((signs x).filter fun d => match d with | .str z => !(leS "a" z && leS z "z") | _ => false).map id)
      (g := G n) (lo := lo) (ev_var (r := [some (.str x), none]) (s := s) (i := 0) rfl) (xs := signs x) rfl (len16 hx) (compL_filter rfl fun d hd => ?_)
    · rw [e]
      unfold signs
      rw [List.map_id, List.filter_map]
      congr 3
      refine List.filter_congr fun c hc => ?_
      show (!(leS "a" ⟨#[c]⟩ && leS ⟨#[c]⟩ "z")) = _
      rw [(charOk (hx.2 c hc)).le]
    · obtain ⟨c, hc, rfl⟩ := List.mem_map.mp hd
      refine ⟨[some (.str x), some (.str ⟨#[c]⟩)], rfl, ?_, fun _ => rfl⟩
      have e2 : ev (G n) lo (.nt (.cmp2 .LtE .LtE (.str "a") (.var 1) (.str "z"))) [some (.str x), some (.str ⟨#[c]⟩)] s = .ok (.bl (!(leS "a" ⟨#[c]⟩ && leS ⟨#[c]⟩ "z"))) s := nt_ev (cmp2_ev rfl (ev_var rfl) rfl rfl rfl)
      unfold evc evc
      rw [bnd_app, e2]
      show (if (!(leS "a" ⟨#[c]⟩ && leS ⟨#[c]⟩ "z")) = true then ret true else ret false) s = R.ok (!(leS "a" ⟨#[c]⟩ && leS ⟨#[c]⟩ "z")) s
      generalize (!(leS "a" ⟨#[c]⟩ && leS ⟨#[c]⟩ "z")) = q
      cases q <;> rfl
  have hs : ∀ l : List Nat, (∀ c ∈ l, c ∈ alpha) → (l.map fun c => (⟨#[c]⟩ : Str)).all PyData.strOk = true := by
    intro l hl
    rw [List.all_map, List.all_eq_true]
    intro c hc
    show ((#[c] : Array Nat).all (· < 0x110000)) = true
    have := (charOk (hl c hc)).lt
    simp
    omega
  have e3 : cmpB .Eq (.lst ((x.cps.toList.filter fun c => !smallC c).map fun c => .str ⟨#[c]⟩)) (.lst []) s = .ok (allSm x) s := by
    have q : ((x.cps.toList.filter fun c => !smallC c).map fun c => D.str ⟨#[c]⟩) = ((x.cps.toList.filter fun c => !smallC c).map fun c => (⟨#[c]⟩ : Str)).map D.str := by
      rw [List.map_map]
      rfl
    rw [cmp_eq, q, eq_pure rfl (dat_lst dat_strs) (dat_lst rfl) (plain_strs (hs _ fun c hc => hx.2 c ((List.mem_filter.mp hc).1))) rfl]
    congr 1
    unfold allSm
    generalize x.cps.toList = l
    induction l with
    | nil => rfl
    | cons c l ih =>
      rw [List.filter_cons, List.all_cons]
      cases smallC c with
      | true => exact ih
      | false => rfl
  show exs (G n) lo [.ret (.cmp .Eq _ (.lst false []))] _ s = _
  rw [xs_ret (cmp_ev e1 rfl e3)]
def titB (x : Str) : Bool := match x.cps.toList with
  | c :: r => greatC c && r.all smallC
  | [] => false
def tailS (x : Str) : Str := L2.cutS x (some 1) none
theorem head_of {x : Str} (h : lenOk x = true) : ∃ c r, x.cps.toList = c :: r ∧ (tailS x).cps.toList = r := by
  have h1 : 1 ≤ x.cps.toList.length := by
    rw [Array.length_toList]
    exact of_decide_eq_true (Bool.and_eq_true_iff.mp h).1
  cases e : x.cps.toList with
  | nil => rw [e] at h1; simp at h1
  | cons c r =>
    refine ⟨c, r, rfl, ?_⟩
    have l1 : 1 ≤ x.length := of_decide_eq_true (Bool.and_eq_true_iff.mp h).1
    have ln : x.length = r.length + 1 := by
      show x.cps.size = _
      rw [← Array.length_toList, e, List.length_cons]
    have e1 : HT.sIx x.length 0 (some 1) = 1 := by
      show (if (1 : Int) < 0 then ((1 : Int) + (x.length : Int)).toNat else min (1 : Int).toNat x.length) = 1
      rw [if_neg (by omega)]
      show min 1 x.length = 1
      omega
    show (((x.cps.toList.drop (HT.sIx x.length 0 (some 1))).take (x.length - HT.sIx x.length 0 (some 1))).toArray).toList = r
    rw [e1, e, ln]
    show (r.take (r.length + 1 - 1)) = r
    rw [Nat.add_sub_cancel, List.take_length]
theorem nt_tail {x : Str} (hx : Nt x) (h : lenOk x = true) : Nt (tailS x) := by
  obtain ⟨c, r, e1, e2⟩ := head_of h
  have l1 : x.length = (c :: r).length := by rw [← e1, Array.length_toList]; rfl
  have l2 : (tailS x).length = r.length := by rw [← e2, Array.length_toList]; rfl
  refine ⟨?_, fun d hd => hx.2 d ?_⟩
  · have := hx.1
    rw [List.length_cons] at l1
    omega
  · rw [e2] at hd
    rw [e1]
    exact List.mem_cons_of_mem _ hd
theorem sub0 {x : Str} {c : Nat} {r : List Nat} {s : Sto} (e : x.cps.toList = c :: r) : subV (.str x) (.int 0) s = .ok (.str ⟨#[c]⟩) s := by
  show ofO ((L2.atI x.cps.toList 0).map fun c => D.str ⟨#[c]⟩) s = _
  rw [atI_at (d := c) (by omega) (by rw [e]; rfl)]
  rfl
theorem tit_eq {x : Str} {c : Nat} {r : List Nat} (e1 : x.cps.toList = c :: r) (e2 : (tailS x).cps.toList = r) : titB x = (greatC c && allSm (tailS x)) := by
  unfold titB allSm
  rw [e1, e2]
theorem pu_title {n : Nat} {x : Str} (hx : Nt x) : Pu (G (n + 1)) 1 [.str x] (.bl (lenOk x && titB x)) := by
  refine pu_call (f := f1.fn) rfl rfl rfl rfl fun lo s => ?_
  show exs (G n) lo b1 [some (.str x), none] s = _
  unfold b1
  rw [xs_if tst_len]
  cases hl : lenOk x with
  | false =>
    show (exs (G n) lo [.ret (.bl false)] [some (.str x), none] s).seq _ = _
    rw [xs_ret (d := .bl false) (s1 := s) rfl]
    rfl
  | true =>
    show exs (G n) lo [.ret _] [some (.str x), none] s = _
    obtain ⟨c, r, e1, e2⟩ := head_of hl
    have hc : c ∈ alpha := hx.2 c (by rw [e1]; exact List.mem_cons_self)
    rw [xs_ret (and_ev (cmp_ev (sub_ev (ev_var rfl) rfl (sub0 e1)) (glo_ev (by rw [at_glo]; rfl)) (k := hasSign ⟨#[c]⟩ GR) rfl) fun _ => bi1_ev (comp_small (nt_tail hx hl) (a := .slc (.var 0) [.int 1] []) rfl (by simp)) all_bl), (charOk hc).gr, tit_eq e1 e2]
    rfl
theorem ret3 {g : Lf.G} {lo : Nat} {a b c : E} {r : Lf.Env} {s : Sto} {x y z : D} (h1 : ev g lo a r s = .ok x s) (h2 : ev g lo b r s = .ok y s) (h3 : ev g lo c r s = .ok z s) : ev g lo (.lst false [a, b, c]) r s = .ok (.lst [x, y, z]) s :=
  lst_ev (evs_cons h1 (evs_cons h2 (evs_cons h3 evs_nil))) (by show 3 ≤ sizeLine; decide)
theorem pu_due {n : Nat} {x : Str} (hx : Nt x) : Pu (G (n + 2)) 12 [.str x] (.lst [.bl (lenOk x && allSm x), .bl (lenOk x && titB x), .bl false]) := by
  refine pu_call (f := f12.fn) rfl rfl rfl rfl fun lo s => ?_
  show exs (G (n + 1)) lo b12 [some (.str x)] s = _
  unfold b12
  rw [xs_if (k := false) (tst_ev (nt_ev (isi_ev (t := .str) (ev_var rfl) rfl)) rfl)]
  show exs (G (n + 1)) lo (.ife _ _ [] :: _) [some (.str x)] s = _
  have e : tst (G (n + 1)) lo (.nt (.cmp2 .Lt .Lt (.int 0) (.bi .len false [.var 0]) (.int 9))) [some (.str x)] s = .ok (!lenOk x) s := by
    refine tst_ev (nt_ev (cmp2_ev rfl (bi1_ev (ev_var rfl) rfl) rfl rfl rfl)) ?_
    show ret (!(decide ((0 : Int) < (x.length : Int)) && decide ((x.length : Int) < 9))) s = _
    unfold lenOk
    congr 3
    · exact decide_eq_decide.mpr (by omega)
    · exact decide_eq_decide.mpr (by omega)
  rw [xs_if e]
  cases hl : lenOk x with
  | false =>
    show (exs (G (n + 1)) lo [.ret (.lst false [.bl false, .bl false, .bl false])] [some (.str x)] s).seq _ = _
    rw [xs_ret (ret3 rfl rfl rfl)]
    rfl
  | true =>
    show exs (G (n + 1)) lo [.ret _] [some (.str x)] s = _
    obtain ⟨c, r, e1, e2⟩ := head_of hl
    have hc : c ∈ alpha := hx.2 c (by rw [e1]; exact List.mem_cons_self)
    have d11 : (G (n + 1)).dfl 11 = [] := rfl
    rw [xs_ret (ret3 (pu_ev (ev_var rfl) d11 (pu_small hx)).1 (and_ev (cmp2_ev rfl (sub_ev (ev_var rfl) rfl (sub0 e1)) (k := leS "A" ⟨#[c]⟩) rfl rfl (k' := leS ⟨#[c]⟩ "Z") rfl) fun _ => (pu_ev (a := .slc (.var 0) [.int 1] []) rfl d11 (pu_small (nt_tail hx hl))).1) rfl), (charOk hc).ge, tit_eq e1 e2]
    rfl
/-! ### at what is no text -/
structure Ot (d : D) (t : Tg) : Prop where
  tag : ∀ s, tagOf d s = .ok t s
  no : t ≠ .str
  pure : d.under 0 = true
  shows : ∃ p, dat d = some p ∧ shB p = true
def intT (t : Tg) : Bool := [Tn.int].any (isTn t) && ![Tn.bool].any (isTn t)
theorem no_str {t : Tg} (h : t ≠ .str) : [Tn.str].any (isTn t) = false := by
  cases t <;> first | rfl | exact absurd rfl h
theorem tst_no {n lo : Nat} {d : D} {t : Tg} {s : Sto} {o : Option D} (h : Ot d t) : tst (G n) lo (.bo true [.nt (.isi (.var 0) [.str]), .nt (.cmp2 .LtE .LtE (.int 1) (.bi .len false [.var 0]) (.glo 2))]) [some d, o] s = .ok true s := by
  have e := nt_ev (isi_ev (g := G n) (lo := lo) (ts := [.str]) (ev_var (r := [some d, o]) (i := 0) rfl) (h.tag s))
  rw [no_str h.no] at e
  exact tst_ev (boT_ev e rfl) rfl
theorem pu_nameN {n : Nat} {d : D} {t : Tg} (h : Ot d t) : Pu (G (n + 1)) 0 [d] (.bl false) := by
  refine pu_call (f := f0.fn) rfl rfl rfl rfl fun lo s => ?_
  show exs (G n) lo b0 [some d, none] s = _
  unfold b0
  rw [xs_if (tst_no h)]
  show (exs (G n) lo [.ret (.bl false)] [some d, none] s).seq _ = _
  rw [xs_ret (d := .bl false) (s1 := s) rfl]
  rfl
theorem pu_titleN {n : Nat} {d : D} {t : Tg} (h : Ot d t) : Pu (G (n + 1)) 1 [d] (.bl false) := by
  refine pu_call (f := f1.fn) rfl rfl rfl rfl fun lo s => ?_
  show exs (G n) lo b1 [some d, none] s = _
  unfold b1
  rw [xs_if (tst_no h)]
  show (exs (G n) lo [.ret (.bl false)] [some d, none] s).seq _ = _
  rw [xs_ret (d := .bl false) (s1 := s) rfl]
  rfl
theorem num_ev {g : Lf.G} {lo : Nat} {d : D} {t : Tg} {s : Sto} (h : ∀ s, tagOf d s = .ok t s) : ev g lo (.bo false [.isi (.var 0) [.int], .nt (.isi (.var 0) [.bool])]) [some d] s = .ok (.bl (intT t)) s :=
  and_ev (isi_ev (ev_var rfl) (h s)) fun _ => nt_ev (isi_ev (ev_var rfl) (h s))
theorem pu_worth {n : Nat} {d : D} {t : Tg} (h : ∀ s, tagOf d s = .ok t s) : Pu (G (n + 2)) 3 [d] (.bl (intT t)) := by
  have e : Pu (G (n + 1)) 2 [d] (.bl (intT t)) := by
    refine pu_call (f := f2.fn) rfl rfl rfl rfl fun lo s => ?_
    show exs (G n) lo b2 [some d] s = _
    unfold b2
    rw [xs_ret (num_ev h)]
  refine pu_call (f := f3.fn) rfl rfl rfl rfl fun lo s => ?_
  show exs (G (n + 1)) lo b3 [some d] s = _
  unfold b3
  rw [xs_ret (pu_ev (ev_var rfl) rfl e).1]
theorem pu_dueN {n : Nat} {d : D} {t : Tg} (h : Ot d t) : Pu (G (n + 1)) 12 [d] (.lst [.bl false, .bl false, .bl (intT t)]) := by
  refine pu_call (f := f12.fn) rfl rfl rfl rfl fun lo s => ?_
  show exs (G n) lo b12 [some d] s = _
  unfold b12
  have e := nt_ev (isi_ev (g := G n) (lo := lo) (ts := [.str]) (ev_var (r := [some d]) (i := 0) rfl) (h.tag s))
  rw [no_str h.no] at e
  rw [xs_if (tst_ev e rfl)]
  show (exs (G n) lo [.ret _] [some d] s).seq _ = _
  rw [xs_ret (ret3 rfl rfl (num_ev h.tag))]
  rfl
/-! ### what is drawn -/
def Th (d : D) : Prop := (∃ x, d = .str x ∧ Nt x) ∨ ∃ t, Ot d t
def tagP : D → Option Tg
  | .non => some .non
  | .bl _ => some .bool
  | .int _ => some .int
  | .tup _ => some .tuple
  | .lst _ => some .list
  | .dct _ _ => some .dict
  | _ => none
theorem tagP_ok {d : D} {t : Tg} (h : tagP d = some t) : (∀ s, tagOf d s = .ok t s) ∧ t ≠ .str := by
  cases d <;> cases h <;> exact ⟨fun _ => rfl, fun z => by cases z⟩
def othB (d : D) : Bool := (tagP d).isSome && d.under 0 && match dat d with
  | some p => shB p
  | none => false
def thB (d : D) : Bool := match d with
  | .str x => decide (x.length ≤ 16) && x.cps.toList.all fun c => alpha.contains c
  | d => othB d
theorem oth_ok {d : D} (h : othB d = true) : ∃ t, Ot d t := by
  obtain ⟨h, h3⟩ := Bool.and_eq_true_iff.mp h
  obtain ⟨h1, h2⟩ := Bool.and_eq_true_iff.mp h
  obtain ⟨t, e⟩ := Option.isSome_iff_exists.mp h1
  obtain ⟨q1, q2⟩ := tagP_ok e
  cases ed : dat d with
  | none => rw [ed] at h3; cases h3
  | some p =>
    rw [ed] at h3
    exact ⟨t, q1, q2, h2, p, ed, h3⟩
theorem th_ok {d : D} (h : thB d = true) : Th d := by
  cases d with
  | str x =>
    obtain ⟨h1, h2⟩ := Bool.and_eq_true_iff.mp h
    refine .inl ⟨x, rfl, of_decide_eq_true h1, fun c hc => ?_⟩
    exact List.contains_iff_mem.mp (List.all_eq_true.mp h2 c hc)
  | _ => exact .inr (oth_ok h)
def oddL : List D := [.non, .bl true, .str "", .str "Aa b", .str "abcdefghi", .str "a1", .str "aB", .tup [], .lst [], .dct [] [], .tup [.str "read"], .tup [.tup [.str "x"]], .lst [.lst [.str "A"]], .dct [.str "x"] [.int (1)], .str "Aabcdefgh", .str "A-", .tup [.str "plain", .str "x"], .tup [.str "all", .tup [.str "lack"]], .tup [.non], .lst [.str "A", .str "A"]]
theorem odd_ok : oddL.all thB = true := by decide +kernel
theorem odd_pure : underL 0 oddL = true := by decide +kernel
section
variable {n lo k c : Nat} {s : Sto} {b : Int} {Q : D → Sto → Prop}
theorem th_pure {d : D} (h : Th d) : d.under 0 = true := by
  rcases h with ⟨x, rfl, _⟩ | ⟨t, h⟩
  · rfl
  · exact h.pure
theorem ret_pure {s' : Sto} {d : D} (f : Fr k c s s') (hp : d.under 0 = true) (q : Q d s') : d.under 0 = true ∧ Q d (s'.take s.length) := ⟨hp, by rw [← f.len, List.take_length]; exact q⟩
theorem odd_wp (hd : Draw s k c b) (hb : b < 2 ^ 60) (q : ∀ d s', Th d → Draw s' k c (b + 1) → Fr k c s s' → Q d s') : WpM ((G (n + 3)).call lo 8 [.m k] s) Q := by
  refine wm_call (f := f8.fn) rfl rfl (wm_run rfl ?_)
  show Wp (exs (G (n + 2)) s.length b8 [some (.m k), none] s) _ _ _ _
  unfold b8
  refine st_set (d := .lst (oddL.take 14)) (s1 := s) rfl (by simp) (st_retW ?_)
  show WpM (ev (G (n + 2)) s.length _ [some (.m k), some (.lst (oddL.take 14))] s) _
  refine pick_ev hT hP (ev_var rfl) (xs := oddL) rfl (by simp [oddL]) (by decide) odd_pure hd hb fun x s' hx h1 h2 => ?_
  have th := th_ok (List.all_eq_true.mp odd_ok x hx)
  exact ret_pure h2 (th_pure th) (q x s' th h1 h2)
end
end K02
end
section
set_option maxHeartbeats 4000000
namespace K02
open PySem Lf
section
variable {n lo k c : Nat} {s : Sto} {b : Int} {Q : D → Sto → Prop}
theorem amt_ok : (List.range 90).all (fun i => othB (.int (7 + ((i : Nat) : Int)))) = true := by decide +kernel
theorem amt_of {i : Int} (h0 : 0 ≤ i) (h1 : i < 90) : othB (.int (7 + i)) = true := by
  have q := List.all_eq_true.mp amt_ok i.toNat (List.mem_range.mpr (by omega))
  rwa [Int.toNat_of_nonneg h0] at q
theorem amount_wp (hd : Draw s k c b) (hb : b + 2 < 2 ^ 60) (q : ∀ d s', Th d → Draw s' k c (b + 2) → Fr k c s s' → Q d s') : WpM ((G (n + 3)).call lo 7 [.m k] s) Q := by
  refine wm_call (f := f7.fn) rfl rfl (wm_run rfl ?_)
  show Wp (exs (G (n + 2)) s.length b7 [some (.m k)] s) _ _ _ _
  unfold b7
  refine st_retW ?_
  rw [wm_callE, wm_evs, wm_eq (ev_var rfl), wm_evs]
  have e : ∀ {Q' : D → Sto → Prop}, (∀ i s', 0 ≤ i → i < 90 → Draw s' k c (b + 1) → Fr k c s s' → Q' (.lst [.int 0, .int 1, .int 2, .int 1, .int 2, .int 3, .int (-1), .int (7 + i), .int (10 ^ 30), .int (0 - 10 ^ 39)]) s') →
      WpM (ev (G (n + 2)) s.length (.lst false [.int 0, .int 1, .int 2, .int 1, .int 2, .int 3, .neg (.int 1), .bin .Add false (.int 7) (.call 5 [] [0, 1] [.var 0, .int 90] []), .bin .Pow false (.int 10) (.int 30), .bin .Sub false (.int 0) (.bin .Pow false (.int 10) (.int 39))]) [some (.m k)] s) Q' := by
    intro Q' q'
    have e1 : evs (G (n + 2)) s.length [.int 0, .int 1, .int 2, .int 1, .int 2, .int 3, .neg (.int 1)] [some (.m k)] s = .ok [.int 0, .int 1, .int 2, .int 1, .int 2, .int 3, .int (-1)] s := rfl
    have e7 : ev (G (n + 2)) s.length (.int 7) [some (.m k)] s = .ok (.int 7) s := rfl
    rw [wm_lst]
    show WpM (evs (G (n + 2)) s.length ([.int 0, .int 1, .int 2, .int 1, .int 2, .int 3, .neg (.int 1)] ++ [.bin .Add false (.int 7) (.call 5 [] [0, 1] [.var 0, .int 90] []), .bin .Pow false (.int 10) (.int 30), .bin .Sub false (.int 0) (.bin .Pow false (.int 10) (.int 39))]) [some (.m k)] s) _
    rw [wm_evs_app, wm_eq e1, wm_evs, wm_bin, wm_eq e7]
    refine take_ev hT (ev_var rfl) rfl (by omega) (by omega) hd (by omega) fun i s' h0 h1 h2 h3 => ?_
    exact ⟨by show 10 ≤ sizeLine; decide, q' i s' h0 h1 h2 h3⟩
  refine e fun i s1 h0 h1 h2 h3 => ?_
  rw [wm_evs0, wm_evs0]
  show WpM ((G (n + 2)).call s.length 6 [.m k, .lst [.int 0, .int 1, .int 2, .int 1, .int 2, .int 3, .int (-1), .int (7 + i), .int (10 ^ 30), .int (0 - 10 ^ 39)]] s1) _
  have all : ([.int 0, .int 1, .int 2, .int 1, .int 2, .int 3, .int (-1), .int (7 + i), .int (10 ^ 30), .int (0 - 10 ^ 39)] : List D).all othB = true := by
    have z := amt_of h0 h1
    have z2 : (othB (.int 0) && othB (.int 1) && othB (.int 2) && othB (.int 3) && othB (.int (-1)) && othB (.int (10 ^ 30)) && othB (.int (0 - 10 ^ 39))) = true := by decide +kernel
    simp only [Bool.and_eq_true] at z2
    obtain ⟨⟨⟨⟨⟨⟨a0, a1⟩, a2⟩, a3⟩, a4⟩, a5⟩, a6⟩ := z2
    simp only [List.all_cons, List.all_nil, a0, a1, a2, a3, a4, a5, a6, z, Bool.and_true]
  refine pick_wp hT hP (by simp) (by show 10 < 2 ^ 64; decide) rfl h2 (by omega) fun x s' hx h4 h5 => ?_
  obtain ⟨t, o⟩ := oth_ok (List.all_eq_true.mp all x hx)
  refine ret_pure (h3.trans h5) o.pure (q x s' (.inr ⟨t, o⟩) ?_ (h3.trans h5))
  have e2 : b + 1 + 1 = b + 2 := by omega
  rwa [e2] at h4
theorem small_in : SM.cps.toList.all (fun c => alpha.contains c) = true ∧ GR.cps.toList.all (fun c => alpha.contains c) = true ∧ OD.cps.toList.all (fun c => alpha.contains c) = true ∧ ("abcxyz" : Str).cps.toList.all (fun c => alpha.contains c) = true := by decide +kernel
theorem in_alpha {x : Str} (h : x.cps.toList.all (fun c => alpha.contains c) = true) : ∀ c ∈ x.cps.toList, c ∈ alpha := fun c hc => List.contains_iff_mem.mp (List.all_eq_true.mp h c hc)
theorem app_chars {x : Str} {ch : Nat} : (x ++ (⟨#[ch]⟩ : Str)).cps.toList = x.cps.toList ++ [ch] := by
  show (x.cps ++ #[ch]).toList = _
  simp
theorem app_len {x : Str} {ch : Nat} : (x ++ (⟨#[ch]⟩ : Str)).length = x.length + 1 := by
  show (x.cps ++ #[ch]).size = _
  simp
  rfl
theorem add_str {x : Str} {ch : Nat} {s : Sto} (h : x.length ≤ 100) : Lf.binop .Add false (.str x) (.str ⟨#[ch]⟩) s = .ok (.str (x ++ ⟨#[ch]⟩)) s := by
  show chk (decide ((x ++ (⟨#[ch]⟩ : Str)).length ≤ sizeLine)) (ret (D.str (x ++ ⟨#[ch]⟩))) s = _
  have z : (x ++ (⟨#[ch]⟩ : Str)).length ≤ sizeLine := by
    rw [app_len]
    exact Nat.le_trans (Nat.succ_le_succ h) (by decide)
  rw [chk_app, if_pos (decide_eq_true z)]
  rfl
theorem ints_all {m : Nat} {i0 : Int} : ∀ x ∈ intsTo m i0, ∃ i, x = .int i := by
  intro x hx
  obtain ⟨i, _, rfl⟩ := List.mem_map.mp hx
  exact ⟨_, rfl⟩
theorem ints_len {m : Nat} {i0 : Int} : (intsTo m i0).length = m := by
  unfold intsTo
  rw [List.length_map, List.length_range]
theorem walk_rng {x : D} {s : Sto} {Q : List D → Sto → Prop} {m : Int} (h : ∃ j : Int, x = .int j ∧ 0 ≤ j ∧ j ≤ m) (hm : m < 1000) (q : ∀ xs, xs.length ≤ m.toNat → (∀ x ∈ xs, ∃ i, x = D.int i) → Q xs s) : WpM (walkW .range [x] s) Q := by
  obtain ⟨j, rfl, h0, h1⟩ := h
  show WpM (chk (decide (j < 16777216) && decide (-(2 ^ 62) ≤ j)) (ret (intsTo j.toNat 0)) s) Q
  rw [wm_chk]
  refine ⟨by rw [decide_eq_true (by omega), decide_eq_true (by omega)]; rfl, ?_⟩
  exact q _ (by rw [ints_len]; omega) ints_all
theorem note_wp (hd : Draw s k c b) (hb : b + 100 < 2 ^ 60) (q : ∀ x s', Nt x → Draw s' k c (b + 100) → Fr k c s s' → Q (.str x) s') : WpM ((G (n + 3)).call lo 9 [.m k] s) Q := by
  refine wm_call (f := f9.fn) rfl rfl (wm_run rfl ?_)
  show Wp (exs (G (n + 2)) s.length b9 [some (.m k), none, none, none, none, none] s) _ _ _ _
  unfold b9
  rw [wp_cons, wp_par]
  refine pick_ev hT hP (ev_var rfl) (xs := [.str "abcxyz", .str SM]) rfl (by simp) (by show 2 < 2 ^ 64; decide) rfl hd (by omega) fun x s1 hx h1 f1 => ?_
  obtain ⟨y, rfl, hy0, hy1, hy2⟩ : ∃ y : Str, x = .str y ∧ 0 < y.length ∧ y.length < 2 ^ 64 ∧ ∀ c ∈ y.cps.toList, c ∈ alpha := by
    rcases List.mem_cons.mp hx with rfl | hx
    · exact ⟨_, rfl, by decide, by decide, in_alpha small_in.2.2.2⟩
    · rcases List.mem_cons.mp hx with rfl | hx
      · exact ⟨_, rfl, by decide, by decide, in_alpha small_in.1⟩
      · cases hx
  have e0 : ev (G (n + 2)) s.length (.str "") [some (.m k), none, none, none, none, none] s1 = .ok (.str "") s1 := rfl
  rw [wm_eq e0, if_pos (by simp), wp_cons, wp_for, wm_evs]
  show WpM (ev (G (n + 2)) s.length _ [some (.m k), some (.str y), some (.str ""), none, none, none] s1) _
  refine pick_ev hT hP (ev_var rfl) (xs := [.int 0, .int 1, .int 1, .int 2, .int 3, .int 7, .int 8, .int 9]) rfl (by simp) (by show 8 < 2 ^ 64; decide) rfl h1 (by omega) fun x s2 hx h2 f2 => ?_
  rw [wm_evs0]
  refine walk_rng (m := 9) ?_ (by omega) fun xs hl hi => ?_
  · simp only [List.mem_cons, List.not_mem_nil, or_false] at hx
    rcases hx with rfl | rfl | rfl | rfl | rfl | rfl | rfl | rfl <;> exact ⟨_, rfl, by omega, by omega⟩
  refine wp_forL (fun xs r s3 => ∃ (fo : Str) (a3 a4 a5 : Option D), r = [some (.m k), some (.str y), some (.str fo), a3, a4, a5] ∧ fo.length + xs.length ≤ 9 ∧ (∀ c ∈ fo.cps.toList, c ∈ alpha) ∧ (∀ x ∈ xs, ∃ i, x = D.int i) ∧ Draw s3 k c (b + 80 - 4 * xs.length) ∧ Fr k c s s3) ?_ ?_
    ⟨"", none, none, none, rfl, by show 0 + xs.length ≤ 9; have : xs.length ≤ 9 := hl; omega, (fun c hc => by cases hc), hi, h2.le (by have : xs.length ≤ 9 := hl; omega), f1.trans f2⟩
  · rintro x rest r s3 ⟨fo, a3, a4, a5, rfl, l1, l2, l3, hdr, fr⟩
    obtain ⟨i3, rfl⟩ := l3 x List.mem_cons_self
    refine ⟨[some (.m k), some (.str y), some (.str fo), some (.int i3), a4, a5], rfl, ?_⟩
    rw [List.length_cons] at l1 hdr
    refine st_setW (by simp) ?_
    refine pick_evS hT hP (ev_var rfl) (ev_var rfl) hy0 hy1 hdr (by omega) fun ch s4 hch h4 f4 => ?_
    show Wp (exs _ _ _ [some (.m k), some (.str y), some (.str fo), some (.int i3), some (.str ⟨#[ch]⟩), a5] s4) _ _ _ _
    refine st_setW (by simp) ?_
    refine take_ev hT (ev_var rfl) rfl (by omega) (by omega) h4 (by omega) fun i5 s5 g0 g1 h5 f5 => ?_
    show Wp (exs _ _ _ [some (.m k), some (.str y), some (.str fo), some (.int i3), some (.str ⟨#[ch]⟩), some (.int i5)] s5) _ _ _ _
    have fin : ∀ {B C : Lf.Env → Sto → Prop} {T : D → Sto → Prop} (ch : Nat) (s6 : Sto) (bb : Int), ch ∈ alpha → Draw s6 k c bb → bb ≤ b + 80 - 4 * rest.length → Fr k c s s6 →
        Wp (exs (G (n + 2)) s.length [.set (.nm 2) (.bin .Add false (.var 2) (.var 4))] [some (.m k), some (.str y), some (.str fo), some (.int i3), some (.str ⟨#[ch]⟩), some (.int i5)] s6)
          (fun r2 s2 => stays (srcOf .range [x]) s3 s2 = true ∧ ∃ (fo : Str) (a3 a4 a5 : Option D), r2 = [some (.m k), some (.str y), some (.str fo), a3, a4, a5] ∧ fo.length + rest.length ≤ 9 ∧ (∀ c ∈ fo.cps.toList, c ∈ alpha) ∧ (∀ x ∈ rest, ∃ i, x = D.int i) ∧ Draw s2 k c (b + 80 - 4 * rest.length) ∧ Fr k c s s2)
          B C T := by
      intro B C T ch s6 bb hch hdr6 hbb fr6
      refine st_set (by rw [bin_ev (ev_var rfl) (ev_var rfl)]; exact add_str (by omega)) (by simp) ?_
      rw [wp_nil]
      refine ⟨rfl, fo ++ ⟨#[ch]⟩, _, _, _, rfl, by rw [app_len]; omega, fun d hd => ?_, fun x hx => l3 x (List.mem_cons_of_mem _ hx), hdr6.le hbb, fr6⟩
      rw [app_chars] at hd
      rcases List.mem_append.mp hd with z | z
      · exact l2 d z
      · rw [List.mem_singleton.mp z]
        exact hch
    have t : tst (G (n + 2)) s.length (.bo true [.cmp .Eq (.var 5) (.int 0), .bo false [.cmp .Eq (.var 3) (.int 0), .cmp .Lt (.var 5) (.int 6)]]) [some (.m k), some (.str y), some (.str fo), some (.int i3), some (.str ⟨#[ch]⟩), some (.int i5)] s5 =
        .ok ((i5 == 0) || ((i3 == 0) && decide (i5 < 6))) s5 := tst_ev (or_ev (cmp_ev (ev_var rfl) rfl rfl) (and_ev (cmp_ev (ev_var rfl) rfl rfl) fun _ => cmp_ev (ev_var rfl) rfl rfl)) rfl
    refine st_if t (fun _ => ?_) (fun _ => ?_)
    · refine st_setW (by simp) ?_
      refine pick_evS hT hP (ev_var rfl) (x := GR) rfl (by decide) (by decide) h5 (by omega) fun ch6 s6 hc6 h6 f6 => ?_
      rw [wp_nil]
      exact fin ch6 s6 _ (in_alpha small_in.2.1 ch6 hc6) h6 (by omega) (((fr.trans f4).trans f5).trans f6)
    · refine st_if (tst_ev (cmp_ev (ev_var rfl) rfl (k := i5 == 11) rfl) rfl) (fun _ => ?_) (fun _ => ?_)
      · refine st_setW (by simp) ?_
        refine pick_evS hT hP (ev_var rfl) (x := OD) rfl (by decide) (by decide) h5 (by omega) fun ch6 s6 hc6 h6 f6 => ?_
        rw [wp_nil, wp_nil]
        exact fin ch6 s6 _ (in_alpha small_in.2.2.1 ch6 hc6) h6 (by omega) (((fr.trans f4).trans f5).trans f6)
      · rw [wp_nil, wp_nil]
        exact fin ch s5 _ (hy2 ch hch) h5 (by omega) ((fr.trans f4).trans f5)
  · rintro r s3 ⟨fo, a3, a4, a5, rfl, l1, l2, _, hdr, fr⟩
    refine st_ret (ev_var rfl) (ret_pure fr rfl (q fo s3 ⟨by rw [List.length_nil] at l1; omega, l2⟩ (hdr.le (by omega)) fr))
end
end K02
end
section
set_option maxHeartbeats 4000000
namespace K02
open PySem Lf
def one1 (c : Nat) : Str := ⟨#[c]⟩
theorem join_tl : ∀ zs : List Nat, TL.tl (Txt.join "" (zs.map one1)) = zs := by
  intro zs
  rw [TL.join_eq, TL.tl_join]
  have e : TL.tl ("" : Str) = [] := rfl
  rw [e]
  have go : ∀ zs : List Nat, TL.joinL [] ((zs.map one1).map TL.tl) = zs := by
    intro zs
    induction zs with
    | nil => rfl
    | cons a r ih =>
      cases r with
      | nil => rfl
      | cons b r =>
        show TL.tl (one1 a) ++ ([] ++ TL.joinL [] (((b :: r).map one1).map TL.tl)) = _
        rw [ih]
        rfl
  exact go zs
theorem txts_one (zs : List Nat) : txts (zs.map fun c => D.str (one1 c)) = some (zs.map one1) := by
  induction zs with
  | nil => rfl
  | cons a r ih =>
    rw [List.map_cons, List.map_cons]
    unfold txts
    rw [ih]
    rfl
theorem sum_one (zs : List Nat) : ((zs.map one1).map (·.length)).sum = zs.length := by
  induction zs with
  | nil => rfl
  | cons a r ih =>
    rw [List.map_cons, List.map_cons, List.sum_cons, ih, List.length_cons]
    show 1 + r.length = _
    omega
theorem join_ok {lo : Nat} {zs : List Nat} {s : Sto} (h : zs.length ≤ 100) : meV lo .join (.str "") [.lst (zs.map fun c => D.str (one1 c))] s = .ok (.str (Txt.join "" (zs.map one1))) s := by
  show (bnd (ofO (txts (zs.map fun c => D.str (one1 c)))) fun ys => bnd (ofO (txtOf (.str ""))) fun x => joinV x ys) s = _
  rw [txts_one, bnd_app, ofO_app, bind_ok]
  show joinV "" (zs.map one1) s = _
  unfold joinV
  have l1 : ((zs.map one1).map (·.length)).sum + (zs.map one1).length * ("" : Str).length ≤ sizeLine := by
    rw [sum_one]
    show zs.length + (zs.map one1).length * 0 ≤ sizeLine
    exact Nat.le_trans (show _ ≤ 100 by omega) (by decide)
  have l2 : (Txt.join "" (zs.map one1)).length ≤ sizeLine := by
    have : (Txt.join "" (zs.map one1)).length = zs.length := by
      show (Txt.join "" (zs.map one1)).cps.size = _
      rw [← Array.length_toList]
      exact congrArg List.length (join_tl zs)
    rw [this]
    exact Nat.le_trans h (by decide)
  rw [chk_app, if_pos (decide_eq_true l1)]
  unfold mkS
  rw [chk_app, if_pos (decide_eq_true l2)]
  rfl
theorem app_tl {x y : Str} : (x ++ y).cps.toList = x.cps.toList ++ y.cps.toList := by
  show (x.cps ++ y.cps).toList = _
  simp
theorem add_strs {x y : Str} {s : Sto} (h : x.length + y.length ≤ 100) : Lf.binop .Add false (.str x) (.str y) s = .ok (.str (x ++ y)) s := by
  show chk (decide ((x ++ y).length ≤ sizeLine)) (ret (D.str (x ++ y))) s = _
  have e : (x ++ y).length = x.length + y.length := by
    show (x.cps ++ y.cps).size = _
    rw [Array.size_append]
    rfl
  have z : (x ++ y).length ≤ sizeLine := by
    rw [e]
    exact Nat.le_trans h (by decide)
  rw [chk_app, if_pos (decide_eq_true z)]
  rfl
section
variable {n lo k c : Nat} {s : Sto} {b : Int} {Q : D → Sto → Prop}
theorem even_wp (hd : Draw s k c b) (hb : b + 100 < 2 ^ 60) (q : ∀ x s', Nt x → Draw s' k c (b + 100) → Fr k c s s' → Q (.str x) s') : WpM ((G (n + 3)).call lo 10 [.m k] s) Q := by
  refine wm_call (f := f10.fn) rfl rfl (wm_run rfl ?_)
  show Wp (exs (G (n + 2)) s.length b10 [some (.m k), none, none] s) _ _ _ _
  unfold b10
  refine st_setW (by simp) ?_
  refine pick_ev hT hP (ev_var rfl) (xs := [.str "a", .str "z", .str "q", .str "A", .str "Z", .str "Q"]) rfl (by simp) (by show 6 < 2 ^ 64; decide) rfl hd (by omega) fun x s1 hx h1 f1 => ?_
  obtain ⟨a, rfl, ha⟩ : ∃ a : Nat, x = .str (one1 a) ∧ a ∈ alpha := by
    simp only [List.mem_cons, List.not_mem_nil, or_false] at hx
    rcases hx with rfl | rfl | rfl | rfl | rfl | rfl
    · exact ⟨97, rfl, by decide +kernel⟩
    · exact ⟨122, rfl, by decide +kernel⟩
    · exact ⟨113, rfl, by decide +kernel⟩
    · exact ⟨65, rfl, by decide +kernel⟩
    · exact ⟨90, rfl, by decide +kernel⟩
    · exact ⟨81, rfl, by decide +kernel⟩
  refine st_retW ?_
  show WpM (ev (G (n + 2)) s.length _ [some (.m k), some (.str (one1 a)), none] s1) _
  have e0 : ev (G (n + 2)) s.length (.var 1) [some (.m k), some (.str (one1 a)), none] s1 = .ok (.str (one1 a)) s1 := ev_var rfl
  have e1 : ev (G (n + 2)) s.length (.str "") [some (.m k), some (.str (one1 a)), none] s1 = .ok (.str "") s1 := rfl
  have e2 : meK .join (.str "") s1 = .ok () s1 := rfl
  rw [wm_bin, wm_eq e0, wm_me, wm_eq e1, wm_eq e2, wm_evs, wm_comp, wm_evs]
  refine pick_ev hT hP (ev_var rfl) (xs := [.int 0, .int 6, .int 7, .int 8]) rfl (by simp) (by show 4 < 2 ^ 64; decide) rfl h1 (by omega) fun x s2 hx h2 f2 => ?_
  rw [wm_evs0]
  refine walk_rng (m := 8) ?_ (by omega) fun xs hl hi => ⟨?_, ?_⟩
  · simp only [List.mem_cons, List.not_mem_nil, or_false] at hx
    rcases hx with rfl | rfl | rfl | rfl <;> exact ⟨_, rfl, by omega, by omega⟩
  · exact Nat.le_trans hl (by decide)
  · refine compL_wp (fun xs acc s3 => ∃ zs : List Nat, acc = zs.map (fun c => D.str (one1 c)) ∧ zs.length + xs.length ≤ 8 ∧ (∀ c ∈ zs, c ∈ alpha) ∧ Draw s3 k c (b + 20 - xs.length) ∧ Fr k c s s3) ?_ (acc := [])
      ⟨[], rfl, by show 0 + xs.length ≤ 8; have : xs.length ≤ 8 := hl; omega, (fun c hc => by cases hc), h2.le (by have : xs.length ≤ 8 := hl; omega), f1.trans f2⟩ ?_
    · rintro y rest acc s3 ⟨zs, rfl, l1, l2, hdr, fr⟩
      rw [List.length_cons] at l1 hdr
      refine ⟨[some (.m k), some (.str (one1 a)), some y], rfl, ?_⟩
      show WpM (ev (G (n + 2)) s.length _ _ s3) _
      refine pick_evS hT hP (ev_var rfl) (x := "abcxyz") rfl (by decide) (by decide) hdr (by omega) fun ch s4 hch h4 f4 => ?_
      refine ⟨rfl, zs ++ [ch], by rw [List.map_append]; rfl, by rw [List.length_append]; simp; omega, fun d hd => ?_, h4.le (by omega), fr.trans f4⟩
      rcases List.mem_append.mp hd with z | z
      · exact l2 d z
      · rw [List.mem_singleton.mp z]
        exact in_alpha small_in.2.2.2 ch hch
    · rintro ys s3 ⟨zs, ez, l1, l2, hdr, fr⟩
      rw [List.nil_append] at ez
      subst ez
      rw [List.length_nil] at l1
      rw [wm_evs0, wm_eq (join_ok (by omega))]
      have lj : (Txt.join "" (zs.map one1)).length = zs.length := by
        show (Txt.join "" (zs.map one1)).cps.size = _
        rw [← Array.length_toList]
        exact congrArg List.length (join_tl zs)
      have l0 : (one1 a).length = 1 := rfl
      rw [wm_eq (add_strs (by omega))]
      refine ret_pure fr rfl (q _ s3 ⟨?_, fun d hd => ?_⟩ (hdr.le (by omega)) fr)
      · have : (one1 a ++ Txt.join "" (zs.map one1)).length = 1 + zs.length := by
          show ((one1 a).cps ++ (Txt.join "" (zs.map one1)).cps).size = _
          rw [Array.size_append]
          show (one1 a).length + (Txt.join "" (zs.map one1)).length = _
          rw [lj, l0]
        omega
      · rw [app_tl] at hd
        rcases List.mem_append.mp hd with z | z
        · have : d ∈ [a] := z
          rw [List.mem_singleton.mp this]
          exact ha
        · have e : (Txt.join "" (zs.map one1)).cps.toList = zs := join_tl zs
          rw [e] at z
          exact l2 d z
end
/-! ### the checks -/
theorem sh_str {x : Str} (hx : Nt x) : shB (.str x) = true := by
  have l : (PyData.shown (.str x)).length ≤ sizeLine := by
    show (reprText x).length ≤ sizeLine
    refine Nat.le_trans (StrLaws.reprText_len x fun c hc => ?_) ?_
    · exact Nat.lt_trans (charOk (hx.2 c hc)).lt (by decide)
    · have := hx.1
      exact Nat.le_trans (show _ ≤ 162 by omega) (by decide)
  show (true && decide (0 ≤ 64) && decide ((PyData.shown (.str x)).length ≤ sizeLine)) = true
  rw [decide_eq_true l]
  rfl
theorem th_repr {d : D} (h : Th d) : ∃ z, ∀ s, biV .repr false [d] s = .ok (.str z) s := by
  rcases h with ⟨x, rfl, hx⟩ | ⟨t, h⟩
  · exact ⟨_, fun s => repr_pure (p := .str x) rfl (sh_str hx)⟩
  · obtain ⟨p, e, hp⟩ := h.shows
    exact ⟨_, fun s => repr_pure e hp⟩
structure Pus (d : D) (a b c : Bool) : Prop where
  p0 : Pu (G 6) 0 [d] (.bl a)
  p1 : Pu (G 6) 1 [d] (.bl b)
  p3 : Pu (G 6) 3 [d] (.bl c)
  p12 : Pu (G 6) 12 [d] (.lst [.bl a, .bl b, .bl c])
theorem th_pus {d : D} (h : Th d) : ∃ a b c, Pus d a b c := by
  rcases h with ⟨x, rfl, hx⟩ | ⟨t, h⟩
  · exact ⟨_, _, _, pu_name hx, pu_title hx, pu_worth (t := .str) fun _ => rfl, pu_due hx⟩
  · exact ⟨_, _, _, pu_nameN h, pu_titleN h, pu_worth h.tag, pu_dueN h⟩
theorem sh_bls (a b c : Bool) : shB (.list [.bool a, .bool b, .bool c]) = true := by
  cases a <;> cases b <;> cases c <;> decide +kernel
theorem ne_same {z : Str} {s : Sto} : cmpB .NotEq (.str z) (.str z) s = .ok false s := by
  show (R.ok (!(z == z)) s : R Bool) = _
  rw [beq_self_eq_true]
  rfl
section
variable {lo : Nat} {s : Sto} {d : D} {a0 a1 a2 a4 : Option D} {a b c : Bool}
theorem chk1 (h : Pus d a b c) : tst (G 6) lo (.cmp .NotEq (.bi .repr false [.lst false [.call 0 [] [0] [.var 3] [], .call 1 [] [0] [.var 3] [], .call 3 [] [0] [.var 3] []]]) (.bi .repr false [.call 12 [] [0] [.var 3] []])) [a0, a1, a2, some d, a4] s = .ok false s := by
  have r1 := repr_pure (s := s) (mu := false) (p := .list [.bool a, .bool b, .bool c]) (d := .lst [.bl a, .bl b, .bl c]) rfl (sh_bls a b c)
  have v : ev (G 6) lo (.var 3) [a0, a1, a2, some d, a4] s = .ok d s := ev_var rfl
  exact tst_ev (cmp_ev (bi1_ev (ret3 (pu_ev v rfl h.p0).1 (pu_ev v rfl h.p1).1 (pu_ev v rfl h.p3).1) r1) (bi1_ev (pu_ev v rfl h.p12).1 r1) ne_same) rfl
theorem chk2 (h : Pus d a b c) : tst (G 6) lo (.cmp .NotEq (.bi .repr false [.lst false [.call 0 ["value"] [0] [] [.var 3], .call 1 ["value"] [0] [] [.var 3], .call 3 ["value"] [0] [] [.var 3]]]) (.bi .repr false [.call 12 [] [0] [.var 3] []])) [a0, a1, a2, some d, a4] s = .ok false s := by
  have r1 := repr_pure (s := s) (mu := false) (p := .list [.bool a, .bool b, .bool c]) (d := .lst [.bl a, .bl b, .bl c]) rfl (sh_bls a b c)
  have v : ev (G 6) lo (.var 3) [a0, a1, a2, some d, a4] s = .ok d s := ev_var rfl
  exact tst_ev (cmp_ev (bi1_ev (ret3 (pu_ev v rfl h.p0).2 (pu_ev v rfl h.p1).2 (pu_ev v rfl h.p3).2) r1) (bi1_ev (pu_ev v rfl h.p12).1 r1) ne_same) rfl
end
/-! ### the law -/
section
variable {lo k c : Nat} {s : Sto} {b : Int} {r : Lf.Env} {Q : D → Sto → Prop}
theorem note_ev (v : ev (G 6) lo (.var 1) r s = .ok (.m k) s) (hd : Draw s k c b) (hb : b + 100 < 2 ^ 60) (q : ∀ d s', Th d → Draw s' k c (b + 100) → Q d s') : WpM (ev (G 6) lo (.call 9 [] [0] [.var 1] []) r s) Q := by
  rw [wm_callE, wm_eq (evs_cons v evs_nil), wm_eq evs_nil]
  exact note_wp (n := 3) hd hb fun x s' hx h _ => q _ s' (.inl ⟨x, rfl, hx⟩) h
theorem even_ev (v : ev (G 6) lo (.var 1) r s = .ok (.m k) s) (hd : Draw s k c b) (hb : b + 100 < 2 ^ 60) (q : ∀ d s', Th d → Draw s' k c (b + 100) → Q d s') : WpM (ev (G 6) lo (.call 10 [] [0] [.var 1] []) r s) Q := by
  rw [wm_callE, wm_eq (evs_cons v evs_nil), wm_eq evs_nil]
  exact even_wp (n := 3) hd hb fun x s' hx h _ => q _ s' (.inl ⟨x, rfl, hx⟩) h
theorem odd_ev (v : ev (G 6) lo (.var 1) r s = .ok (.m k) s) (hd : Draw s k c b) (hb : b + 100 < 2 ^ 60) (q : ∀ d s', Th d → Draw s' k c (b + 1) → Q d s') : WpM (ev (G 6) lo (.call 8 [] [0] [.var 1] []) r s) Q := by
  rw [wm_callE, wm_eq (evs_cons v evs_nil), wm_eq evs_nil]
  exact odd_wp (n := 3) hd (by omega) fun d s' hx h _ => q d s' hx h
theorem amount_ev (v : ev (G 6) lo (.var 1) r s = .ok (.m k) s) (hd : Draw s k c b) (hb : b + 100 < 2 ^ 60) (q : ∀ d s', Th d → Draw s' k c (b + 2) → Q d s') : WpM (ev (G 6) lo (.call 7 [] [0] [.var 1] []) r s) Q := by
  rw [wm_callE, wm_eq (evs_cons v evs_nil), wm_eq evs_nil]
  exact amount_wp (n := 3) hd (by omega) fun d s' hx h _ => q d s' hx h
/-- take .. op 0, then one or the other -/
theorem if_take {op : CmpOp} {m : Int} {p q : E} {f : Int → Bool} (v : ev (G 6) lo (.var 1) r s = .ok (.m k) s) (hm : 0 < m) (hm2 : m < 2 ^ 64) (hf : ∀ i s', cmpB op (.int i) (.int 0) s' = .ok (f i) s') (hd : Draw s k c b) (hb : b < 2 ^ 60)
    (h : ∀ s', Draw s' k c (b + 1) → WpM (ev (G 6) lo p r s') Q ∧ WpM (ev (G 6) lo q r s') Q) : WpM (ev (G 6) lo (.ife (.cmp op (.call 5 [] [0, 1] [.var 1, .int m] []) (.int 0)) p q) r s) Q := by
  rw [wm_ife, wm_cmp]
  refine take_ev (n := 5) hT v rfl hm hm2 hd hb fun i s' _ _ h1 _ => ?_
  have e0 : ev (G 6) lo (.int 0) r s' = .ok (.int 0) s' := rfl
  rw [wm_eq e0, wm_eq (hf i s')]
  have e1 : truth (.bl (f i)) s' = .ok (f i) s' := rfl
  rw [wm_eq e1]
  obtain ⟨h2, h3⟩ := h s' h1
  cases f i with
  | true => exact h2
  | false => exact h3
theorem if_takeS {m : Int} {p q : List S} {N B C : Lf.Env → Sto → Prop} {T : D → Sto → Prop} (v : ev (G 6) lo (.var 1) r s = .ok (.m k) s) (hm : 0 < m) (hm2 : m < 2 ^ 64) (hd : Draw s k c b) (hb : b < 2 ^ 60)
    (h : ∀ s', Draw s' k c (b + 1) → Wp (exs (G 6) lo p r s') N B C T ∧ Wp (exs (G 6) lo q r s') N B C T) : Wp (ex (G 6) lo (.ife (.cmp .Eq (.call 5 [] [0, 1] [.var 1, .int m] []) (.int 0)) p q) r s) N B C T := by
  rw [wp_ife, wm_tst, wm_cmp]
  refine take_ev (n := 5) hT v rfl hm hm2 hd hb fun i s' _ _ h1 _ => ?_
  have e0 : ev (G 6) lo (.int 0) r s' = .ok (.int 0) s' := rfl
  have e2 : cmpB .Eq (.int i) (.int 0) s' = .ok (i == 0) s' := rfl
  rw [wm_eq e0, wm_eq e2]
  have e1 : truth (.bl (i == 0)) s' = .ok (i == 0) s' := rfl
  rw [wm_eq e1]
  obtain ⟨h2, h3⟩ := h s' h1
  cases (i == 0) with
  | true => exact h2
  | false => exact h3
abbrev evenS : S := .set (.nm 3) (.ife (.cmp .Eq (.call 5 [] [0, 1] [.var 1, .int 3] []) (.int 0)) (.call 10 [] [0] [.var 1] []) (.var 3))
abbrev someS : S := .ife (.cmp .Eq (.call 5 [] [0, 1] [.var 1, .int 5] []) (.int 0)) [.set (.nm 3) (.call 6 [] [0, 1] [.var 1, .lst false [.int 0, .int 1, .neg (.int 1), .bl true, .bl false, .bin .Pow false (.int 10) (.int 40), .call 7 [] [0] [.var 1] [], .lst false [.str "x"], .tup [.str "A"]]] [])] []
abbrev checks : List S := [.set (.nm 4) (.bi .repr false [.var 3]),
    .ife (.cmp .NotEq (.bi .repr false [.lst false [.call 0 [] [0] [.var 3] [], .call 1 [] [0] [.var 3] [], .call 3 [] [0] [.var 3] []]]) (.bi .repr false [.call 12 [] [0] [.var 3] []])) [.ret (.bl false)] [],
    .ife (.cmp .NotEq (.bi .repr false [.lst false [.call 0 ["value"] [0] [] [.var 3], .call 1 ["value"] [0] [] [.var 3], .call 3 ["value"] [0] [] [.var 3]]]) (.bi .repr false [.call 12 [] [0] [.var 3] []])) [.ret (.bl false)] [],
    .ife (.cmp .NotEq (.bi .repr false [.var 3]) (.var 4)) [.ret (.bl false)] []]
theorem gives : Gives pr TURNS DEPTH f13.fn 63 := by
  intro ns hns
  have go : WpM (runFn (G 6) 0 f13.fn [.scr ns] []) fun d _ => d = .bl true := by
    refine wm_run rfl ?_
    show Wp (exs (G 6) 0 b13 [some (.scr ns), none, none, none, none] []) _ _ _ _
    unfold b13
    refine st_setW (by simp) ?_
    have v0 : ev (G 6) 0 (.var 0) [some (.scr ns), none, none, none, none] [] = .ok (.scr ns) [] := ev_var rfl
    rw [wm_callE, wm_eq (evs_cons v0 evs_nil), wm_eq evs_nil]
    refine begin_wp (n := 5) hB hns fun k c s1 hd _ => ?_
    show Wp (exs (G 6) 0 _ [some (.scr ns), some (.m k), none, none, none] s1) _ _ _ _
    have ex : ev (G 6) 0 (.bin .Add false (.int 20) (.bi .min false [.bi .len false [.var 0], .int 40])) [some (.scr ns), some (.m k), none, none, none] s1 =
        .ok (.int (20 + (if (40 : Int) < ((ns.map D.int).length : Int) then 40 else ((ns.map D.int).length : Int)))) s1 := rfl
    rw [wp_cons, wp_for, wm_eq (evs_cons ex evs_nil)]
    refine walk_rng (m := 60) ⟨_, rfl, by split <;> omega, by split <;> omega⟩ (by omega) fun xs hl hi => ?_
    have hl : xs.length ≤ 60 := hl
    refine wp_forL (fun xs r s => ∃ a2 a3 a4 : Option D, r = [some (.scr ns), some (.m k), a2, a3, a4] ∧ xs.length ≤ 60 ∧ Draw s k c (18000 - 300 * xs.length)) ?_ ?_ ⟨none, none, none, rfl, hl, hd.le (by omega)⟩
    · rintro x rest r s ⟨a2, a3, a4, rfl, hx, hd⟩
      rw [List.length_cons] at hx hd
      refine ⟨[some (.scr ns), some (.m k), some x, a3, a4], rfl, ?_⟩
      have v : ∀ (o3 o4 : Option D) s, ev (G 6) 0 (.var 1) [some (.scr ns), some (.m k), some x, o3, o4] s = .ok (.m k) s := fun _ _ _ => ev_var rfl
      refine st_setW (by simp) ?_
      refine if_take (f := fun i => decide (0 < i)) (v _ _ _) (by omega) (by omega) (fun _ _ => rfl) hd (by omega) fun s1 h1 => ?_
      have fin : ∀ {B C : Lf.Env → Sto → Prop} (d : D) (o4 : Option D) (s2 : Sto) (bb : Int), Th d → Draw s2 k c bb → bb ≤ 18000 - 300 * rest.length →
          Wp (exs (G 6) 0 checks [some (.scr ns), some (.m k), some x, some d, o4] s2)
            (fun r2 s2 => stays none s s2 = true ∧ ∃ a2 a3 a4 : Option D, r2 = [some (.scr ns), some (.m k), a2, a3, a4] ∧ rest.length ≤ 60 ∧ Draw s2 k c (18000 - 300 * rest.length)) B C (fun d s1 => d.under 0 = true ∧ d = .bl true) := by
        intro B C d o4 s2 bb th h2 hbb
        obtain ⟨z, hz⟩ := th_repr th
        obtain ⟨p, q, u, pu⟩ := th_pus th
        refine st_set (bi1_ev (ev_var rfl) (hz s2)) (by simp) ?_
        show Wp (exs (G 6) 0 _ [some (.scr ns), some (.m k), some x, some d, some (.str z)] s2) _ _ _ _
        refine st_if (chk1 pu) (fun y => by cases y) fun _ => ?_
        rw [wp_nil]
        refine st_if (chk2 pu) (fun y => by cases y) fun _ => ?_
        rw [wp_nil]
        refine st_if (tst_ev (cmp_ev (bi1_ev (ev_var rfl) (hz s2)) (ev_var rfl) ne_same) rfl) (fun y => by cases y) fun _ => ?_
        rw [wp_nil, wp_nil]
        exact ⟨rfl, _, _, _, rfl, by omega, h2.le hbb⟩
      have mid : ∀ {B C : Lf.Env → Sto → Prop} (d : D) (s2 : Sto) (bb : Int), Th d → Draw s2 k c bb → bb ≤ 17920 - 300 * rest.length →
          Wp (exs (G 6) 0 (someS :: checks) [some (.scr ns), some (.m k), some x, some d, a4] s2)
            (fun r2 s2 => stays none s s2 = true ∧ ∃ a2 a3 a4 : Option D, r2 = [some (.scr ns), some (.m k), a2, a3, a4] ∧ rest.length ≤ 60 ∧ Draw s2 k c (18000 - 300 * rest.length)) B C (fun d s1 => d.under 0 = true ∧ d = .bl true) := by
        intro B C d s2 bb th h2 hbb
        rw [wp_cons]
        refine if_takeS (v _ _ _) (by omega) (by omega) h2 (by omega) fun s3 h3 => ⟨?_, ?_⟩
        · refine st_setW (by simp) ?_
          have e1 : evs (G 6) 0 [.int 0, .int 1, .neg (.int 1), .bl true, .bl false, .bin .Pow false (.int 10) (.int 40)] [some (.scr ns), some (.m k), some x, some d, a4] s3 = .ok [.int 0, .int 1, .int (-1), .bl true, .bl false, .int (10 ^ 40)] s3 := rfl
          rw [wm_callE, wm_evs, wm_eq (v _ _ _), wm_evs, wm_lst]
          show WpM (evs (G 6) 0 ([.int 0, .int 1, .neg (.int 1), .bl true, .bl false, .bin .Pow false (.int 10) (.int 40)] ++ [.call 7 [] [0] [.var 1] [], .lst false [.str "x"], .tup [.str "A"]]) [some (.scr ns), some (.m k), some x, some d, a4] s3) _
          rw [wm_evs_app, wm_eq e1, wm_evs]
          refine amount_ev (v _ _ _) h3 (by omega) fun d7 s4 th7 h4 => ?_
          have e2 : evs (G 6) 0 [.lst false [.str "x"], .tup [.str "A"]] [some (.scr ns), some (.m k), some x, some d, a4] s4 = .ok [.lst [.str "x"], .tup [.str "A"]] s4 := rfl
          rw [wm_eq e2]
          refine ⟨by show 9 ≤ sizeLine; decide, ?_⟩
          rw [wm_evs0, wm_evs0]
          have th1 : ([.int 0, .int 1, .int (-1), .bl true, .bl false, .int (10 ^ 40), .lst [.str "x"], .tup [.str "A"]] : List D).all thB = true := by decide +kernel
          have th2 := List.all_eq_true.mp th1
          refine pick_wp (n := 4) hT hP (xs := [.int 0, .int 1, .int (-1), .bl true, .bl false, .int (10 ^ 40), d7, .lst [.str "x"], .tup [.str "A"]]) (by simp) (by show 9 < 2 ^ 64; decide) ?_ h4 (by omega) fun y s5 hy h5 _ => ?_
          · have := th_pure th7
            simp [underL, D.under, this]
          · have ty : Th y := by
              simp only [List.mem_cons, List.not_mem_nil, or_false] at hy
              rcases hy with e | e | e | e | e | e | e | e | e
              · exact th_ok (th2 y (by rw [e]; simp))
              · exact th_ok (th2 y (by rw [e]; simp))
              · exact th_ok (th2 y (by rw [e]; simp))
              · exact th_ok (th2 y (by rw [e]; simp))
              · exact th_ok (th2 y (by rw [e]; simp))
              · exact th_ok (th2 y (by rw [e]; simp))
              · rw [e]; exact th7
              · exact th_ok (th2 y (by rw [e]; simp))
              · exact th_ok (th2 y (by rw [e]; simp))
            rw [wp_nil]
            exact fin y a4 s5 _ ty h5 (by omega)
        · rw [wp_nil]
          exact fin d a4 s3 _ th h3 (by omega)
      have nxt : ∀ {B C : Lf.Env → Sto → Prop} (d : D) (s2 : Sto) (bb : Int), Th d → Draw s2 k c bb → bb ≤ 17810 - 300 * rest.length →
          Wp (exs (G 6) 0 (evenS :: someS :: checks) [some (.scr ns), some (.m k), some x, some d, a4] s2)
            (fun r2 s2 => stays none s s2 = true ∧ ∃ a2 a3 a4 : Option D, r2 = [some (.scr ns), some (.m k), a2, a3, a4] ∧ rest.length ≤ 60 ∧ Draw s2 k c (18000 - 300 * rest.length)) B C (fun d s1 => d.under 0 = true ∧ d = .bl true) := by
        intro B C d s2 bb th h2 hbb
        refine st_setW (by simp) ?_
        refine if_take (f := fun i => i == 0) (v _ _ _) (by omega) (by omega) (fun _ _ => rfl) h2 (by omega) fun s3 h3 => ⟨?_, ?_⟩
        · exact even_ev (v _ _ _) h3 (by omega) fun y s4 ty h4 => mid y s4 _ ty h4 (by omega)
        · have e3 : ev (G 6) 0 (.var 3) [some (.scr ns), some (.m k), some x, some d, a4] s3 = .ok d s3 := ev_var rfl
          rw [wm_eq e3]
          exact mid d s3 _ th h3 (by omega)
      exact ⟨note_ev (v _ _ _) h1 (by omega) fun y s2 ty h2 => nxt y s2 _ ty h2 (by omega), odd_ev (v _ _ _) h1 (by omega) fun y s2 ty h2 => nxt y s2 _ ty h2 (by omega)⟩
    · rintro r s ⟨a2, a3, a4, rfl, _, _⟩
      exact st_ret (d := .bl true) (s1 := s) rfl ⟨rfl, rfl⟩
  obtain ⟨d, s, e, rfl⟩ := go.get
  exact ⟨s, e⟩
end
end K02
end
section
set_option maxHeartbeats 4000000
open PySem PySem.W PySem.Calls PyProof.Rows
theorem PySem.Challenge.cw_levelfolds_k02_names_titles_and_worths_holds : PySem.Challenge.rw_levelfolds_k02_names_titles_and_worths.Holds := by
  w_on; o_law
  refine HandSHeadRun.head_any (r := OpenLaw.row PySem.Challenge.rw_levelfolds_k02_names_titles_and_worths) (q := view (OpenLaw.row PySem.Challenge.rw_levelfolds_k02_names_titles_and_worths).prog [18]) (H := K02.hk) (ob := K02.ob) (M := 3800) (loose := K02.loose) (d := HandSHeadRun.topDef (OpenLaw.row PySem.Challenge.rw_levelfolds_k02_names_titles_and_worths).prog 18) (kwd := []) K02.ob_eq
    (by kernel_rfl) (fun s => by kernel_rfl) K02.run (by kernel_rfl) (by kernel_rfl) (by kernel_rfl) (by rfl) (by first | assumption | decide +kernel) (by decide +kernel) ⟨rfl, rfl, rfl, rfl, rfl, by decide +kernel⟩ ?hw ?hc
  case hw => w_witness2
  case hc =>
    refine Lf.law_end (l := PySem.Challenge.rw_levelfolds_k02_names_titles_and_worths) (n := 63) rfl (by decide) (by kernel_rfl) fun w mg h Y G => ?_
    obtain ⟨K, KX, c1, c2⟩ := Y
    exact ⟨K, K02.hd.sg, K02.pr, 13, K02.f13.fn, K02.TURNS, K02.DEPTH, KX, Lf.Hd.prOk KX G c1 (Lf.map_each c2) K02.oks, rfl, by kernel_rfl, by kernel_rfl, rfl, ⟨rfl, by decide, by decide⟩, K02.gives⟩
end
