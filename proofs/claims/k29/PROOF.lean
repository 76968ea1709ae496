import PyProof.Rows.All
import Wide.All
import OpenK.AllK
import Wide.FinOn
import PyProof.P3Statements
import PyProof.EqLayable
import PyProof.ReprReads
import HandS.ForMost
import HandS.More
import HandS.WordsExc
import HandS.Defaults
import HandS.Wide
import HandS.Conv
import HandS.TupAny
import HandS.Zip
import HandS.Deep
import HandS.SortInts
import HandS.Style
import HandS.IsInst
import KE.GoesEnum
import HandS.SetFor
import HandS.Ends
import HandS.HeadEnd
import PyProof.Rows.StrIntSpec
import KE.KStateDown
import HandS.Head0
import HandS.Head1
import HandS.Head2
import HandS.HeadHook1
import HandS.HeadHook2
import PySem.Challenge.RW_endsandround_k29_shifts_of_commands
set_option Elab.async false
/-! DI0: data without a heap (D), a small language (E, Sm) and its meaning over data. Own text. -/
namespace DI
open PySem (Str PyData)

inductive D where
  | non | bl (b : Bool) | int (i : Int) | str (s : Str)
  | tup (xs : List D) | lst (xs : List D)
  | ins (c : Nat) (fs : List D)
  | deal | scr (ns : List Int)
  deriving Inhabited

mutual
def D.py : D → PyData
  | .non => .none
  | .bl b => .bool b
  | .int i => .int i
  | .str s => .str s
  | .tup xs => .tuple (pyAll xs)
  | .lst xs => .list (pyAll xs)
  | .ins _ _ => .dict []
  | .deal => .dict []
  | .scr _ => .dict []
def pyAll : List D → List PyData
  | [] => []
  | x :: xs => x.py :: pyAll xs
end

/-- a value at hand: frozen data; a new list that nobody else holds; the list that slot i owns; a new instance at slot i in the making -/
inductive DV where
  | f (d : D) | o (xs : List D) | b (i : Nat) | n (c : Nat) (fs : List D)
  deriving Inhabited

abbrev G := Option (List Int × Int)
structure S where
  r : List (Option DV)
  g : G
inductive Res (α : Type) where
  | ok (a : α) (s : S) | exc (c : Nat) (d : D) (s : S) | stuck
abbrev M (α : Type) := S → Res α
def ret {α : Type} (a : α) : M α := fun s => .ok a s
def stk {α : Type} : M α := fun _ => .stuck
def bnd {α β : Type} (m : M α) (f : α → M β) : M β := fun s => match m s with
  | .ok a s' => f a s'
  | .exc c d s' => .exc c d s'
  | .stuck => .stuck
def opt {α : Type} : Option α → M α
  | some a => ret a
  | none => stk

/-- the data of a value, without handing it on -/
def look : DV → M D
  | .f d => ret d
  | .o xs => ret (.lst xs)
  | .b i => fun s => match s.r[i]? with
    | some (some (.o xs)) => .ok (.lst xs) s
    | some (some (.f d)) => .ok d s
    | _ => .stuck
  | .n _ _ => stk
/-- the value is handed on: whoever owned it lets it be -/
def frz : DV → M D
  | .f d => ret d
  | .o xs => ret (.lst xs)
  | .b i => fun s => match s.r[i]? with
    | some (some (.o xs)) => .ok (.lst xs) { s with r := s.r.set i (some (.f (.lst xs))) }
    | some (some (.f d)) => .ok d s
    | _ => .stuck
  | .n _ _ => stk
def looks : List DV → M (List D)
  | [] => ret []
  | v :: vs => bnd (look v) fun d => bnd (looks vs) fun ds => ret (d :: ds)
def frzs : List DV → M (List D)
  | [] => ret []
  | v :: vs => bnd (frz v) fun d => bnd (frzs vs) fun ds => ret (d :: ds)

inductive BOp where
  | add | sub | mul | fdiv | mod | pow
  deriving DecidableEq
inductive COp where
  | eq | ne | lt | le | gt | ge | inn | nin
  deriving DecidableEq
inductive Blt where
  | len | int | abs | list | tuple | repr | min | max | sum | all | any | sorted | lenset
  deriving DecidableEq
inductive Ty where
  | int | bool | str | list | tuple | seq | cls (c : Nat)
  deriving DecidableEq
inductive ItK where
  | val | rng | enum | zip
  deriving DecidableEq
inductive Tg where
  | nm (i : Nat) | tp (ts : List Tg)

inductive E where
  | nop
  | var (i : Nat) | int (i : Int) | bl (b : Bool) | non | str (s : Str)
  | bin (o : BOp) (a b : E) | neg (a : E)
  | cmp (o : COp) (a b : E) | chain (o p : COp) (a b c : E)
  | isN (a : E) | notN (a : E)
  | and (a b : E) | or (a b : E) | not (a : E) | ite (c a b : E)
  | tup (es : List E) | lst (es : List E)
  | ix (a i : E) | sl (a lo hi : E) | rev (a : E)
  | call (f : Nat) (es : List E) | callk (f : Nat) (ps : List Nat) (es : List E)
  | make (f : Nat) (es : List E)
  | fld (a : E) (k : Nat)
  | blt (b : Blt) (es : List E)
  | isI (a : E) (t : Ty)
  | lrg (a b : E) | trg (a b : E)
  | append (i : Nat) (e : E) | pop (i : Nat) | popAt (i : Nat) (e : E)
  | index (a b : E)
  | lc (own : List Nat) (t : Tg) (k : ItK) (a b : E) (c : E) (e : E)
inductive TX where
  | nm (i : Nat) | ix (i : Nat) (e : E)
inductive Sm where
  | pass | brk | cont | retN
  | ret (e : E) | expr (e : E)
  | set (i : Nat) (e : E)
  | par (ts : List TX) (es : List E)
  | unp (ts : List Tg) (e : E)
  | setIx (i : Nat) (k e : E)
  | fset (k : Nat) (e : E)
  | ifs (c : E) (a b : List Sm)
  | for (t : Tg) (k : ItK) (a b : E) (body : List Sm)
  | while (c : E) (body : List Sm)
  | raise (c : Nat) (e : E)

/-! ### what operations give -/
def lim : Nat := 16777216
def small64 (i : Int) : Bool := decide (-(2 ^ 64) < i) && decide (i < 2 ^ 64)
def mulOk (i j : Int) : Bool := small64 i || small64 j || decide (i.natAbs.log2 + j.natAbs.log2 < 1000000)
def binD : BOp → D → D → Option DV
  | .add, .int i, .int j => some (.f (.int (i + j)))
  | .add, .tup xs, .tup ys => if xs.length + ys.length ≤ lim then some (.f (.tup (xs ++ ys))) else none
  | .add, .lst xs, .lst ys => if xs.length + ys.length ≤ lim then some (.o (xs ++ ys)) else none
  | .sub, .int i, .int j => some (.f (.int (i - j)))
  | .mul, .int i, .int j => if mulOk i j then some (.f (.int (i * j))) else none
  | .mul, .lst xs, .int j => if xs.length * j.toNat ≤ lim ∧ -(2 ^ 62) < j ∧ j < 2 ^ 62 then some (.o (List.replicate j.toNat xs).flatten) else none
  | .fdiv, .int i, .int j => if 0 < j ∧ j.natAbs.log2 < 9000 then some (.f (.int (i / j))) else none
  | .mod, .int i, .int j => if 0 < j then some (.f (.int (i % j))) else none
  | .pow, .int i, .int j => if 0 ≤ j ∧ j ≤ 1000000 ∧ i.natAbs < 2 ^ 64 then some (.f (.int (i ^ j.toNat))) else none
  | _, _, _ => none
def shp (d : D) : Bool := PySem.SeqAt.shaped d.py
def eqD (a b : D) : Option Bool := if shp a && shp b then some (PyData.eqv a.py b.py) else none
def inD (a : D) : D → Option Bool
  | .lst xs => if shp a && shp (.lst xs) then some (xs.any fun z => PyData.eqv z.py a.py) else none
  | _ => none
def cmpD : COp → D → D → Option Bool
  | .eq, a, b => eqD a b
  | .ne, a, b => (eqD a b).map not
  | .lt, .int i, .int j => some (decide (i < j))
  | .le, .int i, .int j => some (decide (i ≤ j))
  | .gt, .int i, .int j => some (decide (j < i))
  | .ge, .int i, .int j => some (decide (j ≤ i))
  | .inn, a, b => inD a b
  | .nin, a, b => (inD a b).map not
  | _, _, _ => none
def intsD : List D → Option (List Int)
  | [] => some []
  | .int i :: r => (intsD r).map (i :: ·)
  | _ => none
def bools : List D → Option (List Bool)
  | [] => some []
  | .bl i :: r => (bools r).map (i :: ·)
  | _ => none
def seqOf : D → Option (List D)
  | .lst xs => some xs
  | .tup xs => some xs
  | _ => none
def minI : List Int → Int
  | [] => 0
  | [x] => x
  | x :: y :: r => if x ≤ minI (y :: r) then x else minI (y :: r)
def maxI : List Int → Int
  | [] => 0
  | [x] => x
  | x :: y :: r => if maxI (y :: r) ≤ x then x else maxI (y :: r)
def insertI (x : Int) : List Int → List Int
  | [] => [x]
  | y :: r => if x ≤ y then x :: y :: r else y :: insertI x r
/-- the distinct ones, as they are met -/
def firsts (ns : List Int) : List Int := ns.foldl (fun acc x => if acc.any (· == x) then acc else acc ++ [x]) []
def sortI : List Int → List Int
  | [] => []
  | x :: r => insertI x (sortI r)
def isNonD : D → Bool
  | .non => true
  | _ => false
def atI (xs : List D) (i : Int) : Option D := if 0 ≤ i then xs[i.toNat]? else if -(xs.length : Int) ≤ i then xs[(i + xs.length).toNat]? else none
def cutIx (n d : Nat) : Option Int → Nat
  | none => d
  | some v => if v < 0 then (v + n).toNat else min v.toNat n
def cutD (xs : List D) (lo hi : Option Int) : List D := (xs.drop (cutIx xs.length 0 lo)).take (cutIx xs.length xs.length hi - cutIx xs.length 0 lo)
def rngI (a b : Int) : List D := (List.range (b - a).toNat).map fun (i : Nat) => D.int (a + i)
def bnd62 (i : Int) : Bool := decide (-(2 ^ 62) ≤ i) && decide (i < 2 ^ 62)
def rngD (a b : Int) : Option (List D) := if bnd62 a && bnd62 b && decide ((b - a).toNat ≤ lim) then some (rngI a b) else none
def ixD : D → D → Option D
  | .lst xs, .int i => atI xs i
  | .tup xs, .int i => atI xs i
  | _, _ => none
def slD (lo hi : Option Int) : D → Option DV
  | .lst xs => some (.o (cutD xs lo hi))
  | .tup xs => some (.f (.tup (cutD xs lo hi)))
  | .scr ns => some (.o (cutD (ns.map .int) lo hi))
  | _ => none
def isD : Ty → D → Option Bool
  | .cls c, .ins c' _ => if c = c' then some true else none
  | .cls _, _ => none
  | _, .ins _ _ => none
  | _, .deal => none
  | _, .scr _ => none
  | .int, .int _ => some true
  | .int, .bl _ => some true
  | .bool, .bl _ => some true
  | .str, .str _ => some true
  | .list, .lst _ => some true
  | .tuple, .tup _ => some true
  | .seq, .lst _ => some true
  | .seq, .tup _ => some true
  | _, _ => some false
def indexD (x : D) : List D → Nat → Option Nat
  | [], _ => none
  | z :: r, k => if PyData.eqv z.py x.py then some k else indexD x r (k + 1)
def itemsD : ItK → D → D → Option (List D)
  | .val, a, _ => seqOf a
  | .rng, .int i, .int j => if bnd62 i && bnd62 j then some (rngI i j) else none
  | .enum, a, _ => (seqOf a).map fun xs => (xs.zipIdx).map fun p => .tup [.int p.2, p.1]
  | .zip, .lst xs, .lst ys => some ((xs.zip ys).map fun p => .tup [p.1, p.2])
  | .zip, .tup xs, .tup ys => some ((xs.zip ys).map fun p => .tup [p.1, p.2])
  | _, _, _ => none
def bltD : Blt → List D → Option DV
  | .len, [.lst xs] => some (.f (.int xs.length))
  | .len, [.tup xs] => some (.f (.int xs.length))
  | .len, [.scr xs] => some (.f (.int xs.length))
  | .int, [.int i] => some (.f (.int i))
  | .abs, [.int i] => some (.f (.int i.natAbs))
  | .list, [.lst xs] => some (.o xs)
  | .list, [.tup xs] => some (.o xs)
  | .tuple, [.lst xs] => some (.f (.tup xs))
  | .tuple, [.tup xs] => some (.f (.tup xs))
  | .min, [.int i, .int j] => some (.f (.int (if i ≤ j then i else j)))
  | .max, [.int i, .int j] => some (.f (.int (if j ≤ i then i else j)))
  | .min, [.lst xs] => (intsD xs).bind fun ns => if ns = [] then none else some (.f (.int (minI ns)))
  | .max, [.lst xs] => (intsD xs).bind fun ns => if ns = [] then none else some (.f (.int (maxI ns)))
  | .sum, [.lst xs] => (intsD xs).bind fun ns => some (.f (.int ns.sum))
  | .all, [.lst xs] => (bools xs).bind fun bs => some (.f (.bl (bs.all id)))
  | .any, [.lst xs] => (bools xs).bind fun bs => some (.f (.bl (bs.any id)))
  | .sorted, [.lst xs] => (intsD xs).bind fun ns => if ns.length < 64 then some (.o ((sortI ns).map .int)) else none
  | .lenset, [.lst xs] => (intsD xs).bind fun ns => if ns.length ≤ 4000 then some (.f (.int (firsts ns).length)) else none
  | .lenset, [.tup xs] => (intsD xs).bind fun ns => if ns.length ≤ 4000 then some (.f (.int (firsts ns).length)) else none
  | .repr, [d] => if shp d && PyData.showable d.py && decide ((PyData.shown d.py).length ≤ lim) then some (.f (.str (PyData.shown d.py))) else none
  | _, _ => none

/-! ### the meaning -/
structure Tab where
  fl : Nat → List Nat
abbrev Fns := Nat → List D → G → Res DV
def setR (i : Nat) (v : DV) : M Unit := fun s => if i < s.r.length then .ok () { s with r := s.r.set i (some v) } else .stuck
/-- a value kept in slot i -/
def keep (i : Nat) : DV → M Unit
  | .f d => setR i (.f d)
  | .o xs => setR i (.o xs)
  | .b j => bnd (frz (.b j)) fun d => setR i (.f d)
  | .n _ _ => stk
def bool? : DV → M Bool
  | .f (.bl b) => ret b
  | _ => stk
def int? : D → M Int
  | .int i => ret i
  | _ => stk
mutual
def asgT : Tg → D → M Unit
  | .nm i, d => setR i (.f d)
  | .tp ts, .tup ds => asgTs ts ds
  | .tp _, _ => stk
def asgTs : List Tg → List D → M Unit
  | [], [] => ret ()
  | t :: ts, d :: ds => bnd (asgT t d) fun _ => asgTs ts ds
  | _, _ => stk
end
def wipeR (r : List (Option DV)) : List Nat → List (Option DV)
  | [] => r
  | i :: is => (wipeR r is).set i none
def backR (r0 r : List (Option DV)) : List Nat → List (Option DV)
  | [] => r
  | i :: is => match r0[i]? with
    | some v => (backR r0 r is).set i v
    | none => backR r0 r is
def lcGo (own : List Nat) (st : D → M Unit) (c : M Bool) (e : M D) : List D → List D → M (List D)
  | [], acc => ret acc
  | d :: ds, acc => fun s => bnd (st d) (fun _ => bnd c fun k => if k then bnd e fun y => if acc.length < lim then lcGo own st c e ds (acc ++ [y]) else stk else lcGo own st c e ds acc) { s with r := wipeR s.r own }
/-- nothing that is raised leaves it -/
def noExc {α : Type} (m : M α) : M α := fun s => match m s with
  | .ok a s' => .ok a s'
  | _ => .stuck
def callM (Φ : Fns) (f : Nat) (ds : List D) : M DV := fun s => match Φ f ds s.g with
  | .ok v s' => .ok v { s with g := s'.g }
  | .exc c d s' => .exc c d { s with g := s'.g }
  | .stuck => .stuck
def permD (ps : List Nat) (ds : List D) : Option (List D) := ps.mapM fun i => ds[i]?
def optI : Option D → M (Option Int)
  | none => ret none
  | some (.int i) => ret (some i)
  | some _ => stk
def ownAt (i : Nat) : M (List D) := fun s => match s.r[i]? with
  | some (some (.o xs)) => .ok xs s
  | _ => .stuck
/-- an optional part of a slice, source, test -/
def partM (e : E) (m : M DV) : M (Option Int) := match e with
  | .nop => ret none
  | _ => bnd m fun x => bnd (look x) fun d => bnd (int? d) fun i => ret (some i)
def srcM (e : E) (m : M DV) : M DV := match e with
  | .nop => ret (.f .non)
  | _ => m
def zeroM (e : E) (m : M DV) : M DV := match e with
  | .nop => ret (.f (.int 0))
  | _ => m
def tstM (e : E) (m : M DV) : M Bool := match e with
  | .nop => ret true
  | _ => bnd m bool?
section
variable (T : Tab) (Φ : Fns)
mutual
def evE : E → M DV
  | .nop => stk
  | .var i => fun s => match s.r[i]? with
    | some (some (.f d)) => .ok (.f d) s
    | some (some (.o _)) => .ok (.b i) s
    | _ => .stuck
  | .int i => ret (.f (.int i))
  | .bl b => ret (.f (.bl b))
  | .non => ret (.f .non)
  | .str x => ret (.f (.str x))
  | .bin o a b => bnd (evE a) fun x => bnd (evE b) fun y => bnd (look x) fun dx => bnd (look y) fun dy => opt (binD o dx dy)
  | .neg a => bnd (evE a) fun x => bnd (look x) fun d => bnd (int? d) fun i => ret (.f (.int (-i)))
  | .cmp o a b => bnd (evE a) fun x => bnd (evE b) fun y => bnd (look x) fun dx => bnd (look y) fun dy => bnd (opt (cmpD o dx dy)) fun k => ret (.f (.bl k))
  | .chain o p a b c => bnd (evE a) fun x => bnd (evE b) fun y => bnd (look x) fun dx => bnd (look y) fun dy => bnd (opt (cmpD o dx dy)) fun k =>
      if k then bnd (evE c) fun z => bnd (look y) fun dy' => bnd (look z) fun dz => bnd (opt (cmpD p dy' dz)) fun l => ret (.f (.bl l)) else ret (.f (.bl false))
  | .isN a => bnd (evE a) fun x => bnd (look x) fun d => ret (.f (.bl (isNonD d)))
  | .notN a => bnd (evE a) fun x => bnd (look x) fun d => ret (.f (.bl (!isNonD d)))
  | .and a b => bnd (evE a) fun x => bnd (bool? x) fun k => if k then evE b else ret (.f (.bl false))
  | .or a b => bnd (evE a) fun x => bnd (bool? x) fun k => if k then ret (.f (.bl true)) else evE b
  | .not a => bnd (evE a) fun x => bnd (bool? x) fun k => ret (.f (.bl (!k)))
  | .ite c a b => bnd (evE c) fun x => bnd (bool? x) fun k => if k then evE a else evE b
  | .tup es => bnd (evEs es) fun vs => bnd (frzs vs) fun ds => if ds.length ≤ lim then ret (.f (.tup ds)) else stk
  | .lst es => bnd (evEs es) fun vs => bnd (frzs vs) fun ds => if ds.length ≤ lim then ret (.o ds) else stk
  | .ix a i => bnd (evE a) fun x => bnd (evE i) fun y => bnd (look x) fun dx => bnd (look y) fun dy => bnd (opt (ixD dx dy)) fun d => ret (.f d)
  | .sl a lo hi => bnd (evE a) fun x => bnd (partM lo (evE lo)) fun l => bnd (partM hi (evE hi)) fun h => bnd (look x) fun dx => opt (slD l h dx)
  | .rev a => bnd (evE a) fun x => bnd (look x) fun d => match d with
    | .lst xs => ret (.o xs.reverse)
    | _ => stk
  | .call f es => bnd (evEs es) fun vs => bnd (frzs vs) fun ds => callM Φ f ds
  | .callk f ps es => bnd (evEs es) fun vs => bnd (frzs vs) fun ds => bnd (opt (permD ps ds)) fun ds' => callM Φ f ds'
  | .make f es => bnd (evEs es) fun vs => bnd (frzs vs) fun ds => callM Φ f ds
  | .fld a k => bnd (evE a) fun x => bnd (look x) fun d => match d with
    | .ins c fs => bnd (opt (((T.fl c).zip fs).lookup k)) fun d => ret (.f d)
    | _ => stk
  | .blt b es => bnd (evEs es) fun vs => bnd (looks vs) fun ds => opt (bltD b ds)
  | .isI a t => bnd (evE a) fun x => bnd (look x) fun d => bnd (opt (isD t d)) fun k => ret (.f (.bl k))
  | .lrg a b => bnd (zeroM a (evE a)) fun x => bnd (evE b) fun y => bnd (look x) fun dx => bnd (look y) fun dy => bnd (int? dx) fun i => bnd (int? dy) fun j => bnd (opt (rngD i j)) fun ds => ret (.o ds)
  | .trg a b => bnd (zeroM a (evE a)) fun x => bnd (evE b) fun y => bnd (look x) fun dx => bnd (look y) fun dy => bnd (int? dx) fun i => bnd (int? dy) fun j => bnd (opt (rngD i j)) fun ds => ret (.f (.tup ds))
  | .append i e => bnd (ownAt i) fun _ => bnd (evE e) fun x => bnd (frz x) fun d => bnd (ownAt i) fun xs => if xs.length < lim then bnd (setR i (.o (xs ++ [d]))) fun _ => ret (.f .non) else stk
  | .pop i => bnd (ownAt i) fun xs => bnd (opt xs[xs.length - 1]?) fun d => bnd (setR i (.o xs.dropLast)) fun _ => ret (.f d)
  | .popAt i e => bnd (ownAt i) fun _ => bnd (evE e) fun x => bnd (look x) fun k => bnd (int? k) fun j => bnd (ownAt i) fun xs => if 0 ≤ j ∧ j < xs.length ∧ j < 2 ^ 62 then bnd (opt xs[j.toNat]?) fun d => bnd (setR i (.o (xs.eraseIdx j.toNat))) fun _ => ret (.f d) else stk
  | .index a b => bnd (evE a) fun x => bnd (evE b) fun y => bnd (look x) fun dx => bnd (look y) fun dy => match dx with
    | .lst xs => if shp (.lst xs) && shp dy then bnd (opt (indexD dy xs 0)) fun k => ret (.f (.int k)) else stk
    | _ => stk
  | .lc own t k a b c e => bnd (evE a) fun x => bnd (srcM b (evE b)) fun y => bnd (frz x) fun dx => bnd (frz y) fun dy => bnd (opt (itemsD k dx dy)) fun ds => fun s =>
      match noExc (lcGo own (asgT t) (tstM c (evE c)) (bnd (evE e) frz) ds []) s with
      | .ok ys s' => .ok (.o ys) { s' with r := backR s.r s'.r own }
      | _ => .stuck
termination_by structural e => e
def evEs : List E → M (List DV)
  | [] => ret []
  | e :: es => bnd (evE e) fun v => bnd (evEs es) fun vs => ret (v :: vs)
termination_by structural es => es
end
end
end DI

set_option Elab.async false
/-! DI1: statements, defs, calls over data. Own text. -/
namespace DI
open PySem (Str PyData)
inductive Fl where
  | nx | bk | ct | rt (v : DV)
/-- behind it no value leans on a slot -/
def settle : List DV → M (List DV)
  | [] => ret []
  | .b i :: vs => bnd (frz (.b i)) fun d => bnd (settle vs) fun ws => ret (.f d :: ws)
  | v :: vs => bnd (settle vs) fun ws => ret (v :: ws)
/-- what a def hands back: its own list moves out -/
def moveOut : DV → M DV
  | .b i => fun s => match s.r[i]? with
    | some (some (.o xs)) => .ok (.o xs) s
    | some (some (.f d)) => .ok (.f d) s
    | _ => .stuck
  | .f d => ret (.f d)
  | .o xs => ret (.o xs)
  | .n _ _ => stk
def forGo (st : D → M Unit) (body : M Fl) : List D → M Fl
  | [] => ret .nx
  | d :: ds => bnd (st d) fun _ => bnd body fun fl => match fl with
    | .nx => forGo st body ds
    | .ct => forGo st body ds
    | .bk => ret .nx
    | .rt v => ret (.rt v)
def whileGo (c : M Bool) (body : M Fl) : Nat → M Fl
  | 0 => stk
  | n + 1 => bnd c fun k => if k then bnd body fun fl => match fl with
    | .nx => whileGo c body n
    | .ct => whileGo c body n
    | .bk => ret .nx
    | .rt v => ret (.rt v) else ret .nx
/-- more turns than any while of ours takes -/
def FU : Nat := 2 ^ 200
def pairs? : List TX → List DV → Bool
  | [], [] => true
  | _ :: ts, _ :: vs => pairs? ts vs
  | _, _ => false
section
variable (T : Tab) (Φ : Fns)
def setAt (i : Nat) (k : E) (d : D) : M Unit := bnd (ownAt i) fun _ => bnd (evE T Φ k) fun x => bnd (look x) fun dk => bnd (int? dk) fun j => bnd (ownAt i) fun xs =>
  if 0 ≤ j ∧ j < xs.length ∧ j < 2 ^ 62 then setR i (.o (xs.set j.toNat d)) else stk
def asgX : TX → DV → M Unit
  | .nm i, v => keep i v
  | .ix i e, .f d => setAt T Φ i e d
  | .ix _ _, _ => stk
def asgXs : List TX → List DV → M Unit
  | [], [] => ret ()
  | t :: ts, v :: vs => bnd (asgX T Φ t v) fun _ => asgXs ts vs
  | _, _ => stk
def fsetM (k : Nat) (d : D) : M Unit := fun s => match s.r[(0 : Nat)]? with
  | some (some (.n c fs)) => if (T.fl c)[fs.length]? = some k then .ok () { s with r := s.r.set 0 (some (.n c (fs ++ [d]))) } else .stuck
  | _ => .stuck
mutual
def evS : Sm → M Fl
  | .pass => ret .nx
  | .brk => ret .bk
  | .cont => ret .ct
  | .retN => ret (.rt (.f .non))
  | .ret e => bnd (evE T Φ e) fun v => bnd (moveOut v) fun w => ret (.rt w)
  | .expr e => bnd (evE T Φ e) fun _ => ret .nx
  | .set i e => bnd (evE T Φ e) fun v => bnd (keep i v) fun _ => ret .nx
  | .par ts es => bnd (evEs T Φ es) fun vs => bnd (settle vs) fun ws => bnd (asgXs T Φ ts ws) fun _ => ret .nx
  | .unp ts e => bnd (evE T Φ e) fun v => bnd (look v) fun d => bnd (asgT (.tp ts) d) fun _ => ret .nx
  | .setIx i k e => bnd (evE T Φ e) fun v => bnd (frz v) fun d => bnd (setAt T Φ i k d) fun _ => ret .nx
  | .fset k e => bnd (evE T Φ e) fun v => bnd (frz v) fun d => bnd (fsetM T k d) fun _ => ret .nx
  | .ifs c a b => bnd (evE T Φ c) fun x => bnd (bool? x) fun k => if k then evSs a else evSs b
  | .for t k a b body => bnd (evE T Φ a) fun x => bnd (srcM b (evE T Φ b)) fun y => bnd (frz x) fun dx => bnd (frz y) fun dy => bnd (opt (itemsD k dx dy)) fun ds => forGo (asgT t) (evSs body) ds
  | .while c body => whileGo (bnd (evE T Φ c) bool?) (evSs body) FU
  | .raise c e => bnd (evE T Φ e) fun v => bnd (frz v) fun d => fun s => .exc c d s
termination_by structural e => e
def evSs : List Sm → M Fl
  | [] => ret .nx
  | s :: ss => bnd (evS s) fun fl => match fl with
    | .nx => evSs ss
    | fl => ret fl
termination_by structural es => es
end
end
/-- a def: how many slots, how many parameters, its body; a class's __init__ (the class, slots, parameters with self); the draw of a deal's number; a deal made -/
inductive Fn where
  | body (n p : Nat) (b : List Sm) | init (c n p : Nat) (b : List Sm) | any | draw
def startR (n : Nat) (ds : List D) : List (Option DV) := (ds.map fun d => some (DV.f d)) ++ List.replicate (n - ds.length) none
/-- the deal: zeros at the end are dropped -/
def dropZ : List Int → List Int
  | [] => []
  | x :: r => match dropZ r with
    | [] => if x = 0 then [] else [x]
    | y :: r' => x :: y :: r'
def anyD (k : Int) : List Int × Int → Int × (List Int × Int)
  | (cs, b) => match (dropZ cs).getLast? with
    | some x => (x % k, (dropZ cs).dropLast ++ [x / k], b)
    | none => ((b * 40693 + 71) % 2147483647 / 64 % k, [], (b * 40693 + 71) % 2147483647)
def blendD (salt : Int) : List Int → Int
  | cs => cs.foldl (fun b c => (b * 48271 + c % 2147483549 + 11) % 2147483647) (7919 + 104729 * salt)
def drawD (salt : Int) (script : List Int) : List Int × Int :=
  let cells := (script.take 48).map fun (i : Int) => (i.natAbs : Int)
  ((cells.filter fun c => decide (10 ^ 18 ≤ c)).reverse, blendD salt cells)
def runFn (T : Tab) (Φ : Fns) : Fn → List D → G → Res DV
  | .body n p b, ds, g => if ds.length = p ∧ p ≤ n then match evSs T Φ b { r := startR n ds, g := g } with
    | .ok (.rt v) s => .ok v s
    | .ok .nx s => .ok (.f .non) s
    | .exc c d s => .exc c d s
    | _ => .stuck else .stuck
  | .init c n p b, ds, g => if ds.length + 1 = p ∧ p ≤ n then match evSs T Φ b { r := some (.n c []) :: startR (n - 1) ds, g := g } with
    | .ok .nx s => match s.r[(0 : Nat)]? with
      | some (some (.n c' fs)) => if c' = c ∧ fs.length = (T.fl c).length then .ok (.f (.ins c fs)) s else .stuck
      | _ => .stuck
    | .exc c d s => .exc c d s
    | _ => .stuck else .stuck
  | .any, [.deal, .int k], some g => if 0 < k ∧ k.natAbs.log2 < 9000 then .ok (.f (.int (anyD k g).1)) ⟨[], some (anyD k g).2⟩ else .stuck
  | .draw, [.scr ns, .int salt], none => if 0 ≤ salt ∧ salt < 1000000 then .ok (.f .deal) ⟨[], some (drawD salt ns)⟩ else .stuck
  | _, _, _ => .stuck
def callD (T : Tab) (fns : List Fn) : Nat → Fns
  | 0 => fun _ _ _ => .stuck
  | n + 1 => fun f ds g => match fns[f]? with
    | some fn => runFn T (callD T fns n) fn ds g
    | none => .stuck
end DI

set_option Elab.async false
set_option linter.all false
set_option maxRecDepth 100000
set_option maxHeartbeats 4000000
/-! DI2: how data stand in a heap. Own text. -/
namespace DI
open PySem PySem.Spec PyProof.Rows L2

/-- the written part, the classes' addresses, the fields' names -/
structure Wd where
  K : PySem.W.Frag
  T : Tab
  ca : Nat → Addr
  fn : Nat → Str
abbrev Wd.names (w : Wd) (c : Nat) : List Str := (w.T.fl c).map w.fn
abbrev Dl := Option (Addr × Addr)
def Le (F F' : Hp) : Prop := ∀ a o, F a = some o → F' a = some o
def DlLe (d d' : Dl) : Prop := ∀ p, d = some p → d' = some p
theorem Le.refl (F : Hp) : Le F F := fun _ _ h => h
theorem Le.trans {F G H : Hp} (a : Le F G) (b : Le G H) : Le F H := fun c o h => b c o (a c o h)
theorem DlLe.refl (d : Dl) : DlLe d d := fun _ h => h
theorem Le.sqL {K : PySem.W.Frag} {F F' : Hp} {a : Addr} {xs : List V} (e : Le F F') (h : SqL K F a xs) : SqL K F' a xs := by
  rcases h with (h | ⟨o, h⟩) | h
  · exact .inl (.inl (e _ _ h))
  · exact .inl (.inr ⟨o, e _ _ h⟩)
  · exact .inr h
theorem Le.sqT {K : PySem.W.Frag} {F F' : Hp} {a : Addr} {xs : List V} (e : Le F F') (h : SqT K F a xs) : SqT K F' a xs := by
  rcases h with (h | ⟨o, h⟩) | h
  · exact .inl (.inl (e _ _ h))
  · exact .inl (.inr ⟨o, e _ _ h⟩)
  · exact .inr h
section
variable (w : Wd)
mutual
def RepD (dl : Dl) (F : Hp) : D → V → Prop
  | .non, v => v = .non
  | .bl b, v => v = .bl b
  | .int i, v => v = .int i
  | .str s, v => v = .str s
  | .tup ds, v => ∃ a vs, v = .ref a ∧ SqT w.K F a vs ∧ RepAll dl F ds vs
  | .lst ds, v => ∃ a vs, v = .ref a ∧ F a = some (.lst vs) ∧ RepAll dl F ds vs
  | .ins c ds, v => ∃ a dx vs, v = .ref a ∧ F a = some (.ins (w.ca c) dx ((w.names c).zip vs)) ∧ vs.length = (w.names c).length ∧ RepAll dl F ds vs
  | .deal, v => ∃ p : Addr × Addr, dl = some p ∧ v = .ref p.1
  | .scr ns, v => ∃ a, v = .ref a ∧ SqL w.K F a (ns.map V.int)
def RepAll (dl : Dl) (F : Hp) : List D → List V → Prop
  | [], vs => vs = []
  | d :: ds, vs => ∃ v r, vs = v :: r ∧ RepD dl F d v ∧ RepAll dl F ds r
end
end
section
variable {w : Wd} {dl dl' : Dl} {F F' : Hp}
mutual
theorem RepD.mono (e : Le F F') (q : DlLe dl dl') : ∀ (d : D) (v : V), RepD w dl F d v → RepD w dl' F' d v
  | .non, _, h => h
  | .bl _, _, h => h
  | .int _, _, h => h
  | .str _, _, h => h
  | .tup ds, _, ⟨a, vs, h1, h2, h3⟩ => ⟨a, vs, h1, e.sqT h2, RepAll.mono e q ds vs h3⟩
  | .lst ds, _, ⟨a, vs, h1, h2, h3⟩ => ⟨a, vs, h1, e _ _ h2, RepAll.mono e q ds vs h3⟩
  | .ins _ ds, _, ⟨a, dx, vs, h1, h2, h3, h4⟩ => ⟨a, dx, vs, h1, e _ _ h2, h3, RepAll.mono e q ds vs h4⟩
  | .deal, _, ⟨p, h1, h2⟩ => ⟨p, q p h1, h2⟩
  | .scr _, _, ⟨a, h1, h2⟩ => ⟨a, h1, e.sqL h2⟩
theorem RepAll.mono (e : Le F F') (q : DlLe dl dl') : ∀ (ds : List D) (vs : List V), RepAll w dl F ds vs → RepAll w dl' F' ds vs
  | [], _, h => h
  | d :: ds, _, ⟨v, r, h1, h2, h3⟩ => ⟨v, r, h1, RepD.mono e q d v h2, RepAll.mono e q ds r h3⟩
end
theorem RepAll.length : ∀ {ds : List D} {vs : List V}, RepAll w dl F ds vs → vs.length = ds.length
  | [], _, h => by rw [show _ = ([] : List V) from h]; rfl
  | d :: ds, _, ⟨v, r, h1, _, h3⟩ => by rw [h1, List.length_cons, List.length_cons, RepAll.length h3]
theorem RepAll.get : ∀ {ds : List D} {vs : List V} {i : Nat} {d : D}, RepAll w dl F ds vs → ds[i]? = some d → ∃ v, vs[i]? = some v ∧ RepD w dl F d v
  | [], _, _, _, _, h => by simp at h
  | d :: ds, _, 0, _, ⟨v, r, h1, h2, _⟩, h => by simp at h; subst h; subst h1; exact ⟨v, rfl, h2⟩
  | d :: ds, _, i + 1, _, ⟨v, r, h1, _, h3⟩, h => by
    subst h1
    obtain ⟨u, e1, e2⟩ := RepAll.get (i := i) h3 (by simpa using h)
    exact ⟨u, by simpa using e1, e2⟩
theorem RepAll.get' : ∀ {ds : List D} {vs : List V} {i : Nat} {v : V}, RepAll w dl F ds vs → vs[i]? = some v → ∃ d, ds[i]? = some d ∧ RepD w dl F d v
  | [], _, _, _, h0, h => by rw [show _ = ([] : List V) from h0] at h; simp at h
  | d :: ds, _, 0, _, ⟨v, r, h1, h2, _⟩, h => by subst h1; simp at h; subst h; exact ⟨d, rfl, h2⟩
  | d :: ds, _, i + 1, _, ⟨v, r, h1, _, h3⟩, h => by
    subst h1
    obtain ⟨u, e1, e2⟩ := RepAll.get' (i := i) h3 (by simpa using h)
    exact ⟨u, by simpa using e1, e2⟩
theorem RepAll.append : ∀ {ds es : List D} {vs us : List V}, RepAll w dl F ds vs → RepAll w dl F es us → RepAll w dl F (ds ++ es) (vs ++ us)
  | [], _, _, _, h, h2 => by rw [show _ = ([] : List V) from h]; exact h2
  | d :: ds, _, _, _, ⟨v, r, h1, h2, h3⟩, h4 => by subst h1; exact ⟨v, _, rfl, h2, RepAll.append h3 h4⟩
theorem RepAll.take : ∀ {ds : List D} {vs : List V} (n : Nat), RepAll w dl F ds vs → RepAll w dl F (ds.take n) (vs.take n)
  | [], _, n, h => by rw [show _ = ([] : List V) from h]; simp [RepAll]
  | d :: ds, _, 0, _ => by simp [RepAll]
  | d :: ds, _, n + 1, ⟨v, r, h1, h2, h3⟩ => by subst h1; exact ⟨v, _, rfl, h2, RepAll.take n h3⟩
theorem RepAll.drop : ∀ {ds : List D} {vs : List V} (n : Nat), RepAll w dl F ds vs → RepAll w dl F (ds.drop n) (vs.drop n)
  | [], _, n, h => by rw [show _ = ([] : List V) from h]; simp [RepAll]
  | d :: ds, _, 0, h => h
  | d :: ds, _, n + 1, ⟨v, r, h1, h2, h3⟩ => by subst h1; exact RepAll.drop n h3
theorem RepAll.set : ∀ {ds : List D} {vs : List V} {d : D} {v : V} (n : Nat), RepAll w dl F ds vs → RepD w dl F d v → RepAll w dl F (ds.set n d) (vs.set n v)
  | [], _, _, _, n, h, _ => by rw [show _ = ([] : List V) from h]; simp [RepAll]
  | d :: ds, _, _, v', 0, ⟨v, r, h1, h2, h3⟩, h4 => by subst h1; exact ⟨v', _, rfl, h4, h3⟩
  | d :: ds, _, _, _, n + 1, ⟨v, r, h1, h2, h3⟩, h4 => by subst h1; exact ⟨v, _, rfl, h2, RepAll.set n h3 h4⟩
theorem RepAll.erase : ∀ {ds : List D} {vs : List V} (n : Nat), RepAll w dl F ds vs → RepAll w dl F (ds.eraseIdx n) (vs.eraseIdx n)
  | [], _, n, h => by rw [show _ = ([] : List V) from h]; simp [RepAll]
  | d :: ds, _, 0, ⟨v, r, h1, h2, h3⟩ => by subst h1; exact h3
  | d :: ds, _, n + 1, ⟨v, r, h1, h2, h3⟩ => by subst h1; exact ⟨v, _, rfl, h2, RepAll.erase n h3⟩
theorem RepAll.dropLast {ds : List D} {vs : List V} (h : RepAll w dl F ds vs) : RepAll w dl F ds.dropLast vs.dropLast := by
  rw [List.dropLast_eq_take, List.dropLast_eq_take, h.length]
  exact h.take _
theorem RepAll.one {d : D} {v : V} (h : RepD w dl F d v) : RepAll w dl F [d] [v] := ⟨v, [], rfl, h, rfl⟩
theorem RepAll.reverse : ∀ {ds : List D} {vs : List V}, RepAll w dl F ds vs → RepAll w dl F ds.reverse vs.reverse
  | [], _, h => by rw [show _ = ([] : List V) from h]; simp [RepAll]
  | d :: ds, _, ⟨v, r, h1, h2, h3⟩ => by
    subst h1
    rw [List.reverse_cons, List.reverse_cons]
    exact RepAll.append (RepAll.reverse h3) (RepAll.one h2)
theorem RepAll.rep {ds : List D} {vs : List V} (h : RepAll w dl F ds vs) : ∀ k : Nat, RepAll w dl F (List.replicate k ds).flatten (List.replicate k vs).flatten
  | 0 => by simp [RepAll]
  | k + 1 => by
    rw [List.replicate_succ, List.replicate_succ, List.flatten_cons, List.flatten_cons]
    exact h.append (RepAll.rep h k)
theorem RepAll.intsD : ∀ {ds : List D} {vs : List V} {ns : List Int}, RepAll w dl F ds vs → DI.intsD ds = some ns → vs = ns.map V.int ∧ ds = ns.map D.int
  | [], _, ns, h, e => by
    rw [show _ = ([] : List V) from h]
    have e' : ns = [] := by simpa [DI.intsD] using e.symm
    subst e'
    exact ⟨rfl, rfl⟩
  | d :: ds, _, ns, ⟨v, r, h1, h2, h3⟩, e => by
    subst h1
    cases d with
    | int i =>
      cases q : DI.intsD ds with
      | none => simp [DI.intsD, q] at e
      | some ms =>
        have e' : ns = i :: ms := by simpa [DI.intsD, q] using e.symm
        subst e'
        obtain ⟨e1, e2⟩ := RepAll.intsD h3 q
        have e3 : v = .int i := h2
        rw [e1, e2, e3]
        exact ⟨rfl, rfl⟩
    | _ => simp [DI.intsD] at e
theorem RepAll.bools : ∀ {ds : List D} {vs : List V} {bs : List Bool}, RepAll w dl F ds vs → DI.bools ds = some bs → vs = bs.map V.bl
  | [], _, bs, h, e => by
    rw [show _ = ([] : List V) from h]
    have e' : bs = [] := by simpa [DI.bools] using e.symm
    subst e'
    rfl
  | d :: ds, _, bs, ⟨v, r, h1, h2, h3⟩, e => by
    subst h1
    cases d with
    | bl i =>
      cases q : DI.bools ds with
      | none => simp [DI.bools, q] at e
      | some ms =>
        have e' : bs = i :: ms := by simpa [DI.bools, q] using e.symm
        subst e'
        have e3 : v = .bl i := h2
        rw [RepAll.bools h3 q, e3]
        rfl
    | _ => simp [DI.bools] at e
theorem RepAll.ofInts : ∀ ns : List Int, RepAll w dl F (ns.map D.int) (ns.map V.int)
  | [] => rfl
  | n :: ns => ⟨_, _, rfl, rfl, RepAll.ofInts ns⟩
end

/-- the deal stands in the heap -/
def DealAt (F H : Hp) : Dl → G → Prop
  | none, none => True
  | some p, some g => p.1 ≠ p.2 ∧ F p.1 = none ∧ F p.2 = none ∧ H p.1 = some (.lst [.ref p.2, .int g.2]) ∧ H p.2 = some (.lst (g.1.map V.int)) ∧ g.1.length ≤ 100
  | _, _ => False
theorem DealAt.imp {F H F' H' : Hp} : ∀ {dl : Dl} {g : G}, DealAt F H dl g → (∀ p : Addr × Addr, dl = some p → (F p.1 = none → F' p.1 = none) ∧ (F p.2 = none → F' p.2 = none) ∧ (∀ o, H p.1 = some o → H' p.1 = some o) ∧ ∀ o, H p.2 = some o → H' p.2 = some o) → DealAt F' H' dl g
  | none, none, h, _ => h
  | some p, some g, ⟨z1, z2, z3, z4, z5, z6⟩, x => by
    obtain ⟨x1, x2, x3, x4⟩ := x p rfl
    exact ⟨z1, x1 z2, x2 z3, x3 _ z4, x4 _ z5, z6⟩
  | none, some _, h, _ => h.elim
  | some _, none, h, _ => h.elim
theorem DealAt.there {F H : Hp} : ∀ {dl : Dl} {g : G} {p : Addr × Addr}, DealAt F H dl g → dl = some p → (H p.1 ≠ none ∧ F p.1 = none) ∧ H p.2 ≠ none ∧ F p.2 = none
  | some p, some g, _, ⟨z1, z2, z3, z4, z5, _⟩, e => by
    cases e
    exact ⟨⟨by rw [z4]; simp, z2⟩, by rw [z5]; simp, z3⟩
  | none, _, _, _, e => by cases e
  | some _, none, _, h, _ => h.elim
/-! ### where one stands -/
structure C where
  dl : Dl
  F : Hp
  H : Hp
  σ : L2.St
  ρ : List (Option DV)
  g : G
def C.s (c : C) : S := ⟨c.ρ, c.g⟩
def isOwn : DV → Bool
  | .o _ => true
  | .n _ _ => true
  | _ => false
def Own (c : C) (i : Nat) (a : Addr) : Prop := c.σ[i]? = some (some (.ref a)) ∧ ∃ dv, c.ρ[i]? = some (some dv) ∧ isOwn dv = true
def Touch (c : C) (a : Addr) : Prop := (∃ i, Own c i a) ∨ ∃ p, c.dl = some p ∧ (a = p.1 ∨ a = p.2)
section
variable (w : Wd)
/-- what stands in a slot -/
def Slot (c : C) (v : V) : DV → Prop
  | .f d => RepD w c.dl c.F d v
  | .o ds => ∃ a vs, v = .ref a ∧ c.F a = none ∧ c.H a = some (.lst vs) ∧ RepAll w c.dl c.F ds vs
  | .n k ds => ∃ a dx vs, v = .ref a ∧ c.F a = none ∧ c.H a = some (.ins (w.ca k) dx ((w.names k).zip vs)) ∧ vs.length ≤ (w.names k).length ∧ RepAll w c.dl c.F ds vs
  | .b _ => False
/-- a value at hand -/
def Rel (c : C) (v : V) : DV → Prop
  | .f d => RepD w c.dl c.F d v
  | .o ds => ∃ a vs, v = .ref a ∧ c.F a = none ∧ c.H a = some (.lst vs) ∧ RepAll w c.dl c.F ds vs ∧ ¬ Touch c a
  | .b i => c.σ[i]? = some (some v) ∧ ∃ dv, c.ρ[i]? = some (some dv)
  | .n _ _ => False
def DealOk (c : C) : Prop := DealAt c.F c.H c.dl c.g
structure R (c : C) : Prop where
  sub : Le c.F c.H
  len : c.σ.length = c.ρ.length
  slot : ∀ (i : Nat) (dv : DV), c.ρ[i]? = some (some dv) → ∃ v, c.σ[i]? = some (some v) ∧ Slot w c v dv
  dist : ∀ (i j : Nat) (a : Addr), Own c i a → Own c j a → i = j
  ndeal : ∀ (i : Nat) (a : Addr) (p : Addr × Addr), Own c i a → c.dl = some p → a ≠ p.1 ∧ a ≠ p.2
  deal : DealOk c
end
structure Step (c c' : C) : Prop where
  mono : Le c.F c'.F
  keep : ∀ a o, c.H a = some o → ¬ Touch c a → c'.H a = some o
  live : ∀ a, c'.H a = none → c.H a = none
  newF : ∀ a, c'.F a ≠ none → c.F a ≠ none ∨ Touch c a ∨ c.H a = none
  tch : ∀ a, Touch c' a → Touch c a ∨ c.H a = none
  dl : DlLe c.dl c'.dl
structure SStep (c c' : C) : Prop extends Step c c' where
  σ : c'.σ = c.σ
  pres : ∀ (i : Nat) (dv : DV), c.ρ[i]? = some (some dv) → ∃ dv', c'.ρ[i]? = some (some dv')
  ini : ∀ (i k : Nat) (fs : List D), c'.ρ[i]? = some (some (.n k fs)) → ∃ fs0, c.ρ[i]? = some (some (.n k fs0))
theorem Step.refl (c : C) : Step c c := ⟨Le.refl _, fun _ _ h _ => h, fun _ h => h, fun _ h => .inl h, fun _ h => .inl h, DlLe.refl _⟩
theorem SStep.refl (c : C) : SStep c c := ⟨Step.refl c, rfl, fun _ dv h => ⟨dv, h⟩, fun _ _ fs h => ⟨fs, h⟩⟩
theorem Step.trans {a b c : C} (x : Step a b) (y : Step b c) : Step a c where
  mono := x.mono.trans y.mono
  keep := fun p o h n => y.keep p o (x.keep p o h n) fun t => by
    rcases x.tch p t with q | q
    · exact n q
    · rw [h] at q; cases q
  live := fun p h => x.live p (y.live p h)
  newF := fun p h => by
    rcases y.newF p h with q | q | q
    · exact x.newF p q
    · exact .inr (x.tch p q)
    · exact .inr (.inr (x.live p q))
  tch := fun p h => by
    rcases y.tch p h with q | q
    · exact x.tch p q
    · exact .inr (x.live p q)
  dl := fun p h => y.dl p (x.dl p h)
theorem SStep.trans {a b c : C} (x : SStep a b) (y : SStep b c) : SStep a c := ⟨x.toStep.trans y.toStep, y.σ.trans x.σ, fun i dv h => by
  obtain ⟨dv', h'⟩ := x.pres i dv h
  exact y.pres i dv' h', fun i k fs h => by
  obtain ⟨f1, h1⟩ := y.ini i k fs h
  exact x.ini i k f1 h1⟩
section
variable {w : Wd} {c c' : C} {v : V} {dv : DV} {d : D}
theorem RepD.step (x : Step c c') (h : RepD w c.dl c.F d v) : RepD w c'.dl c'.F d v := RepD.mono x.mono x.dl d v h
theorem RepAll.step {ds : List D} {vs : List V} (x : Step c c') (h : RepAll w c.dl c.F ds vs) : RepAll w c'.dl c'.F ds vs := RepAll.mono x.mono x.dl ds vs h
/-- an object that nobody of ours may touch stays unfrozen -/
theorem Step.noF {a : Addr} {o : HO} (x : Step c c') (h : c.H a = some o) (f : c.F a = none) (n : ¬ Touch c a) : c'.F a = none := by
  cases e : c'.F a with
  | none => rfl
  | some u =>
    rcases x.newF a (by rw [e]; simp) with q | q | q
    · exact absurd f q
    · exact absurd q n
    · rw [h] at q; cases q
theorem Step.noT {a : Addr} {o : HO} (x : Step c c') (h : c.H a = some o) (n : ¬ Touch c a) : ¬ Touch c' a := fun t => by
  rcases x.tch a t with q | q
  · exact n q
  · rw [h] at q; cases q
theorem Rel.step (x : SStep c c') (h : Rel w c v dv) : Rel w c' v dv := by
  cases dv with
  | f d => exact RepD.step x.toStep h
  | o ds =>
    obtain ⟨a, vs, h1, h2, h3, h4, h5⟩ := h
    exact ⟨a, vs, h1, x.noF h3 h2 h5, x.keep a _ h3 h5, RepAll.step x.toStep h4, x.noT h3 h5⟩
  | b i =>
    obtain ⟨h1, dv, h2⟩ := h
    exact ⟨by rw [x.σ]; exact h1, x.pres i dv h2⟩
  | n k ds => exact h
/-- what is looked at: the data, its items frozen -/
def Lk (w : Wd) (c : C) (v : V) : D → Prop
  | .lst ds => ∃ a vs, v = .ref a ∧ c.H a = some (.lst vs) ∧ RepAll w c.dl c.F ds vs
  | d => RepD w c.dl c.F d v
theorem Lk.of (r : R w c) (h : RepD w c.dl c.F d v) : Lk w c v d := by
  cases d with
  | lst ds =>
    obtain ⟨a, vs, h1, h2, h3⟩ := h
    exact ⟨a, vs, h1, r.sub _ _ h2, h3⟩
  | _ => exact h
theorem Lk.rep (r : R w c) (h : Lk w c v d) : RepD w c.dl c.H d v := by
  cases d with
  | lst ds =>
    obtain ⟨a, vs, h1, h2, h3⟩ := h
    exact ⟨a, vs, h1, h2, RepAll.mono r.sub (DlLe.refl _) ds vs h3⟩
  | _ => exact RepD.mono r.sub (DlLe.refl _) _ v h
theorem look_ok {s : S} (r : R w c) (h : Rel w c v dv) (e : s = c.s) {α : Type} {f : D → M α} {x : Res α} (q : bnd (look dv) f s = x) (hx : x ≠ .stuck) : ∃ d, Lk w c v d ∧ x = f d s := by
  subst e
  cases dv with
  | f d => exact ⟨d, Lk.of r h, q.symm⟩
  | o ds =>
    obtain ⟨a, vs, h1, h2, h3, h4, h5⟩ := h
    exact ⟨.lst ds, ⟨a, vs, h1, h3, h4⟩, q.symm⟩
  | b i =>
    obtain ⟨h1, dv, h2⟩ := h
    obtain ⟨v', h3, h4⟩ := r.slot i dv h2
    have e : v' = v := by
      rw [h1] at h3
      exact ((Option.some.inj (Option.some.inj h3))).symm
    subst e
    cases dv with
    | f d =>
      refine ⟨d, Lk.of r h4, ?_⟩
      rw [← q]
      simp only [bnd, look, C.s, h2]
    | o ds =>
      obtain ⟨a, vs, h1, h2', h3, h5⟩ := h4
      refine ⟨.lst ds, ⟨a, vs, h1, h3, h5⟩, ?_⟩
      rw [← q]
      simp only [bnd, look, C.s, h2]
    | n k ds =>
      exfalso
      apply hx
      rw [← q]
      simp only [bnd, look, C.s, h2]
    | b j => exact h4.elim
  | n k ds => exact h.elim
end
end DI

set_option Elab.async false
set_option linter.all false
set_option maxRecDepth 100000
set_option maxHeartbeats 4000000
/-! DI3: letting be, laying new objects, keeping in slots. Own text. -/
namespace DI
open PySem PySem.Spec PyProof.Rows L2
def isO : DV → Bool
  | .o _ => true
  | _ => false
/-- a new list was not there before -/
def Frs (H : Hp) (v : V) : DV → Prop
  | .o _ => ∃ a, v = .ref a ∧ H a = none
  | _ => True
theorem le_upd {F : Hp} {a : Addr} {o : HO} (h : F a = none) : Le F (upd F a o) := fun b u e => by rw [upd_ne (ne_of_none e h)]; exact e
section
variable {w : Wd} {c c0 c' : C} {v : V} {dv : DV} {d : D} {a p : Addr} {vs : List V} {ds : List D}
theorem R.ownH (r : R w c) {i : Nat} (h : Own c i a) : ∃ o, c.H a = some o ∧ c.F a = none := by
  obtain ⟨h1, dv, h2, h3⟩ := h
  obtain ⟨v, e1, e2⟩ := r.slot i dv h2
  have ev : v = .ref a := by
    rw [h1] at e1
    exact (Option.some.inj (Option.some.inj e1)).symm
  cases dv with
  | f d => cases h3
  | b j => cases h3
  | o ds =>
    obtain ⟨b, vs, q1, q2, q3, _⟩ := e2
    rw [ev] at q1
    cases q1
    exact ⟨_, q3, q2⟩
  | n k ds =>
    obtain ⟨b, dx, vs, q1, q2, q3, _⟩ := e2
    rw [ev] at q1
    cases q1
    exact ⟨_, q3, q2⟩
theorem R.dealH (r : R w c) {q : Addr × Addr} (h : c.dl = some q) : (c.H q.1 ≠ none ∧ c.F q.1 = none) ∧ c.H q.2 ≠ none ∧ c.F q.2 = none := DealAt.there r.deal h
theorem R.touchH (r : R w c) (h : Touch c a) : c.H a ≠ none ∧ c.F a = none := by
  rcases h with ⟨i, h⟩ | ⟨q, h, e⟩
  · obtain ⟨o, h1, h2⟩ := r.ownH h
    exact ⟨by rw [h1]; simp, h2⟩
  · obtain ⟨z1, z2⟩ := r.dealH h
    rcases e with e | e
    · subst e; exact z1
    · subst e; exact z2
theorem R.freeze (r : R w c) (ha : c.F a = none) (hH : c.H a = some (.lst vs)) (hv : RepAll w c.dl c.F ds vs) (nd : ∀ q, c.dl = some q → a ≠ q.1 ∧ a ≠ q.2) (ρ' : List (Option DV)) (hl : ρ'.length = c.ρ.length)
    (hρ : ∀ (j : Nat) (dv : DV), ρ'[j]? = some (some dv) → (c.ρ[j]? = some (some dv) ∧ ¬ Own c j a) ∨ (dv = .f (.lst ds) ∧ c.σ[j]? = some (some (.ref a)))) :
    R w { c with F := upd c.F a (.lst vs), ρ := ρ' } := by
  have le : Le c.F (upd c.F a (.lst vs)) := le_upd ha
  have own : ∀ (j : Nat) (b : Addr), Own { c with F := upd c.F a (.lst vs), ρ := ρ' } j b → Own c j b := fun j b ⟨h1, dv, h2, h3⟩ => by
    rcases hρ j dv h2 with ⟨q, _⟩ | ⟨q, _⟩
    · exact ⟨h1, dv, q, h3⟩
    · subst q; cases h3
  refine ⟨fun b o e => ?_, r.len.trans hl.symm, fun j dv h => ?_, fun i j b h1 h2 => r.dist i j b (own i b h1) (own j b h2), fun i b q h e => r.ndeal i b q (own i b h) e, ?_⟩
  · have e' : upd c.F a (.lst vs) b = some o := e
    by_cases hb : b = a
    · subst hb
      rw [upd_same] at e'
      cases e'
      exact hH
    · rw [upd_ne hb] at e'
      exact r.sub b o e'
  · rcases hρ j dv h with ⟨q, n⟩ | ⟨q, e⟩
    · obtain ⟨v, e1, e2⟩ := r.slot j dv q
      refine ⟨v, e1, ?_⟩
      cases dv with
      | f d => exact RepD.mono le (DlLe.refl _) d v e2
      | b j => exact e2.elim
      | o es =>
        obtain ⟨b, us, q1, q2, q3, q4⟩ := e2
        have hb : b ≠ a := fun z => n ⟨by rw [e1, q1, z], _, q, rfl⟩
        exact ⟨b, us, q1, by show upd c.F a (.lst vs) b = none; rw [upd_ne hb]; exact q2, q3, RepAll.mono le (DlLe.refl _) es us q4⟩
      | n k es =>
        obtain ⟨b, dx, us, q1, q2, q3, q5, q4⟩ := e2
        have hb : b ≠ a := fun z => n ⟨by rw [e1, q1, z], _, q, rfl⟩
        exact ⟨b, dx, us, q1, by show upd c.F a (.lst vs) b = none; rw [upd_ne hb]; exact q2, q3, q5, RepAll.mono le (DlLe.refl _) es us q4⟩
    · subst q
      exact ⟨_, e, a, vs, rfl, upd_same, RepAll.mono le (DlLe.refl _) ds vs hv⟩
  · refine DealAt.imp r.deal fun q hq => ?_
    obtain ⟨n1, n2⟩ := nd q hq
    exact ⟨fun z => by show upd c.F a (.lst vs) q.1 = none; rw [upd_ne n1.symm]; exact z, fun z => by show upd c.F a (.lst vs) q.2 = none; rw [upd_ne n2.symm]; exact z, fun _ h => h, fun _ h => h⟩
/-- what the freezing of v leaves as it was -/
def Others (w : Wd) (c c' : C) (v : V) (dv : DV) : Prop := ∀ u e, Rel w c u e → (isO dv = true → isO e = true → u ≠ v) → Rel w c' u e
theorem frz_ok (r : R w c) (h : Rel w c v dv) (x0 : SStep c0 c) (fr : Frs c0.H v dv) {s' : S} (e : frz dv c.s = .ok d s') :
    ∃ c', c'.s = s' ∧ c'.H = c.H ∧ R w c' ∧ SStep c0 c' ∧ RepD w c'.dl c'.F d v ∧ Le c.F c'.F ∧ c'.dl = c.dl ∧ Others w c c' v dv := by
  cases dv with
  | f d' =>
    cases e
    exact ⟨c, rfl, rfl, r, x0, h, Le.refl _, rfl, fun u e h _ => h⟩
  | n k ds => exact h.elim
  | o ds =>
    cases e
    obtain ⟨a, vs, rfl, h2, h3, h4, h5⟩ := h
    obtain ⟨a', ea, hn⟩ := fr
    cases ea
    have le : Le c.F (upd c.F a (.lst vs)) := le_upd h2
    have ndl : ∀ q, c.dl = some q → a ≠ q.1 ∧ a ≠ q.2 := fun q hq => ⟨fun z => h5 (.inr ⟨q, hq, .inl z⟩), fun z => h5 (.inr ⟨q, hq, .inr z⟩)⟩
    refine ⟨{ c with F := upd c.F a (.lst vs) }, rfl, rfl, r.freeze h2 h3 h4 ndl c.ρ rfl fun j dv hj => .inl ⟨hj, fun o => h5 (.inl ⟨j, o⟩)⟩, ?_, ⟨a, vs, rfl, upd_same, RepAll.mono le (DlLe.refl _) ds vs h4⟩, le, rfl, ?_⟩
    · refine ⟨⟨x0.mono.trans le, x0.keep, x0.live, fun b hb => ?_, x0.tch, x0.dl⟩, x0.σ, x0.pres, x0.ini⟩
      by_cases z : b = a
      · subst z; exact .inr (.inr hn)
      · have hb' : c.F b ≠ none := by
          have q : upd c.F a (.lst vs) b ≠ none := hb
          rw [upd_ne z] at q
          exact q
        exact x0.newF b hb'
    · intro u e hu hne
      cases e with
      | f d => exact RepD.mono le (DlLe.refl _) d u hu
      | b j => exact hu
      | n k es => exact hu
      | o es =>
        obtain ⟨b, us, q1, q2, q3, q4, q5⟩ := hu
        have hb : b ≠ a := fun z => hne rfl rfl (by rw [q1, z])
        exact ⟨b, us, q1, by show upd c.F a (.lst vs) b = none; rw [upd_ne hb]; exact q2, q3, RepAll.mono le (DlLe.refl _) es us q4, q5⟩
  | b i =>
    obtain ⟨h1, dv, h2⟩ := h
    obtain ⟨v', e1, e2⟩ := r.slot i dv h2
    have ev : v' = v := by
      rw [h1] at e1
      exact (Option.some.inj (Option.some.inj e1)).symm
    subst ev
    cases dv with
    | f d' =>
      have e' : frz (.b i) c.s = .ok d' c.s := by simp only [frz, C.s, h2]
      rw [e'] at e
      cases e
      exact ⟨c, rfl, rfl, r, x0, e2, Le.refl _, rfl, fun u e h _ => h⟩
    | b j => exact e2.elim
    | n k ds =>
      have e' : frz (.b i) c.s = .stuck := by simp only [frz, C.s, h2]
      rw [e'] at e
      cases e
    | o ds =>
      have e' : frz (.b i) c.s = .ok (.lst ds) { c.s with r := c.ρ.set i (some (.f (.lst ds))) } := by simp only [frz, C.s, h2]
      rw [e'] at e
      cases e
      obtain ⟨a, vs, rfl, g2, g3, g4⟩ := e2
      have oi : Own c i a := ⟨e1, _, h2, rfl⟩
      have le : Le c.F (upd c.F a (.lst vs)) := le_upd g2
      have hi : i < c.ρ.length := (List.getElem?_eq_some_iff.mp h2).1
      have hρ : ∀ (j : Nat) (dv : DV), (c.ρ.set i (some (.f (.lst ds))))[j]? = some (some dv) → (c.ρ[j]? = some (some dv) ∧ ¬ Own c j a) ∨ (dv = .f (.lst ds) ∧ c.σ[j]? = some (some (.ref a))) := fun j dv hj => by
        by_cases z : i = j
        · subst z
          rw [List.getElem?_set_self hi] at hj
          cases hj
          exact .inr ⟨rfl, e1⟩
        · rw [List.getElem?_set_ne z] at hj
          exact .inl ⟨hj, fun o => z (r.dist i j a oi o)⟩
      have sm : ∀ (j : Nat) (dv : DV), c.ρ[j]? = some (some dv) → ∃ dv', (c.ρ.set i (some (.f (.lst ds))))[j]? = some (some dv') := fun j dv hj => by
        by_cases z : i = j
        · subst z
          exact ⟨_, List.getElem?_set_self hi⟩
        · exact ⟨dv, by rw [List.getElem?_set_ne z]; exact hj⟩
      have tc : ∀ b, Touch { c with F := upd c.F a (.lst vs), ρ := c.ρ.set i (some (.f (.lst ds))) } b → Touch c b := fun b t => by
        rcases t with ⟨j, h1, dv, h2, h3⟩ | t
        · rcases hρ j dv h2 with ⟨q, _⟩ | ⟨q, _⟩
          · exact .inl ⟨j, h1, dv, q, h3⟩
          · subst q; cases h3
        · exact .inr t
      refine ⟨{ c with F := upd c.F a (.lst vs), ρ := c.ρ.set i (some (.f (.lst ds))) }, rfl, rfl, r.freeze g2 g3 g4 (fun q hq => r.ndeal i a q oi hq) _ (by rw [List.length_set]) hρ, ?_, ⟨a, vs, rfl, upd_same, RepAll.mono le (DlLe.refl _) ds vs g4⟩, le, rfl, ?_⟩
      · refine x0.trans ⟨⟨le, fun b o h _ => h, fun b h => h, fun b hb => ?_, fun b t => .inl (tc b t), DlLe.refl _⟩, rfl, sm, fun j k fs hj => by
          by_cases z : i = j
          · subst z
            have hj' : (c.ρ.set i (some (.f (.lst ds))))[i]? = some (some (.n k fs)) := hj
            rw [List.getElem?_set_self hi] at hj'
            cases hj'
          · exact ⟨fs, (List.getElem?_set_ne z).symm.trans hj⟩⟩
        by_cases z : b = a
        · subst z; exact .inr (.inl (.inl ⟨i, oi⟩))
        · have q : upd c.F a (.lst vs) b ≠ none := hb
          rw [upd_ne z] at q
          exact .inl q
      · intro u e hu _
        cases e with
        | f d => exact RepD.mono le (DlLe.refl _) d u hu
        | b j =>
          obtain ⟨q1, dv, q2⟩ := hu
          exact ⟨q1, sm j dv q2⟩
        | n k es => exact hu
        | o es =>
          obtain ⟨b, us, q1, q2, q3, q4, q5⟩ := hu
          have hb : b ≠ a := fun z => q5 (.inl ⟨i, by rw [z]; exact oi⟩)
          exact ⟨b, us, q1, by show upd c.F a (.lst vs) b = none; rw [upd_ne hb]; exact q2, q3, RepAll.mono le (DlLe.refl _) es us q4, fun t => q5 (tc b t)⟩
theorem bnd_ok {α β : Type} {m : M α} {f : α → M β} {s s' : S} {b : β} (h : bnd m f s = .ok b s') : ∃ a s1, m s = .ok a s1 ∧ f a s1 = .ok b s' := by
  unfold bnd at h
  cases e : m s with
  | ok a s1 => rw [e] at h; exact ⟨a, s1, rfl, h⟩
  | exc k d s1 => rw [e] at h; cases h
  | stuck => rw [e] at h; cases h
/-! ### several values at hand -/
def Rels (w : Wd) (H : Hp) (c : C) : List V → List DV → Prop
  | [], [] => True
  | v :: vs, d :: ds => Rel w c v d ∧ Frs H v d ∧ (∀ (i : Nat) u e, vs[i]? = some u → ds[i]? = some e → isO d = true → isO e = true → u ≠ v) ∧ Rels w H c vs ds
  | _, _ => False
theorem Rels.step {H : Hp} (x : ∀ u e, Rel w c u e → Rel w c' u e) : ∀ {vs : List V} {ds : List DV}, Rels w H c vs ds → Rels w H c' vs ds
  | [], [], h => h
  | _ :: _, _ :: _, ⟨h1, h2, h3, h4⟩ => ⟨x _ _ h1, h2, h3, Rels.step x h4⟩
  | [], _ :: _, h => h.elim
  | _ :: _, [], h => h.elim
theorem Rels.others {H : Hp} (x : Others w c c' v dv) : ∀ {vs : List V} {ds : List DV}, (∀ (i : Nat) u e, vs[i]? = some u → ds[i]? = some e → isO dv = true → isO e = true → u ≠ v) → Rels w H c vs ds → Rels w H c' vs ds
  | [], [], _, h => h
  | u :: vs, e :: ds, n, ⟨h1, h2, h3, h4⟩ => ⟨x u e h1 (n 0 u e rfl rfl), h2, h3, Rels.others x (fun i u e a b => n (i + 1) u e (by simpa using a) (by simpa using b)) h4⟩
  | [], _ :: _, _, h => h.elim
  | _ :: _, [], _, h => h.elim
theorem Rels.weakH {H H' : Hp} (x : ∀ a, H a = none → H' a = none) : ∀ {vs : List V} {ds : List DV}, Rels w H c vs ds → Rels w H' c vs ds
  | [], [], h => h
  | v :: vs, d :: ds, ⟨h1, h2, h3, h4⟩ => by
    refine ⟨h1, ?_, h3, Rels.weakH x h4⟩
    cases d with
    | o es =>
      obtain ⟨a, e, n⟩ := h2
      exact ⟨a, e, x a n⟩
    | _ => trivial
  | [], _ :: _, h => h.elim
  | _ :: _, [], h => h.elim
theorem Rels.at_ {H : Hp} : ∀ {vs : List V} {ds : List DV} {i : Nat} {d : DV}, Rels w H c vs ds → ds[i]? = some d → ∃ v, vs[i]? = some v ∧ Rel w c v d ∧ Frs H v d
  | [], [], _, _, _, h => by simp at h
  | v :: vs, d :: ds, 0, _, ⟨h1, h2, _, _⟩, h => by simp at h; subst h; exact ⟨v, rfl, h1, h2⟩
  | v :: vs, d :: ds, i + 1, _, ⟨_, _, _, h4⟩, h => by
    obtain ⟨u, e1, e2⟩ := Rels.at_ (i := i) h4 (by simpa using h)
    exact ⟨u, by simpa using e1, e2⟩
  | [], _ :: _, _, _, h, _ => h.elim
  | _ :: _, [], _, _, h, _ => h.elim
theorem frzs_ok : ∀ {ds : List DV} {vs : List V} {c : C} {es : List D} {s' : S}, R w c → Rels w c0.H c vs ds → SStep c0 c → frzs ds c.s = .ok es s' →
    ∃ c', c'.s = s' ∧ c'.H = c.H ∧ R w c' ∧ SStep c0 c' ∧ RepAll w c'.dl c'.F es vs ∧ Le c.F c'.F ∧ c'.dl = c.dl
  | [], [], c, es, s', r, _, x, e => by
    cases e
    exact ⟨c, rfl, rfl, r, x, rfl, Le.refl _, rfl⟩
  | d :: ds, v :: vs, c, es, s', r, ⟨h1, h2, h3, h4⟩, x, e => by
    obtain ⟨y, s1, q, e'⟩ := bnd_ok (show bnd (frz d) (fun y => bnd (frzs ds) fun ys => ret (y :: ys)) c.s = .ok es s' from e)
    obtain ⟨c1, rfl, hH, r1, x1, rep, le, hdl, oth⟩ := frz_ok r h1 x h2 q
    obtain ⟨ys, s2, q2, e2⟩ := bnd_ok e'
    cases e2
    obtain ⟨c2, e3, hH2, r2, x2, rep2, le2, hdl2⟩ := frzs_ok r1 (Rels.others oth h3 h4) x1 q2
    exact ⟨c2, e3, hH2.trans hH, r2, x2, ⟨v, vs, rfl, by rw [hdl2]; exact RepD.mono le2 (DlLe.refl _) y v rep, rep2⟩, le.trans le2, hdl2.trans hdl⟩
  | [], _ :: _, _, _, _, _, h, _, _ => h.elim
  | _ :: _, [], _, _, _, _, h, _, _ => h.elim
/-! ### new objects -/
theorem R.noF (r : R w c) (h : c.H p = none) : c.F p = none := by
  cases e : c.F p with
  | none => rfl
  | some o => rw [r.sub p o e] at h; cases h
theorem R.noT (r : R w c) (h : c.H p = none) : ¬ Touch c p := fun t => (r.touchH t).1 h
/-- a new object, not let be -/
theorem R.lay (r : R w c) (h : c.H p = none) (o : HO) : R w { c with H := upd c.H p o } ∧ SStep c { c with H := upd c.H p o } := by
  have le : Le c.H (upd c.H p o) := le_upd h
  refine ⟨⟨r.sub.trans le, r.len, fun i dv hi => ?_, r.dist, r.ndeal, ?_⟩, ⟨⟨Le.refl _, fun a u e _ => le a u e, fun a e => ?_, fun a e => .inl e, fun a e => .inl e, DlLe.refl _⟩, rfl, fun i dv hi => ⟨dv, hi⟩, fun _ _ fs h => ⟨fs, h⟩⟩⟩
  · obtain ⟨v, e1, e2⟩ := r.slot i dv hi
    refine ⟨v, e1, ?_⟩
    cases dv with
    | f d => exact e2
    | b j => exact e2
    | o es =>
      obtain ⟨b, us, q1, q2, q3, q4⟩ := e2
      exact ⟨b, us, q1, q2, le _ _ q3, q4⟩
    | n k es =>
      obtain ⟨b, dx, us, q1, q2, q3, q5, q4⟩ := e2
      exact ⟨b, dx, us, q1, q2, le _ _ q3, q5, q4⟩
  · exact DealAt.imp r.deal fun q hq => ⟨fun h => h, fun h => h, fun _ h => le _ _ h, fun _ h => le _ _ h⟩
  · have e' : upd c.H p o a = none := e
    by_cases z : a = p
    · subst z; exact h
    · rw [upd_ne z] at e'
      exact e'
theorem R.newLst (r : R w c) (h : c.H p = none) (hv : RepAll w c.dl c.F ds vs) : Rel w { c with H := upd c.H p (.lst vs) } (.ref p) (.o ds) :=
  ⟨p, vs, rfl, r.noF h, upd_same, hv, fun t => r.noT h t⟩
/-- a new object, let be at once -/
theorem R.layF (r : R w c) (h : c.H p = none) (o : HO) : R w { c with H := upd c.H p o, F := upd c.F p o } ∧ SStep c { c with H := upd c.H p o, F := upd c.F p o } := by
  obtain ⟨r1, x1⟩ := r.lay h o
  have hf := r.noF h
  have le : Le c.F (upd c.F p o) := le_upd hf
  have nt := r.noT h
  refine ⟨⟨fun a u e => ?_, r1.len, fun i dv hi => ?_, r.dist, r.ndeal, ?_⟩, ⟨⟨le, x1.keep, x1.live, fun a e => ?_, x1.tch, DlLe.refl _⟩, rfl, x1.pres, x1.ini⟩⟩
  · have e' : upd c.F p o a = some u := e
    by_cases z : a = p
    · subst z
      rw [upd_same] at e'
      cases e'
      exact upd_same
    · rw [upd_ne z] at e'
      show upd c.H p o a = _
      rw [upd_ne z]
      exact r.sub a u e'
  · obtain ⟨v, e1, e2⟩ := r1.slot i dv hi
    refine ⟨v, e1, ?_⟩
    cases dv with
    | f d => exact RepD.mono le (DlLe.refl _) d v e2
    | b j => exact e2
    | o es =>
      obtain ⟨b, us, q1, q2, q3, q4⟩ := e2
      have hb : b ≠ p := fun z => nt (.inl ⟨i, by rw [← z, ← q1]; exact e1, _, hi, rfl⟩)
      exact ⟨b, us, q1, by show upd c.F p o b = none; rw [upd_ne hb]; exact q2, q3, RepAll.mono le (DlLe.refl _) es us q4⟩
    | n k es =>
      obtain ⟨b, dx, us, q1, q2, q3, q5, q4⟩ := e2
      have hb : b ≠ p := fun z => nt (.inl ⟨i, by rw [← z, ← q1]; exact e1, _, hi, rfl⟩)
      exact ⟨b, dx, us, q1, by show upd c.F p o b = none; rw [upd_ne hb]; exact q2, q3, q5, RepAll.mono le (DlLe.refl _) es us q4⟩
  · refine DealAt.imp r1.deal fun q hq => ?_
    have n1 : q.1 ≠ p := fun z => nt (.inr ⟨q, hq, .inl z.symm⟩)
    have n2 : q.2 ≠ p := fun z => nt (.inr ⟨q, hq, .inr z.symm⟩)
    exact ⟨fun z => by show upd c.F p o q.1 = none; rw [upd_ne n1]; exact z, fun z => by show upd c.F p o q.2 = none; rw [upd_ne n2]; exact z, fun _ h => h, fun _ h => h⟩
  · have e' : upd c.F p o a ≠ none := e
    by_cases z : a = p
    · subst z; exact .inr (.inr h)
    · rw [upd_ne z] at e'
      exact .inl e'
end
end DI

set_option Elab.async false
set_option linter.all false
set_option maxRecDepth 100000
set_option maxHeartbeats 4000000
/-! DI4: readings by data; expressions. Own text. -/
namespace DI
open PySem PySem.Spec PyProof.Rows L2
section
variable (w : Wd) (Ex : Nat → D → C → Prop)
/-- what a result is to reach, seen from c -/
def Aft {α : Type} (c : C) (r : Res α) (Q : C → α → Prop) : Prop := match r with
  | .ok a s => ∀ c', c'.s = s → R w c' → SStep c c' → Q c' a
  | .exc k d s => ∀ c', c'.s = s → R w c' → SStep c c' → Ex k d c'
  | .stuck => False
variable (Φ : Fns)
abbrev ev (e : E) : M DV := evE w.T Φ e
abbrev evs (es : List E) : M (List DV) := evEs w.T Φ es
def tE (e : E) : TE := fun σ H Q => ∃ c, c.σ = σ ∧ c.H = H ∧ R w c ∧ Aft w Ex c (ev w Φ e c.s) fun c' dv => ∀ v, Rel w c' v dv → Frs c.H v dv → Q v c'.H
def tEs (es : List E) : TA := fun σ H Q => ∃ c, c.σ = σ ∧ c.H = H ∧ R w c ∧ Aft w Ex c (evs w Φ es c.s) fun c' dvs => ∀ vs, Rels w c.H c' vs dvs → Q vs c'.H
/-- a test -/
def tT (e : E) : TT := fun σ H Q => ∃ c, c.σ = σ ∧ c.H = H ∧ R w c ∧ Aft w Ex c (bnd (ev w Φ e) bool? c.s) fun c' k => Q k c'.H
end
section
variable {w : Wd} {Ex : Nat → D → C → Prop} {Φ : Fns} {α β : Type} {c c0 c1 c2 : C} {r : Res α} {Q Q' : C → α → Prop} {X : Cx} {e : E} {es : List E} {v : V} {dv : DV}
theorem Aft.imp (h : Aft w Ex c r Q) (f : ∀ c' a, R w c' → SStep c c' → Q c' a → Q' c' a) : Aft w Ex c r Q' := by
  cases r with
  | ok a s => exact fun c' e r x => f c' a r x (h c' e r x)
  | exc k d s => exact h
  | stuck => exact h
theorem Aft.bnd {m : M α} {f : α → M β} {Q : C → β → Prop} (h : Aft w Ex c0 (DI.bnd m f c1.s) Q) (x : SStep c0 c1) : Aft w Ex c1 (m c1.s) fun c2 a => SStep c1 c2 ∧ R w c2 ∧ Aft w Ex c0 (f a c2.s) Q := by
  unfold DI.bnd at h
  cases e : m c1.s with
  | ok a s =>
    rw [e] at h
    intro c2 hs r2 x2
    exact ⟨x2, r2, by rw [hs]; exact h⟩
  | exc k d s =>
    rw [e] at h
    intro c2 hs r2 x2
    exact h c2 hs r2 (x.trans x2)
  | stuck => rw [e] at h; exact h
theorem Aft.ret {a : α} (h : Aft w Ex c0 (DI.ret a c.s) Q) (x : SStep c0 c) (r : R w c) : Q c a := h c rfl r x
theorem Aft.ok {a : α} {s : S} (h : Aft w Ex c0 r Q) (e : r = .ok a s) (hs : c.s = s) (x : SStep c0 c) (rr : R w c) : Q c a := by
  subst e
  exact h c hs rr x
theorem Aft.opt {o : Option α} {f : α → M β} {Q : C → β → Prop} (h : Aft w Ex c0 (DI.bnd (opt o) f c.s) Q) : ∃ a, o = some a ∧ Aft w Ex c0 (f a c.s) Q := by
  cases o with
  | none => exact h.elim
  | some a => exact ⟨a, rfl, h⟩
theorem Aft.opt1 {o : Option α} (h : Aft w Ex c0 (DI.opt o c.s) Q) (x : SStep c0 c) (r : R w c) : ∃ a, o = some a ∧ Q c a := by
  cases o with
  | none => exact h.elim
  | some a => exact ⟨a, rfl, h c rfl r x⟩
theorem Aft.int {d : D} {f : Int → M β} {Q : C → β → Prop} (h : Aft w Ex c0 (DI.bnd (int? d) f c.s) Q) : ∃ i, d = .int i ∧ Aft w Ex c0 (f i c.s) Q := by
  cases d with
  | int i => exact ⟨i, rfl, h⟩
  | _ => exact h.elim
theorem Aft.bool {f : Bool → M β} {Q : C → β → Prop} (h : Aft w Ex c0 (DI.bnd (bool? dv) f c.s) Q) : ∃ i, dv = .f (.bl i) ∧ Aft w Ex c0 (f i c.s) Q := by
  cases dv with
  | f d =>
    cases d with
    | bl i => exact ⟨i, rfl, h⟩
    | _ => exact h.elim
  | _ => exact h.elim
theorem Aft.bool1 {Q : C → Bool → Prop} (h : Aft w Ex c0 (bool? dv c.s) Q) : ∃ i, dv = .f (.bl i) ∧ Aft w Ex c0 (DI.ret i c.s) Q := by
  cases dv with
  | f d =>
    cases d with
    | bl i => exact ⟨i, rfl, h⟩
    | _ => exact h.elim
  | _ => exact h.elim
theorem Aft.look {f : D → M β} {Q : C → β → Prop} (h : Aft w Ex c0 (DI.bnd (DI.look dv) f c.s) Q) (r : R w c) (rel : Rel w c v dv) : ∃ d, Lk w c v d ∧ Aft w Ex c0 (f d c.s) Q := by
  obtain ⟨d, h1, h2⟩ := look_ok r rel rfl (f := f) rfl (fun z => by rw [z] at h; exact h)
  rw [h2] at h
  exact ⟨d, h1, h⟩
theorem bnd_exc {m : M α} {f : α → M β} {s s' : S} {k : Nat} {d : D} (h : DI.bnd m f s = .exc k d s') : m s = .exc k d s' ∨ ∃ a s1, m s = .ok a s1 ∧ f a s1 = .exc k d s' := by
  unfold DI.bnd at h
  cases e : m s with
  | ok a s1 => rw [e] at h; exact .inr ⟨a, s1, rfl, h⟩
  | exc k2 d2 s1 =>
    rw [e] at h
    have h2 : Res.exc k2 d2 s1 = (Res.exc k d s' : Res β) := h
    cases h2
    exact .inl rfl
  | stuck => rw [e] at h; cases h
theorem bnd_assoc {γ : Type} (m : M α) (f : α → M β) (g : β → M γ) : DI.bnd (DI.bnd m f) g = DI.bnd m fun a => DI.bnd (f a) g := by
  funext s
  unfold DI.bnd
  cases m s <;> rfl
theorem frz_noExc {dv : DV} {s : S} {k d s'} : DI.frz dv s ≠ .exc k d s' := fun e => by
  cases dv with
  | b i =>
    simp only [DI.frz] at e
    split at e <;> cases e
  | f d => cases e
  | o d => cases e
  | n _ d => cases e
theorem Aft.frz {f : D → M β} {Q : C → β → Prop} (h : Aft w Ex c0 (DI.bnd (DI.frz dv) f c.s) Q) (r : R w c) (x : SStep c0 c) (rel : Rel w c v dv) (fr : Frs c0.H v dv) :
    ∃ d c', c'.H = c.H ∧ R w c' ∧ SStep c0 c' ∧ RepD w c'.dl c'.F d v ∧ Le c.F c'.F ∧ c'.dl = c.dl ∧ Others w c c' v dv ∧ Aft w Ex c0 (f d c'.s) Q := by
  unfold DI.bnd at h
  cases e : DI.frz dv c.s with
  | ok d s' =>
    rw [e] at h
    obtain ⟨c', rfl, hH, r', x', rep, le, hdl, oth⟩ := frz_ok r rel x fr e
    exact ⟨d, c', hH, r', x', rep, le, hdl, oth, h⟩
  | exc k d s => exact (frz_noExc e).elim
  | stuck => rw [e] at h; exact h.elim
theorem Frs.weak {H : Hp} (h : Frs H v dv) (x : ∀ a, H a = none → c0.H a = none) : Frs c0.H v dv := by
  cases dv with
  | o ds =>
    obtain ⟨a, e, n⟩ := h
    exact ⟨a, e, x a n⟩
  | _ => trivial
theorem frzs_noExc : ∀ {ds : List DV} {s : S} {k d s'}, DI.frzs ds s ≠ .exc k d s'
  | [], _, _, _, _, h => by cases h
  | d :: ds, s, k, d', s', h => by
    rcases bnd_exc (show DI.bnd (DI.frz d) (fun y => DI.bnd (DI.frzs ds) fun ys => DI.ret (y :: ys)) s = .exc k d' s' from h) with h1 | ⟨a, s1, _, h1⟩
    · exact frz_noExc h1
    · rcases bnd_exc h1 with h2 | ⟨b, s2, _, h2⟩
      · exact frzs_noExc h2
      · cases h2
theorem Aft.frzs {f : List D → M β} {Q : C → β → Prop} {vs : List V} {dvs : List DV} (h : Aft w Ex c0 (DI.bnd (DI.frzs dvs) f c.s) Q) (r : R w c) (x : SStep c0 c) (rel : Rels w c0.H c vs dvs) :
    ∃ ds c', c'.H = c.H ∧ R w c' ∧ SStep c0 c' ∧ RepAll w c'.dl c'.F ds vs ∧ Aft w Ex c0 (f ds c'.s) Q := by
  unfold DI.bnd at h
  cases e : DI.frzs dvs c.s with
  | ok ds s' =>
    rw [e] at h
    obtain ⟨c', rfl, hH, r', x', rep, _, _⟩ := frzs_ok r rel x e
    exact ⟨ds, c', hH, r', x', rep, h⟩
  | exc k d s => exact (frzs_noExc e).elim
  | stuck => rw [e] at h; exact h.elim
/-- the data that several values hold -/
def Lks (w : Wd) (c : C) : List V → List D → Prop
  | [], [] => True
  | v :: vs, d :: ds => Lk w c v d ∧ Lks w c vs ds
  | _, _ => False
theorem Aft.looks {Q : C → β → Prop} {H : Hp} : ∀ {vs : List V} {dvs : List DV} {f : List D → M β}, Aft w Ex c0 (DI.bnd (DI.looks dvs) f c.s) Q → R w c → Rels w H c vs dvs → ∃ ds, Lks w c vs ds ∧ Aft w Ex c0 (f ds c.s) Q
  | [], [], f, h, _, _ => ⟨[], trivial, h⟩
  | v :: vs, d :: ds, f, h, r, ⟨h1, _, _, h4⟩ => by
    have h' : Aft w Ex c0 (DI.bnd (DI.look d) (fun y => DI.bnd (DI.looks ds) fun ys => f (y :: ys)) c.s) Q := by
      have e : DI.bnd (DI.looks (d :: ds)) f = DI.bnd (DI.look d) (fun y => DI.bnd (DI.looks ds) fun ys => f (y :: ys)) := by
        show DI.bnd (DI.bnd (DI.look d) fun y => DI.bnd (DI.looks ds) fun ys => DI.ret (y :: ys)) f = _
        rw [bnd_assoc]
        congr 1
        funext y
        rw [bnd_assoc]
        rfl
      rw [← e]
      exact h
    obtain ⟨y, hy, h2⟩ := h'.look r h1
    obtain ⟨ys, hys, h3⟩ := Aft.looks h2 r h4
    exact ⟨y :: ys, ⟨hy, hys⟩, h3⟩
  | [], _ :: _, _, _, _, h => h.elim
  | _ :: _, [], _, _, _, h => h.elim
theorem Lks.one {vs : List V} {d : D} (h : Lks w c vs [d]) : ∃ v, vs = [v] ∧ Lk w c v d := by
  match vs, h with
  | [v], ⟨h1, _⟩ => exact ⟨v, rfl, h1⟩
theorem Lks.two {vs : List V} {d d' : D} (h : Lks w c vs [d, d']) : ∃ v u, vs = [v, u] ∧ Lk w c v d ∧ Lk w c u d' := by
  match vs, h with
  | [v, u], ⟨h1, h2, _⟩ => exact ⟨v, u, rfl, h1, h2⟩
theorem tE_mono {σ : L2.St} {H : Hp} {Q Q' : VK} (h : tE w Ex Φ e σ H Q) (f : ∀ v H', Q v H' → Q' v H') : tE w Ex Φ e σ H Q' := by
  obtain ⟨c, h1, h2, h3, h4⟩ := h
  exact ⟨c, h1, h2, h3, h4.imp fun c' dv _ _ q v a b => f v _ (q v a b)⟩
theorem tEs_mono {σ : L2.St} {H : Hp} {Q Q' : List V → Hp → Prop} (h : tEs w Ex Φ es σ H Q) (f : ∀ v H', Q v H' → Q' v H') : tEs w Ex Φ es σ H Q' := by
  obtain ⟨c, h1, h2, h3, h4⟩ := h
  exact ⟨c, h1, h2, h3, h4.imp fun c' dv _ _ q v a => f v _ (q v a)⟩
theorem tT_mono {σ : L2.St} {H : Hp} {Q Q' : Bool → Hp → Prop} (h : tT w Ex Φ e σ H Q) (f : ∀ v H', Q v H' → Q' v H') : tT w Ex Φ e σ H Q' := by
  obtain ⟨c, h1, h2, h3, h4⟩ := h
  exact ⟨c, h1, h2, h3, h4.imp fun c' k _ _ q => f k _ q⟩
/-- an expression first, then what follows -/
theorem tE_seq {f : DV → M β} {Q : C → β → Prop} {P : VK} (h : Aft w Ex c0 (bnd (ev w Φ e) f c1.s) Q) (x : SStep c0 c1) (r : R w c1)
    (k : ∀ c2 v dv, R w c2 → SStep c1 c2 → SStep c0 c2 → c2.σ = c1.σ → Rel w c2 v dv → Frs c1.H v dv → Frs c0.H v dv → Aft w Ex c0 (f dv c2.s) Q → P v c2.H) : tE w Ex Φ e c1.σ c1.H P :=
  ⟨c1, rfl, rfl, r, (h.bnd x).imp fun c2 dv r2 x2 ⟨_, _, q⟩ v rel fr => k c2 v dv r2 x2 (x.trans x2) x2.σ rel fr (fr.weak x.live) q⟩
theorem tEs_seq {f : List DV → M β} {Q : C → β → Prop} {P : List V → Hp → Prop} (h : Aft w Ex c0 (bnd (evs w Φ es) f c1.s) Q) (x : SStep c0 c1) (r : R w c1)
    (k : ∀ c2 vs dvs, R w c2 → SStep c1 c2 → SStep c0 c2 → c2.σ = c1.σ → Rels w c1.H c2 vs dvs → Rels w c0.H c2 vs dvs → Aft w Ex c0 (f dvs c2.s) Q → P vs c2.H) : tEs w Ex Φ es c1.σ c1.H P :=
  ⟨c1, rfl, rfl, r, (h.bnd x).imp fun c2 dv r2 x2 ⟨_, _, q⟩ v rel => k c2 v dv r2 x2 (x.trans x2) x2.σ rel (rel.weakH x.live) q⟩
theorem _root_.L2.PE.imp {a : Expr} {t t' : TE} (h : PE X a t) (f : ∀ σ H Q, t' σ H Q → t σ H Q) : PE X a t' := ⟨fun pins s σ H Q I q => h.run pins s σ H Q I (f σ H Q q)⟩
theorem _root_.L2.PT.imp {a : Expr} {t t' : TT} (h : PT X a t) (f : ∀ σ H Q, t' σ H Q → t σ H Q) : PT X a t' := ⟨fun pins s σ H Q I q => h.run pins s σ H Q I (f σ H Q q)⟩
theorem _root_.L2.PA.imp {a : List Expr} {t t' : TA} (h : PA X a t) (f : ∀ σ H Q, t' σ H Q → t σ H Q) : PA X a t' := ⟨fun pos pins s σ H Q I q => h.run pos pins s σ H Q I (f σ H Q q)⟩
end
/-! ### what operations on values ask, by data -/
section
variable {w : Wd} {Ex : Nat → D → C → Prop} {c c0 : C} {x y : V} {dx dy : D}
/-- the value v is what a result is, wherever it comes -/
def Fin (w : Wd) (c0 : C) (Q : VK) : C → DV → Prop := fun c' dv => ∀ v, Rel w c' v dv → Frs c0.H v dv → Q v c'.H
theorem Fin.f {Q : VK} {d : D} {v : V} (h : Fin w c0 Q c (.f d)) (r : RepD w c.dl c.F d v) : Q v c.H := h v r trivial
theorem Fin.int {Q : VK} {i : Int} (h : Fin w c0 Q c (.f (.int i))) : Q (.int i) c.H := h _ rfl trivial
theorem Fin.bl {Q : VK} {i : Bool} (h : Fin w c0 Q c (.f (.bl i))) : Q (.bl i) c.H := h _ rfl trivial
/-- a new tuple is the result -/
theorem Aft.newTup {Q : VK} {ds : List D} {vs : List V} (h : Aft w Ex c0 (DI.ret (.f (.tup ds)) c.s) (Fin w c0 Q)) (x : SStep c0 c) (r : R w c) (rep : RepAll w c.dl c.F ds vs) {p : Addr} (hp : c.H p = none) : Q (.ref p) (upd c.H p (.tup vs)) := by
  obtain ⟨r', x'⟩ := r.layF hp (.tup vs)
  have le : Le c.F (upd c.F p (.tup vs)) := le_upd (r.noF hp)
  exact h { c with H := upd c.H p (.tup vs), F := upd c.F p (.tup vs) } rfl r' (x.trans x') (.ref p) ⟨p, vs, rfl, SqT.of upd_same, RepAll.mono le (DlLe.refl _) ds vs rep⟩ trivial
/-- a new list is the result -/
theorem Aft.newLst {Q : VK} {ds : List D} {vs : List V} (h : Aft w Ex c0 (DI.ret (.o ds) c.s) (Fin w c0 Q)) (x : SStep c0 c) (r : R w c) (rep : RepAll w c.dl c.F ds vs) {p : Addr} (hp : c.H p = none) : Q (.ref p) (upd c.H p (.lst vs)) := by
  obtain ⟨r', x'⟩ := r.lay hp (.lst vs)
  exact h { c with H := upd c.H p (.lst vs) } rfl r' (x.trans x') (.ref p) (r.newLst hp rep) ⟨p, rfl, x.live p hp⟩
end
end DI

set_option Elab.async false
set_option linter.all false
set_option maxRecDepth 100000
set_option maxHeartbeats 4000000
/-! DI5: operators by data. Own text. -/
namespace DI
open PySem PySem.Spec PyProof.Rows L2
theorem lim_eq : lim = sizeLine := by decide
section
variable {w : Wd} {Ex : Nat → D → C → Prop} {X : Cx}
def OpOk (w : Wd) (Ex : Nat → D → C → Prop) (X : Cx) (f : Value → Value → Sem Value) (k : D → D → Option DV) : Prop :=
  ∃ r : R2, OpR X f r ∧ ∀ {c0 c : C} {Q : VK} {x y : V} {dx dy : D}, R w c → SStep c0 c → Lk w c x dx → Lk w c y dy → Aft w Ex c0 (opt (k dx dy) c.s) (Fin w c0 Q) → r x y c.H Q
theorem Aft.opt0 {α : Type} {c0 c : C} {o : Option α} {Q : C → α → Prop} (h : Aft w Ex c0 (DI.opt o c.s) Q) : ∃ a, o = some a ∧ Aft w Ex c0 (DI.ret a c.s) Q := by
  cases o with
  | none => exact h.elim
  | some a => exact ⟨a, rfl, h⟩
theorem Aft.fin {c0 c : C} {dv : DV} {Q : VK} {v : V} (h : Aft w Ex c0 (DI.ret dv c.s) (Fin w c0 Q)) (x : SStep c0 c) (r : R w c) (rel : Rel w c v dv) (fr : Frs c0.H v dv) : Q v c.H := h.ret x r v rel fr
theorem binD_add {dx dy : D} {a : DV} (h : binD .add dx dy = some a) : (∃ i j, dx = .int i ∧ dy = .int j ∧ a = .f (.int (i + j))) ∨ (∃ xs ys, dx = .tup xs ∧ dy = .tup ys ∧ xs.length + ys.length ≤ lim ∧ a = .f (.tup (xs ++ ys))) ∨
    ∃ xs ys, dx = .lst xs ∧ dy = .lst ys ∧ xs.length + ys.length ≤ lim ∧ a = .o (xs ++ ys) := by
  cases dx <;> cases dy <;> simp only [binD] at h <;> first
    | (cases h; done)
    | (split at h <;> first
        | (cases h; done)
        | (cases h; first
            | exact .inr (.inl ⟨_, _, rfl, rfl, by assumption, rfl⟩)
            | exact .inr (.inr ⟨_, _, rfl, rfl, by assumption, rfl⟩)))
    | (cases h; exact .inl ⟨_, _, rfl, rfl, rfl⟩)
theorem ok_add (hK : X.K = w.K) : OpOk w Ex X (binaryOp .Add) (binD .add) := by
  refine ⟨_, op_add.or ((op_catA (X := X)).or op_cat), fun {c0 c Q x y dx dy} r st hx hy h => ?_⟩
  obtain ⟨a, e, h⟩ := h.opt0
  rcases binD_add e with ⟨i, j, rfl, rfl, rfl⟩ | ⟨xs, ys, rfl, rfl, hz, rfl⟩ | ⟨xs, ys, rfl, rfl, hz, rfl⟩
  · exact .inl ⟨i, j, hx, hy, h.fin st r rfl trivial⟩
  · obtain ⟨a1, v1, rfl, s1, p1⟩ := hx
    obtain ⟨a2, v2, rfl, s2, p2⟩ := hy
    have hz' : v1.length + v2.length ≤ sizeLine := by rw [p1.length, p2.length, ← lim_eq]; exact hz
    refine .inr (.inl ⟨a1, a2, v1, v2, rfl, rfl, by rw [hK]; exact r.sub.sqT s1, by rw [hK]; exact r.sub.sqT s2, hz', fun e => ?_, fun n e => ?_, fun n1 n2 p hp => ?_⟩)
    · have e0 : xs = [] := by
        have := p1.length
        rw [e] at this
        exact List.length_eq_zero_iff.mp this.symm
      subst e0
      rw [List.nil_append] at h
      exact h.fin st r ⟨a2, v2, rfl, s2, p2⟩ trivial
    · have e0 : ys = [] := by
        have := p2.length
        rw [e] at this
        exact List.length_eq_zero_iff.mp this.symm
      subst e0
      rw [List.append_nil] at h
      exact h.fin st r ⟨a1, v1, rfl, s1, p1⟩ trivial
    · exact h.newTup st r (p1.append p2) hp
  · obtain ⟨a1, v1, rfl, s1, p1⟩ := hx
    obtain ⟨a2, v2, rfl, s2, p2⟩ := hy
    have hz' : v1.length + v2.length ≤ sizeLine := by rw [p1.length, p2.length, ← lim_eq]; exact hz
    exact .inr (.inr ⟨a1, a2, v1, v2, rfl, rfl, s1, s2, hz', fun p hp => h.newLst st r (p1.append p2) hp⟩)
theorem ok_sub : OpOk w Ex X (binaryOp .Sub) (binD .sub) := by
  refine ⟨_, op_sub, fun {c0 c Q x y dx dy} r st hx hy h => ?_⟩
  obtain ⟨a, e, h⟩ := h.opt0
  cases dx <;> first | cases e | skip
  cases dy <;> first | cases e | skip
  exact ⟨_, _, hx, hy, h.fin st r rfl trivial⟩
theorem ok_mod : OpOk w Ex X (binaryOp .Mod) (binD .mod) := by
  refine ⟨_, op_mod, fun {c0 c Q x y dx dy} r st hx hy h => ?_⟩
  obtain ⟨a, e, h⟩ := h.opt0
  cases dx <;> first | cases e | skip
  cases dy <;> first | cases e | skip
  simp only [binD] at e
  split at e
  · cases e
    exact ⟨_, _, hx, hy, by assumption, h.fin st r rfl trivial⟩
  · cases e
theorem ok_fdiv : OpOk w Ex X (binaryOp .FloorDiv) (binD .fdiv) := by
  refine ⟨_, op_fdivW, fun {c0 c Q x y dx dy} r st hx hy h => ?_⟩
  obtain ⟨a, e, h⟩ := h.opt0
  cases dx <;> first | cases e | skip
  cases dy <;> first | cases e | skip
  simp only [binD] at e
  split at e
  · cases e
    exact ⟨_, _, hx, hy, by assumption, h.fin st r rfl trivial⟩
  · cases e
theorem ok_pow : OpOk w Ex X (binaryOp .Pow) (binD .pow) := by
  refine ⟨_, op_pow, fun {c0 c Q x y dx dy} r st hx hy h => ?_⟩
  obtain ⟨a, e, h⟩ := h.opt0
  cases dx <;> first | cases e | skip
  cases dy <;> first | cases e | skip
  simp only [binD] at e
  split at e
  · cases e
    exact ⟨_, _, hx, hy, by assumption, h.fin st r rfl trivial⟩
  · cases e
theorem mulOk_or {i j : Int} (h : mulOk i j = true) : CMul i j ∨ CMulW i j := by
  unfold mulOk small64 at h
  simp only [Bool.or_eq_true, Bool.and_eq_true, decide_eq_true_eq] at h
  rcases h with (h | h) | h
  · exact .inl (.inl h)
  · exact .inl (.inr h)
  · exact .inr h
theorem binD_mul {dx dy : D} {a : DV} (h : binD .mul dx dy = some a) : (∃ i j, dx = .int i ∧ dy = .int j ∧ mulOk i j = true ∧ a = .f (.int (i * j))) ∨
    ∃ xs j, dx = .lst xs ∧ dy = .int j ∧ (xs.length * j.toNat ≤ lim ∧ -(2 ^ 62) < j ∧ j < 2 ^ 62) ∧ a = .o (List.replicate j.toNat xs).flatten := by
  cases dx <;> cases dy <;> simp only [binD] at h <;> first
    | (cases h; done)
    | (split at h <;> first
        | (cases h; done)
        | (cases h; first
            | exact .inl ⟨_, _, rfl, rfl, by assumption, rfl⟩
            | exact .inr ⟨_, _, rfl, rfl, by assumption, rfl⟩))
theorem ok_mul : OpOk w Ex X (binaryOp .Mult) (binD .mul) := by
  refine ⟨_, op_mul.or (op_mulW.or op_rep), fun {c0 c Q x y dx dy} r st hx hy h => ?_⟩
  obtain ⟨a, e, h⟩ := h.opt0
  rcases binD_mul e with ⟨i, j, rfl, rfl, hm, rfl⟩ | ⟨xs, j, rfl, rfl, ⟨h1, h2, h3⟩, rfl⟩
  · rcases mulOk_or hm with m | m
    · exact .inl ⟨i, j, hx, hy, m, h.fin st r rfl trivial⟩
    · exact .inr (.inl ⟨i, j, hx, hy, m, h.fin st r rfl trivial⟩)
  · obtain ⟨a1, v1, rfl, s1, p1⟩ := hx
    refine .inr (.inr ⟨a1, j, v1, rfl, hy, s1, by omega, by omega, by rw [p1.length, ← lim_eq]; exact h1, fun p hp => h.newLst st r (p1.rep _) hp⟩)
def opOf : BOp → Operator
  | .add => .Add | .sub => .Sub | .mul => .Mult | .fdiv => .FloorDiv | .mod => .Mod | .pow => .Pow
theorem ok_bin (hK : X.K = w.K) (o : BOp) : OpOk w Ex X (binaryOp (opOf o)) (binD o) := by
  cases o
  · exact ok_add hK
  · exact ok_sub
  · exact ok_mul
  · exact ok_fdiv
  · exact ok_mod
  · exact ok_pow
/-! ### comparisons -/
mutual
theorem RepD.dp {dl : Dl} {H : Hp} : ∀ (d : D) (v : V), RepD w dl H d v → d.py.canLay0 = true → Dp w.K H v d.py
  | .non, _, h, _ => by rw [show _ = V.non from h]; exact .non
  | .bl b, _, h, _ => by rw [show _ = V.bl b from h]; exact .bl b
  | .int i, _, h, _ => by rw [show _ = V.int i from h]; exact .int i
  | .str s, _, h, _ => by rw [show _ = V.str s from h]; exact .str s
  | .tup ds, _, ⟨a, vs, e, h1, h2⟩, q => by
    subst e
    exact .tup h1 (RepAll.dp ds vs h2 (by simpa [D.py, PyData.canLay0] using q))
  | .lst ds, _, ⟨a, vs, e, h1, h2⟩, q => by
    subst e
    exact .lst (SqL.of h1) (RepAll.dp ds vs h2 (by simpa [D.py, PyData.canLay0] using q))
  | .ins _ _, _, _, q => by simp [D.py, PyData.canLay0] at q
  | .deal, _, _, q => by simp [D.py, PyData.canLay0] at q
  | .scr _, _, _, q => by simp [D.py, PyData.canLay0] at q
theorem RepAll.dp {dl : Dl} {H : Hp} : ∀ (ds : List D) (vs : List V), RepAll w dl H ds vs → PyData.canLayAll0 (pyAll ds) = true → DpAll w.K H vs (pyAll ds)
  | [], vs, h, _ => by rw [show vs = [] from h]; exact .nil
  | d :: ds, _, ⟨v, r, e, h1, h2⟩, q => by
    subst e
    have q' : d.py.canLay0 = true ∧ PyData.canLayAll0 (pyAll ds) = true := by simpa [pyAll, PyData.canLayAll0] using q
    exact .cons (RepD.dp d v h1 q'.1) (RepAll.dp ds r h2 q'.2)
end
theorem shp_lay {d : D} (h : shp d = true) : d.py.canLay0 = true := (Bool.and_eq_true_iff.mp h).1
theorem Lk.dp {c : C} {v : V} {d : D} (r : R w c) (h : Lk w c v d) (q : shp d = true) : Dp w.K c.H v d.py := RepD.dp d v (h.rep r) (shp_lay q)
def bl1 (k : D → D → Option Bool) : D → D → Option DV := fun x y => (k x y).map fun b => .f (.bl b)
theorem eqD_some {a b : D} {k : Bool} (h : eqD a b = some k) : shp a = true ∧ shp b = true ∧ k = PyData.eqv a.py b.py := by
  unfold eqD at h
  split at h
  · rename_i z
    obtain ⟨z1, z2⟩ := Bool.and_eq_true_iff.mp z
    cases h
    exact ⟨z1, z2, rfl⟩
  · cases h
theorem ok_eq (hK : X.K = w.K) (hu : X.A.units + 64 < cLine) : OpOk w Ex X (compareOp .Eq) (bl1 (cmpD .eq)) := by
  refine ⟨_, op_eqD hu, fun {c0 c Q x y dx dy} r st hx hy h => ?_⟩
  obtain ⟨a, e, h⟩ := h.opt0
  unfold bl1 at e
  obtain ⟨k, e1, rfl⟩ := Option.map_eq_some_iff.mp e
  obtain ⟨z1, z2, rfl⟩ := eqD_some e1
  exact ⟨_, _, by rw [hK]; exact hx.dp r z1, by rw [hK]; exact hy.dp r z2, z1, z2, h.fin st r rfl trivial⟩
theorem ok_ne (hK : X.K = w.K) (hu : X.A.units + 64 < cLine) : OpOk w Ex X (compareOp .NotEq) (bl1 (cmpD .ne)) := by
  refine ⟨_, op_neD hu, fun {c0 c Q x y dx dy} r st hx hy h => ?_⟩
  obtain ⟨a, e, h⟩ := h.opt0
  unfold bl1 at e
  obtain ⟨k, e1, rfl⟩ := Option.map_eq_some_iff.mp e
  obtain ⟨k', e2, rfl⟩ := Option.map_eq_some_iff.mp (show (eqD dx dy).map not = some k from e1)
  obtain ⟨z1, z2, rfl⟩ := eqD_some e2
  exact ⟨_, _, by rw [hK]; exact hx.dp r z1, by rw [hK]; exact hy.dp r z2, z1, z2, h.fin st r rfl trivial⟩
theorem ok_lt : OpOk w Ex X (compareOp .Lt) (bl1 (cmpD .lt)) := by
  refine ⟨_, op_lt, fun {c0 c Q x y dx dy} r st hx hy h => ?_⟩
  obtain ⟨a, e, h⟩ := h.opt0
  cases dx <;> first | cases e | skip
  cases dy <;> first | cases e | skip
  exact ⟨_, _, hx, hy, h.fin st r rfl trivial⟩
theorem ok_le : OpOk w Ex X (compareOp .LtE) (bl1 (cmpD .le)) := by
  refine ⟨_, op_le, fun {c0 c Q x y dx dy} r st hx hy h => ?_⟩
  obtain ⟨a, e, h⟩ := h.opt0
  cases dx <;> first | cases e | skip
  cases dy <;> first | cases e | skip
  exact ⟨_, _, hx, hy, h.fin st r rfl trivial⟩
theorem ok_gt : OpOk w Ex X (compareOp .Gt) (bl1 (cmpD .gt)) := by
  refine ⟨_, op_gt, fun {c0 c Q x y dx dy} r st hx hy h => ?_⟩
  obtain ⟨a, e, h⟩ := h.opt0
  cases dx <;> first | cases e | skip
  cases dy <;> first | cases e | skip
  exact ⟨_, _, hx, hy, h.fin st r rfl trivial⟩
theorem ok_ge : OpOk w Ex X (compareOp .GtE) (bl1 (cmpD .ge)) := by
  refine ⟨_, op_ge, fun {c0 c Q x y dx dy} r st hx hy h => ?_⟩
  obtain ⟨a, e, h⟩ := h.opt0
  cases dx <;> first | cases e | skip
  cases dy <;> first | cases e | skip
  exact ⟨_, _, hx, hy, h.fin st r rfl trivial⟩
end
end DI

set_option Elab.async false
set_option linter.all false
set_option maxRecDepth 100000
set_option maxHeartbeats 4000000
/-! DI6: expressions. Own text. -/
namespace DI
open PySem PySem.Spec PyProof.Rows L2
section
variable {w : Wd} {Ex : Nat → D → C → Prop} {Φ : Fns} {X : Cx} {a b c a' b' c' : E} {x y z : Expr} {pos : Pos}
/-- the reading at the start: where one stands, and what is to be reached -/
theorem tE_in {e : E} {σ : L2.St} {H : Hp} {Q : VK} (h : tE w Ex Φ e σ H Q) : ∃ c : C, c.σ = σ ∧ c.H = H ∧ R w c ∧ Aft w Ex c (ev w Φ e c.s) (Fin w c Q) := h
theorem j_var {i : Nat} {n : Str} (hN : X.N[i]? = some n) (hv : Vis X.env.scope n) (hd : (n == ("__debug__" : Str)) = false) (hcd : (n == ("__classdict__" : Str)) = false) : PE X (.Name n pos) (tE w Ex Φ (.var i)) :=
  (pe_var hN hv hd hcd).imp fun σ H Q h => by
    obtain ⟨c, rfl, rfl, r, h⟩ := tE_in h
    have h' : Aft w Ex c ((fun s : S => match s.r[i]? with
      | some (some (.f d)) => Res.ok (DV.f d) s
      | some (some (.o _)) => .ok (.b i) s
      | _ => .stuck) c.s) (Fin w c Q) := h
    show ∃ v, c.σ[i]? = some (some v) ∧ Q v c.H
    cases e : c.ρ[i]? with
    | none =>
      simp only [C.s, e] at h'
      exact h'.elim
    | some o =>
      cases o with
      | none =>
        simp only [C.s, e] at h'
        exact h'.elim
      | some dv =>
        obtain ⟨v, e1, e2⟩ := r.slot i dv e
        refine ⟨v, e1, ?_⟩
        cases dv with
        | f d =>
          simp only [C.s, e] at h'
          exact h' c rfl r (SStep.refl c) v e2 trivial
        | o ds =>
          simp only [C.s, e] at h'
          exact h' c rfl r (SStep.refl c) v ⟨e1, _, e⟩ trivial
        | b j => exact e2.elim
        | n k ds =>
          simp only [C.s, e] at h'
          exact h'.elim
theorem j_int {i : Int} {k : Nat} : PE X (.Constant (.int i) k pos) (tE w Ex Φ (.int i)) := pe_int.imp fun σ H Q h => by
  obtain ⟨c, rfl, rfl, r, h⟩ := tE_in h
  exact Aft.fin h (SStep.refl c) r rfl trivial
theorem j_bl {i : Bool} {k : Nat} : PE X (.Constant (.bool i) k pos) (tE w Ex Φ (.bl i)) := pe_bl.imp fun σ H Q h => by
  obtain ⟨c, rfl, rfl, r, h⟩ := tE_in h
  exact Aft.fin h (SStep.refl c) r rfl trivial
theorem j_non {k : Nat} : PE X (.Constant .none k pos) (tE w Ex Φ .non) := pe_non.imp fun σ H Q h => by
  obtain ⟨c, rfl, rfl, r, h⟩ := tE_in h
  exact Aft.fin h (SStep.refl c) r rfl trivial
theorem j_str {i : Str} {k : Nat} : PE X (.Constant (.str i) k pos) (tE w Ex Φ (.str i)) := pe_str.imp fun σ H Q h => by
  obtain ⟨c, rfl, rfl, r, h⟩ := tE_in h
  exact Aft.fin h (SStep.refl c) r rfl trivial
/-- two values, looked at, an operation -/
theorem two_in {β : Type} {k : D → D → M β} {Q : C → β → Prop} {r2 : V → V → Hp → Prop} {c0 c1 : C} (x0 : SStep c0 c1) (hr : R w c1)
    (h : Aft w Ex c0 (bnd (ev w Φ a) (fun p => bnd (ev w Φ b) fun q => bnd (look p) fun dp => bnd (look q) fun dq => k dp dq) c1.s) Q)
    (f : ∀ (c : C) (u v : V) (du dv : D), R w c → SStep c0 c → c.σ = c1.σ → Lk w c u du → Lk w c v dv → Aft w Ex c0 (k du dv c.s) Q → r2 u v c.H) :
    tE w Ex Φ a c1.σ c1.H fun u H1 => tE w Ex Φ b c1.σ H1 fun v H2 => r2 u v H2 := by
  refine tE_seq h x0 hr fun c2 u du r2' x2 x02 hσ rel fr fr0 h2 => ?_
  rw [← hσ]
  refine tE_seq h2 x02 r2' fun c3 v dv r3 x3 x03 hσ3 rel3 fr3 fr03 h3 => ?_
  obtain ⟨d1, l1, h4⟩ := h3.look r3 (rel.step x3)
  obtain ⟨d2, l2, h5⟩ := h4.look r3 rel3
  exact f c3 u v d1 d2 r3 x03 (hσ3.trans hσ) l1 l2 h5
theorem j_op {f : Value → Value → Sem Value} {k : D → D → Option DV} (ok : OpOk w Ex X f k) : ∃ r : R2, OpR X f r ∧ ∀ {e : E} {σ : L2.St} {H : Hp} {Q : VK},
    (∀ s, ev w Φ e s = bnd (ev w Φ a) (fun p => bnd (ev w Φ b) fun q => bnd (look p) fun dp => bnd (look q) fun dq => opt (k dp dq)) s) → tE w Ex Φ e σ H Q → tOp r (tE w Ex Φ a) (tE w Ex Φ b) σ H Q := by
  obtain ⟨r, h1, h2⟩ := ok
  refine ⟨r, h1, fun {e σ H Q} he h => ?_⟩
  obtain ⟨c, rfl, rfl, hr, h⟩ := tE_in h
  rw [he] at h
  exact two_in (SStep.refl c) hr h fun c2 u v du dv r2 x2 _ l1 l2 q => h2 r2 x2 l1 l2 q
theorem j_bin (hK : X.K = w.K) {o : BOp} (ha : PE X x (tE w Ex Φ a)) (hb : PE X y (tE w Ex Φ b)) : PE X (.BinOp x (opOf o) y pos) (tE w Ex Φ (.bin o a b)) := by
  obtain ⟨r, h1, h2⟩ := j_op (Φ := Φ) (a := a) (b := b) (ok_bin (w := w) (Ex := Ex) hK o)
  exact (pe_op h1 ha hb).imp fun σ H Q h => h2 (fun _ => rfl) h
theorem j_neg (ha : PE X x (tE w Ex Φ a)) : PE X (.UnaryOp .USub x pos) (tE w Ex Φ (.neg a)) := (pe_un un_neg ha).imp fun σ H Q h => by
  obtain ⟨c, rfl, rfl, r, h⟩ := tE_in h
  refine tE_seq h (SStep.refl c) r fun c2 u du r2 x2 x02 hσ rel fr fr0 h2 => ?_
  obtain ⟨d1, l1, h4⟩ := h2.look r2 rel
  obtain ⟨i, rfl, h5⟩ := h4.int
  exact ⟨i, l1, Aft.fin h5 x02 r2 rfl trivial⟩
def copOf : COp → CmpOp
  | .eq => .Eq | .ne => .NotEq | .lt => .Lt | .le => .LtE | .gt => .Gt | .ge => .GtE | .inn => .In | .nin => .NotIn
theorem inD_some {a : D} {b : D} {k : Bool} (h : inD a b = some k) : ∃ xs, b = .lst xs ∧ shp a = true ∧ shp (.lst xs) = true ∧ k = (pyAll xs).any fun z => PyData.eqv z a.py := by
  cases b with
  | lst xs =>
    simp only [inD] at h
    split at h
    · rename_i z
      obtain ⟨z1, z2⟩ := Bool.and_eq_true_iff.mp z
      cases h
      refine ⟨xs, rfl, z1, z2, ?_⟩
      clear z z1 z2
      induction xs with
      | nil => rfl
      | cons x r ih => simp only [List.any_cons, pyAll, ih]
    · cases h
  | _ => cases h
theorem ok_in (hK : X.K = w.K) (hu : X.A.units + 65 < cLine) : OpOk w Ex X (compareOp .In) (bl1 (cmpD .inn)) := by
  refine ⟨_, op_inD hu, fun {c0 c Q x y dx dy} r st hx hy h => ?_⟩
  obtain ⟨a, e, h⟩ := h.opt0
  unfold bl1 at e
  obtain ⟨k, e1, rfl⟩ := Option.map_eq_some_iff.mp e
  obtain ⟨xs, rfl, z1, z2, rfl⟩ := inD_some e1
  exact ⟨_, _, by rw [hK]; exact hx.dp r z1, by rw [hK]; exact hy.dp r z2, z1, z2, h.fin st r rfl trivial⟩
theorem ok_nin (hK : X.K = w.K) (hu : X.A.units + 65 < cLine) : OpOk w Ex X (compareOp .NotIn) (bl1 (cmpD .nin)) := by
  refine ⟨_, op_notInD hu, fun {c0 c Q x y dx dy} r st hx hy h => ?_⟩
  obtain ⟨a, e, h⟩ := h.opt0
  unfold bl1 at e
  obtain ⟨k, e1, rfl⟩ := Option.map_eq_some_iff.mp e
  obtain ⟨k', e2, rfl⟩ := Option.map_eq_some_iff.mp (show (inD dx dy).map not = some k from e1)
  obtain ⟨xs, rfl, z1, z2, rfl⟩ := inD_some e2
  exact ⟨_, _, by rw [hK]; exact hx.dp r z1, by rw [hK]; exact hy.dp r z2, z1, z2, h.fin st r rfl trivial⟩
theorem ok_cmp (hK : X.K = w.K) (hu : X.A.units + 65 < cLine) (o : COp) : OpOk w Ex X (compareOp (copOf o)) (bl1 (cmpD o)) := by
  cases o
  · exact ok_eq hK (by omega)
  · exact ok_ne hK (by omega)
  · exact ok_lt
  · exact ok_le
  · exact ok_gt
  · exact ok_ge
  · exact ok_in hK hu
  · exact ok_nin hK hu
theorem bnd_map {β γ : Type} (o : Option β) (g : β → γ) : bnd (opt o) (fun k => ret (g k)) = opt (o.map g) := by
  funext s
  cases o <;> rfl
theorem evd_cmp {o : COp} : ev w Φ (.cmp o a b) = bnd (ev w Φ a) (fun p => bnd (ev w Φ b) fun q => bnd (look p) fun dp => bnd (look q) fun dq => opt (bl1 (cmpD o) dp dq)) := by
  show bnd (ev w Φ a) (fun p => bnd (ev w Φ b) fun q => bnd (look p) fun dp => bnd (look q) fun dq => bnd (opt (cmpD o dp dq)) fun k => ret (DV.f (.bl k))) = _
  simp only [bnd_map]
  rfl
theorem j_cmp (hK : X.K = w.K) (hu : X.A.units + 65 < cLine) {o : COp} (hm : behindInMarks (copOf o) y = false) (ha : PE X x (tE w Ex Φ a)) (hb : PE X y (tE w Ex Φ b)) : PE X (.Compare x [copOf o] [y] pos) (tE w Ex Φ (.cmp o a b)) := by
  obtain ⟨r, h1, h2⟩ := j_op (Φ := Φ) (a := a) (b := b) (ok_cmp (w := w) (Ex := Ex) hK hu o)
  exact (pe_cmpR h1 ha hb hm).imp fun σ H Q h => h2 (fun _ => by rw [evd_cmp]) h
/-- the same as a test -/
theorem t_cmp (hK : X.K = w.K) (hu : X.A.units + 65 < cLine) {o : COp} (hm : behindInMarks (copOf o) y = false) (ha : PE X x (tE w Ex Φ a)) (hb : PE X y (tE w Ex Φ b)) : PT X (.Compare x [copOf o] [y] pos) (tT w Ex Φ (.cmp o a b)) := by
  obtain ⟨r, h1, h2⟩ := ok_cmp (w := w) (Ex := Ex) (X := X) hK hu o
  refine (pt_cmpR h1 ha hb hm).imp fun σ H Q h => ?_
  obtain ⟨c, rfl, rfl, hr, h⟩ := h
  rw [evd_cmp] at h
  simp only [bnd_assoc] at h
  refine two_in (SStep.refl c) hr h fun c2 u v du dv r2 x2 _ l1 l2 q => ?_
  refine h2 (Q := fun x H' => ∃ k, x = .bl k ∧ Q k H') r2 x2 l1 l2 ?_
  obtain ⟨dv, e, q2⟩ := q.opt
  obtain ⟨k, rfl, q3⟩ := q2.bool1
  rw [e]
  intro c3 hs r3 x3 v rel _
  exact ⟨k, rel, q3 c3 hs r3 x3⟩
theorem Lk.isNon {c : C} {u : V} {d : D} (l : Lk w c u d) : isNonD d = decide (u = .non) := by
  cases d with
  | non => rw [show u = .non from l]; rfl
  | bl i => rw [show u = .bl i from l]; rfl
  | int i => rw [show u = .int i from l]; rfl
  | str i => rw [show u = .str i from l]; rfl
  | tup ds => obtain ⟨_, _, rfl, _⟩ := l; rfl
  | lst ds => obtain ⟨_, _, rfl, _⟩ := l; rfl
  | ins k ds => obtain ⟨_, _, _, rfl, _⟩ := l; rfl
  | deal => obtain ⟨_, _, rfl⟩ := l; rfl
  | scr ns => obtain ⟨_, rfl, _⟩ := l; rfl
theorem j_isN {k : Nat} {p : Pos} (ha : PE X x (tE w Ex Φ a)) : PE X (.Compare x [.Is] [.Constant .none k p] pos) (tE w Ex Φ (.isN a)) := (pe_cmp (pc_isN ha) rfl).imp fun σ H Q h => by
  obtain ⟨c, rfl, rfl, r, h⟩ := tE_in h
  refine tE_seq h (SStep.refl c) r fun c2 u du r2 x2 x02 hσ rel fr fr0 h2 => ?_
  obtain ⟨d, l, h4⟩ := h2.look r2 rel
  have h5 := Aft.fin h4 x02 r2 rfl trivial
  rw [l.isNon] at h5
  exact h5
theorem j_notN {k : Nat} {p : Pos} (ha : PE X x (tE w Ex Φ a)) : PE X (.Compare x [.IsNot] [.Constant .none k p] pos) (tE w Ex Φ (.notN a)) := (pe_cmp (pc_notN ha) rfl).imp fun σ H Q h => by
  obtain ⟨c, rfl, rfl, r, h⟩ := tE_in h
  refine tE_seq h (SStep.refl c) r fun c2 u du r2 x2 x02 hσ rel fr fr0 h2 => ?_
  obtain ⟨d, l, h4⟩ := h2.look r2 rel
  have h5 := Aft.fin h4 x02 r2 rfl trivial
  rw [l.isNon] at h5
  exact h5
/-- a bool first -/
theorem bool_in {β : Type} {f : Bool → M β} {Q : C → β → Prop} {P : VK} {c0 c1 : C} (x0 : SStep c0 c1) (hr : R w c1) (h : Aft w Ex c0 (bnd (ev w Φ a) (fun p => bnd (bool? p) f) c1.s) Q)
    (k : ∀ c2 i, R w c2 → SStep c0 c2 → c2.σ = c1.σ → Aft w Ex c0 (f i c2.s) Q → P (.bl i) c2.H) : tE w Ex Φ a c1.σ c1.H P :=
  tE_seq h x0 hr fun c2 u du r2 x2 x02 hσ rel fr fr0 h2 => by
    obtain ⟨i, rfl, h3⟩ := h2.bool
    rw [show u = .bl i from rel]
    exact k c2 i r2 x02 hσ h3
/-- a test first -/
theorem test_in {β : Type} {f : Bool → M β} {Q : C → β → Prop} {P : Bool → Hp → Prop} {c0 c1 : C} (x0 : SStep c0 c1) (hr : R w c1) (h : Aft w Ex c0 (bnd (ev w Φ a) (fun p => bnd (bool? p) f) c1.s) Q)
    (k : ∀ c2 i, R w c2 → SStep c0 c2 → SStep c1 c2 → c2.σ = c1.σ → Aft w Ex c0 (f i c2.s) Q → P i c2.H) : tT w Ex Φ a c1.σ c1.H P := by
  rw [← bnd_assoc] at h
  exact ⟨c1, rfl, rfl, hr, (h.bnd x0).imp fun c2 i r2 x2 ⟨_, _, q⟩ => k c2 i r2 (x0.trans x2) x2 x2.σ q⟩
/-- what is left, from another base -/
theorem Aft.base {α : Type} {c0 c1 : C} {r : Res α} {Q : C → α → Prop} (h : Aft w Ex c0 r Q) (x : SStep c0 c1) : Aft w Ex c1 r Q := by
  cases r with
  | ok a s => exact fun c' e r x' => h c' e r (x.trans x')
  | exc k d s => exact fun c' e r x' => h c' e r (x.trans x')
  | stuck => exact h
theorem Fin.base {Q : VK} {c0 c1 c : C} {dv : DV} (x : Step c0 c1) (h : Fin w c0 Q c dv) : Fin w c1 Q c dv := fun v rel fr => h v rel (fr.weak x.live)
theorem tE_go {e : E} {c0 c1 : C} {Q : VK} (h : Aft w Ex c0 (ev w Φ e c1.s) (Fin w c0 Q)) (x : SStep c0 c1) (r : R w c1) : tE w Ex Φ e c1.σ c1.H Q :=
  ⟨c1, rfl, rfl, r, (h.base x).imp fun _ _ _ _ q => q.base x.toStep⟩
theorem j_and {p2 : Pos} {l : List Expr} (ha : PE X x (tE w Ex Φ a)) (hb : PE X (.BoolOp .And (y :: l) pos) (tE w Ex Φ b)) : PE X (.BoolOp .And (x :: y :: l) pos) (tE w Ex Φ (.and a b)) := (pe_and ha hb).imp fun σ H Q h => by
  obtain ⟨c, rfl, rfl, r, h⟩ := tE_in h
  refine bool_in (SStep.refl c) r h fun c2 i r2 x2 hσ h2 => ⟨i, rfl, ?_⟩
  cases i with
  | true =>
    rw [if_pos rfl, ← hσ]
    exact tE_go h2 x2 r2
  | false =>
    rw [if_neg Bool.false_ne_true]
    exact Aft.fin h2 x2 r2 rfl trivial
theorem j_or {l : List Expr} (ha : PE X x (tE w Ex Φ a)) (hb : PE X (.BoolOp .Or (y :: l) pos) (tE w Ex Φ b)) : PE X (.BoolOp .Or (x :: y :: l) pos) (tE w Ex Φ (.or a b)) := (pe_or ha hb).imp fun σ H Q h => by
  obtain ⟨c, rfl, rfl, r, h⟩ := tE_in h
  refine bool_in (SStep.refl c) r h fun c2 i r2 x2 hσ h2 => ⟨i, rfl, ?_⟩
  cases i with
  | true =>
    rw [if_pos rfl]
    exact Aft.fin h2 x2 r2 rfl trivial
  | false =>
    rw [if_neg Bool.false_ne_true, ← hσ]
    exact tE_go h2 x2 r2
theorem j_not (ha : PE X x (tE w Ex Φ a)) : PE X (.UnaryOp .Not x pos) (tE w Ex Φ (.not a)) := (pe_not ha).imp fun σ H Q h => by
  obtain ⟨c, rfl, rfl, r, h⟩ := tE_in h
  exact bool_in (SStep.refl c) r h fun c2 i r2 x2 hσ h2 => ⟨i, rfl, Aft.fin h2 x2 r2 rfl trivial⟩
theorem j_ite (hc : PT X z (tT w Ex Φ c)) (ha : PE X x (tE w Ex Φ a)) (hb : PE X y (tE w Ex Φ b)) : PE X (.IfExp z x y pos) (tE w Ex Φ (.ite c a b)) := (pe_ifExp hc ha hb).imp fun σ H Q h => by
  obtain ⟨c, rfl, rfl, r, h⟩ := tE_in h
  refine test_in (SStep.refl c) r h fun c2 i r2 x2 _ hσ h2 => ?_
  cases i with
  | true =>
    rw [if_pos rfl, ← hσ]
    exact tE_go h2 x2 r2
  | false =>
    rw [if_neg Bool.false_ne_true, ← hσ]
    exact tE_go h2 x2 r2
/-! ### tests -/
theorem t_val (ha : PE X x (tE w Ex Φ a)) (he : ∀ whole, isTrue x X.env whole = (do let v ← whole; standAt x.pos; holding [v] (truthy v))) : PT X x (tT w Ex Φ a) := (pt_val ha he).imp fun σ H Q h => by
  obtain ⟨c, rfl, rfl, r, h⟩ := h
  refine tE_seq h (SStep.refl c) r fun c2 u du r2 x2 x02 hσ rel fr fr0 h2 => ?_
  have h3 : Aft w Ex c (bnd (bool? du) ret c2.s) fun c' k => Q k c'.H := by
    have e : bnd (bool? du) ret = bool? du := by
      funext s
      unfold bnd
      cases bool? du s <;> rfl
    rw [e]
    exact h2
  obtain ⟨i, rfl, h4⟩ := h3.bool
  exact ⟨i, rel, h4.ret x02 r2⟩
theorem tT_go {e : E} {c0 c1 : C} {Q : Bool → Hp → Prop} (h : Aft w Ex c0 (bnd (ev w Φ e) bool? c1.s) fun c' k => Q k c'.H) (x : SStep c0 c1) (r : R w c1) : tT w Ex Φ e c1.σ c1.H Q := ⟨c1, rfl, rfl, r, h.base x⟩
theorem w_and {l : List Expr} (ha : PT X x (tT w Ex Φ a)) (hb : PW X (.BoolOp .And (y :: l) pos) (tT w Ex Φ b)) : PW X (.BoolOp .And (x :: y :: l) pos) (tT w Ex Φ (.and a b)) :=
  ⟨fun wh pins s σ H Q I h => (pw_and ha hb).run wh pins s σ H Q I (by
    obtain ⟨c, rfl, rfl, r, h⟩ := h
    have h' : Aft w Ex c (bnd (ev w Φ a) (fun p => bnd (bool? p) fun k => bnd (if k then ev w Φ b else ret (.f (.bl false))) bool?) c.s) fun c' k => Q k c'.H := by
      have e : bnd (ev w Φ (.and a b)) bool? = bnd (ev w Φ a) (fun p => bnd (bool? p) fun k => bnd (if k then ev w Φ b else ret (.f (.bl false))) bool?) := by
        show bnd (bnd (ev w Φ a) fun x => bnd (bool? x) fun k => if k then ev w Φ b else ret (.f (.bl false))) bool? = _
        simp only [bnd_assoc]
      rw [← e]
      exact h
    refine test_in (SStep.refl c) r h' fun c2 i r2 x2 _ hσ h2 => ?_
    cases i with
    | true =>
      rw [if_pos rfl, ← hσ]
      exact tT_go h2 x2 r2
    | false =>
      rw [if_neg Bool.false_ne_true]
      exact Aft.ret (a := false) h2 x2 r2)⟩
theorem w_or {l : List Expr} (ha : PT X x (tT w Ex Φ a)) (hb : PW X (.BoolOp .Or (y :: l) pos) (tT w Ex Φ b)) : PW X (.BoolOp .Or (x :: y :: l) pos) (tT w Ex Φ (.or a b)) :=
  ⟨fun wh pins s σ H Q I h => (pw_or ha hb).run wh pins s σ H Q I (by
    obtain ⟨c, rfl, rfl, r, h⟩ := h
    have h' : Aft w Ex c (bnd (ev w Φ a) (fun p => bnd (bool? p) fun k => bnd (if k then ret (.f (.bl true)) else ev w Φ b) bool?) c.s) fun c' k => Q k c'.H := by
      have e : bnd (ev w Φ (.or a b)) bool? = bnd (ev w Φ a) (fun p => bnd (bool? p) fun k => bnd (if k then ret (.f (.bl true)) else ev w Φ b) bool?) := by
        show bnd (bnd (ev w Φ a) fun x => bnd (bool? x) fun k => if k then ret (.f (.bl true)) else ev w Φ b) bool? = _
        simp only [bnd_assoc]
      rw [← e]
      exact h
    refine test_in (SStep.refl c) r h' fun c2 i r2 x2 _ hσ h2 => ?_
    cases i with
    | true =>
      rw [if_pos rfl]
      exact Aft.ret (a := true) h2 x2 r2
    | false =>
      rw [if_neg Bool.false_ne_true, ← hσ]
      exact tT_go h2 x2 r2)⟩
theorem w_one {op : BoolOp} (ha : PT X x (tT w Ex Φ a)) : PW X (.BoolOp op [x] pos) (tT w Ex Φ a) := by
  cases op
  · exact pw_and1 ha
  · exact pw_or1 ha
theorem t_not (ha : PT X x (tT w Ex Φ a)) : PT X (.UnaryOp .Not x pos) (tT w Ex Φ (.not a)) := (pt_not ha).imp fun σ H Q h => by
  obtain ⟨c, rfl, rfl, r, h⟩ := h
  have h' : Aft w Ex c (bnd (ev w Φ a) (fun p => bnd (bool? p) fun k => bnd (ret (.f (.bl !k))) bool?) c.s) fun c' k => Q k c'.H := by
    have e : bnd (ev w Φ (.not a)) bool? = bnd (ev w Φ a) (fun p => bnd (bool? p) fun k => bnd (ret (.f (.bl !k))) bool?) := by
      show bnd (bnd (ev w Φ a) fun x => bnd (bool? x) fun k => ret (.f (.bl !k))) bool? = _
      simp only [bnd_assoc]
    rw [← e]
    exact h
  exact test_in (SStep.refl c) r h' fun c2 i r2 x2 _ hσ h2 => Aft.ret (a := !i) h2 x2 r2
/-! ### lists of expressions, displays -/
theorem j_nil : PA X [] (tEs w Ex Φ []) := pa_nil.imp fun σ H Q h => by
  obtain ⟨c, rfl, rfl, r, h⟩ := h
  exact h c rfl r (SStep.refl c) [] trivial
theorem j_cons {es : List E} {l : List Expr} (ha : PE X x (tE w Ex Φ a)) (hs : PA X l (tEs w Ex Φ es)) (hst : starEach (x :: l) X.env = (false, eval x X.env) :: starEach l X.env) : PA X (x :: l) (tEs w Ex Φ (a :: es)) := (pa_cons ha hs hst).imp fun σ H Q h => by
  obtain ⟨c, rfl, rfl, r, h⟩ := h
  refine tE_seq h (SStep.refl c) r fun c2 u du r2 x2 x02 hσ rel fr fr0 h2 => ?_
  rw [← hσ]
  refine tEs_seq h2 x02 r2 fun c3 vs dvs r3 x3 x03 hσ3 rels rels0 h3 => ?_
  refine h3 c3 rfl r3 x03 (u :: vs) ⟨rel.step x3, fr0, fun i v e hv he ho1 ho2 => ?_, rels0⟩
  obtain ⟨v', e1, rl, f⟩ := rels.at_ he
  rw [hv] at e1
  cases e1
  cases du with
  | o ds =>
    obtain ⟨a1, vs1, rfl, q2, q3, _⟩ := rel
    cases e with
    | o es =>
      obtain ⟨a2, rfl, q4⟩ := f
      intro z
      cases z
      rw [q3] at q4
      cases q4
    | _ => cases ho2
  | _ => cases ho1
theorem Aft.if_ {α : Type} {c0 c : C} {p : Prop} [Decidable p] {m : M α} {Q : C → α → Prop} (h : Aft w Ex c0 ((if p then m else stk : M α) c.s) Q) : p ∧ Aft w Ex c0 (m c.s) Q := by
  by_cases hp : p
  · rw [if_pos hp] at h
    exact ⟨hp, h⟩
  · rw [if_neg hp] at h
    exact h.elim
theorem j_tup {es : List E} {l : List Expr} {k : Nat} (hs : PA X l (tEs w Ex Φ es)) : PE X (.Tuple l k pos) (tE w Ex Φ (.tup es)) := (pe_tup hs).imp fun σ H Q h => by
  obtain ⟨c, rfl, rfl, r, h⟩ := tE_in h
  refine tEs_seq h (SStep.refl c) r fun c2 vs dvs r2 x2 x02 hσ rels rels0 h2 => ?_
  obtain ⟨ds, c3, hH, r3, x3, rep, h3⟩ := h2.frzs r2 x02 rels0
  obtain ⟨hz, h4⟩ := h3.if_
  rw [← hH]
  exact ⟨by rw [rep.length, ← lim_eq]; exact hz, fun p hp => Aft.newTup h4 x3 r3 rep hp⟩
theorem j_lst {es : List E} {l : List Expr} (hs : PA X l (tEs w Ex Φ es)) : PE X (.List l pos) (tE w Ex Φ (.lst es)) := (pe_lst hs).imp fun σ H Q h => by
  obtain ⟨c, rfl, rfl, r, h⟩ := tE_in h
  refine tEs_seq h (SStep.refl c) r fun c2 vs dvs r2 x2 x02 hσ rels rels0 h2 => ?_
  obtain ⟨ds, c3, hH, r3, x3, rep, h3⟩ := h2.frzs r2 x02 rels0
  obtain ⟨hz, h4⟩ := h3.if_
  rw [← hH]
  exact ⟨by rw [rep.length, ← lim_eq]; exact hz, fun p hp => Aft.newLst h4 x3 r3 rep hp⟩
end
end DI

set_option Elab.async false
set_option linter.all false
set_option maxRecDepth 100000
set_option maxHeartbeats 4000000
/-! DI7: items, slices, fields, lists that are changed. Own text. -/
namespace DI
open PySem PySem.Spec PyProof.Rows L2
section
variable {w : Wd} {Ex : Nat → D → C → Prop} {Φ : Fns} {X : Cx} {a b c a' b' c' : E} {x y z : Expr} {pos : Pos}
theorem atI_ok {dl : Dl} {F : Hp} {ds : List D} {vs : List V} {i : Int} {d : D} (rep : RepAll w dl F ds vs) (h : DI.atI ds i = some d) : ∃ v, L2.atI vs i = some v ∧ RepD w dl F d v := by
  have hl := rep.length
  unfold DI.atI at h
  unfold L2.atI L2.ixN
  by_cases h0 : 0 ≤ i
  · rw [if_pos h0] at h ⊢
    obtain ⟨v, e1, e2⟩ := rep.get h
    have hlt := (List.getElem?_eq_some_iff.mp e1).1
    rw [if_pos (by omega)]
    exact ⟨v, e1, e2⟩
  · rw [if_neg h0] at h ⊢
    split at h
    · rename_i h1
      obtain ⟨v, e1, e2⟩ := rep.get h
      rw [if_pos (by omega), hl]
      exact ⟨v, e1, e2⟩
    · cases h
theorem j_ix (hK : X.K = w.K) (ha : PE X x (tE w Ex Φ a)) (hb : PE X y (tE w Ex Φ b)) (hs : PlainIx y) : PE X (.Subscript x y pos) (tE w Ex Φ (.ix a b)) := (pe_ix ix_seq ha hb hs).imp fun σ H Q h => by
  obtain ⟨c, rfl, rfl, r, h⟩ := tE_in h
  refine two_in (SStep.refl c) r h fun c2 u v du dv r2 x2 hσ l1 l2 q => ?_
  obtain ⟨d, e, q2⟩ := q.opt
  cases dv <;> first | (cases du <;> cases e; done) | skip
  rename_i i
  cases du <;> first | (cases e; done) | skip
  · rename_i ds
    obtain ⟨p, vs, rfl, s1, rep⟩ := l1
    obtain ⟨v', e1, e2⟩ := atI_ok rep e
    refine .inr (.inl ⟨p, vs, i, v', rfl, l2, by rw [hK]; exact r2.sub.sqT s1, e1, Aft.fin q2 x2 r2 e2 trivial⟩)
  · rename_i ds
    obtain ⟨p, vs, rfl, s1, rep⟩ := l1
    obtain ⟨v', e1, e2⟩ := atI_ok rep e
    refine .inl ⟨p, vs, i, v', rfl, l2, SqL.of s1, e1, Aft.fin q2 x2 r2 e2 trivial⟩
/-- an optional part of a slice -/
def tP (w : Wd) (Ex : Nat → D → C → Prop) (Φ : Fns) (e : E) : TO := fun σ H Q => ∃ c, c.σ = σ ∧ c.H = H ∧ R w c ∧ Aft w Ex c (partM e (ev w Φ e) c.s) fun c' o => Q o c'.H
theorem j_po0 : PO X none (tP w Ex Φ .nop) := ⟨fun pins s σ H Q I h => po_none.run pins s σ H Q I (by
  obtain ⟨c, rfl, rfl, r, h⟩ := h
  exact Aft.ret (a := none) h (SStep.refl c) r)⟩
theorem partM_ne {e : E} {m : M DV} (h : e ≠ .nop) : partM e m = bnd m fun x => bnd (look x) fun d => bnd (int? d) fun i => ret (some i) := by
  cases e <;> first | rfl | exact absurd rfl h
theorem j_po1 (ha : PE X x (tE w Ex Φ a)) (hn : a ≠ .nop) : PO X (some x) (tP w Ex Φ a) := ⟨fun pins s σ H Q I h => (po_some ha).run pins s σ H Q I (by
  obtain ⟨c, rfl, rfl, r, h⟩ := h
  rw [partM_ne hn] at h
  refine tE_seq h (SStep.refl c) r fun c2 u du r2 x2 x02 hσ rel fr fr0 h2 => ?_
  obtain ⟨d1, l1, h4⟩ := h2.look r2 rel
  obtain ⟨i, rfl, h5⟩ := h4.int
  exact ⟨i, l1, Aft.ret h5 x02 r2⟩)⟩
theorem tP_seq {β : Type} {f : Option Int → M β} {Q : C → β → Prop} {e : E} {P : Option Int → Hp → Prop} {c0 c1 : C} (h : Aft w Ex c0 (bnd (partM e (ev w Φ e)) f c1.s) Q) (x : SStep c0 c1) (r : R w c1)
    (k : ∀ c2 o, R w c2 → SStep c1 c2 → SStep c0 c2 → c2.σ = c1.σ → Aft w Ex c0 (f o c2.s) Q → P o c2.H) : tP w Ex Φ e c1.σ c1.H P :=
  ⟨c1, rfl, rfl, r, (h.bnd x).imp fun c2 o r2 x2 ⟨_, _, q⟩ => k c2 o r2 x2 (x.trans x2) x2.σ q⟩
theorem cutD_rep {dl : Dl} {F : Hp} {ds : List D} {vs : List V} (rep : RepAll w dl F ds vs) (lo hi : Option Int) : RepAll w dl F (cutD ds lo hi) (cutV vs lo hi) := by
  unfold cutD cutV
  rw [rep.length]
  exact (rep.drop _).take _
theorem cutD_whole {ds : List D} {lo hi : Option Int} (h : HT.sIx ds.length 0 lo = 0 ∧ HT.sIx ds.length ds.length hi = ds.length) : cutD ds lo hi = ds := by
  unfold cutD
  rw [show cutIx ds.length 0 lo = 0 from h.1, show cutIx ds.length ds.length hi = ds.length from h.2, List.drop_zero, Nat.sub_zero, List.take_length]
theorem j_sl (hK : X.K = w.K) {lo hi : Option Expr} {p2 : Pos} (ha : PE X x (tE w Ex Φ a)) (hl : PO X lo (tP w Ex Φ b)) (hh : PO X hi (tP w Ex Φ c)) : PE X (.Subscript x (.Slice lo hi none p2) pos) (tE w Ex Φ (.sl a b c)) := (pe_slice (sl_list.or sl_tupA) ha hl hh).imp fun σ H Q h => by
  obtain ⟨c, rfl, rfl, r, h⟩ := tE_in h
  refine tE_seq h (SStep.refl c) r fun c2 u du r2 x2 x02 hσ rel fr fr0 h2 => ?_
  rw [← hσ]
  refine tP_seq h2 x02 r2 fun c3 lo r3 x3 x03 hσ3 h3 => ?_
  rw [← hσ3]
  refine tP_seq h3 x03 r3 fun c4 hi r4 x4 x04 hσ4 h4 => ?_
  obtain ⟨d, l, h5⟩ := h4.look r4 ((rel.step x3).step x4)
  obtain ⟨dv, e, h6⟩ := h5.opt0
  cases d <;> first | (cases e; done) | skip
  · rename_i ds
    cases e
    obtain ⟨p, vs, rfl, s1, rep⟩ := l
    have hlen := rep.length
    refine .inr ⟨p, vs, rfl, by rw [hK]; exact r4.sub.sqT s1, fun hw => ?_, fun hw q hq => ?_⟩
    · rw [hlen] at hw
      rw [cutD_whole hw] at h6
      exact Aft.fin h6 x04 r4 ⟨p, vs, rfl, s1, rep⟩ trivial
    · exact Aft.newTup h6 x04 r4 (cutD_rep rep lo hi) hq
  · rename_i ds
    cases e
    obtain ⟨p, vs, rfl, s1, rep⟩ := l
    exact .inl ⟨p, vs, rfl, SqL.of s1, fun q hq => Aft.newLst h6 x04 r4 (cutD_rep rep lo hi) hq⟩
  · rename_i ns
    cases e
    obtain ⟨p, rfl, s1⟩ := l
    exact .inl ⟨p, ns.map V.int, rfl, by rw [hK]; exact r4.sub.sqL s1, fun q hq => Aft.newLst h6 x04 r4 (cutD_rep (RepAll.ofInts ns) lo hi) hq⟩
theorem j_rev {k : Nat} {p1 p2 p3 : Pos} (ha : PE X x (tE w Ex Φ a)) : PE X (.Subscript x (.Slice none none (some (.UnaryOp .USub (.Constant (.int 1) k p1) p2)) p3) pos) (tE w Ex Φ (.rev a)) := (pe_revL ha).imp fun σ H Q h => by
  obtain ⟨c, rfl, rfl, r, h⟩ := tE_in h
  refine tE_seq h (SStep.refl c) r fun c2 u du r2 x2 x02 hσ rel fr fr0 h2 => ?_
  obtain ⟨d, l, h5⟩ := h2.look r2 rel
  cases d <;> first | exact h5.elim | skip
  obtain ⟨p, vs, rfl, s1, rep⟩ := l
  exact ⟨p, vs, rfl, SqL.of s1, fun q hq => Aft.newLst h5 x02 r2 rep.reverse hq⟩
/-- a class of the text: plain, its fields not the class's own -/
structure ClsOk (w : Wd) (c : Nat) : Prop where
  cls : Cls w.K (w.ca c)
  no : ∀ k ∈ w.T.fl c, NoAttr w.K (w.ca c) (w.fn k)
  inj : ∀ j k, j ∈ w.T.fl c → k ∈ w.T.fl c → w.fn j = w.fn k → j = k
theorem lookup_ok {dl : Dl} {F : Hp} {f : Nat → Str} : ∀ {ks : List Nat} {ds : List D} {vs : List V} {k : Nat} {d : D}, (∀ j, j ∈ ks → f j = f k → j = k) → RepAll w dl F ds vs → (ks.zip ds).lookup k = some d →
    k ∈ ks ∧ ∃ v, ((ks.map f).zip vs).lookup (f k) = some v ∧ RepD w dl F d v
  | [], _, _, _, _, _, _, h => by simp at h
  | j :: ks, [], _, _, _, _, _, h => by simp at h
  | j :: ks, d' :: ds, _, k, d, hi, ⟨v, vs, e, h1, h2⟩, h => by
    subst e
    simp only [List.zip_cons_cons, List.lookup_cons] at h
    by_cases hk : k = j
    · subst hk
      simp at h
      subst h
      refine ⟨List.mem_cons_self, v, ?_, h1⟩
      simp [List.lookup_cons]
    · have hb : (k == j) = false := beq_false_of_ne hk
      rw [hb] at h
      obtain ⟨m, u, e1, e2⟩ := lookup_ok (f := f) (fun i hm => hi i (List.mem_cons_of_mem _ hm)) h2 h
      refine ⟨List.mem_cons_of_mem _ m, u, ?_, e2⟩
      have hf : (f k == f j) = false := beq_false_of_ne fun z => hk (hi j List.mem_cons_self z.symm).symm
      simp only [List.map_cons, List.zip_cons_cons, List.lookup_cons, hf]
      exact e1
theorem j_fld (hK : X.K = w.K) (hc : ∀ c, ClsOk w c) {k : Nat} {n : Str} (hn : w.fn k = n) (ha : PE X x (tE w Ex Φ a)) (hb : attributeBase x n X.env (eval x X.env) = eval x X.env) : PE X (.Attribute x n pos) (tE w Ex Φ (.fld a k)) := (pe_fld ha hb).imp fun σ H Q h => by
  obtain ⟨c, rfl, rfl, r, h⟩ := tE_in h
  refine tE_seq h (SStep.refl c) r fun c2 u du r2 x2 x02 hσ rel fr fr0 h2 => ?_
  obtain ⟨d, l, h5⟩ := h2.look r2 rel
  cases d <;> first | exact h5.elim | skip
  rename_i kc ds
  obtain ⟨d, e, h6⟩ := h5.opt
  obtain ⟨p, dx, vs, rfl, s1, hlen, rep⟩ := l
  have ck := hc kc
  have hk : k ∈ w.T.fl kc := by
    have q : ∀ {ks : List Nat} {ds : List D} {k : Nat} {d : D}, (ks.zip ds).lookup k = some d → k ∈ ks := by
      intro ks
      induction ks with
      | nil => intro ds k d h; simp at h
      | cons j ks ih =>
        intro ds k d h
        cases ds with
        | nil => simp at h
        | cons d' ds =>
          simp only [List.zip_cons_cons, List.lookup_cons] at h
          by_cases hk : k = j
          · subst hk; exact List.mem_cons_self
          · rw [beq_false_of_ne hk] at h
            exact List.mem_cons_of_mem _ (ih h)
    exact q e
  obtain ⟨_, v, e1, e2⟩ := lookup_ok (f := w.fn) (fun j hj z => ck.inj j k hj hk z) rep e
  subst hn
  exact ⟨p, _, dx, _, v, rfl, r2.sub _ _ s1, by rw [hK]; exact ck.cls, by rw [hK]; exact ck.no k hk, e1, Aft.fin h6 x02 r2 e2 trivial⟩
/-! ### a list that a slot owns, changed -/
theorem R.write {c : C} {i : Nat} {p : Addr} {vs' : List V} {ds' : List D} (r : R w c) (hi : c.σ[i]? = some (some (.ref p))) {ds : List D} (hρ : c.ρ[i]? = some (some (.o ds))) (rep : RepAll w c.dl c.F ds' vs') :
    R w { c with H := upd c.H p (.lst vs'), ρ := c.ρ.set i (some (.o ds')) } ∧ SStep c { c with H := upd c.H p (.lst vs'), ρ := c.ρ.set i (some (.o ds')) } := by
  have oi : Own c i p := ⟨hi, _, hρ, rfl⟩
  have hlt : i < c.ρ.length := (List.getElem?_eq_some_iff.mp hρ).1
  obtain ⟨o, hH, hF⟩ := r.ownH oi
  have sm : ∀ (j : Nat) (dv : DV), (c.ρ.set i (some (.o ds')))[j]? = some (some dv) → (i = j ∧ dv = .o ds') ∨ (i ≠ j ∧ c.ρ[j]? = some (some dv)) := fun j dv h => by
    by_cases z : i = j
    · subst z
      rw [List.getElem?_set_self hlt] at h
      cases h
      exact .inl ⟨rfl, rfl⟩
    · rw [List.getElem?_set_ne z] at h
      exact .inr ⟨z, h⟩
  have own : ∀ (j : Nat) (q : Addr), Own { c with H := upd c.H p (.lst vs'), ρ := c.ρ.set i (some (.o ds')) } j q → Own c j q := fun j q ⟨h1, dv, h2, h3⟩ => by
    rcases sm j dv h2 with ⟨rfl, rfl⟩ | ⟨_, h⟩
    · exact ⟨h1, _, hρ, rfl⟩
    · exact ⟨h1, dv, h, h3⟩
  refine ⟨⟨fun q o e => ?_, by show c.σ.length = (c.ρ.set i _).length; rw [List.length_set]; exact r.len, fun j dv h => ?_, fun j k q h1 h2 => r.dist j k q (own j q h1) (own k q h2), fun j q d h e => r.ndeal j q d (own j q h) e, ?_⟩,
    ⟨⟨Le.refl _, fun q o e n => ?_, fun q e => ?_, fun q e => .inl e, fun q t => ?_, DlLe.refl _⟩, rfl, fun j dv h => ?_, fun j k fs h => by
      rcases sm j _ h with ⟨_, q⟩ | ⟨_, q⟩
      · cases q
      · exact ⟨fs, q⟩⟩⟩
  · have hq : q ≠ p := fun z => by subst z; rw [hF] at e; cases e
    show upd c.H p _ q = _
    rw [upd_ne hq]
    exact r.sub q o e
  · rcases sm j dv h with ⟨rfl, rfl⟩ | ⟨hne, h⟩
    · exact ⟨_, hi, p, vs', rfl, hF, upd_same, rep⟩
    · obtain ⟨v, e1, e2⟩ := r.slot j dv h
      refine ⟨v, e1, ?_⟩
      cases dv with
      | f d => exact e2
      | b k => exact e2
      | o es =>
        obtain ⟨q, us, q1, q2, q3, q4⟩ := e2
        have hq : q ≠ p := fun z => hne (r.dist i j p oi ⟨by rw [← z, ← q1]; exact e1, _, h, rfl⟩)
        exact ⟨q, us, q1, q2, by show upd c.H p _ q = _; rw [upd_ne hq]; exact q3, q4⟩
      | n k es =>
        obtain ⟨q, dx, us, q1, q2, q3, q5, q4⟩ := e2
        have hq : q ≠ p := fun z => hne (r.dist i j p oi ⟨by rw [← z, ← q1]; exact e1, _, h, rfl⟩)
        exact ⟨q, dx, us, q1, q2, by show upd c.H p _ q = _; rw [upd_ne hq]; exact q3, q5, q4⟩
  · refine DealAt.imp r.deal fun q hq => ?_
    obtain ⟨n1, n2⟩ := r.ndeal i p q oi hq
    exact ⟨fun h => h, fun h => h, fun o h => by show upd c.H p _ q.1 = _; rw [upd_ne n1.symm]; exact h, fun o h => by show upd c.H p _ q.2 = _; rw [upd_ne n2.symm]; exact h⟩
  · have hq : q ≠ p := fun z => n (by subst z; exact .inl ⟨i, oi⟩)
    show upd c.H p _ q = _
    rw [upd_ne hq]
    exact e
  · have e' : upd c.H p (.lst vs') q = none := e
    by_cases z : q = p
    · subst z
      rw [upd_same] at e'
      cases e'
    · rw [upd_ne z] at e'
      exact e'
  · rcases t with ⟨j, h⟩ | t
    · exact .inl (.inl ⟨j, own j q h⟩)
    · exact .inl (.inr t)
  · by_cases z : i = j
    · subst z
      exact ⟨_, List.getElem?_set_self hlt⟩
    · exact ⟨dv, by show (c.ρ.set i _)[j]? = _; rw [List.getElem?_set_ne z]; exact h⟩
/-- the list that slot i owns -/
theorem Aft.own {β : Type} {i : Nat} {f : List D → M β} {c0 c : C} {Q : C → β → Prop} (h : Aft w Ex c0 (DI.bnd (ownAt i) f c.s) Q) (r : R w c) :
    ∃ ds p vs, c.ρ[i]? = some (some (.o ds)) ∧ c.σ[i]? = some (some (.ref p)) ∧ c.H p = some (.lst vs) ∧ RepAll w c.dl c.F ds vs ∧ Aft w Ex c0 (f ds c.s) Q := by
  unfold DI.bnd ownAt at h
  cases e : c.ρ[i]? with
  | none =>
    simp only [C.s, e] at h
    exact h.elim
  | some o =>
    cases o with
    | none =>
      simp only [C.s, e] at h
      exact h.elim
    | some dv =>
      cases dv with
      | o ds =>
        simp only [C.s, e] at h
        obtain ⟨v, e1, p, vs, rfl, q2, q3, q4⟩ := r.slot i _ e
        exact ⟨ds, p, vs, rfl, e1, q3, q4, h⟩
      | f d =>
        simp only [C.s, e] at h
        exact h.elim
      | b j =>
        simp only [C.s, e] at h
        exact h.elim
      | n k fs =>
        simp only [C.s, e] at h
        exact h.elim
theorem setR_ok {c : C} {i : Nat} {v : DV} (h : i < c.ρ.length) : setR i v c.s = .ok () { c.s with r := c.ρ.set i (some v) } := by
  unfold setR
  rw [if_pos (show i < c.s.r.length from h)]
  rfl
theorem Aft.setO {β : Type} {i : Nat} {p : Addr} {ds ds' : List D} {vs' : List V} {f : Unit → M β} {c0 c : C} {Q : C → β → Prop} (h : Aft w Ex c0 (DI.bnd (setR i (.o ds')) f c.s) Q) (r : R w c) (x : SStep c0 c) (hρ : c.ρ[i]? = some (some (.o ds))) (hσ : c.σ[i]? = some (some (.ref p)))
    (rep : RepAll w c.dl c.F ds' vs') : ∃ c', c'.H = upd c.H p (.lst vs') ∧ c'.σ = c.σ ∧ c'.F = c.F ∧ c'.dl = c.dl ∧ R w c' ∧ SStep c0 c' ∧ Aft w Ex c0 (f () c'.s) Q := by
  obtain ⟨r', x'⟩ := r.write hσ hρ rep
  have hlt : i < c.ρ.length := (List.getElem?_eq_some_iff.mp hρ).1
  unfold DI.bnd at h
  rw [setR_ok hlt] at h
  exact ⟨{ c with H := upd c.H p (.lst vs'), ρ := c.ρ.set i (some (.o ds')) }, rfl, rfl, rfl, rfl, r', x.trans x', h⟩
end
section
variable {w : Wd} {Ex : Nat → D → C → Prop} {Φ : Fns} {X : Cx} {a b : E} {x y : Expr} {pos apos npos : Pos} {i : Nat} {n : Str}
theorem few1 {e : Expr} {cpos : Pos} (hst : starEach [e] X.env = (false, eval e X.env) :: starEach [] X.env) : ((backTo cpos (starEach [e] X.env)).all (fun x => !x.1) && (backToKw cpos (keywordEach [] X.env)).all (fun x => x.1.isSome)
      && decide (([e] : List Expr).length + ([] : List Keyword).length + (if ([] : List Keyword).isEmpty then 0 else 1) < 30)) = true := by
  rw [hst]
  rfl
theorem j_append (hN : X.N[i]? = some n) (hv : Vis X.env.scope n) (hd : (n == ("__debug__" : Str)) = false) (hcd : (n == ("__classdict__" : Str)) = false) (ha : PE X x (tE w Ex Φ a)) (hline : (apos.endLine == pos.line) = true)
    (hst : starEach [x] X.env = (false, eval x X.env) :: starEach [] X.env) : PE X (.Call (.Attribute (.Name n npos) "append" apos) [x] [] pos) (tE w Ex Φ (.append i a)) :=
  (pe_bm PySem.F.plainAttrs_list PySem.F.slot_list_append PySem.F.type_list_append mt_append (pe_var hN hv hd hcd) (j_cons ha j_nil hst) (by rfl) (few1 hst) hline hst (by rfl)).imp fun σ H Q h => by
    obtain ⟨c, rfl, rfl, r, h⟩ := tE_in h
    obtain ⟨ds0, p0, vs0, e1, e2, e3, e4, h⟩ := Aft.own h r
    refine ⟨.ref p0, e2, .inl ⟨rfl, _, SqL.of e3⟩, ?_⟩
    have h' : Aft w Ex c (bnd (evs w Φ [a]) (fun l => bnd (match l with | [v] => frz v | _ => stk) fun d => bnd (ownAt i) fun xs => if xs.length < lim then bnd (setR i (.o (xs ++ [d]))) fun _ => ret (.f .non) else stk) c.s) (Fin w c Q) := by
      have e : bnd (evs w Φ [a]) (fun l => bnd (match l with | [v] => frz v | _ => stk) fun d => bnd (ownAt i) fun xs => if xs.length < lim then bnd (setR i (.o (xs ++ [d]))) fun _ => ret (DV.f .non) else stk) =
          bnd (ev w Φ a) (fun v => bnd (frz v) fun d => bnd (ownAt i) fun xs => if xs.length < lim then bnd (setR i (.o (xs ++ [d]))) fun _ => ret (DV.f .non) else stk) := by
        show bnd (bnd (ev w Φ a) fun v => bnd (evs w Φ []) fun vs => ret (v :: vs)) _ = _
        rw [bnd_assoc]
        rfl
      rw [e]
      exact h
    refine tEs_seq h' (SStep.refl c) r fun c2 us dvs r2 x2 x02 hσ rels rels0 h2 => ?_
    rcases dvs with _ | ⟨dv, _ | ⟨dv2, dvs⟩⟩
    · exact h2.elim
    · rcases us with _ | ⟨u, _ | ⟨u2, us⟩⟩ <;> first | exact rels0.elim | exact rels0.2.2.2.elim | skip
      obtain ⟨rel, fr, _, _⟩ := rels0
      obtain ⟨d, c3, hH, r3, x3, rep, _, _, _, h3⟩ := Aft.frz h2 r2 x02 rel fr
      obtain ⟨ds, p, vs, q1, q2, q3, q4, h4⟩ := Aft.own h3 r3
      obtain ⟨hz, h5⟩ := h4.if_
      have hp : p0 = p := by
        rw [x3.σ, e2] at q2
        cases q2
        rfl
      subst hp
      rw [← hH]
      refine ⟨p0, vs, u, rfl, rfl, q3, by rw [q4.length, ← lim_eq]; exact hz, ?_⟩
      obtain ⟨c5, g1, _, _, _, r5, x5, h6⟩ := Aft.setO h5 r3 x3 q1 q2 (q4.append (.one rep))
      rw [← g1]
      exact Aft.fin h6 x5 r5 rfl trivial
    · exact h2.elim
theorem j_pop (hN : X.N[i]? = some n) (hv : Vis X.env.scope n) (hd : (n == ("__debug__" : Str)) = false) (hcd : (n == ("__classdict__" : Str)) = false) (hline : (apos.endLine == pos.line) = true) :
    PE X (.Call (.Attribute (.Name n npos) "pop" apos) [] [] pos) (tE w Ex Φ (.pop i)) :=
  (pe_bm0 PySem.F.plainAttrs_list PySem.F.slot_list_pop PySem.F.type_list_pop mt_pop (pe_var hN hv hd hcd) (by rfl) hline).imp fun σ H Q h => by
    obtain ⟨c, rfl, rfl, r, h⟩ := tE_in h
    obtain ⟨ds, p, vs, e1, e2, e3, e4, h⟩ := Aft.own h r
    refine ⟨.ref p, e2, .inl ⟨rfl, _, SqL.of e3⟩, ?_⟩
    obtain ⟨d, e, h2⟩ := h.opt
    obtain ⟨v, e5, e6⟩ := e4.get e
    rw [← e4.length] at e5
    refine ⟨p, vs, v, rfl, rfl, e3, e5, ?_⟩
    obtain ⟨c5, g1, g2, g3, g4, r5, x5, h6⟩ := Aft.setO h2 r (SStep.refl c) e1 e2 e4.dropLast
    rw [← g1]
    exact Aft.fin h6 x5 r5 (by show RepD w c5.dl c5.F d v; rw [g3, g4]; exact e6) trivial
theorem j_popAt (hN : X.N[i]? = some n) (hv : Vis X.env.scope n) (hd : (n == ("__debug__" : Str)) = false) (hcd : (n == ("__classdict__" : Str)) = false) (ha : PE X x (tE w Ex Φ a)) (hline : (apos.endLine == pos.line) = true)
    (hst : starEach [x] X.env = (false, eval x X.env) :: starEach [] X.env) : PE X (.Call (.Attribute (.Name n npos) "pop" apos) [x] [] pos) (tE w Ex Φ (.popAt i a)) :=
  (pe_bm PySem.F.plainAttrs_list PySem.F.slot_list_pop PySem.F.type_list_pop mt_popAt (pe_var hN hv hd hcd) (j_cons ha j_nil hst) (by rfl) (few1 hst) hline hst (by rfl)).imp fun σ H Q h => by
    obtain ⟨c, rfl, rfl, r, h⟩ := tE_in h
    obtain ⟨ds0, p0, vs0, e1, e2, e3, e4, h⟩ := Aft.own h r
    refine ⟨.ref p0, e2, .inl ⟨rfl, _, SqL.of e3⟩, ?_⟩
    have h' : Aft w Ex c (bnd (evs w Φ [a]) (fun l => bnd (match l with | [v] => look v | _ => stk) fun k => bnd (int? k) fun j => bnd (ownAt i) fun xs => if 0 ≤ j ∧ j < xs.length ∧ j < 2 ^ 62 then bnd (opt xs[j.toNat]?) fun d => bnd (setR i (.o (xs.eraseIdx j.toNat))) fun _ => ret (.f d) else stk) c.s) (Fin w c Q) := by
      have e : bnd (evs w Φ [a]) (fun l => bnd (match l with | [v] => look v | _ => stk) fun k => bnd (int? k) fun j => bnd (ownAt i) fun xs => if 0 ≤ j ∧ j < xs.length ∧ j < 2 ^ 62 then bnd (opt xs[j.toNat]?) fun d => bnd (setR i (.o (xs.eraseIdx j.toNat))) fun _ => ret (DV.f d) else stk) =
          bnd (ev w Φ a) (fun v => bnd (look v) fun k => bnd (int? k) fun j => bnd (ownAt i) fun xs => if 0 ≤ j ∧ j < xs.length ∧ j < 2 ^ 62 then bnd (opt xs[j.toNat]?) fun d => bnd (setR i (.o (xs.eraseIdx j.toNat))) fun _ => ret (DV.f d) else stk) := by
        show bnd (bnd (ev w Φ a) fun v => bnd (evs w Φ []) fun vs => ret (v :: vs)) _ = _
        rw [bnd_assoc]
        rfl
      rw [e]
      exact h
    refine tEs_seq h' (SStep.refl c) r fun c2 us dvs r2 x2 x02 hσ rels rels0 h2 => ?_
    rcases dvs with _ | ⟨dv, _ | ⟨dv2, dvs⟩⟩
    · exact h2.elim
    · rcases us with _ | ⟨u, _ | ⟨u2, us⟩⟩ <;> first | exact rels0.elim | exact rels0.2.2.2.elim | skip
      obtain ⟨rel, fr, _, _⟩ := rels0
      obtain ⟨d, l, h3⟩ := Aft.look h2 r2 rel
      obtain ⟨j, rfl, h3⟩ := h3.int
      obtain ⟨ds, p, vs, q1, q2, q3, q4, h4⟩ := Aft.own h3 r2
      obtain ⟨⟨hz1, hz2, hz3⟩, h5⟩ := h4.if_
      obtain ⟨d, e, h6⟩ := h5.opt
      have hp : p0 = p := by
        rw [hσ, e2] at q2
        cases q2
        rfl
      subst hp
      obtain ⟨v, e5, e6⟩ := q4.get e
      refine ⟨p0, vs, j, j.toNat, v, rfl, by rw [show u = .int j from l], q3, by omega, by omega, ?_, e5, ?_⟩
      · unfold seqIndex?
        rw [q4.length]
        simp only [show ¬ j < 0 by omega, if_false]
        simp [hz1, hz2]
      · obtain ⟨c5, g1, g2, g3, g4, r5, x5, h7⟩ := Aft.setO h6 r2 x02 q1 q2 (q4.erase j.toNat)
        rw [← g1]
        exact Aft.fin h7 x5 r5 (by show RepD w c5.dl c5.F d v; rw [g3, g4]; exact e6) trivial
    · exact h2.elim
end
end DI

set_option Elab.async false
set_option linter.all false
set_option maxRecDepth 100000
set_option maxHeartbeats 4000000
/-! DI8: built-in functions, isinstance, ranges as lists. Own text. -/
namespace DI
open PySem PySem.Spec PyProof.Rows L2
section
variable {w : Wd} {Ex : Nat → D → C → Prop} {Φ : Fns} {X : Cx} {a b : E} {x y : Expr} {pos : Pos} {es : List E} {l : List Expr} {n : Str} {p : Pos}
def CallOk (w : Wd) (Ex : Nat → D → C → Prop) (X : Cx) (f : Value) (k : List D → Option DV) : Prop :=
  ∃ r : List V → Hp → VK → Prop, CallR X f r ∧ ∀ {c0 c : C} {Q : VK} {vs : List V} {ds : List D}, R w c → SStep c0 c → Lks w c vs ds → Aft w Ex c0 (opt (k ds) c.s) (Fin w c0 Q) → r vs c.H Q
/-- what a name of the built-in ones stands for -/
structure BltN (X : Cx) (n : Str) (v : Value) : Prop where
  gl : Gl X n
  no : X.mg n = none
  boot : bootBuiltins n = some v
  nn : n ≠ "__name__"
  nd : (n == ("__debug__" : Str)) = false
theorem j_bltB {id : String} {bf : Blt} (N : BltN X n (.builtin id)) (ok : CallOk w Ex X (.builtin id) (bltD bf)) (hs : PA X (x :: l) (tEs w Ex Φ es)) (hst : starEach (x :: l) X.env = (false, eval x X.env) :: starEach l X.env) (hpl : (backTo pos (starEach l X.env)).any (·.1) = false) :
    PE X (.Call (.Name n p) (x :: l) [] pos) (tE w Ex Φ (.blt bf es)) := by
  obtain ⟨r, h1, h2⟩ := ok
  refine (pe_callB h1 N.gl N.no N.boot hs N.nn N.nd hst hpl).imp fun σ H Q h => ?_
  obtain ⟨c, rfl, rfl, hr, h⟩ := tE_in h
  refine tEs_seq h (SStep.refl c) hr fun c2 vs dvs r2 x2 x02 hσ rels rels0 h3 => ?_
  obtain ⟨ds, lks, h4⟩ := Aft.looks h3 r2 rels0
  exact h2 r2 x02 lks h4
theorem j_bltT {T : String} {bf : Blt} (N : BltN X n (.type T)) (ok : CallOk w Ex X (.type T) (bltD bf)) (hs : PA X (x :: l) (tEs w Ex Φ es)) (hst : starEach (x :: l) X.env = (false, eval x X.env) :: starEach l X.env) (hpl : (backTo pos (starEach l X.env)).any (·.1) = false) :
    PE X (.Call (.Name n p) (x :: l) [] pos) (tE w Ex Φ (.blt bf es)) := by
  obtain ⟨r, h1, h2⟩ := ok
  refine (pe_callTy h1 N.gl N.no N.boot hs N.nn N.nd hst hpl).imp fun σ H Q h => ?_
  obtain ⟨c, rfl, rfl, hr, h⟩ := tE_in h
  refine tEs_seq h (SStep.refl c) hr fun c2 vs dvs r2 x2 x02 hσ rels rels0 h3 => ?_
  obtain ⟨ds, lks, h4⟩ := Aft.looks h3 r2 rels0
  exact h2 r2 x02 lks h4
/-! ### each -/
theorem Lk.seqL {c : C} {v : V} {ds : List D} (h : Lk w c v (.lst ds)) : ∃ q vs, v = .ref q ∧ SqL w.K c.H q vs ∧ RepAll w c.dl c.F ds vs := by
  obtain ⟨q, vs, e, h1, h2⟩ := h
  exact ⟨q, vs, e, SqL.of h1, h2⟩
theorem Lk.seqT {c : C} {v : V} {ds : List D} (r : R w c) (h : Lk w c v (.tup ds)) : ∃ q vs, v = .ref q ∧ SqT w.K c.H q vs ∧ RepAll w c.dl c.F ds vs := by
  obtain ⟨q, vs, e, h1, h2⟩ := h
  exact ⟨q, vs, e, r.sub.sqT h1, h2⟩
theorem Lks.nil {c : C} {vs : List V} (h : Lks w c vs []) : vs = [] := by
  cases vs with
  | nil => rfl
  | cons v vs => exact h.elim
theorem len_ok (hK : X.K = w.K) : CallOk w Ex X (.builtin "len") (bltD .len) := by
  refine ⟨_, call_len_seq, fun {c0 c Q vs ds} r st h q => ?_⟩
  obtain ⟨dv, e, q⟩ := q.opt0
  rcases ds with _ | ⟨d, _ | ⟨d2, ds⟩⟩ <;> first | (cases e; done) | (cases d <;> cases e; done) | skip
  obtain ⟨v, rfl, l⟩ := h.one
  cases d <;> first | (cases e; done) | skip
  · cases e
    obtain ⟨p, us, rfl, s1, rep⟩ := l.seqT r
    refine ⟨p, us, rfl, .inr (by rw [hK]; exact s1), ?_⟩
    rw [rep.length]
    exact q.fin st r rfl trivial
  · cases e
    obtain ⟨p, us, rfl, s1, rep⟩ := l.seqL
    refine ⟨p, us, rfl, .inl (by rw [hK]; exact s1), ?_⟩
    rw [rep.length]
    exact q.fin st r rfl trivial
  · cases e
    rename_i ns
    obtain ⟨p, rfl, s1⟩ := l
    refine ⟨p, _, rfl, .inl (by rw [hK]; exact r.sub.sqL s1), ?_⟩
    rw [List.length_map]
    exact q.fin st r rfl trivial
theorem int_ok : CallOk w Ex X (.type "int") (bltD .int) := by
  refine ⟨_, call_int1, fun {c0 c Q vs ds} r st h q => ?_⟩
  obtain ⟨dv, e, q⟩ := q.opt0
  rcases ds with _ | ⟨d, _ | ⟨d2, ds⟩⟩ <;> first | (cases e; done) | (cases d <;> cases e; done) | skip
  obtain ⟨v, rfl, l⟩ := h.one
  cases d <;> first | (cases e; done) | skip
  cases e
  exact .inl ⟨_, by rw [show v = .int _ from l], q.fin st r rfl trivial⟩
theorem abs_ok : CallOk w Ex X (.builtin "abs") (bltD .abs) := by
  refine ⟨_, call_abs, fun {c0 c Q vs ds} r st h q => ?_⟩
  obtain ⟨dv, e, q⟩ := q.opt0
  rcases ds with _ | ⟨d, _ | ⟨d2, ds⟩⟩ <;> first | (cases e; done) | (cases d <;> cases e; done) | skip
  obtain ⟨v, rfl, l⟩ := h.one
  cases d <;> first | (cases e; done) | skip
  rename_i i
  cases e
  refine ⟨i, by rw [show v = .int _ from l], ?_⟩
  have e : (if i < 0 then -i else i) = (i.natAbs : Int) := by split <;> omega
  rw [e]
  exact q.fin st r rfl trivial
theorem list_ok (hK : X.K = w.K) : CallOk w Ex X (.type "list") (bltD .list) := by
  refine ⟨_, call_list_of, fun {c0 c Q vs ds} r st h q => ?_⟩
  obtain ⟨dv, e, q⟩ := q.opt0
  rcases ds with _ | ⟨d, _ | ⟨d2, ds⟩⟩ <;> first | (cases e; done) | (cases d <;> cases e; done) | skip
  obtain ⟨v, rfl, l⟩ := h.one
  cases d <;> first | (cases e; done) | skip
  · cases e
    obtain ⟨p, us, rfl, s1, rep⟩ := l.seqT r
    exact ⟨p, us, rfl, .inr (by rw [hK]; exact s1), fun o ho => q.newLst st r rep ho⟩
  · cases e
    obtain ⟨p, us, rfl, s1, rep⟩ := l.seqL
    exact ⟨p, us, rfl, .inl (by rw [hK]; exact s1), fun o ho => q.newLst st r rep ho⟩
theorem tuple_ok (hK : X.K = w.K) : CallOk w Ex X (.type "tuple") (bltD .tuple) := by
  refine ⟨_, call_tuple_of, fun {c0 c Q vs ds} r st h q => ?_⟩
  obtain ⟨dv, e, q⟩ := q.opt0
  rcases ds with _ | ⟨d, _ | ⟨d2, ds⟩⟩ <;> first | (cases e; done) | (cases d <;> cases e; done) | skip
  obtain ⟨v, rfl, l⟩ := h.one
  cases d <;> first | (cases e; done) | skip
  · cases e
    obtain ⟨p, us, rfl, s1, rep⟩ := l.seqT r
    exact ⟨p, us, rfl, .inr ⟨by rw [hK]; exact s1, q.fin st r l trivial⟩⟩
  · cases e
    obtain ⟨p, us, rfl, s1, rep⟩ := l.seqL
    exact ⟨p, us, rfl, .inl ⟨by rw [hK]; exact s1, fun o ho => q.newTup st r rep ho⟩⟩
theorem maxI_mem : ∀ {ns : List Int}, ns ≠ [] → maxI ns ∈ ns ∧ ∀ y ∈ ns, y ≤ maxI ns
  | [], h => absurd rfl h
  | [x], _ => by simp [maxI]
  | x :: y :: r, _ => by
    obtain ⟨h1, h2⟩ := maxI_mem (ns := y :: r) (by simp)
    show (if maxI (y :: r) ≤ x then x else maxI (y :: r)) ∈ x :: y :: r ∧ ∀ z ∈ x :: y :: r, z ≤ (if maxI (y :: r) ≤ x then x else maxI (y :: r))
    split
    · refine ⟨List.mem_cons_self, fun z hz => ?_⟩
      rcases List.mem_cons.mp hz with rfl | hz
      · exact Int.le_refl _
      · have := h2 z hz; omega
    · refine ⟨List.mem_cons_of_mem _ h1, fun z hz => ?_⟩
      rcases List.mem_cons.mp hz with rfl | hz
      · omega
      · exact h2 z hz
theorem minI_mem : ∀ {ns : List Int}, ns ≠ [] → minI ns ∈ ns ∧ ∀ y ∈ ns, minI ns ≤ y
  | [], h => absurd rfl h
  | [x], _ => by simp [minI]
  | x :: y :: r, _ => by
    obtain ⟨h1, h2⟩ := minI_mem (ns := y :: r) (by simp)
    show (if x ≤ minI (y :: r) then x else minI (y :: r)) ∈ x :: y :: r ∧ ∀ z ∈ x :: y :: r, (if x ≤ minI (y :: r) then x else minI (y :: r)) ≤ z
    split
    · refine ⟨List.mem_cons_self, fun z hz => ?_⟩
      rcases List.mem_cons.mp hz with rfl | hz
      · exact Int.le_refl _
      · have := h2 z hz; omega
    · refine ⟨List.mem_cons_of_mem _ h1, fun z hz => ?_⟩
      rcases List.mem_cons.mp hz with rfl | hz
      · omega
      · exact h2 z hz
theorem Lk.intsD {c : C} {v : V} {ds : List D} {ns : List Int} (h : Lk w c v (.lst ds)) (e : DI.intsD ds = some ns) : ∃ q, v = .ref q ∧ SqL w.K c.H q (ns.map V.int) := by
  obtain ⟨q, vs, e1, h1, h2⟩ := h.seqL
  obtain ⟨e2, _⟩ := h2.intsD e
  exact ⟨q, e1, by rw [← e2]; exact h1⟩
theorem max_ok (hK : X.K = w.K) (hc : X.calm = true) : CallOk w Ex X (.builtin "max") (bltD .max) := by
  refine ⟨_, (call_max2 hc).or (cr_max hc), fun {c0 c Q vs ds} r st h q => ?_⟩
  obtain ⟨dv, e, q⟩ := q.opt0
  rcases ds with _ | ⟨d, _ | ⟨d2, _ | ⟨d3, ds⟩⟩⟩ <;> first | (cases e; done) | (cases d <;> cases e; done) | (cases d <;> cases d2 <;> cases e; done) | skip
  · obtain ⟨v, rfl, l⟩ := h.one
    cases d <;> first | (cases e; done) | skip
    rename_i xs
    obtain ⟨ns, e1, e2⟩ := Option.bind_eq_some_iff.mp (show (DI.intsD xs).bind _ = some dv from e)
    split at e2
    · cases e2
    · rename_i hne
      cases e2
      obtain ⟨p, rfl, s1⟩ := l.intsD e1
      obtain ⟨m1, m2⟩ := maxI_mem hne
      refine .inr ⟨p, ns, rfl, by rw [hK]; exact s1, List.length_pos_iff.mpr hne, fun m hm hall => ?_⟩
      have em : m = maxI ns := Int.le_antisymm (m2 m hm) (hall _ m1)
      subst em
      exact q.fin st r rfl trivial
  · obtain ⟨v, u, rfl, l1, l2⟩ := h.two
    cases d <;> first | (cases e; done) | (cases d2 <;> cases e; done) | skip
    cases d2 <;> first | (cases e; done) | skip
    rename_i i j
    cases e
    refine .inl ⟨i, j, by rw [show v = .int _ from l1, show u = .int _ from l2], ?_⟩
    have e : (if j > i then j else i) = (if j ≤ i then i else j) := by split <;> split <;> omega
    rw [e]
    exact q.fin st r rfl trivial
theorem min_ok (hK : X.K = w.K) (hc : X.calm = true) : CallOk w Ex X (.builtin "min") (bltD .min) := by
  refine ⟨_, (call_min2 hc).or (cr_min hc), fun {c0 c Q vs ds} r st h q => ?_⟩
  obtain ⟨dv, e, q⟩ := q.opt0
  rcases ds with _ | ⟨d, _ | ⟨d2, _ | ⟨d3, ds⟩⟩⟩ <;> first | (cases e; done) | (cases d <;> cases e; done) | (cases d <;> cases d2 <;> cases e; done) | skip
  · obtain ⟨v, rfl, l⟩ := h.one
    cases d <;> first | (cases e; done) | skip
    rename_i xs
    obtain ⟨ns, e1, e2⟩ := Option.bind_eq_some_iff.mp (show (DI.intsD xs).bind _ = some dv from e)
    split at e2
    · cases e2
    · rename_i hne
      cases e2
      obtain ⟨p, rfl, s1⟩ := l.intsD e1
      obtain ⟨m1, m2⟩ := minI_mem hne
      refine .inr ⟨p, ns, rfl, by rw [hK]; exact s1, List.length_pos_iff.mpr hne, fun m hm hall => ?_⟩
      have em : m = minI ns := Int.le_antisymm (hall _ m1) (m2 m hm)
      subst em
      exact q.fin st r rfl trivial
  · obtain ⟨v, u, rfl, l1, l2⟩ := h.two
    cases d <;> first | (cases e; done) | (cases d2 <;> cases e; done) | skip
    cases d2 <;> first | (cases e; done) | skip
    rename_i i j
    cases e
    refine .inl ⟨i, j, by rw [show v = .int _ from l1, show u = .int _ from l2], ?_⟩
    have e : (if j < i then j else i) = (if i ≤ j then i else j) := by split <;> split <;> omega
    rw [e]
    exact q.fin st r rfl trivial
theorem sum_ok (hK : X.K = w.K) (hc : X.calm = true) : CallOk w Ex X (.builtin "sum") (bltD .sum) := by
  refine ⟨_, cr_sum hc, fun {c0 c Q vs ds} r st h q => ?_⟩
  obtain ⟨dv, e, q⟩ := q.opt0
  rcases ds with _ | ⟨d, _ | ⟨d2, ds⟩⟩ <;> first | (cases e; done) | (cases d <;> cases e; done) | skip
  obtain ⟨v, rfl, l⟩ := h.one
  cases d <;> first | (cases e; done) | skip
  rename_i xs
  obtain ⟨ns, e1, e2⟩ := Option.bind_eq_some_iff.mp (show (DI.intsD xs).bind _ = some dv from e)
  cases e2
  obtain ⟨p, rfl, s1⟩ := l.intsD e1
  exact ⟨p, ns, rfl, by rw [hK]; exact s1, q.fin st r rfl trivial⟩
theorem Lk.bools {c : C} {v : V} {ds : List D} {ns : List Bool} (h : Lk w c v (.lst ds)) (e : DI.bools ds = some ns) : ∃ q, v = .ref q ∧ SqL w.K c.H q (ns.map V.bl) := by
  obtain ⟨q, vs, e1, h1, h2⟩ := h.seqL
  have e2 := h2.bools e
  exact ⟨q, e1, by rw [← e2]; exact h1⟩
theorem all_ok (hK : X.K = w.K) (hc : X.calm = true) : CallOk w Ex X (.builtin "all") (bltD .all) := by
  refine ⟨_, cr_all hc, fun {c0 c Q vs ds} r st h q => ?_⟩
  obtain ⟨dv, e, q⟩ := q.opt0
  rcases ds with _ | ⟨d, _ | ⟨d2, ds⟩⟩ <;> first | (cases e; done) | (cases d <;> cases e; done) | skip
  obtain ⟨v, rfl, l⟩ := h.one
  cases d <;> first | (cases e; done) | skip
  rename_i xs
  obtain ⟨ns, e1, e2⟩ := Option.bind_eq_some_iff.mp (show (DI.bools xs).bind _ = some dv from e)
  cases e2
  obtain ⟨p, rfl, s1⟩ := l.bools e1
  exact ⟨p, ns, rfl, by rw [hK]; exact s1, q.fin st r rfl trivial⟩
theorem any_ok (hK : X.K = w.K) (hc : X.calm = true) : CallOk w Ex X (.builtin "any") (bltD .any) := by
  refine ⟨_, cr_any hc, fun {c0 c Q vs ds} r st h q => ?_⟩
  obtain ⟨dv, e, q⟩ := q.opt0
  rcases ds with _ | ⟨d, _ | ⟨d2, ds⟩⟩ <;> first | (cases e; done) | (cases d <;> cases e; done) | skip
  obtain ⟨v, rfl, l⟩ := h.one
  cases d <;> first | (cases e; done) | skip
  rename_i xs
  obtain ⟨ns, e1, e2⟩ := Option.bind_eq_some_iff.mp (show (DI.bools xs).bind _ = some dv from e)
  cases e2
  obtain ⟨p, rfl, s1⟩ := l.bools e1
  exact ⟨p, ns, rfl, by rw [hK]; exact s1, q.fin st r rfl trivial⟩
theorem insertI_perm (x : Int) : ∀ l : List Int, (insertI x l).Perm (x :: l)
  | [] => .refl _
  | y :: r => by
    unfold insertI
    split
    · exact .refl _
    · exact ((insertI_perm x r).cons y).trans (.swap x y r)
theorem sortI_perm : ∀ l : List Int, (sortI l).Perm l
  | [] => .refl _
  | x :: r => (insertI_perm x (sortI r)).trans ((sortI_perm r).cons x)
theorem insertI_sorted (x : Int) : ∀ l : List Int, l.Pairwise (· ≤ ·) → (insertI x l).Pairwise (· ≤ ·)
  | [], _ => List.pairwise_singleton _ _
  | y :: r, h => by
    obtain ⟨h1, h2⟩ := List.pairwise_cons.mp h
    unfold insertI
    split
    · rename_i hxy
      refine List.pairwise_cons.mpr ⟨fun z hz => ?_, h⟩
      rcases List.mem_cons.mp hz with rfl | hz
      · exact hxy
      · exact Int.le_trans hxy (h1 z hz)
    · rename_i hxy
      refine List.pairwise_cons.mpr ⟨fun z hz => ?_, insertI_sorted x r h2⟩
      rcases List.mem_cons.mp ((insertI_perm x r).mem_iff.mp hz) with rfl | hz
      · omega
      · exact h1 z hz
theorem sortI_sorted : ∀ l : List Int, (sortI l).Pairwise (· ≤ ·)
  | [] => List.Pairwise.nil
  | x :: r => insertI_sorted x _ (sortI_sorted r)
theorem sorted_uniq {l m : List Int} (p : l.Perm m) (hl : l.Pairwise (· ≤ ·)) (hm : m.Pairwise (· ≤ ·)) : l = m := p.eq_of_pairwise (fun a b _ _ h1 h2 => Int.le_antisymm h1 h2) hl hm
theorem sorted_ok (hK : X.K = w.K) : CallOk w Ex X (.builtin "sorted") (bltD .sorted) := by
  refine ⟨_, cr_sortedI, fun {c0 c Q vs ds} r st h q => ?_⟩
  obtain ⟨dv, e, q⟩ := q.opt0
  rcases ds with _ | ⟨d, _ | ⟨d2, ds⟩⟩ <;> first | (cases e; done) | (cases d <;> cases e; done) | skip
  obtain ⟨v, rfl, l⟩ := h.one
  cases d <;> first | (cases e; done) | skip
  rename_i xs
  obtain ⟨ns, e1, e2⟩ := Option.bind_eq_some_iff.mp (show (DI.intsD xs).bind _ = some dv from e)
  split at e2
  · cases e2
    obtain ⟨p, rfl, s1⟩ := l.intsD e1
    refine ⟨p, ns, rfl, by rw [hK]; exact s1, fun ns' o hp hs ho => ?_⟩
    have e : ns' = sortI ns := sorted_uniq (hp.trans (sortI_perm ns).symm) hs (sortI_sorted ns)
    subst e
    exact q.newLst st r (RepAll.ofInts _) ho
  · cases e2
/-! ### isinstance -/
def tyN : D → String
  | .non => "NoneType" | .bl _ => "bool" | .int _ => "int" | .str _ => "str" | .tup _ => "tuple" | .lst _ => "list" | .ins _ _ => "" | .deal => "" | .scr _ => ""
theorem Lk.ty {c : C} {v : V} {d : D} (r : R w c) (h : Lk w c v d) (hd : tyN d ≠ "") : TyX w.K c.H v (.type (tyN d)) := by
  cases d with
  | non => rw [show v = .non from h]; exact .base .non
  | bl i => rw [show v = .bl i from h]; exact .base (.bl i)
  | int i => rw [show v = .int i from h]; exact .base (.int i)
  | str i => rw [show v = .str i from h]; exact .base (.str i)
  | tup ds =>
    obtain ⟨p, us, rfl, s1, _⟩ := h.seqT r
    rcases s1 with (s1 | ⟨o, s1⟩) | ⟨o, its, n, s1, s2, _⟩
    · exact .base (.tup s1)
    · exact .fTuple s1
    · exact .kTuple s1 s2
  | lst ds =>
    obtain ⟨p, us, rfl, s1, _⟩ := h
    exact .base (.lst s1)
  | ins k ds => exact absurd rfl hd
  | deal => exact absurd rfl hd
  | scr ns => exact absurd rfl hd
def tyS : Ty → String
  | .int => "int" | .bool => "bool" | .str => "str" | .list => "list" | .tuple => "tuple" | .seq => "" | .cls _ => ""
theorem kit_isD {t : Ty} {d : D} {k : Bool} (ht : tyS t ≠ "") (h : isD t d = some k) : tyN d ≠ "" ∧ kitB (tyN d) (tyS t) = some k := by
  cases t <;> first | exact absurd rfl ht | skip
  all_goals (cases d <;> first
    | (cases h; done)
    | (cases h; dsimp only [tyN, tyS]; exact ⟨by decide, by decide +kernel⟩))
theorem isI_ok (hK : X.K = w.K) {t : Ty} (ht : tyS t ≠ "") {c0 c : C} {Q : VK} {v : V} {d : D} {k : Bool} (r : R w c) (st : SStep c0 c) (l : Lk w c v d) (e : isD t d = some k) (q : Q (.bl k) c.H) :
    rIsi X.K [v, .ty (tyS t)] c.H Q := by
  obtain ⟨h1, h2⟩ := kit_isD ht e
  exact ⟨v, .ty (tyS t), .type (tyN d), .type (tyS t), k, rfl, .ty _, by rw [hK]; exact l.ty r h1, kit_ty h2, q⟩
/-- isinstance(x, T) -/
theorem j_isI (hK : X.K = w.K) {t : Ty} {m : Str} {p2 : Pos} (ht : tyS t ≠ "") (N : BltN X n (.builtin "isinstance")) (M : BltN X m (.type (tyS t))) (ha : PE X x (tE w Ex Φ a))
    (hst : starEach [x, .Name m p2] X.env = (false, eval x X.env) :: starEach [.Name m p2] X.env) : PE X (.Call (.Name n p) [x, .Name m p2] [] pos) (tE w Ex Φ (.isI a t)) :=
  (pe_callB call_isi N.gl N.no N.boot (pa_cons ha (pa_cons (pe_bltn (v := .ty (tyS t)) M.gl M.no M.boot rfl M.nn M.nd) pa_nil (by rfl)) hst) N.nn N.nd hst (by rfl)).imp fun σ H Q h => by
    obtain ⟨c, rfl, rfl, r, h⟩ := tE_in h
    refine tE_seq h (SStep.refl c) r fun c2 u du r2 x2 x02 hσ rel fr fr0 h2 => ?_
    obtain ⟨d, l, h3⟩ := h2.look r2 rel
    obtain ⟨k, e, h4⟩ := h3.opt
    exact isI_ok hK ht r2 x02 l e (Aft.fin h4 x02 r2 rfl trivial)
theorem kit_seq {K : PySem.W.Frag} {d : D} {k : Bool} (h : isD .seq d = some k) : tyN d ≠ "" ∧ PySem.W.kitAny K (.type (tyN d)) [.type "list", .type "tuple"] = some k := by
  cases d <;> first
    | (cases h; done)
    | (cases h; dsimp only [tyN]; exact ⟨by decide, kitAny_cons (b := true) (kit_ty (by decide +kernel)) (by intro z; cases z) (fun _ => rfl)⟩)
    | (cases h; dsimp only [tyN]; exact ⟨by decide, kitAny_cons (b := false) (kit_ty (by decide +kernel)) (fun _ => kitAny_cons (b := true) (kit_ty (by decide +kernel)) (by intro z; cases z) (fun _ => rfl)) (by intro z; cases z)⟩)
    | (cases h; dsimp only [tyN]; exact ⟨by decide, kitAny_cons (b := false) (kit_ty (by decide +kernel)) (fun _ => kitAny_cons (b := false) (kit_ty (by decide +kernel)) (fun _ => kitAny_nil) (by intro z; cases z)) (by intro z; cases z)⟩)
/-- isinstance(x, (list, tuple)) -/
theorem j_isS (hK : X.K = w.K) {m1 m2 : Str} {p1 p2 p3 : Pos} {kk : Nat} (N : BltN X n (.builtin "isinstance")) (M1 : BltN X m1 (.type "list")) (M2 : BltN X m2 (.type "tuple")) (ha : PE X x (tE w Ex Φ a))
    (hst : starEach [x, .Tuple [.Name m1 p1, .Name m2 p2] kk p3] X.env = (false, eval x X.env) :: starEach [.Tuple [.Name m1 p1, .Name m2 p2] kk p3] X.env) :
    PE X (.Call (.Name n p) [x, .Tuple [.Name m1 p1, .Name m2 p2] kk p3] [] pos) (tE w Ex Φ (.isI a .seq)) :=
  (pe_callB call_isiT N.gl N.no N.boot (pa_cons ha (pa_cons (pe_tup (pa_cons (pe_bltn (v := .ty "list") M1.gl M1.no M1.boot rfl M1.nn M1.nd) (pa_cons (pe_bltn (v := .ty "tuple") M2.gl M2.no M2.boot rfl M2.nn M2.nd) pa_nil (by rfl)) (by rfl))) pa_nil (by rfl)) hst) N.nn N.nd hst (by rfl)).imp fun σ H Q h => by
    obtain ⟨c, rfl, rfl, r, h⟩ := tE_in h
    refine tE_seq h (SStep.refl c) r fun c2 u du r2 x2 x02 hσ rel fr fr0 h2 => ?_
    obtain ⟨d, l, h3⟩ := h2.look r2 rel
    obtain ⟨k, e, h4⟩ := h3.opt
    obtain ⟨e1, e2⟩ := kit_seq (K := X.K) e
    refine ⟨by decide, fun q hq => ?_⟩
    obtain ⟨r3, x3⟩ := r2.lay hq (.tup [.ty "list", .ty "tuple"])
    have ty := l.ty r2 e1
    have le : Le c2.H (upd c2.H q (.tup [.ty "list", .ty "tuple"])) := le_upd hq
    have l3 : Lk w { c2 with H := upd c2.H q (.tup [.ty "list", .ty "tuple"]) } u d := by
      cases d with
      | lst ds =>
        obtain ⟨p, us, q1, q2, q3⟩ := l
        exact ⟨p, us, q1, le _ _ q2, q3⟩
      | _ => exact l
    refine ⟨u, q, _, .type (tyN d), [.type "list", .type "tuple"], k, rfl, upd_same, .cons (.ty _) (.cons (.ty _) .nil), by rw [hK]; exact l3.ty r3 e1, e2, ?_⟩
    exact h4 { c2 with H := upd c2.H q (.tup [.ty "list", .ty "tuple"]) } rfl r3 (x02.trans x3) (.bl k) rfl trivial
/-! ### ranges as lists, as tuples -/
theorem rgV_rep {dl : Dl} {F : Hp} (i j : Int) : RepAll w dl F (rngI i j) (rgV i j) := by
  unfold rngI rgV
  have q : ∀ l : List Nat, RepAll w dl F (l.map fun (k : Nat) => D.int (i + k)) (l.map fun (k : Nat) => V.int (i + (k : Nat))) := by
    intro l
    induction l with
    | nil => rfl
    | cons k l ih => exact ⟨_, _, rfl, rfl, ih⟩
  exact q _
theorem rngD_some {i j : Int} {ds : List D} (h : rngD i j = some ds) : ds = rngI i j ∧ RgOk i j := by
  unfold rngD at h
  split at h
  · rename_i z
    simp only [Bool.and_eq_true, bnd62, decide_eq_true_eq] at z
    obtain ⟨⟨⟨z1, z2⟩, z3, z4⟩, z5⟩ := z
    cases h
    refine ⟨rfl, z1, z2, z3, z4, ?_⟩
    rw [lim_eq, sizeLine_eq] at z5
    have e : (2 : Nat) ^ 24 = 16777216 := by decide
    rw [e]
    exact z5
  · cases h
/-- range(..) as a reading of its ends -/
def tRG (w : Wd) (Ex : Nat → D → C → Prop) (Φ : Fns) (a b : E) : L2.St → Hp → (Int → Int → Hp → Prop) → Prop := fun σ H Q => ∃ c, c.σ = σ ∧ c.H = H ∧ R w c ∧
  Aft w Ex c (bnd (zeroM a (ev w Φ a)) (fun x => bnd (ev w Φ b) fun y => bnd (look x) fun dx => bnd (look y) fun dy => bnd (int? dx) fun i => bnd (int? dy) fun j => ret (i, j)) c.s) fun c' p => Q p.1 p.2 c'.H
theorem PRg.imp {e : Expr} {t t' : L2.St → Hp → (Int → Int → Hp → Prop) → Prop} (h : PRg X e t) (f : ∀ σ H Q, t' σ H Q → t σ H Q) : PRg X e t' :=
  fun pins s σ H Q I q => h pins s σ H Q I (f σ H Q q)
theorem two_intP {β : Type} {du dv : DV} {f : Int → Int → M β} {Q : C → β → Prop} {c0 c : C} {u v : V} (r : R w c) (l1 : Rel w c u du) (l2 : Rel w c v dv)
    (h : Aft w Ex c0 (bnd (look du) (fun dx => bnd (look dv) fun dy => bnd (int? dx) fun i => bnd (int? dy) fun j => f i j) c.s) Q) : ∃ i j, u = .int i ∧ v = .int j ∧ Aft w Ex c0 (f i j c.s) Q := by
  obtain ⟨d1, q1, h1⟩ := h.look r l1
  obtain ⟨d2, q2, h2⟩ := h1.look r l2
  obtain ⟨i, e1, h3⟩ := h2.int
  obtain ⟨j, e2, h4⟩ := h3.int
  subst e1
  subst e2
  exact ⟨i, j, q1, q2, h4⟩
theorem j_rg1 {b : E} {pr : Pos} (hg : Gl X "range") (hm : X.mg "range" = none) (hb : PE X y (tE w Ex Φ b)) (nb : starEach [y] X.env = (false, eval y X.env) :: starEach [] X.env) : PRg X (.Call (.Name "range" p) [y] [] pr) (tRG w Ex Φ .nop b) :=
  PRg.imp (prg_1 hg hm hb nb) fun σ H Q h => by
    obtain ⟨c, rfl, rfl, r, h⟩ := h
    have h' : Aft w Ex c (bnd (ev w Φ b) (fun y => bnd (look (.f (.int 0))) fun dx => bnd (look y) fun dy => bnd (int? dx) fun i => bnd (int? dy) fun j => ret (i, j)) c.s) fun c' p => Q p.1 p.2 c'.H := h
    refine tE_seq h' (SStep.refl c) r fun c2 u du r2 x2 x02 hσ rel fr fr0 h2 => ?_
    obtain ⟨i, j, e, rfl, h3⟩ := two_intP (u := .int 0) (du := .f (.int 0)) r2 rfl rel h2
    cases e
    exact ⟨j, rfl, Aft.ret h3 x02 r2⟩
theorem zeroM_id {a : E} {m : M DV} (h : a ≠ .nop) : zeroM a m = m := by cases a <;> first | rfl | exact absurd rfl h
theorem j_rg2 {pr : Pos} (hn : a ≠ .nop) (hg : Gl X "range") (hm : X.mg "range" = none) (ha : PE X x (tE w Ex Φ a)) (hb : PE X y (tE w Ex Φ b)) (na : starEach [x, y] X.env = (false, eval x X.env) :: starEach [y] X.env)
    (nb : starEach [y] X.env = (false, eval y X.env) :: starEach [] X.env) (hp : (backTo pr (starEach [y] X.env)).any (·.1) = false) : PRg X (.Call (.Name "range" p) [x, y] [] pr) (tRG w Ex Φ a b) :=
  PRg.imp (prg_2 hg hm ha hb na nb hp) fun σ H Q h => by
    obtain ⟨c, rfl, rfl, r, h⟩ := h
    rw [zeroM_id hn] at h
    refine tE_seq h (SStep.refl c) r fun c2 u du r2 x2 x02 hσ rel fr fr0 h2 => ?_
    rw [← hσ]
    refine tE_seq h2 x02 r2 fun c3 v dv r3 x3 x03 hσ3 rel3 fr3 fr03 h3 => ?_
    obtain ⟨i, j, rfl, rfl, h4⟩ := two_intP r3 (rel.step x3) rel3 h3
    exact ⟨i, j, rfl, rfl, Aft.ret h4 x03 r3⟩
theorem rg_split {β : Type} {f : Int → Int → M β} : bnd (zeroM a (ev w Φ a)) (fun x => bnd (ev w Φ b) fun y => bnd (look x) fun dx => bnd (look y) fun dy => bnd (int? dx) fun i => bnd (int? dy) fun j => f i j)
    = bnd (bnd (zeroM a (ev w Φ a)) fun x => bnd (ev w Φ b) fun y => bnd (look x) fun dx => bnd (look y) fun dy => bnd (int? dx) fun i => bnd (int? dy) fun j => ret (i, j)) fun p => f p.1 p.2 := by
  simp only [bnd_assoc]
  rfl
theorem RgOk.of {i j : Int} {ds : List D} (h : rngD i j = some ds) : RgOk i j := (rngD_some h).2
theorem j_lrg {pl : Pos} (hc : X.calm = true) (hg : Gl X "list") (hm : X.mg "list" = none) (he : PRg X x (tRG w Ex Φ a b)) (na : starEach [x] X.env = (false, eval x X.env) :: starEach [] X.env) : PE X (.Call (.Name "list" p) [x] [] pl) (tE w Ex Φ (.lrg a b)) :=
  (pe_listRg hc hg hm he na).imp fun σ H Q h => by
    obtain ⟨c, rfl, rfl, r, h⟩ := tE_in h
    rw [show ev w Φ (.lrg a b) = _ from rg_split (f := fun i j => bnd (opt (rngD i j)) fun ds => ret (DV.o ds))] at h
    refine ⟨c, rfl, rfl, r, (h.bnd (SStep.refl c)).imp fun c2 p r2 x2 ⟨_, _, q⟩ => ?_⟩
    obtain ⟨ds, e, q⟩ := q.opt
    obtain ⟨rfl, ok⟩ := rngD_some e
    exact ⟨ok, fun o ho => q.newLst x2 r2 (rgV_rep _ _) ho⟩
theorem j_trg {pl : Pos} (hc : X.calm = true) (hg : Gl X "tuple") (hm : X.mg "tuple" = none) (he : PRg X x (tRG w Ex Φ a b)) (na : starEach [x] X.env = (false, eval x X.env) :: starEach [] X.env) : PE X (.Call (.Name "tuple" p) [x] [] pl) (tE w Ex Φ (.trg a b)) :=
  (pe_tupRg hc hg hm he na).imp fun σ H Q h => by
    obtain ⟨c, rfl, rfl, r, h⟩ := tE_in h
    rw [show ev w Φ (.trg a b) = _ from rg_split (f := fun i j => bnd (opt (rngD i j)) fun ds => ret (DV.f (.tup ds)))] at h
    refine ⟨c, rfl, rfl, r, (h.bnd (SStep.refl c)).imp fun c2 p r2 x2 ⟨_, _, q⟩ => ?_⟩
    obtain ⟨ds, e, q⟩ := q.opt
    obtain ⟨rfl, ok⟩ := rngD_some e
    exact ⟨ok, fun o ho => q.newTup x2 r2 (rgV_rep _ _) ho⟩
end
end DI

set_option Elab.async false
set_option linter.all false
set_option maxRecDepth 100000
set_option maxHeartbeats 4000000
/-! DG: what a def promises where no repr is under way (guards known to be none), and the calls. Own text over the layer's FnOk. -/
namespace DI
open PySem PySem.Spec PyProof.Rows L2
/-- the layer's FnOk where the stack holds no guard -/
structure FnG (P : Program) (W : World) (K : PySem.W.Frag) (mg : Str → Option Value) (base : Heap) (CX : CXT) (k : Nat) (f : Addr) (fd : FuncData) (ps : List Str) (sp : Sp) : Prop where
  len : ∀ {vs H Q E}, sp vs H Q E → vs.length = ps.length
  go : ∀ {A : Around} {out : List Env} {s : Shared} {H : Hp} {ar : Args} {us : List Value} {vs : List V} {Q : VK} {E : XK}, Room k A → A.guards = some [] → Env0 P W K mg base A out s H → BindsTo s fd ar (ps.zip us) → Vals vs us →
    sp vs H Q E → codeAny (model P W) A (.call (.ref f) ar) (CR CX out P W H s Q E) s
section
variable {X : Cx} {CX : CXT} {k n : Nat} {f C : Addr} {fd : FuncData} {ps ks : List Str} {sp : Sp} {E : XK} {x : Str} {p pos : Pos} {e : Expr} {es : List Expr} {t tk : TA} {kws : List Keyword}
/-- what a call's end tells -/
theorem end_of {pins : List (Addr × Obj)} {σ : L2.St} {H : Hp} {s s' : Shared} {Q : VK} {r : Result} (I : Inv X pins σ H s) (hx : Passes CX X E) (h : CR CX X.stack X.prog X.w H s Q E r s') :
    (∃ e, r = .error e ∧ X.xe e s') ∨ ∃ u, r = .ok (.ret u) ∧ EP X pins σ Q u s' := by
  match r, h with
  | .error e, h => exact .inl ⟨e, rfl, hx pins σ H s e s' I h⟩
  | .ok (.ret u), h => exact .inr ⟨u, rfl, I.after h⟩
theorem runG {pins : List (Addr × Obj)} {σ : L2.St} {H : Hp} {s : Shared} {Q : VK} {us : List Value} {vs : List V} (F : FnG X.prog X.w X.K X.mg X.base CX k f fd ps sp) (hr : Room k X.A) (hgd : X.A.guards = some []) (hb : Binds X.K fd ps []) (hx : Passes CX X E)
    (I : Inv X pins σ H s) (r : Vals vs us) (h : sp vs H Q E) : wpAny (model X.prog X.w) X.A (call (.ref f) us) (EP X pins σ Q) X.xe s := by
  have e1 : us ++ [] = us := List.append_nil us
  have hl : (us ++ []).length = ps.length := by rw [e1, ← r.length, F.len h]
  have bd := hb s us I.kIn hl
  rw [e1] at bd
  refine wpAny_call (codeAny_mono (F.go hr hgd I.env0 bd r h) fun r s' hq => ?_)
  rcases end_of I hx hq with ⟨e, rfl, q⟩ | ⟨u, rfl, q⟩
  · exact q
  · exact q
theorem pe_callG (F : FnG X.prog X.w X.K X.mg X.base CX k f fd ps sp) (hr : Room k X.A) (hgd : X.A.guards = some []) (hg : Gl X x) (hm : X.mg x = some (.ref f)) (hk : PySem.W.keepIn X.K (.ref f) = true) (hb : Binds X.K fd ps []) (hx : Passes CX X E)
    (ha : PA X (e :: es) t) (hdb : (x == ("__debug__" : Str)) = false) (he : starEach (e :: es) X.env = (false, eval e X.env) :: starEach es X.env) (hpl : (backTo pos (starEach es X.env)).any (·.1) = false) :
    PE X (.Call (.Name x p) (e :: es) [] pos) (tCall sp [] E t) := ⟨fun pins s σ H Q I h => by
  refine wpAny_Call_Name_kw (ld_glob I hg hm ?_ hdb)
  refine PySem.W.callWith_K (h₀ := X.base) I.ok.mod.kin hk (thn (ha.run pos pins s σ H _ I h) fun us s1 z => ?_) he hpl
  obtain ⟨vs, H1, I1, r, q⟩ := z
  rw [List.append_nil] at q
  exact ⟨I1.kIn, runG F hr hgd hb hx I1 r q⟩⟩
theorem pe_call0G (F : FnG X.prog X.w X.K X.mg X.base CX k f fd ps sp) (hr : Room k X.A) (hgd : X.A.guards = some []) (hg : Gl X x) (hm : X.mg x = some (.ref f)) (hk : PySem.W.keepIn X.K (.ref f) = true) (hb : Binds X.K fd ps []) (hx : Passes CX X E)
    (hdb : (x == ("__debug__" : Str)) = false) : PE X (.Call (.Name x p) [] [] pos) (tCall sp [] E tNil) := ⟨fun pins s σ H Q I h =>
  wpAny_Call_Name_kw (ld_glob I hg hm (PySem.W.callWith_K0 I.kIn hk (runG (us := []) F hr hgd hb hx I .nil h)) hdb)⟩
/-- f(k = v, ..) -/
theorem pe_callKw0 {g : List Value → List Value → List Value} {gV : List V → List V → List V} (F : FnG X.prog X.w X.K X.mg X.base CX k f fd ps sp) (hr : Room k X.A) (hgd : X.A.guards = some []) (hg : Gl X x) (hm : X.mg x = some (.ref f)) (hk : PySem.W.keepIn X.K (.ref f) = true) (hb : KBn X.K fd ps 0 ks g gV) (hx : Passes CX X E) (hkw : PK X kws tk)
    (hall : (backToKw pos (keywordEach kws X.env)).all (·.1.isSome) = true) (hks : (backToKw pos (keywordEach kws X.env)).filterMap (·.1) = ks) (hdb : (x == ("__debug__" : Str)) = false)
    (hpl : ((backTo pos (starEach [] X.env)).any (·.1) || (backToKw pos (keywordEach kws X.env)).any (·.1.isNone)) = false) :
    PE X (.Call (.Name x p) [] kws pos) (tCallN 0 ks.length sp gV E tNil tk) := by
  refine ⟨fun pins s σ H Q I h => ?_⟩
  refine wpAny_Call_Name_kw (ld_glob I hg hm ?_ hdb)
  refine PySem.W.callWith_KW0 (h₀ := X.base) I.ok.mod.kin hk hall ?_ hpl
  refine thn (hkw.run pos pins s σ H _ I h) fun ws s2 z => ?_
  obtain ⟨zs, H2, I2, rz, l1, l2, q2⟩ := z
  refine ⟨I2.kIn, ?_⟩
  rw [hks]
  have bd := hb.to s2 [] ws I2.kIn rfl (rz.length.symm.trans l2)
  have r2 := hb.rel (.nil : Vals [] []) rz
  refine wpAny_call (codeAny_mono (F.go hr hgd I2.env0 bd r2 q2) fun r s' hq => ?_)
  rcases end_of I2 hx hq with ⟨e, rfl, q⟩ | ⟨u, rfl, q⟩
  · exact q
  · exact q
theorem make_guards {A : Around} {C : Addr} {us : List Value} {kw : List (Str × Value)} (h : A.guards = some []) : (A.under (.builtin "type.__call__" ⟨.ref C :: us, kw⟩)).guards = some [] := by
  show pushGuards (Code.guards (.builtin "type.__call__" ⟨.ref C :: us, kw⟩)) A.guards = _
  rw [h]
  simp [Code.guards, pushGuards, Code.isGuard, guardIds]
/-- C(..) -/
theorem pe_makeG (M : Mk X.K C f) (F : FnG X.prog X.w X.K X.mg X.base CX k f fd ps sp) (hr : Room (k + 1) X.A) (hgd : X.A.guards = some []) (hg : Gl X x) (hm : X.mg x = some (.ref C)) (hb : Binds X.K fd ps []) (hx : Passes CX X E)
    (ha : PA X (e :: es) t) (hdb : (x == ("__debug__" : Str)) = false) (he : starEach (e :: es) X.env = (false, eval e X.env) :: starEach es X.env) (hpl : (backTo pos (starEach es X.env)).any (·.1) = false) :
    PE X (.Call (.Name x p) (e :: es) [] pos) (tMake C sp [] E t) := ⟨fun pins s σ H Q I h => by
  refine wpAny_Call_Name_kw (ld_glob I hg hm ?_ hdb)
  refine PySem.W.callWith_K (h₀ := X.base) I.ok.mod.kin M.kp (thn (ha.run pos pins s σ H _ I h) fun us s1 z => ?_) he hpl
  obtain ⟨vs, H1, I1, r, q⟩ := z
  refine ⟨I1.kIn, ?_⟩
  have q' := q (s1.heap.objs.size + 1) s1.heap.objs.size (I1.hok.fresh (Nat.le_succ _)) (I1.hok.fresh (Nat.le_refl _)) (Nat.ne_of_lt (Nat.lt_succ_self _))
  rw [List.append_nil] at q'
  have I2 := Inv.made (C := C) I1
  have r2 : Vals (V.ref (s1.heap.objs.size + 1) :: vs) (Value.ref (s1.heap.objs.size + 1) :: us) := .cons rfl r
  have bd := hb _ (Value.ref (s1.heap.objs.size + 1) :: us) I2.kIn (by rw [List.append_nil, ← r2.length, F.len q'])
  rw [List.append_nil] at bd
  refine wpAny_call (make_map (f := f) I1.kIn M.makes M.init (beq_iff_eq.mp M.fn) (codeAny_mono (F.go (hr.make C us []) (make_guards hgd) (I2.env0.make C us []) bd r2 q') fun r s' hq => ?_))
  rcases end_of I2 hx hq with ⟨e, rfl, z⟩ | ⟨u, rfl, z⟩
  · exact z
  · obtain ⟨v, H', I3, rv, ev, q3⟩ := z
    subst ev
    exact ⟨rv, ⟨V.ref (s1.heap.objs.size + 1), H', I3, rfl, q3⟩⟩⟩
end
/-! ### a def by its body -/
section
variable {P : Program} {W : World} {K : PySem.W.Frag} {mg : Str → Option Value} {base : Heap} {CX : CXT} {x qual : Str} {params : Arguments} {body : List Stmt} {scope : Scope} {f : Addr} {fd : FuncData} {kws : List (Str × V)} {N ps : List Str} {k : Nat} {sp : Sp}
theorem okG (F : FunD K x qual params body scope [] kws f fd) (S : FnScope N ps scope) (len : ∀ {vs H Q E}, sp vs H Q E → vs.length = ps.length)
    (hbody : ∀ (cdv : Value) (A : Around) (out : List Env) (s : Shared) (H : Hp) (vs : List V) (Q : VK) (E : XK), Room k (A.deeper (envOfC qual scope s.heap.objs.size f cdv)) → A.guards = some [] → sp vs H Q E →
      ∃ t, PSs (cxOf CX P W K mg base N qual scope f cdv A out s H E) body t ∧ t { nx := fun _ H' => Q .non H', rt := Q } (start N vs) H) : FnG P W K mg base CX (k + 1) f fd ps sp := by
  obtain ⟨oc, od, dV, kV, doc, pm, an, cdv, ct, osl, rfl, lk, hcd, _, _⟩ := F.ex
  refine ⟨len, fun {A out s H ar us vs Q E} hr hgd e0 hb r hsp => ?_⟩
  have hl := len hsp
  have kin : K.In s.heap := e0.mod.kin.keeps fun b o e => (e0.bs b o e).1
  have lm : s.heap.NoLimit := e0.mod.nolimit.keeps fun b o e => (e0.bs b o e).1
  have par : ∀ y ∈ ps.zip us, scope.names.lookup y.1 = some .local ∨ (scope.names.lookup y.1 = some .cell ∧ ((cellsFrom (s.heap.objs.size + 1) scope.names []).lookup y.1).isSome = true) := by
    rintro ⟨m, v⟩ hy
    rcases S.par m (List.of_mem_zip hy).1 with q | q
    · exact .inl q
    · exact .inr ⟨q, PySem.W.cellsFrom_some _ _ _ (.inl q)⟩
  refine codeAny_call_function hr.depth (kin _ _ lk) rfl S.co S.gen rfl (PySem.W.codeRec_of kin hcd) (hb _ _ _ _ (wpAny_newFunctionEnv_cells S.kind par fun env he s1 ic => ?_))
  subst he
  refine ⟨lm.keeps ic.toInCall.keep, codeAny_func ?_⟩
  obtain ⟨t, ht, hq⟩ := hbody cdv A out s H vs Q E (hr.deeper _) hgd hsp
  have I := inv_start (CX := CX) (E := E) S hr.hd e0 hl r ic
  have fin : ∀ {σ' : L2.St} {H' : Hp} {v : V} {u : Value} {s' : Shared}, Inv (cxOf CX P W K mg base N qual scope f cdv A out s H E) [] σ' H' s' → RelV v u → Q v H' → CE out P W H s Q u s' := fun J rv q => ⟨_, _, J.os, J.bare, J.base, J.hok, rv, q⟩
  refine wpAny_mono (ht.run [] s1 (start N vs) H _ I hq) (fun fl s' hs => ?_) fun e s' z => z
  match fl, hs with
  | .next, ⟨σ', H', J, q⟩ => exact fin (v := V.non) (u := Value.none) J rfl q
  | .ret u, ⟨v, σ', H', J, rv, q⟩ => exact fin J rv q
  | .brk, ⟨_, _, _, q⟩ => exact q.elim
  | .cont, ⟨_, _, _, q⟩ => exact q.elim
end
end DI

set_option Elab.async false
set_option linter.all false
set_option maxRecDepth 100000
set_option maxHeartbeats 4000000
/-! DI9: calls of defs. Own text. -/
namespace DI
open PySem PySem.Spec PyProof.Rows L2
/-- the same heap with no slot -/
def C.bare (c : C) : C := ⟨c.dl, c.F, c.H, [], [], c.g⟩
/-- e's heap with c's slots -/
def C.back (c e : C) : C := ⟨e.dl, e.F, e.H, c.σ, c.ρ, e.g⟩
section
variable {w : Wd} {Ex : Nat → D → C → Prop} {c c0 e : C} {v : V} {dv : DV} {a : Addr}
theorem R.bare (r : R w c) : R w c.bare where
  sub := r.sub
  len := rfl
  slot := fun i dv h => by simp [C.bare] at h
  dist := fun i j a ⟨h, _⟩ => by simp [C.bare] at h
  ndeal := fun i a p ⟨h, _⟩ => by simp [C.bare] at h
  deal := r.deal
theorem Touch.ofBare (h : Touch c.bare a) : ∃ p, c.dl = some p ∧ (a = p.1 ∨ a = p.2) := by
  rcases h with ⟨i, h, _⟩ | h
  · simp [C.bare] at h
  · exact h
/-- from where the callee ended: the slots as they were -/
theorem R.back (r : R w c) (x : Step c.bare e) (re : R w e) : R w (c.back e) ∧ SStep c (c.back e) := by
  have nt : ∀ {i : Nat} {a : Addr}, Own c i a → ¬ Touch c.bare a := fun {i a} o t => by
    obtain ⟨p, h1, h2⟩ := t.ofBare
    obtain ⟨n1, n2⟩ := r.ndeal i a p o h1
    rcases h2 with h2 | h2
    · exact n1 h2
    · exact n2 h2
  refine ⟨⟨re.sub, r.len, fun i dv h => ?_, r.dist, fun i a p o hp => ?_, re.deal⟩, ⟨⟨x.mono, fun a o h n => x.keep a o h fun t => n (.inr t.ofBare), x.live, fun a h => ?_, fun a h => ?_, x.dl⟩, rfl, fun i dv h => ⟨dv, h⟩, fun _ _ fs h => ⟨fs, h⟩⟩⟩
  · obtain ⟨v, e1, e2⟩ := r.slot i dv h
    refine ⟨v, e1, ?_⟩
    cases dv with
    | f d => exact RepD.mono x.mono x.dl d v e2
    | o ds =>
      obtain ⟨a, vs, rfl, h2, h3, h4⟩ := e2
      have n := nt (i := i) (a := a) ⟨e1, _, h, rfl⟩
      exact ⟨a, vs, rfl, x.noF h3 h2 n, x.keep a _ h3 n, RepAll.mono x.mono x.dl ds vs h4⟩
    | n k ds =>
      obtain ⟨a, dx, vs, rfl, h2, h3, h4, h5⟩ := e2
      have n := nt (i := i) (a := a) ⟨e1, _, h, rfl⟩
      exact ⟨a, dx, vs, rfl, x.noF h3 h2 n, x.keep a _ h3 n, h4, RepAll.mono x.mono x.dl ds vs h5⟩
    | b j => exact e2
  · have o' : Own c i a := o
    have key : ¬ Touch e a := fun t => by
      rcases x.tch a t with q | q
      · exact nt o' q
      · obtain ⟨u, h1, _⟩ := r.ownH o'
        have q' : c.H a = none := q
        rw [h1] at q'
        cases q'
    exact ⟨fun z => key (.inr ⟨p, hp, .inl z⟩), fun z => key (.inr ⟨p, hp, .inr z⟩)⟩
  · rcases x.newF a h with q | q | q
    · exact .inl q
    · exact .inr (.inl (.inr q.ofBare))
    · exact .inr (.inr q)
  · rcases h with h | h
    · exact .inl (.inl h)
    · rcases x.tch a (.inr h) with q | q
      · exact .inl (.inr q.ofBare)
      · exact .inr q
theorem Rel.back (r : R w c) (x : SStep c.bare e) (rel : Rel w e v dv) (fr : Frs c.H v dv) : Rel w (c.back e) v dv := by
  cases dv with
  | f d => exact rel
  | o ds =>
    obtain ⟨a, vs, rfl, h2, h3, h4, h5⟩ := rel
    obtain ⟨a', q1, q2⟩ := fr
    cases q1
    refine ⟨a, vs, rfl, h2, h3, h4, fun t => ?_⟩
    rcases t with ⟨i, o⟩ | t
    · obtain ⟨u, h1, _⟩ := r.ownH (i := i) (a := a) o
      rw [q2] at h1
      cases h1
    · exact h5 (.inr t)
  | b i =>
    obtain ⟨h, _⟩ := rel
    rw [x.σ] at h
    simp [C.bare] at h
  | n k ds => exact rel
end
/-! ### what a def promises -/
section
variable (w : Wd) (EF : XK → Nat → D → C → Prop)
/-- from the callee's start c (no slots), by the data result r -/
def AftF (c : C) (E : XK) (r : Res DV) (Q : VK) : Prop := match r with
  | .ok dv s => ∀ e : C, e.g = s.g → R w e → SStep c e → Fin w c Q e dv
  | .exc k d s => ∀ e : C, e.g = s.g → R w e → SStep c e → EF E k d e
  | .stuck => False
def spF (φ : List D → G → Res DV) : Sp := fun vs H Q E => ∃ (c : C) (ds : List D), c.σ = [] ∧ c.ρ = [] ∧ c.H = H ∧ R w c ∧ RepAll w c.dl c.F ds vs ∧ AftF w EF c E (φ ds c.g) Q
end
section
variable {w : Wd} {EF : XK → Nat → D → C → Prop} {Ex : Nat → D → C → Prop} {Φ : Fns} {f : Nat} {ds : List D} {c c0 : C} {vs : List V} {Q : VK} {E : XK}
/-- at the caller -/
theorem Aft.call (h : Aft w Ex c0 (callM Φ f ds c.s) (Fin w c0 Q)) (x : SStep c0 c) (r : R w c) (rep : RepAll w c.dl c.F ds vs) (hE : ∀ k d e, Ex k d (c.back e) → EF E k d e) : spF w EF (Φ f) vs c.H Q E := by
  refine ⟨c.bare, ds, rfl, rfl, rfl, r.bare, rep, ?_⟩
  show AftF w EF c.bare E (Φ f ds c.g) Q
  unfold callM at h
  rw [show c.s.g = c.g from rfl] at h
  cases e : Φ f ds c.g with
  | ok dv s =>
    rw [e] at h
    intro e' hg re xe v rel fr
    obtain ⟨r1, x1⟩ := r.back xe.toStep re
    refine h (c.back e') ?_ r1 (x.trans x1) v (Rel.back r xe rel fr) (fr.weak x.live)
    rw [← hg]
    rfl
  | exc k d s =>
    rw [e] at h
    intro e' hg re xe
    obtain ⟨r1, x1⟩ := r.back xe.toStep re
    refine hE k d e' (h (c.back e') ?_ r1 (x.trans x1))
    rw [← hg]
    rfl
  | stuck => rw [e] at h; exact h.elim
end
/-! ### names of defs -/
/-- the name n stands for a def that keeps φ, with p parameters -/
structure DefN (w : Wd) (EF : XK → Nat → D → C → Prop) (CX : CXT) (X : Cx) (n : Str) (ps : List Str) (φ : List D → G → Res DV) (k : Nat) (f : Addr) (fd : FuncData) : Prop where
  ok : FnG X.prog X.w X.K X.mg X.base CX k f fd ps (spF w EF φ)
  room : Room k X.A
  gd : X.A.guards = some []
  gl : Gl X n
  mg : X.mg n = some (.ref f)
  keep : PySem.W.keepIn X.K (.ref f) = true
  bind : Binds X.K fd ps []
  nd : (n == ("__debug__" : Str)) = false
section
variable {w : Wd} {EF : XK → Nat → D → C → Prop} {Ex : Nat → D → C → Prop} {Φ : Fns} {CX : CXT} {X : Cx} {x : Expr} {es : List E} {l : List Expr} {n : Str} {p pos : Pos} {ps : List Str} {i k : Nat} {f : Addr} {fd : FuncData} {E : XK}
theorem j_call (N : DefN w EF CX X n ps (Φ i) k f fd) (hx : Passes CX X E) (hE : ∀ k d c e, Ex k d (C.back c e) → EF E k d e) (hs : PA X (x :: l) (tEs w Ex Φ es)) (hst : starEach (x :: l) X.env = (false, eval x X.env) :: starEach l X.env) (hpl : (backTo pos (starEach l X.env)).any (·.1) = false) :
    PE X (.Call (.Name n p) (x :: l) [] pos) (tE w Ex Φ (.call i es)) :=
  (pe_callG N.ok N.room N.gd N.gl N.mg N.keep N.bind hx hs N.nd hst hpl).imp fun σ H Q h => by
    obtain ⟨c, rfl, rfl, hr, h⟩ := tE_in h
    refine tEs_seq h (SStep.refl c) hr fun c2 vs dvs r2 x2 x02 hσ rels rels0 h3 => ?_
    obtain ⟨ds, c3, hH, r3, x3, rep, h4⟩ := h3.frzs r2 x02 rels0
    rw [← hH, List.append_nil]
    exact h4.call x3 r3 rep fun k d e => hE k d c3 e
theorem j_call0 (N : DefN w EF CX X n ps (Φ i) k f fd) (hx : Passes CX X E) (hE : ∀ k d c e, Ex k d (C.back c e) → EF E k d e) : PE X (.Call (.Name n p) [] [] pos) (tE w Ex Φ (.call i [])) :=
  (pe_call0G N.ok N.room N.gd N.gl N.mg N.keep N.bind hx N.nd).imp fun σ H Q h => by
    obtain ⟨c, rfl, rfl, hr, h⟩ := tE_in h
    exact Aft.call h (SStep.refl c) hr rfl fun k d e => hE k d c e
end
end DI

set_option Elab.async false
set_option linter.all false
set_option maxRecDepth 100000
set_option maxHeartbeats 4000000
/-! DI10: keywords, new instances. Own text. -/
namespace DI
open PySem PySem.Spec PyProof.Rows L2
section
variable {w : Wd} {EF : XK → Nat → D → C → Prop} {Ex : Nat → D → C → Prop} {Φ : Fns} {CX : CXT} {X : Cx} {x : Expr} {a : E} {es : List E} {l : List Expr} {kws : List Keyword} {n : Str} {p pos kpos : Pos} {ps ks : List Str} {i k m : Nat} {f : Addr} {fd : FuncData} {E : XK} {nm : Option Str} {t tk : TA} {sp : Sp}
theorem _root_.L2.PK.imp {t t' : TA} (h : PK X kws t) (f : ∀ σ H Q, t' σ H Q → t σ H Q) : PK X kws t' := ⟨fun pos pins s σ H Q I q => h.run pos pins s σ H Q I (f σ H Q q)⟩
theorem tEs_cons {σ : L2.St} {H : Hp} {Q : List V → Hp → Prop} (h : tEs w Ex Φ (a :: es) σ H Q) : tCons (tE w Ex Φ a) (tEs w Ex Φ es) σ H Q := by
  obtain ⟨c, rfl, rfl, r, h⟩ := h
  refine tE_seq h (SStep.refl c) r fun c2 u du r2 x2 x02 hσ rel fr fr0 h2 => ?_
  rw [← hσ]
  refine tEs_seq h2 x02 r2 fun c3 vs dvs r3 x3 x03 hσ3 rels rels0 h3 => ?_
  refine h3 c3 rfl r3 x03 (u :: vs) ⟨rel.step x3, fr0, fun i v e hv he ho1 ho2 => ?_, rels0⟩
  obtain ⟨v', e1, rl, f⟩ := rels.at_ he
  rw [hv] at e1
  cases e1
  cases du with
  | o ds =>
    obtain ⟨a1, vs1, rfl, q2, q3, _⟩ := rel
    cases e with
    | o es =>
      obtain ⟨a2, rfl, q4⟩ := f
      intro z
      cases z
      rw [q3] at q4
      cases q4
    | _ => cases ho2
  | _ => cases ho1
theorem k_nil : PK X [] (tEs w Ex Φ []) := pk_nil.imp fun σ H Q h => by
  obtain ⟨c, rfl, rfl, r, h⟩ := h
  exact h c rfl r (SStep.refl c) [] trivial
theorem k_cons (ha : PE X x (tE w Ex Φ a)) (hs : PK X kws (tEs w Ex Φ es)) : PK X (⟨nm, x, kpos⟩ :: kws) (tEs w Ex Φ (a :: es)) := (pk_cons ha hs).imp fun σ H Q h => tEs_cons h
/-- values by their places -/
def permL {α : Type} (js : List Nat) (l : List α) : List α := js.filterMap (l[·]?)
theorem permL_vals {vs : List V} {us : List Value} (r : Vals vs us) : ∀ js : List Nat, Vals (permL js vs) (permL js us)
  | [] => .nil
  | j :: js => by
    have ih := permL_vals r js
    unfold permL at ih ⊢
    cases e : vs[j]? with
    | some v =>
      obtain ⟨u, e2, rv⟩ := r.get e
      rw [List.filterMap_cons_some e, List.filterMap_cons_some e2]
      exact .cons rv ih
    | none =>
      have e2 : us[j]? = none := by
        rw [List.getElem?_eq_none_iff] at e ⊢
        rw [← r.length]
        exact e
      rw [List.filterMap_cons_none e, List.filterMap_cons_none e2]
      exact ih
theorem permD_rep {dl : Dl} {F : Hp} {ds : List D} {vs : List V} (r : RepAll w dl F ds vs) : ∀ {js : List Nat} {ds' : List D}, permD js ds = some ds' → RepAll w dl F ds' (permL js vs)
  | [], ds', h => by
    have e : ds' = [] := by
      have h' : some ([] : List D) = some ds' := h
      exact (Option.some.inj h').symm
    subst e
    rfl
  | j :: js, ds', h => by
    have h' : ((ds[j]?).bind fun d => (permD js ds).bind fun r => some (d :: r)) = some ds' := by
      rw [← h]
      show _ = List.mapM _ (j :: js)
      rw [List.mapM_cons]
      rfl
    obtain ⟨d, e1, h2⟩ := Option.bind_eq_some_iff.mp h'
    obtain ⟨r2, e2, h3⟩ := Option.bind_eq_some_iff.mp h2
    cases h3
    obtain ⟨v, e3, rv⟩ := r.get e1
    unfold permL
    rw [List.filterMap_cons_some e3]
    exact ⟨v, _, rfl, rv, permD_rep r e2⟩
/-- the keywords ks of a def with no defaults: the parameters' places in them -/
theorem kbn_of {x qual : Str} {params : Arguments} {body : List Stmt} {scope : Scope} {kws : List (Str × V)} {j : Nat} {js : List Nat} (F : FunD X.K x qual params body scope [] kws f fd)
    (h : ∀ (kV doc pm : Value) (an : Option Addr) (cdv ct : Value) (us ws : List Value), us.length = j → ws.length = ks.length → bindArgs (PySem.W.fnOf x qual params body scope .none kV doc pm an cdv ct) ⟨us, ks.zip ws⟩ = pure (ps.zip (permL js (us ++ ws)))) :
    KBn X.K fd ps j ks (fun us ws => permL js (us ++ ws)) (fun vs zs => permL js (vs ++ zs)) := by
  obtain ⟨oc, od, dV, kV, doc, pm, an, cdv, ct, osl, rfl, lk, hcd, hD, hK⟩ := F.ex
  rcases hD with ⟨_, rfl⟩ | ⟨e, _⟩
  · exact ⟨fun s us ws _ l1 l2 => .of_eq (h kV doc pm an cdv ct us ws l1 l2), fun r1 r2 => permL_vals (r1.append r2) js⟩
  · exact absurd rfl e
theorem Rels.length {H : Hp} {c : C} : ∀ {vs : List V} {ds : List DV}, Rels w H c vs ds → vs.length = ds.length
  | [], [], _ => rfl
  | _ :: _, _ :: _, ⟨_, _, _, h⟩ => congrArg (· + 1) (Rels.length h)
  | [], _ :: _, h => h.elim
  | _ :: _, [], h => h.elim
theorem evs_length : ∀ {es : List DI.E} {s : S} {vs : List DV} {s' : S}, evs w Φ es s = .ok vs s' → vs.length = es.length
  | [], s, vs, s', h => by cases h; rfl
  | e :: es, s, vs, s', h => by
    obtain ⟨v, s1, _, h2⟩ := bnd_ok (show bnd (ev w Φ e) (fun v => bnd (evs w Φ es) fun vs => ret (v :: vs)) s = .ok vs s' from h)
    obtain ⟨vs', s2, h3, h4⟩ := bnd_ok h2
    cases h4
    rw [List.length_cons, List.length_cons, evs_length h3]
def chk (n : Nat) (vs : List DV) : M Unit := fun s => if vs.length = n then .ok () s else .stuck
theorem chk_bnd {β : Type} {es : List DI.E} {f : List DV → M β} : bnd (evs w Φ es) f = bnd (evs w Φ es) fun vs => bnd (chk es.length vs) fun _ => f vs := by
  funext s
  simp only [bnd]
  cases q : evs w Φ es s with
  | ok vs s' => simp only [chk, evs_length q, if_true]
  | exc k d s' => rfl
  | stuck => rfl
theorem chk_in {β : Type} {c0 c : C} {n : Nat} {vs : List DV} {f : M β} {Q : C → β → Prop} (h : Aft w Ex c0 (bnd (chk n vs) (fun _ => f) c.s) Q) : vs.length = n ∧ Aft w Ex c0 (f c.s) Q := by
  simp only [bnd, chk] at h
  by_cases hv : vs.length = n
  · rw [if_pos hv] at h
    exact ⟨hv, h⟩
  · rw [if_neg hv] at h
    exact h.elim
theorem j_callk {js : List Nat} (N : DefN w EF CX X n ps (Φ i) k f fd) (hb : KBn X.K fd ps 0 ks (fun us ws => permL js (us ++ ws)) (fun vs zs => permL js (vs ++ zs))) (hx : Passes CX X E) (hE : ∀ k d c e, Ex k d (C.back c e) → EF E k d e) (hkw : PK X kws (tEs w Ex Φ es)) (hl : es.length = ks.length)
    (hall : (backToKw pos (keywordEach kws X.env)).all (·.1.isSome) = true) (hks : (backToKw pos (keywordEach kws X.env)).filterMap (·.1) = ks)
    (hpl : ((backTo pos (starEach [] X.env)).any (·.1) || (backToKw pos (keywordEach kws X.env)).any (·.1.isNone)) = false) :
    PE X (.Call (.Name n p) [] kws pos) (tE w Ex Φ (.callk i js es)) :=
  (pe_callKw0 N.ok N.room N.gd N.gl N.mg N.keep hb hx hkw hall hks N.nd hpl).imp fun σ H Q h => by
    obtain ⟨c, rfl, rfl, hr, h⟩ := tE_in h
    rw [show ev w Φ (.callk i js es) = _ from chk_bnd (f := fun vs => bnd (frzs vs) fun ds => bnd (opt (permD js ds)) fun ds' => callM Φ i ds')] at h
    show tEs w Ex Φ es c.σ c.H (fun zs H2 => ([] : List V).length = 0 ∧ zs.length = ks.length ∧ spF w EF (Φ i) (permL js ([] ++ zs)) H2 Q E)
    refine tEs_seq h (SStep.refl c) hr fun c2 vs dvs r2 x2 x02 hσ rels rels0 h3 => ?_
    obtain ⟨hv, h3⟩ := chk_in h3
    obtain ⟨ds, c3, hH, r3, x3, rep, h4⟩ := Aft.frzs (f := fun ds => bnd (opt (permD js ds)) fun ds' => callM Φ i ds') h3 r2 x02 rels0
    obtain ⟨ds', e1, h5⟩ := h4.opt
    rw [← hH]
    exact ⟨rfl, by rw [rels.length, hv, hl], h5.call x3 r3 (permD_rep rep e1) fun k d e => hE k d c3 e⟩
end
/-! ### a new instance -/
section
variable (w : Wd) (EF : XK → Nat → D → C → Prop)
def AftI (k0 : Nat) (c : C) (E : XK) (r : Res DV) (Q : VK) : Prop := match r with
  | .ok dv s => ∀ (e : C) (fs : List D), e.g = s.g → R w e → SStep c e → dv = .f (.ins k0 fs) → e.ρ = [some (.n k0 fs)] → fs.length = (w.T.fl k0).length → Q .non e.H
  | .exc k d s => ∀ e : C, e.g = s.g → R w e → Step c e → e.σ = [] → EF E k d e
  | .stuck => False
def spI (k0 : Nat) (φ : List D → G → Res DV) : Sp := fun vs H Q E => ∃ (c : C) (ds : List D) (x : Addr) (us : List V), vs = .ref x :: us ∧ c.σ = [some (.ref x)] ∧ c.ρ = [some (.n k0 [])] ∧ c.H = H ∧ R w c ∧ RepAll w c.dl c.F ds us ∧ AftI w EF k0 c E (φ ds c.g) Q
end
section
variable {w : Wd} {EF : XK → Nat → D → C → Prop} {Ex : Nat → D → C → Prop} {Φ : Fns} {f k0 : Nat} {ds : List D} {c c0 : C} {vs : List V} {Q : VK} {E : XK}
/-- the new object and its dict lie in the heap -/
def C.mk1 (c : C) (x dx C0 : Addr) (k0 : Nat) : C := ⟨c.dl, c.F, upd (upd c.H dx (.own x)) x (.ins C0 dx []), [some (.ref x)], [some (.n k0 [])], c.g⟩
theorem R.mk1 (r : R w c) {x dx : Addr} (hx : c.H x = none) (hd : c.H dx = none) (hn : dx ≠ x) : R w (c.mk1 x dx (w.ca k0) k0) := by
  obtain ⟨r1, x1⟩ := r.bare.lay (p := dx) hd (.own x)
  have hx1 : upd c.H dx (.own x) x = none := by rw [upd_ne (fun z => hn z.symm)]; exact hx
  obtain ⟨r2, x2⟩ := r1.lay (p := x) hx1 (.ins (w.ca k0) dx [])
  have own : ∀ {i : Nat} {a : Addr}, Own (c.mk1 x dx (w.ca k0) k0) i a → i = 0 ∧ a = x := fun {i a} ⟨h1, _⟩ => by
    cases i with
    | zero =>
      have h1' : some (some (V.ref x)) = some (some (V.ref a)) := h1
      cases h1'
      exact ⟨rfl, rfl⟩
    | succ i => simp [C.mk1] at h1
  refine ⟨r2.sub, rfl, fun i dv h => ?_, fun i j a h1 h2 => by rw [(own h1).1, (own h2).1], fun i a p h hp => ?_, r2.deal⟩
  · cases i with
    | zero =>
      have h' : some (some (DV.n k0 [])) = some (some dv) := h
      cases h'
      exact ⟨.ref x, rfl, x, dx, [], rfl, r.noF hx, by rw [show (c.mk1 x dx (w.ca k0) k0).H x = _ from upd_same, List.zip_nil_right], Nat.zero_le _, rfl⟩
    | succ i => simp [C.mk1] at h
  · rw [(own h).2]
    have nt : ¬ Touch c.bare x := R.noT r.bare hx
    exact ⟨fun z => nt (.inr ⟨p, hp, .inl z⟩), fun z => nt (.inr ⟨p, hp, .inr z⟩)⟩
/-- from the end of __init__: the instance is let be -/
theorem back_mk {x dx : Addr} {e : C} {fs : List D} (r : R w c) (hx : c.H x = none) (hd : c.H dx = none) (hn : dx ≠ x) (re : R w e) (xe : SStep (c.mk1 x dx (w.ca k0) k0) e) (hρ : e.ρ = [some (.n k0 fs)]) (hl : fs.length = (w.T.fl k0).length) :
    ∃ c' : C, c'.H = e.H ∧ c'.σ = c.σ ∧ c'.ρ = c.ρ ∧ c'.g = e.g ∧ R w c' ∧ SStep c c' ∧ RepD w c'.dl c'.F (.ins k0 fs) (.ref x) := by
  have hσ : e.σ = [some (.ref x)] := xe.σ
  obtain ⟨v, e1, e2⟩ := re.slot 0 (.n k0 fs) (by rw [hρ]; rfl)
  rw [hσ] at e1
  cases e1
  obtain ⟨a, dx', vs, q1, q2, q3, q4, q5⟩ := e2
  cases q1
  have own0 : Own e 0 x := ⟨by rw [hσ]; rfl, _, by rw [hρ]; rfl, rfl⟩
  have le : Le c.H (c.mk1 x dx (w.ca k0) k0).H := fun a o h => by
    have h1 : a ≠ x := fun z => by rw [z, hx] at h; cases h
    have h2 : a ≠ dx := fun z => by rw [z, hd] at h; cases h
    show upd (upd c.H dx (.own x)) x (.ins (w.ca k0) dx []) a = _
    rw [upd_ne h1, upd_ne h2]
    exact h
  have live : ∀ a, (c.mk1 x dx (w.ca k0) k0).H a = none → c.H a = none := fun a h => by
    cases q : c.H a with
    | none => rfl
    | some o => rw [le a o q] at h; cases h
  have tm : ∀ {a : Addr}, Touch (c.mk1 x dx (w.ca k0) k0) a → a = x ∨ Touch c.bare a := fun {a} h => by
    rcases h with ⟨i, h1, _⟩ | h
    · cases i with
      | zero =>
        have h1' : some (some (V.ref x)) = some (some (V.ref a)) := h1
        cases h1'
        exact .inl rfl
      | succ i => simp [C.mk1] at h1
    · exact .inr (.inr h)
  have leF : Le e.F (upd e.F x (.ins (w.ca k0) dx' ((w.names k0).zip vs))) := le_upd q2
  have re' : R w ⟨e.dl, upd e.F x (.ins (w.ca k0) dx' ((w.names k0).zip vs)), e.H, [], [], e.g⟩ := by
    refine ⟨fun a o h => ?_, rfl, fun i dv h => by simp at h, fun i j a ⟨h, _⟩ => by simp at h, fun i a p ⟨h, _⟩ => by simp at h, ?_⟩
    · by_cases z : a = x
      · subst z
        have h' : upd e.F a _ a = some o := h
        rw [upd_same] at h'
        cases h'
        exact q3
      · have h' : upd e.F x _ a = some o := h
        rw [upd_ne z] at h'
        exact re.sub a o h'
    · refine DealAt.imp re.deal fun p hp => ?_
      obtain ⟨n1, n2⟩ := re.ndeal 0 x p own0 hp
      exact ⟨fun h => (upd_ne (fun z => n1 z.symm)).trans h, fun h => (upd_ne (fun z => n2 z.symm)).trans h, fun o h => h, fun o h => h⟩
  have st : Step c.bare ⟨e.dl, upd e.F x (.ins (w.ca k0) dx' ((w.names k0).zip vs)), e.H, [], [], e.g⟩ := by
    refine ⟨fun a o h => leF a o (xe.mono a o h), fun a o h n => ?_, fun a h => live a (xe.live a h), fun a h => ?_, fun a h => ?_, xe.dl⟩
    · refine xe.keep a o (le a o h) fun t => ?_
      rcases tm t with z | z
      · subst z
        have h' : c.H a = some o := h
        rw [hx] at h'
        cases h'
      · exact n z
    · by_cases z : a = x
      · subst z
        exact .inr (.inr hx)
      · have h' : upd e.F x _ a ≠ none := h
        rw [upd_ne z] at h'
        rcases xe.newF a h' with q | q | q
        · exact .inl q
        · rcases tm q with q | q
          · exact absurd q z
          · exact .inr (.inl q)
        · exact .inr (.inr (live a q))
    · have h' : Touch e a := by
        rcases h with ⟨i, h, _⟩ | h
        · simp at h
        · exact .inr h
      rcases xe.tch a h' with q | q
      · rcases tm q with q | q
        · subst q
          exact .inr hx
        · exact .inl q
      · exact .inr (live a q)
  obtain ⟨r3, x3⟩ := r.back st re'
  exact ⟨c.back ⟨e.dl, upd e.F x (.ins (w.ca k0) dx' ((w.names k0).zip vs)), e.H, [], [], e.g⟩, rfl, rfl, rfl, rfl, r3, x3, x, dx', vs, rfl, upd_same, by rw [q5.length, hl, List.length_map], RepAll.mono leF (DlLe.refl _) fs vs q5⟩
theorem Aft.make (h : Aft w Ex c0 (callM Φ f ds c.s) (Fin w c0 Q)) (x0 : SStep c0 c) (r : R w c) (rep : RepAll w c.dl c.F ds vs) (hE : ∀ k d e, Ex k d (c.back e) → EF E k d e) {x dx : Addr} (hx : c.H x = none) (hd : c.H dx = none) (hn : dx ≠ x) :
    spI w EF k0 (Φ f) (.ref x :: vs) (upd (upd c.H dx (.own x)) x (.ins (w.ca k0) dx [])) (fun v H2 => v = .non ∧ Q (.ref x) H2) E := by
  refine ⟨c.mk1 x dx (w.ca k0) k0, ds, x, vs, rfl, rfl, rfl, rfl, r.mk1 hx hd hn, rep, ?_⟩
  show AftI w EF k0 _ E (Φ f ds c.g) _
  unfold callM at h
  rw [show c.s.g = c.g from rfl] at h
  cases e : Φ f ds c.g with
  | ok dv s =>
    rw [e] at h
    intro e' fs hg re xe hdv hρ hl
    obtain ⟨c', e1, e2, e3, e4, r1, x1, rp⟩ := back_mk r hx hd hn re xe hρ hl
    subst hdv
    refine ⟨rfl, ?_⟩
    rw [← e1]
    refine h c' ?_ r1 (x0.trans x1) (.ref x) rp trivial
    show S.mk c'.ρ c'.g = _
    rw [e3, e4, hg]
    rfl
  | exc k d s =>
    rw [e] at h
    intro e' hg re xe hs
    have hl : e'.ρ = [] := List.eq_nil_of_length_eq_zero (by rw [← re.len, hs]; rfl)
    have le : Le c.H (c.mk1 x dx (w.ca k0) k0).H := fun a o h => by
      have h1 : a ≠ x := fun z => by rw [z, hx] at h; cases h
      have h2 : a ≠ dx := fun z => by rw [z, hd] at h; cases h
      show upd (upd c.H dx (.own x)) x (.ins (w.ca k0) dx []) a = _
      rw [upd_ne h1, upd_ne h2]
      exact h
    have live : ∀ a, (c.mk1 x dx (w.ca k0) k0).H a = none → c.H a = none := fun a h => by
      cases q : c.H a with
      | none => rfl
      | some o => rw [le a o q] at h; cases h
    have tm : ∀ {a : Addr}, Touch (c.mk1 x dx (w.ca k0) k0) a → a = x ∨ Touch c.bare a := fun {a} h => by
      rcases h with ⟨i, h1, _⟩ | h
      · cases i with
        | zero =>
          have h1' : some (some (V.ref x)) = some (some (V.ref a)) := h1
          cases h1'
          exact .inl rfl
        | succ i => simp [C.mk1] at h1
      · exact .inr (.inr h)
    have st : Step c.bare e' := by
      refine ⟨xe.mono, fun a o h n => ?_, fun a h => live a (xe.live a h), fun a h => ?_, fun a h => ?_, xe.dl⟩
      · refine xe.keep a o (le a o h) fun t => ?_
        rcases tm t with z | z
        · subst z
          have h' : c.H a = some o := h
          rw [hx] at h'
          cases h'
        · exact n z
      · rcases xe.newF a h with q | q | q
        · exact .inl q
        · rcases tm q with q | q
          · subst q
            exact .inr (.inr hx)
          · exact .inr (.inl q)
        · exact .inr (.inr (live a q))
      · rcases xe.tch a h with q | q
        · rcases tm q with q | q
          · subst q
            exact .inr hx
          · exact .inl q
        · exact .inr (live a q)
    obtain ⟨r1, x1⟩ := r.back st re
    refine hE k d e' (h (c.back e') ?_ r1 (x0.trans x1))
    show S.mk c.ρ e'.g = _
    rw [hg]
    rfl
  | stuck => rw [e] at h; exact h.elim
end
/-- the name n stands for a class whose __init__ keeps φ -/
structure MakN (w : Wd) (EF : XK → Nat → D → C → Prop) (CX : CXT) (X : Cx) (n : Str) (ps : List Str) (k0 : Nat) (φ : List D → G → Res DV) (k : Nat) (f : Addr) (fd : FuncData) : Prop where
  ok : FnG X.prog X.w X.K X.mg X.base CX k f fd ps (spI w EF k0 φ)
  room : Room (k + 1) X.A
  gd : X.A.guards = some []
  gl : Gl X n
  cl : Mk X.K (w.ca k0) f
  mg : X.mg n = some (.ref (w.ca k0))
  bind : Binds X.K fd ps []
  nd : (n == ("__debug__" : Str)) = false
section
variable {w : Wd} {EF : XK → Nat → D → C → Prop} {Ex : Nat → D → C → Prop} {Φ : Fns} {CX : CXT} {X : Cx} {x : Expr} {es : List E} {l : List Expr} {n : Str} {p pos : Pos} {ps : List Str} {i k k0 : Nat} {f : Addr} {fd : FuncData} {E : XK}
theorem j_make (N : MakN w EF CX X n ps k0 (Φ i) k f fd) (hx : Passes CX X E) (hE : ∀ k d c e, Ex k d (C.back c e) → EF E k d e) (hs : PA X (x :: l) (tEs w Ex Φ es)) (hst : starEach (x :: l) X.env = (false, eval x X.env) :: starEach l X.env) (hpl : (backTo pos (starEach l X.env)).any (·.1) = false) :
    PE X (.Call (.Name n p) (x :: l) [] pos) (tE w Ex Φ (.make i es)) :=
  (pe_makeG N.cl N.ok N.room N.gd N.gl N.mg N.bind hx hs N.nd hst hpl).imp fun σ H Q h => by
    obtain ⟨c, rfl, rfl, hr, h⟩ := tE_in h
    refine tEs_seq h (SStep.refl c) hr fun c2 vs dvs r2 x2 x02 hσ rels rels0 h3 => ?_
    obtain ⟨ds, c3, hH, r3, x3, rep, h4⟩ := h3.frzs r2 x02 rels0
    rw [← hH, List.append_nil]
    exact fun x dx q1 q2 q3 => h4.make x3 r3 rep (fun k d e => hE k d c3 e) q1 q2 q3
end
end DI

set_option Elab.async false
set_option linter.all false
set_option maxRecDepth 100000
set_option maxHeartbeats 4000000
/-! DI11: statements. Own text. -/
namespace DI
open PySem PySem.Spec PyProof.Rows L2
/-- slots may change, but none is forgotten -/
structure LStep (c c' : C) : Prop extends Step c c' where
  pres : ∀ (i : Nat) (dv : DV), c.ρ[i]? = some (some dv) → ∃ dv', c'.ρ[i]? = some (some dv')
  ini : ∀ (i k : Nat) (fs : List D), c'.ρ[i]? = some (some (.n k fs)) → (∃ fs0, c.ρ[i]? = some (some (.n k fs0))) ∧ c'.σ[i]? = c.σ[i]?
theorem SStep.l {c c' : C} (x : SStep c c') : LStep c c' := ⟨x.toStep, x.pres, fun i k fs h => ⟨x.ini i k fs h, by rw [x.σ]⟩⟩
theorem LStep.refl (c : C) : LStep c c := ⟨Step.refl c, fun _ dv h => ⟨dv, h⟩, fun _ _ fs h => ⟨⟨fs, h⟩, rfl⟩⟩
theorem LStep.trans {a b c : C} (x : LStep a b) (y : LStep b c) : LStep a c := ⟨x.toStep.trans y.toStep, fun i dv h => by
  obtain ⟨dv', h'⟩ := x.pres i dv h
  exact y.pres i dv' h', fun i k fs h => by
  obtain ⟨⟨f1, h1⟩, e1⟩ := y.ini i k fs h
  obtain ⟨h2, e2⟩ := x.ini i k f1 h1
  exact ⟨h2, e1.trans e2⟩⟩
section
variable (w : Wd) (Ex : Nat → D → C → Prop)
/-- what a result is to reach; slots may have changed -/
def AftP {α : Type} (c : C) (r : Res α) (Q : C → α → Prop) : Prop := match r with
  | .ok a s => ∀ c', c'.s = s → R w c' → LStep c c' → Q c' a
  | .exc k d s => ∀ c', c'.s = s → R w c' → LStep c c' → Ex k d c'
  | .stuck => False
/-- a list handed back: new since c, or a slot's own at c -/
def FrsT (c : C) (v : V) : DV → Prop
  | .o _ => ∃ a, v = .ref a ∧ (c.H a = none ∨ ∃ i, Own c i a)
  | _ => True
def FlQ (c0 : C) (D : Ends) : C → Fl → Prop := fun c fl => match fl with
  | .nx => D.nx c.σ c.H
  | .bk => D.bk c.σ c.H
  | .ct => D.ct c.σ c.H
  | .rt dv => ∀ v, Rel w c.bare v dv → FrsT c0 v dv → D.rt v c.H
variable (Φ : Fns)
def tS (st : Sm) : TS := fun D σ H => ∃ c, c.σ = σ ∧ c.H = H ∧ R w c ∧ AftP w Ex c (evS w.T Φ st c.s) (FlQ w c D)
def tSs (st : List Sm) : TS := fun D σ H => ∃ c, c.σ = σ ∧ c.H = H ∧ R w c ∧ AftP w Ex c (evSs w.T Φ st c.s) (FlQ w c D)
end
section
variable {w : Wd} {Ex : Nat → D → C → Prop} {Φ : Fns} {α β : Type} {c c0 c1 : C} {r : Res α} {Q Q' : C → α → Prop} {X : Cx} {e : E} {es : List E} {v : V} {dv : DV} {D D' : Ends}
theorem AftP.imp (h : AftP w Ex c r Q) (f : ∀ c' a, R w c' → LStep c c' → Q c' a → Q' c' a) : AftP w Ex c r Q' := by
  cases r with
  | ok a s => exact fun c' e r x => f c' a r x (h c' e r x)
  | exc k d s => exact h
  | stuck => exact h
theorem AftP.base (h : AftP w Ex c0 r Q) (x : LStep c0 c1) : AftP w Ex c1 r Q := by
  cases r with
  | ok a s => exact fun c' e r x' => h c' e r (x.trans x')
  | exc k d s => exact fun c' e r x' => h c' e r (x.trans x')
  | stuck => exact h
theorem AftP.bnd {m : M α} {f : α → M β} {Q : C → β → Prop} (h : AftP w Ex c0 (DI.bnd m f c1.s) Q) (x : LStep c0 c1) : AftP w Ex c1 (m c1.s) fun c2 a => LStep c1 c2 ∧ R w c2 ∧ AftP w Ex c0 (f a c2.s) Q := by
  unfold DI.bnd at h
  cases e : m c1.s with
  | ok a s =>
    rw [e] at h
    intro c2 hs r2 x2
    exact ⟨x2, r2, by rw [hs]; exact h⟩
  | exc k d s =>
    rw [e] at h
    intro c2 hs r2 x2
    exact h c2 hs r2 (x.trans x2)
  | stuck => rw [e] at h; exact h
/-- an expression's part of a statement -/
theorem AftP.expr {m : M α} {f : α → M β} {Q : C → β → Prop} (h : AftP w Ex c0 (DI.bnd m f c1.s) Q) (x : LStep c0 c1) : Aft w Ex c1 (m c1.s) fun c2 a => SStep c1 c2 ∧ R w c2 ∧ AftP w Ex c0 (f a c2.s) Q := by
  unfold DI.bnd at h
  cases e : m c1.s with
  | ok a s =>
    rw [e] at h
    intro c2 hs r2 x2
    exact ⟨x2, r2, by rw [hs]; exact h⟩
  | exc k d s =>
    rw [e] at h
    intro c2 hs r2 x2
    exact h c2 hs r2 (x.trans x2.l)
  | stuck => rw [e] at h; exact h
theorem AftP.ret {a : α} (h : AftP w Ex c0 (DI.ret a c.s) Q) (x : LStep c0 c) (r : R w c) : Q c a := h c rfl r x
theorem AftP.opt {o : Option α} {f : α → M β} {Q : C → β → Prop} (h : AftP w Ex c0 (DI.bnd (opt o) f c.s) Q) : ∃ a, o = some a ∧ AftP w Ex c0 (f a c.s) Q := by
  cases o with
  | none => exact h.elim
  | some a => exact ⟨a, rfl, h⟩
theorem AftP.bool {f : Bool → M β} {Q : C → β → Prop} (h : AftP w Ex c0 (DI.bnd (bool? dv) f c.s) Q) : ∃ i, dv = .f (.bl i) ∧ AftP w Ex c0 (f i c.s) Q := by
  cases dv with
  | f d =>
    cases d with
    | bl i => exact ⟨i, rfl, h⟩
    | _ => exact h.elim
  | _ => exact h.elim
theorem AftP.int {d : DI.D} {f : Int → M β} {Q : C → β → Prop} (h : AftP w Ex c0 (DI.bnd (int? d) f c.s) Q) : ∃ i, d = .int i ∧ AftP w Ex c0 (f i c.s) Q := by
  cases d with
  | int i => exact ⟨i, rfl, h⟩
  | _ => exact h.elim
theorem AftP.look {f : DI.D → M β} {Q : C → β → Prop} (h : AftP w Ex c0 (DI.bnd (DI.look dv) f c.s) Q) (r : R w c) (rel : Rel w c v dv) : ∃ d, Lk w c v d ∧ AftP w Ex c0 (f d c.s) Q := by
  obtain ⟨d, h1, h2⟩ := look_ok r rel rfl (f := f) rfl (fun z => by rw [z] at h; exact h)
  rw [h2] at h
  exact ⟨d, h1, h⟩
/-- c1: where the value's expression began -/
theorem AftP.frz {f : DI.D → M β} {Q : C → β → Prop} (h : AftP w Ex c0 (DI.bnd (DI.frz dv) f c.s) Q) (r : R w c) (x : SStep c1 c) (rel : Rel w c v dv) (fr : Frs c1.H v dv) :
    ∃ d c', c'.H = c.H ∧ R w c' ∧ SStep c1 c' ∧ RepD w c'.dl c'.F d v ∧ Le c.F c'.F ∧ c'.dl = c.dl ∧ Others w c c' v dv ∧ AftP w Ex c0 (f d c'.s) Q := by
  unfold DI.bnd at h
  cases e : DI.frz dv c.s with
  | ok d s' =>
    rw [e] at h
    obtain ⟨c', rfl, hH, r', x', rep, le, hdl, oth⟩ := frz_ok r rel x fr e
    exact ⟨d, c', hH, r', x', rep, le, hdl, oth, h⟩
  | exc k d s => exact (frz_noExc e).elim
  | stuck => rw [e] at h; exact h.elim
theorem tE_seqP {f : DV → M β} {Q : C → β → Prop} {P : VK} (h : AftP w Ex c0 (DI.bnd (ev w Φ e) f c1.s) Q) (x : LStep c0 c1) (r : R w c1)
    (k : ∀ c2 v dv, R w c2 → SStep c1 c2 → LStep c0 c2 → c2.σ = c1.σ → Rel w c2 v dv → Frs c1.H v dv → AftP w Ex c0 (f dv c2.s) Q → P v c2.H) : tE w Ex Φ e c1.σ c1.H P :=
  ⟨c1, rfl, rfl, r, (h.expr x).imp fun c2 dv r2 x2 ⟨_, _, q⟩ v rel fr => k c2 v dv r2 x2 (x.trans x2.l) x2.σ rel fr q⟩
theorem tEs_seqP {f : List DV → M β} {Q : C → β → Prop} {P : List V → Hp → Prop} (h : AftP w Ex c0 (DI.bnd (evs w Φ es) f c1.s) Q) (x : LStep c0 c1) (r : R w c1)
    (k : ∀ c2 vs dvs, R w c2 → SStep c1 c2 → LStep c0 c2 → c2.σ = c1.σ → Rels w c1.H c2 vs dvs → AftP w Ex c0 (f dvs c2.s) Q → P vs c2.H) : tEs w Ex Φ es c1.σ c1.H P :=
  ⟨c1, rfl, rfl, r, (h.expr x).imp fun c2 dv r2 x2 ⟨_, _, q⟩ v rel => k c2 v dv r2 x2 (x.trans x2.l) x2.σ rel q⟩
theorem tT_seqP {f : Bool → M β} {Q : C → β → Prop} {P : Bool → Hp → Prop} (h : AftP w Ex c0 (DI.bnd (ev w Φ e) (fun p => DI.bnd (bool? p) f) c1.s) Q) (x : LStep c0 c1) (r : R w c1)
    (k : ∀ c2 i, R w c2 → SStep c1 c2 → LStep c0 c2 → c2.σ = c1.σ → AftP w Ex c0 (f i c2.s) Q → P i c2.H) : tT w Ex Φ e c1.σ c1.H P := by
  rw [← bnd_assoc] at h
  exact ⟨c1, rfl, rfl, r, (h.expr x).imp fun c2 i r2 x2 ⟨_, _, q⟩ => k c2 i r2 x2 (x.trans x2.l) x2.σ q⟩
theorem FrsT.base (h : FrsT c1 v dv) (r : R w c1) (x : LStep c0 c1) : FrsT c0 v dv := by
  cases dv with
  | o ds =>
    obtain ⟨a, e, h⟩ := h
    refine ⟨a, e, ?_⟩
    rcases h with h | ⟨i, h⟩
    · exact .inl (x.live a h)
    · rcases x.tch a (.inl ⟨i, h⟩) with (q | ⟨p, q1, q2⟩) | q
      · exact .inr q
      · obtain ⟨n1, n2⟩ := r.ndeal i a p h (x.dl p q1)
        rcases q2 with q2 | q2
        · exact absurd q2 n1
        · exact absurd q2 n2
      · exact .inl q
  | _ => trivial
theorem FlQ.base {fl : Fl} (h : FlQ w c0 D c fl) (r : R w c1) (x : LStep c0 c1) : FlQ w c1 D c fl := by
  cases fl with
  | rt dv => exact fun v rel fr => h v rel (fr.base r x)
  | _ => exact h
theorem tSs_go {ss : List Sm} (h : AftP w Ex c0 (evSs w.T Φ ss c1.s) (FlQ w c0 D)) (x : LStep c0 c1) (r : R w c1) : tSs w Ex Φ ss D c1.σ c1.H :=
  ⟨c1, rfl, rfl, r, (h.base x).imp fun _ _ _ _ q => q.base r x⟩
theorem _root_.L2.PS.imp {st : Stmt} {t t' : TS} (h : PS X st t) (f : ∀ D σ H, t' D σ H → t D σ H) : PS X st t' := ⟨fun pins s σ H D I q => h.run pins s σ H D I (f D σ H q)⟩
theorem _root_.L2.PSs.imp {st : List Stmt} {t t' : TS} (h : PSs X st t) (f : ∀ D σ H, t' D σ H → t D σ H) : PSs X st t' := ⟨fun pins s σ H D I q => h.run pins s σ H D I (f D σ H q)⟩
theorem ss_nil : PSs X [] (tSs w Ex Φ []) := pss_nil.imp fun D σ H h => by
  obtain ⟨c, rfl, rfl, r, h⟩ := h
  exact AftP.ret (a := Fl.nx) h (LStep.refl c) r
theorem ss_cons {st : Stmt} {rest : List Stmt} {s : Sm} {ss : List Sm} (h1 : PS X st (tS w Ex Φ s)) (h2 : PSs X rest (tSs w Ex Φ ss)) : PSs X (st :: rest) (tSs w Ex Φ (s :: ss)) := (pss_cons h1 h2).imp fun D σ H h => by
  obtain ⟨c, rfl, rfl, r, h⟩ := h
  refine ⟨c, rfl, rfl, r, (AftP.bnd (m := evS w.T Φ s) (f := fun fl => match fl with | .nx => evSs w.T Φ ss | fl => ret fl) h (LStep.refl c)).imp fun c2 fl r2 x2 ⟨_, _, q⟩ => ?_⟩
  cases fl with
  | nx => exact tSs_go q x2 r2
  | bk => exact AftP.ret (Ex := Ex) (a := Fl.bk) q x2 r2
  | ct => exact AftP.ret (Ex := Ex) (a := Fl.ct) q x2 r2
  | rt dv => exact AftP.ret (Ex := Ex) (a := Fl.rt dv) q x2 r2
section
variable {pos pos' : Pos} {x y : Expr} {a b : E} {st : Stmt} {n : Str} {i : Nat}
theorem s_pass : PS X (.Pass pos) (tS w Ex Φ .pass) := ps_pass.imp fun D σ H h => by
  obtain ⟨c, rfl, rfl, r, h⟩ := h
  exact AftP.ret (a := Fl.nx) h (LStep.refl c) r
theorem s_brk : PS X (.Break pos) (tS w Ex Φ .brk) := ps_break.imp fun D σ H h => by
  obtain ⟨c, rfl, rfl, r, h⟩ := h
  exact AftP.ret (a := Fl.bk) h (LStep.refl c) r
theorem s_cont : PS X (.Continue pos) (tS w Ex Φ .cont) := ps_continue.imp fun D σ H h => by
  obtain ⟨c, rfl, rfl, r, h⟩ := h
  exact AftP.ret (a := Fl.ct) h (LStep.refl c) r
/-- nothing comes here -/
theorem s_never : PS X st (tS w Ex Φ (.expr .nop)) := ps_never.imp fun D σ H h => by
  obtain ⟨c, rfl, rfl, r, h⟩ := h
  exact h.elim
theorem s_expr (ha : PE X x (tE w Ex Φ a)) (hs : swapsWith x none pos.line X.env = pure false) : PS X (.Expr x pos) (tS w Ex Φ (.expr a)) := (ps_expr ha hs).imp fun D σ H h => by
  obtain ⟨c, rfl, rfl, r, h⟩ := h
  exact tE_seqP h (LStep.refl c) r fun c2 v dv r2 _ x2 hσ _ _ q => by
    rw [← hσ]
    exact AftP.ret (a := Fl.nx) q x2 r2
theorem s_retN : PS X (.Return none pos) (tS w Ex Φ .retN) := ps_retN.imp fun D σ H h => by
  obtain ⟨c, rfl, rfl, r, h⟩ := h
  exact AftP.ret (a := Fl.rt (.f .non)) h (LStep.refl c) r .non rfl trivial
/-- a value that a def hands back -/
theorem moveOut_ok {f : DV → M β} {Q : C → β → Prop} (h : AftP w Ex c0 (DI.bnd (moveOut dv) f c.s) Q) (r : R w c) (x : LStep c0 c) (rel : Rel w c v dv) (fr : Frs c0.H v dv) :
    ∃ dv', Rel w c.bare v dv' ∧ FrsT c0 v dv' ∧ AftP w Ex c0 (f dv' c.s) Q := by
  cases dv with
  | f d => exact ⟨.f d, rel, trivial, h⟩
  | o ds =>
    obtain ⟨a, vs, e, h2, h3, h4, h5⟩ := rel
    refine ⟨.o ds, ⟨a, vs, e, h2, h3, h4, fun t => h5 (.inr t.ofBare)⟩, ?_, h⟩
    obtain ⟨a', e', n⟩ := fr
    exact ⟨a', e', .inl n⟩
  | n k ds => exact rel.elim
  | b i =>
    obtain ⟨h1, dv, h2⟩ := rel
    obtain ⟨v', h3, h4⟩ := r.slot i dv h2
    have e : v' = v := by
      rw [h1] at h3
      exact ((Option.some.inj (Option.some.inj h3))).symm
    subst e
    unfold DI.bnd moveOut at h
    simp only [C.s, h2] at h
    cases dv with
    | f d => exact ⟨.f d, h4, trivial, h⟩
    | o ds =>
      obtain ⟨a, vs, e, q2, q3, q4⟩ := h4
      subst e
      have own : Own c i a := ⟨h1, _, h2, rfl⟩
      refine ⟨.o ds, ⟨a, vs, rfl, q2, q3, q4, fun t => ?_⟩, ?_, h⟩
      · obtain ⟨p, e1, e2⟩ := t.ofBare
        obtain ⟨n1, n2⟩ := r.ndeal i a p own e1
        rcases e2 with e2 | e2
        · exact n1 e2
        · exact n2 e2
      · exact FrsT.base (c1 := c) (dv := .o ds) ⟨a, rfl, .inr ⟨i, own⟩⟩ r x
    | n k ds => exact h.elim
    | b j => exact h4.elim
theorem s_ret (ha : PE X x (tE w Ex Φ a)) : PS X (.Return (some x) pos) (tS w Ex Φ (.ret a)) := (ps_ret ha).imp fun D σ H h => by
  obtain ⟨c, rfl, rfl, r, h⟩ := h
  exact tE_seqP h (LStep.refl c) r fun c2 v dv r2 _ x2 hσ rel fr q => by
    obtain ⟨dv', h1, h2, q2⟩ := moveOut_ok q r2 x2 rel fr
    exact AftP.ret (a := Fl.rt dv') q2 x2 r2 v h1 h2
theorem s_if {sa sb : List Sm} {la lb : List Stmt} (hc : PT X x (tT w Ex Φ a)) (ha : PSs X la (tSs w Ex Φ sa)) (hb : PSs X lb (tSs w Ex Φ sb)) : PS X (.If x la lb pos) (tS w Ex Φ (.ifs a sa sb)) := (ps_if hc ha hb).imp fun D σ H h => by
  obtain ⟨c, rfl, rfl, r, h⟩ := h
  refine tT_seqP (f := fun k => if k then evSs w.T Φ sa else evSs w.T Φ sb) h (LStep.refl c) r fun c2 i r2 _ x2 hσ q => ?_
  rw [← hσ]
  cases i with
  | true =>
    rw [if_pos rfl] at q ⊢
    exact tSs_go q x2 r2
  | false =>
    rw [if_neg Bool.false_ne_true] at q ⊢
    exact tSs_go q x2 r2
/-! ### slots -/
theorem R.put {dv : DV} {i : Nat} (r : R w c) (hi : i < c.ρ.length) (sl : Slot w c v dv) (ho : ∀ a, v = .ref a → isOwn dv = true → ¬ Touch c a) :
    R w { c with σ := c.σ.set i (some v), ρ := c.ρ.set i (some dv) } := by
  have hi' : i < c.σ.length := by rw [r.len]; exact hi
  have own : ∀ {j : Nat} {a : Addr}, Own { c with σ := c.σ.set i (some v), ρ := c.ρ.set i (some dv) } j a → (j = i ∧ v = .ref a ∧ isOwn dv = true) ∨ (j ≠ i ∧ Own c j a) := fun {j a} ⟨h1, d, h2, h3⟩ => by
    by_cases z : i = j
    · subst z
      have h1' : (c.σ.set i (some v))[i]? = some (some (.ref a)) := h1
      have h2' : (c.ρ.set i (some dv))[i]? = some (some d) := h2
      rw [List.getElem?_set_self hi'] at h1'
      rw [List.getElem?_set_self hi] at h2'
      cases h1'
      cases h2'
      exact .inl ⟨rfl, rfl, h3⟩
    · have h1' : (c.σ.set i (some v))[j]? = some (some (.ref a)) := h1
      have h2' : (c.ρ.set i (some dv))[j]? = some (some d) := h2
      rw [List.getElem?_set_ne z] at h1' h2'
      exact .inr ⟨fun e => z e.symm, h1', d, h2', h3⟩
  refine ⟨r.sub, by rw [List.length_set, List.length_set]; exact r.len, fun j d h => ?_, fun j k a h1 h2 => ?_, fun j a p h hp => ?_, r.deal⟩
  · by_cases z : i = j
    · subst z
      have h' : (c.ρ.set i (some dv))[i]? = some (some d) := h
      rw [List.getElem?_set_self hi] at h'
      cases h'
      exact ⟨v, List.getElem?_set_self hi', sl⟩
    · have h' : (c.ρ.set i (some dv))[j]? = some (some d) := h
      rw [List.getElem?_set_ne z] at h'
      obtain ⟨u, e1, e2⟩ := r.slot j d h'
      exact ⟨u, (List.getElem?_set_ne z).trans e1, e2⟩
  · rcases own h1 with ⟨e1, q1, q2⟩ | ⟨_, o1⟩
    · rcases own h2 with ⟨e2, _⟩ | ⟨_, o2⟩
      · rw [e1, e2]
      · exact absurd (.inl ⟨k, o2⟩) (ho a q1 q2)
    · rcases own h2 with ⟨e2, q1, q2⟩ | ⟨_, o2⟩
      · exact absurd (.inl ⟨j, o1⟩) (ho a q1 q2)
      · exact r.dist j k a o1 o2
  · rcases own h with ⟨_, q1, q2⟩ | ⟨_, o⟩
    · have nt := ho a q1 q2
      exact ⟨fun z => nt (.inr ⟨p, hp, .inl z⟩), fun z => nt (.inr ⟨p, hp, .inr z⟩)⟩
    · exact r.ndeal j a p o hp
theorem LStep.put {dv : DV} {i : Nat} (x : LStep c0 c) (r : R w c) (hi : i < c.ρ.length) (ho : ∀ a, v = .ref a → isOwn dv = true → c0.H a = none) (hn : ∀ k fs, dv ≠ .n k fs) : LStep c0 { c with σ := c.σ.set i (some v), ρ := c.ρ.set i (some dv) } := by
  have hi' : i < c.σ.length := by rw [r.len]; exact hi
  refine ⟨⟨x.mono, x.keep, x.live, x.newF, fun a t => ?_, x.dl⟩, fun j d h => ?_, fun j k fs h => ?_⟩
  rotate_left
  · obtain ⟨d', h'⟩ := x.pres j d h
    by_cases z : i = j
    · subst z
      exact ⟨dv, List.getElem?_set_self hi⟩
    · exact ⟨d', (List.getElem?_set_ne z).trans h'⟩
  · by_cases z : i = j
    · subst z
      have h' : (c.ρ.set i (some dv))[i]? = some (some (.n k fs)) := h
      rw [List.getElem?_set_self hi] at h'
      cases h'
      exact absurd rfl (hn k fs)
    · have h' : (c.ρ.set i (some dv))[j]? = some (some (.n k fs)) := h
      rw [List.getElem?_set_ne z] at h'
      obtain ⟨q1, q2⟩ := x.ini j k fs h'
      exact ⟨q1, (List.getElem?_set_ne z).trans q2⟩
  rcases t with ⟨j, h1, d, h2, h3⟩ | t
  · by_cases z : i = j
    · subst z
      have h1' : (c.σ.set i (some v))[i]? = some (some (.ref a)) := h1
      have h2' : (c.ρ.set i (some dv))[i]? = some (some d) := h2
      rw [List.getElem?_set_self hi'] at h1'
      rw [List.getElem?_set_self hi] at h2'
      cases h1'
      cases h2'
      exact .inr (ho a rfl h3)
    · have h1' : (c.σ.set i (some v))[j]? = some (some (.ref a)) := h1
      have h2' : (c.ρ.set i (some dv))[j]? = some (some d) := h2
      rw [List.getElem?_set_ne z] at h1' h2'
      exact x.tch a (.inl ⟨j, h1', d, h2', h3⟩)
  · exact x.tch a (.inr t)
theorem setR_out {f : Unit → M β} {Q : C → β → Prop} {dv : DV} {i : Nat} (h : AftP w Ex c0 (DI.bnd (setR i dv) f c.s) Q) : i < c.ρ.length ∧ AftP w Ex c0 (f () { c with ρ := c.ρ.set i (some dv) }.s) Q := by
  unfold DI.bnd at h
  by_cases z : i < c.ρ.length
  · rw [setR_ok z] at h
    exact ⟨z, h⟩
  · rw [show setR i dv c.s = .stuck from if_neg z] at h
    exact h.elim
/-- a value kept in slot i -/
theorem keep_ok {f : Unit → M β} {Q : C → β → Prop} {i : Nat} (h : AftP w Ex c0 (DI.bnd (keep i dv) f c.s) Q) (r : R w c) (x : LStep c0 c) (rel : Rel w c v dv) (fr : Frs c0.H v dv) :
    ∃ c' : C, c'.σ = c.σ.set i (some v) ∧ c'.H = c.H ∧ R w c' ∧ LStep c0 c' ∧ (∀ u e, (∀ j, e ≠ .b j) → (isO dv = true → isO e = true → u ≠ v) → Rel w c u e → Rel w c' u e) ∧ AftP w Ex c0 (f () c'.s) Q := by
  cases dv with
  | f d =>
    obtain ⟨hi, h2⟩ := setR_out h
    refine ⟨{ c with σ := c.σ.set i (some v), ρ := c.ρ.set i (some (.f d)) }, rfl, rfl, r.put hi (v := v) (dv := .f d) rel (fun a _ z => by cases z), x.put r hi (fun a _ z => by cases z) (fun _ _ z => by cases z), fun u e nb _ re => ?_, h2⟩
    cases e with
    | f d' => exact re
    | o ds =>
      obtain ⟨a, vs, q1, q2, q3, q4, q5⟩ := re
      refine ⟨a, vs, q1, q2, q3, q4, fun t => q5 ?_⟩
      rcases t with ⟨j, h1, d2, h2, h3⟩ | t
      · by_cases z : i = j
        · subst z
          have h2' : (c.ρ.set i (some (.f d)))[i]? = some (some d2) := h2
          rw [List.getElem?_set_self hi] at h2'
          cases h2'
          cases h3
        · have h1' : (c.σ.set i (some v))[j]? = some (some (.ref a)) := h1
          have h2' : (c.ρ.set i (some (.f d)))[j]? = some (some d2) := h2
          rw [List.getElem?_set_ne z] at h1' h2'
          exact .inl ⟨j, h1', d2, h2', h3⟩
      · exact .inr t
    | b j => exact absurd rfl (nb j)
    | n k ds => exact re
  | o ds =>
    obtain ⟨a, vs, e, q2, q3, q4, q5⟩ := rel
    subst e
    obtain ⟨a', e', hn⟩ := fr
    cases e'
    obtain ⟨hi, h2⟩ := setR_out h
    refine ⟨{ c with σ := c.σ.set i (some (.ref a)), ρ := c.ρ.set i (some (.o ds)) }, rfl, rfl, r.put hi (v := .ref a) (dv := .o ds) ⟨a, vs, rfl, q2, q3, q4⟩ (fun b z _ => by cases z; exact q5), x.put r hi (fun b z _ => by cases z; exact hn) (fun _ _ z => by cases z), fun u e nb ne re => ?_, h2⟩
    cases e with
    | f d' => exact re
    | o ds' =>
      obtain ⟨b, vs', e1, p2, p3, p4, p5⟩ := re
      subst e1
      refine ⟨b, vs', rfl, p2, p3, p4, fun t => ?_⟩
      rcases t with ⟨j, h1, d2, h2, h3⟩ | t
      · by_cases z : i = j
        · subst z
          have hi' : i < c.σ.length := by rw [r.len]; exact hi
          have h1' : (c.σ.set i (some (V.ref a)))[i]? = some (some (.ref b)) := h1
          rw [List.getElem?_set_self hi'] at h1'
          cases h1'
          exact ne rfl rfl rfl
        · have h1' : (c.σ.set i (some (V.ref a)))[j]? = some (some (.ref b)) := h1
          have h2' : (c.ρ.set i (some (.o ds)))[j]? = some (some d2) := h2
          rw [List.getElem?_set_ne z] at h1' h2'
          exact p5 (.inl ⟨j, h1', d2, h2', h3⟩)
      · exact p5 (.inr t)
    | b j => exact absurd rfl (nb j)
    | n k ds => exact re
  | n k ds => exact rel.elim
  | b j =>
    have h' : AftP w Ex c0 (DI.bnd (DI.frz (.b j)) (fun d => DI.bnd (setR i (.f d)) f) c.s) Q := by
      rw [← bnd_assoc]
      exact h
    obtain ⟨d, c', hH, r', x', rep, le, hdl, oth, h2⟩ := AftP.frz (c1 := c) h' r (SStep.refl c) rel trivial
    obtain ⟨hi, h3⟩ := setR_out h2
    have hσ : c'.σ = c.σ := x'.σ
    refine ⟨{ c' with σ := c'.σ.set i (some v), ρ := c'.ρ.set i (some (.f d)) }, by rw [hσ], hH, r'.put hi (v := v) (dv := .f d) rep (fun a _ z => by cases z), (x.trans x'.l).put r' hi (fun a _ z => by cases z) (fun _ _ z => by cases z), fun u e nb ne re => ?_, h3⟩
    have re' := oth u e re (fun z => by cases z)
    cases e with
    | f d' => exact re'
    | o ds =>
      obtain ⟨a, vs, q1, q2, q3, q4, q5⟩ := re'
      refine ⟨a, vs, q1, q2, q3, q4, fun t => q5 ?_⟩
      rcases t with ⟨j2, h1, d2, h2, h3⟩ | t
      · by_cases z : i = j2
        · subst z
          have h2' : (c'.ρ.set i (some (.f d)))[i]? = some (some d2) := h2
          rw [List.getElem?_set_self hi] at h2'
          cases h2'
          cases h3
        · have h1' : (c'.σ.set i (some v))[j2]? = some (some (.ref a)) := h1
          have h2' : (c'.ρ.set i (some (.f d)))[j2]? = some (some d2) := h2
          rw [List.getElem?_set_ne z] at h1' h2'
          exact .inl ⟨j2, h1', d2, h2', h3⟩
      · exact .inr t
    | b j => exact absurd rfl (nb j)
    | n k ds => exact re'
theorem s_set (hN : X.N.Nodup) (hi : X.N[i]? = some n) (hx : Loc X.env.scope n) (ha : PE X x (tE w Ex Φ a)) (hs : swapsWith x (some (.Name n pos')) pos.line X.env = pure false) (hf : X.fn n = true ∨ X.env.scope.names.lookup n = some .local) :
    PS X (.Assign [.Name n pos'] x pos) (tS w Ex Φ (.set i a)) := (ps_set hN hi hx ha hs hf).imp fun D σ H h => by
  obtain ⟨c, rfl, rfl, r, h⟩ := h
  refine tE_seqP h (LStep.refl c) r fun c2 v dv r2 _ x2 hσ rel fr q => ?_
  obtain ⟨c', e1, e2, r3, x3, _, q2⟩ := keep_ok (f := fun _ => ret Fl.nx) q r2 x2 rel fr
  show D.nx (c.σ.set i (some v)) c2.H
  rw [← hσ, ← e1, ← e2]
  exact AftP.ret (a := Fl.nx) q2 x3 r3
end
end
end DI

set_option Elab.async false
set_option linter.all false
set_option maxRecDepth 100000
set_option maxHeartbeats 4000000
/-! DI12: targets, loops. Own text. -/
namespace DI
open PySem PySem.Spec PyProof.Rows L2
section
variable (w : Wd) (Ex : Nat → D → C → Prop)
def gT (t : Tg) : TG := fun v σ H Q => ∃ (c : C) (d : D), c.σ = σ ∧ c.H = H ∧ R w c ∧ RepD w c.dl c.F d v ∧ AftP w Ex c (asgT t d c.s) fun c' _ => Q c'.σ c'.H
/-- only slots in own change -/
def gO (own : List Nat) (t : Tg) : TG := fun v σ H Q => ∃ (c : C) (d : D), c.σ = σ ∧ c.H = H ∧ R w c ∧ RepD w c.dl c.F d v ∧ AftP w Ex c (asgT t d c.s) fun c' _ => wipe c'.σ own = wipe c.σ own → Q c'.σ c'.H
def gOs (own : List Nat) (ts : List Tg) : TGs := fun vs σ H Q => ∃ (c : C) (ds : List D), c.σ = σ ∧ c.H = H ∧ R w c ∧ RepAll w c.dl c.F ds vs ∧ AftP w Ex c (asgTs ts ds c.s) fun c' _ => wipe c'.σ own = wipe c.σ own → Q c'.σ c'.H
end
section
variable {w : Wd} {Ex : Nat → D → C → Prop} {Φ : Fns} {X : Cx} {x y : Expr} {pos pos' : Pos} {a b : E} {n : Str} {i : Nat} {t : Tg} {ts : List Tg} {l : List Expr} {own : List Nat}
theorem _root_.L2.PG.imp {t t' : TG} (h : PG X x t) (f : ∀ v σ H Q, t' v σ H Q → t v σ H Q) : PG X x t' := ⟨fun pins s σ H v u Q I r q => h.run pins s σ H v u Q I r (f v σ H Q q)⟩
theorem _root_.L2.PGs.imp {t t' : TGs} (h : PGs X l t) (f : ∀ v σ H Q, t' v σ H Q → t v σ H Q) : PGs X l t' := ⟨fun pins s σ H v u Q I r q => h.run pins s σ H v u Q I r (f v σ H Q q)⟩
theorem g_all (h : PG X x (gO w Ex own t)) : PG X x (gT w Ex t) := h.imp fun v σ H Q ⟨c, d, h1, h2, h3, h4, h5⟩ => ⟨c, d, h1, h2, h3, h4, h5.imp fun _ _ _ _ q _ => q⟩
theorem set1 {c : C} {v : V} {d : D} {Q : C → Unit → Prop} (h : AftP w Ex c (setR i (.f d) c.s) Q) (r : R w c) (rep : RepD w c.dl c.F d v) : Q { c with σ := c.σ.set i (some v), ρ := c.ρ.set i (some (.f d)) } () := by
  by_cases z : i < c.ρ.length
  · rw [setR_ok z] at h
    exact h _ rfl (r.put z (v := v) (dv := .f d) rep (fun a _ z => by cases z)) ((LStep.refl c).put r z (fun a _ z => by cases z) (fun _ _ z => by cases z))
  · rw [show setR i (.f d) c.s = .stuck from if_neg z] at h
    exact h.elim
theorem wipe_set {σ : L2.St} {v : Option V} : ∀ {own : List Nat}, i ∈ own → wipe (σ.set i v) own = wipe σ own
  | [], h => by simp at h
  | j :: own, h => by
    unfold wipe
    by_cases z : i ∈ own
    · rw [wipe_set z]
    · have e : i = j := by
        rcases List.mem_cons.mp h with e | e
        · exact e
        · exact absurd e z
      subst e
      rw [wipe_out z, List.set_set]
where
  wipe_out : ∀ {own : List Nat}, i ∉ own → wipe (σ.set i v) own = (wipe σ own).set i v
  | [], _ => rfl
  | j :: own, h => by
    have h1 : i ≠ j := fun e => h (by rw [e]; exact List.mem_cons_self)
    have h2 : i ∉ own := fun e => h (List.mem_cons_of_mem _ e)
    unfold wipe
    rw [wipe_out h2, List.set_comm _ _ h1]
theorem g_nm (hN : X.N.Nodup) (hi : X.N[i]? = some n) (hx : Loc X.env.scope n) (hf : X.fn n = true ∨ X.env.scope.names.lookup n = some .local) (ho : i ∈ own) : PG X (.Name n pos) (gO w Ex own (.nm i)) := (pg_name hN hi hx hf).imp fun v σ H Q h => by
  obtain ⟨c, d, rfl, rfl, r, rep, h⟩ := h
  exact set1 h r rep (wipe_set ho)
theorem gs_nil : PGs X [] (gOs w Ex own []) := pgs_nil.imp fun vs σ H Q h => by
  obtain ⟨c, ds, rfl, rfl, r, rep, h⟩ := h
  cases ds with
  | nil => exact ⟨rep, AftP.ret (a := ()) h (LStep.refl c) r rfl⟩
  | cons d ds => exact h.elim
theorem gs_cons (h1 : PG X x (gO w Ex own t)) (h2 : PGs X l (gOs w Ex own ts)) (hs : (assignEach (x :: l) X.env).map (·.2) = assign x X.env :: (assignEach l X.env).map (·.2)) : PGs X (x :: l) (gOs w Ex own (t :: ts)) := (pgs_cons h1 h2 hs).imp fun vs σ H Q h => by
  obtain ⟨c, ds, rfl, rfl, r, rep, h⟩ := h
  cases ds with
  | nil => exact h.elim
  | cons d ds =>
    obtain ⟨v, us, rfl, r1, r2⟩ := rep
    refine ⟨v, us, rfl, c, d, rfl, rfl, r, r1, (AftP.bnd (m := asgT t d) (f := fun _ => asgTs ts ds) h (LStep.refl c)).imp fun c2 _ r3 x3 ⟨_, _, q⟩ hw => ?_⟩
    exact ⟨c2, ds, rfl, rfl, r3, RepAll.step x3.toStep r2, (q.base x3).imp fun c3 _ _ _ q3 hw3 => q3 (hw3.trans hw)⟩
theorem asgTs_len : ∀ {ts : List Tg} {ds : List D} {s : S}, asgTs ts ds s ≠ .stuck → ds.length = ts.length
  | [], [], _, _ => rfl
  | [], _ :: _, s, h => absurd rfl h
  | _ :: _, [], s, h => absurd rfl h
  | t :: ts, d :: ds, s, h => by
    have h' : bnd (asgT t d) (fun _ => asgTs ts ds) s ≠ .stuck := h
    unfold bnd at h'
    cases e : asgT t d s with
    | ok u s' =>
      rw [e] at h'
      rw [List.length_cons, List.length_cons, asgTs_len (s := s') h']
    | exc k d s' => exact absurd e (asgT_noExc _ _ _ _ _ _)
    | stuck => rw [e] at h'; exact absurd rfl h'
where
  asgT_noExc : ∀ (t : Tg) (d : D) (s : S) k e s', asgT t d s ≠ .exc k e s'
    | .nm i, d, s, k, e, s' => by
      show setR i (.f d) s ≠ _
      unfold setR
      split <;> (intro z; cases z)
    | .tp ts, .tup ds, s, k, e, s' => asgTs_noExc ts ds s k e s'
    | .tp ts, .non, s, k, e, s' => fun z => by cases z
    | .tp ts, .bl _, s, k, e, s' => fun z => by cases z
    | .tp ts, .int _, s, k, e, s' => fun z => by cases z
    | .tp ts, .str _, s, k, e, s' => fun z => by cases z
    | .tp ts, .lst _, s, k, e, s' => fun z => by cases z
    | .tp ts, .ins _ _, s, k, e, s' => fun z => by cases z
    | .tp ts, .deal, s, k, e, s' => fun z => by cases z
    | .tp ts, .scr _, s, k, e, s' => fun z => by cases z
  asgTs_noExc : ∀ (ts : List Tg) (ds : List D) (s : S) k e s', asgTs ts ds s ≠ .exc k e s'
    | [], [], s, k, e, s' => fun z => by cases z
    | [], _ :: _, s, k, e, s' => fun z => by cases z
    | _ :: _, [], s, k, e, s' => fun z => by cases z
    | t :: ts, d :: ds, s, k, e, s' => fun z => by
      rcases bnd_exc (show bnd (asgT t d) (fun _ => asgTs ts ds) s = _ from z) with h | ⟨_, s1, _, h⟩
      · exact asgT_noExc t d _ _ _ _ h
      · exact asgTs_noExc ts ds _ _ _ _ h
theorem AftP.ne {α : Type} {c : C} {r : Res α} {Q : C → α → Prop} (h : AftP w Ex c r Q) : r ≠ .stuck := fun z => by rw [z] at h; exact h
theorem g_tp {k : Nat} (hK : X.K = w.K) (hc : X.calm = true) (h : PGs X l (gOs w Ex own ts)) (hn : (assignEach l X.env).length = ts.length) (hst : (assignEach l X.env).findIdx? (·.1) = none) : PG X (.Tuple l k pos) (gO w Ex own (.tp ts)) :=
  (pg_tup hc h hn hst).imp fun v σ H Q h => by
    obtain ⟨c, d, rfl, rfl, r, rep, h⟩ := h
    cases d with
    | tup ds =>
      obtain ⟨a, us, rfl, s1, r1⟩ := rep
      refine ⟨a, us, rfl, by rw [hK]; exact r.sub.sqT s1, ?_, c, ds, rfl, rfl, r, r1, h⟩
      rw [r1.length]
      exact asgTs_len (AftP.ne h)
    | _ => exact h.elim
end
/-! ### what a loop walks -/
structure Src (w : Wd) (c0 : C) (J : It) (ds : List D) : Prop where
  go : ∀ c, R w c → Le c0.F c.F → DlLe c0.dl c.dl → ∀ (i : Nat) (d : D), ds[i]? = some d → J.go i c.H ∧ ∀ x H', J.yld i c.H x H' → ∃ c' : C, c'.H = H' ∧ c'.s = c.s ∧ R w c' ∧ SStep c c' ∧ RepD w c'.dl c'.F d x
  stop : ∀ c, R w c → Le c0.F c.F → ∀ i : Nat, ds.length ≤ i → J.stop i c.H
section
variable {w : Wd} {Ex : Nat → D → C → Prop} {Φ : Fns} {X : Cx} {c0 : C} {a b : Addr} {us vs : List V} {ds es : List D}
theorem src_list (hF : SqL w.K c0.F a us) (rep : RepAll w c0.dl c0.F ds us) : Src w c0 (Itl w.K a) ds where
  go := fun c r le ld i d hd => by
    have hq : SqL w.K c.H a us := r.sub.sqL (le.sqL hF)
    obtain ⟨v, e1, e2⟩ := rep.get hd
    refine ⟨⟨us, v, hq, e1⟩, fun x H' ⟨e, hx⟩ => ?_⟩
    subst e
    have e3 := hx us hq
    rw [e1] at e3
    cases e3
    exact ⟨c, rfl, rfl, r, SStep.refl c, RepD.mono le ld d v e2⟩
  stop := fun c r le i hi => ⟨us, r.sub.sqL (le.sqL hF), by rw [rep.length]; exact hi⟩
theorem src_tup (hF : SqT w.K c0.F a us) (rep : RepAll w c0.dl c0.F ds us) : Src w c0 (Itt w.K a) ds where
  go := fun c r le ld i d hd => by
    have hq : SqT w.K c.H a us := r.sub.sqT (le.sqT hF)
    obtain ⟨v, e1, e2⟩ := rep.get hd
    refine ⟨⟨us, v, hq, e1⟩, fun x H' ⟨e, hx⟩ => ?_⟩
    subst e
    have e3 := hx us hq
    rw [e1] at e3
    cases e3
    exact ⟨c, rfl, rfl, r, SStep.refl c, RepD.mono le ld d v e2⟩
  stop := fun c r le i hi => ⟨us, r.sub.sqT (le.sqT hF), by rw [rep.length]; exact hi⟩
theorem src_rng {i j : Int} : Src w c0 (Itr i (j - i).toNat) (rngI i j) where
  go := fun c r le ld k d hd => by
    unfold rngI at hd
    rw [List.getElem?_map] at hd
    obtain ⟨k', e1, e2⟩ := Option.map_eq_some_iff.mp hd
    obtain ⟨hk, e3⟩ := List.getElem?_eq_some_iff.mp e1
    rw [List.length_range] at hk
    rw [List.getElem_range] at e3
    subst e3
    subst e2
    exact ⟨hk, fun x H' ⟨e, hx⟩ => ⟨c, e.symm, rfl, r, SStep.refl c, hx⟩⟩
  stop := fun c r le k hk => by
    unfold rngI at hk
    rw [List.length_map, List.length_range] at hk
    exact hk
/-- a new pair is yielded -/
theorem yldPair {c : C} {T : Addr} {d1 d2 : D} {x y : V} (r : R w c) (hT : c.H T = none) (h1 : RepD w c.dl c.F d1 x) (h2 : RepD w c.dl c.F d2 y) : ∃ c' : C, c'.H = upd c.H T (.tup [x, y]) ∧ c'.s = c.s ∧ R w c' ∧ SStep c c' ∧ RepD w c'.dl c'.F (.tup [d1, d2]) (.ref T) := by
  obtain ⟨r', x'⟩ := r.layF hT (.tup [x, y])
  have le : Le c.F (upd c.F T (.tup [x, y])) := le_upd (r.noF hT)
  exact ⟨{ c with H := upd c.H T (.tup [x, y]), F := upd c.F T (.tup [x, y]) }, rfl, rfl, r', x', T, [x, y], rfl, SqT.of upd_same, x, [y], rfl, RepD.mono le (DlLe.refl _) _ _ h1, y, [], rfl, RepD.mono le (DlLe.refl _) _ _ h2, rfl⟩
theorem zipIdx_get {ds : List D} {i : Nat} {d : D} (h : ((ds.zipIdx).map fun p => D.tup [.int p.2, p.1])[i]? = some d) : ∃ y, ds[i]? = some y ∧ d = .tup [.int (i : Nat), y] := by
  rw [List.getElem?_map, List.getElem?_zipIdx] at h
  cases e : ds[i]? with
  | none => rw [e] at h; simp at h
  | some y => rw [e] at h; simp at h; exact ⟨y, rfl, h.symm⟩
theorem src_enum (hF : SqL w.K c0.F a us) (rep : RepAll w c0.dl c0.F ds us) : Src w c0 (Ite w.K a) ((ds.zipIdx).map fun p => .tup [.int p.2, p.1]) where
  go := fun c r le ld i d hd => by
    have hq : SqL w.K c.H a us := r.sub.sqL (le.sqL hF)
    obtain ⟨y, hy, rfl⟩ := zipIdx_get hd
    obtain ⟨v, e1, e2⟩ := rep.get hy
    refine ⟨⟨us, v, hq, e1⟩, fun x H' ⟨T, z, q1, q2, q3, q4⟩ => ?_⟩
    have e3 := q4 us hq
    rw [e1] at e3
    cases e3
    subst q1
    subst q3
    exact yldPair r q2 rfl (RepD.mono le ld y v e2)
  stop := fun c r le i hi => ⟨us, r.sub.sqL (le.sqL hF), by rw [rep.length]; simpa using hi⟩
theorem zip_get {ds es : List D} {i : Nat} {d : D} (h : ((ds.zip es).map fun p => D.tup [p.1, p.2])[i]? = some d) : ∃ y z, ds[i]? = some y ∧ es[i]? = some z ∧ d = .tup [y, z] := by
  rw [List.getElem?_map] at h
  obtain ⟨p, e1, e2⟩ := Option.map_eq_some_iff.mp h
  obtain ⟨q1, q2⟩ := List.getElem?_zip_eq_some.mp e1
  exact ⟨p.1, p.2, q1, q2, e2.symm⟩
theorem src_zip (hF : SqL w.K c0.F a us) (rep : RepAll w c0.dl c0.F ds us) (hG : SqL w.K c0.F b vs) (rep2 : RepAll w c0.dl c0.F es vs) : Src w c0 (Itz w.K a b) ((ds.zip es).map fun p => .tup [p.1, p.2]) where
  go := fun c r le ld i d hd => by
    have hq : SqL w.K c.H a us := r.sub.sqL (le.sqL hF)
    have hq2 : SqL w.K c.H b vs := r.sub.sqL (le.sqL hG)
    obtain ⟨y, z, hy, hz, rfl⟩ := zip_get hd
    obtain ⟨v, e1, e2⟩ := rep.get hy
    obtain ⟨u, f1, f2⟩ := rep2.get hz
    refine ⟨⟨us, vs, v, u, hq, hq2, e1, f1⟩, fun x H' ⟨T, p, q, q1, q2, q3, q4, q5⟩ => ?_⟩
    have e3 := q4 us hq
    have f3 := q5 vs hq2
    rw [e1] at e3
    rw [f1] at f3
    cases e3
    cases f3
    subst q1
    subst q3
    exact yldPair r q2 (RepD.mono le ld y v e2) (RepD.mono le ld z u f2)
  stop := fun c r le i hi => ⟨us, vs, r.sub.sqL (le.sqL hF), r.sub.sqL (le.sqL hG), by rw [rep.length, rep2.length]; simp at hi; omega⟩
theorem src_zipT (hF : SqT w.K c0.F a us) (rep : RepAll w c0.dl c0.F ds us) (hG : SqT w.K c0.F b vs) (rep2 : RepAll w c0.dl c0.F es vs) : Src w c0 (RZ.ItzT w.K a b) ((ds.zip es).map fun p => .tup [p.1, p.2]) where
  go := fun c r le ld i d hd => by
    have hq : SqT w.K c.H a us := r.sub.sqT (le.sqT hF)
    have hq2 : SqT w.K c.H b vs := r.sub.sqT (le.sqT hG)
    obtain ⟨y, z, hy, hz, rfl⟩ := zip_get hd
    obtain ⟨v, e1, e2⟩ := rep.get hy
    obtain ⟨u, f1, f2⟩ := rep2.get hz
    refine ⟨⟨us, vs, v, u, hq, hq2, e1, f1⟩, fun x H' ⟨T, p, q, q1, q2, q3, q4, q5⟩ => ?_⟩
    have e3 := q4 us hq
    have f3 := q5 vs hq2
    rw [e1] at e3
    rw [f1] at f3
    cases e3
    cases f3
    subst q1
    subst q3
    exact yldPair r q2 (RepD.mono le ld y v e2) (RepD.mono le ld z u f2)
  stop := fun c r le i hi => ⟨us, vs, r.sub.sqT (le.sqT hF), r.sub.sqT (le.sqT hG), by rw [rep.length, rep2.length]; simp at hi; omega⟩
end
def srcP (w : Wd) (Φ : Fns) (k : ItK) (a b : E) : M (List D) := bnd (ev w Φ a) fun x => bnd (srcM b (ev w Φ b)) fun y => bnd (frz x) fun dx => bnd (frz y) fun dy => opt (itemsD k dx dy)
def tI (w : Wd) (Ex : Nat → D → C → Prop) (Φ : Fns) (k : ItK) (a b : E) : TI := fun σ H Q => ∃ c, c.σ = σ ∧ c.H = H ∧ R w c ∧ Aft w Ex c (srcP w Φ k a b c.s) fun c' ds => ∀ J, Src w c' J ds → Q J c'.H
section
variable {w : Wd} {Ex : Nat → D → C → Prop} {Φ : Fns} {X : Cx} {x y tg iter : Expr} {pos pos' : Pos} {a b : E} {n : Str} {i : Nat} {t : Tg} {ts : List Tg} {l : List Expr} {k : ItK} {ss : List Sm} {body : List Stmt}
theorem ev_for : evS w.T Φ (.for t k a b ss) = bnd (srcP w Φ k a b) fun ds => forGo (asgT t) (evSs w.T Φ ss) ds := by
  show bnd (ev w Φ a) _ = _
  unfold srcP
  simp only [bnd_assoc]
/-- behind a loop's turn -/
theorem fl_turn {c0 c : C} {D : Ends} {m : M Fl} {N : L2.St → Hp → Prop} (r : R w c) (x : LStep c0 c) (h : AftP w Ex c0 (bnd (evSs w.T Φ ss) (fun fl => match fl with | .nx => m | .ct => m | .bk => ret Fl.nx | .rt v => ret (Fl.rt v)) c.s) (FlQ w c0 D))
    (hN : ∀ c' : C, R w c' → LStep c c' → AftP w Ex c0 (m c'.s) (FlQ w c0 D) → N c'.σ c'.H) : tSs w Ex Φ ss { D with nx := N, ct := N, bk := D.nx } c.σ c.H := by
  refine ⟨c, rfl, rfl, r, (AftP.bnd h x).imp fun c2 fl r2 x2 ⟨_, _, q⟩ => ?_⟩
  cases fl with
  | nx => exact hN c2 r2 x2 q
  | ct => exact hN c2 r2 x2 q
  | bk => exact AftP.ret (Ex := Ex) (a := Fl.nx) q (x.trans x2) r2
  | rt dv => exact FlQ.base (fl := .rt dv) (AftP.ret (Ex := Ex) (a := Fl.rt dv) q (x.trans x2) r2) r x
theorem s_for (hp : PassesOwn (model X.prog X.w) X.A X.env X.xe) (hc : X.calm = true) (hi : PI X tg iter (tI w Ex Φ k a b)) (hg : PG X tg (gT w Ex t)) (hb : PSs X body (tSs w Ex Φ ss)) (hs : ∀ x, foldedSetIterable iter X.env x = pure x) :
    PS X (.For tg iter body [] pos) (tS w Ex Φ (.for t k a b ss)) := (ps_for hp hc hi hg hb hs).imp fun D σ H h => by
  obtain ⟨c, rfl, rfl, r, h⟩ := h
  rw [ev_for] at h
  refine ⟨c, rfl, rfl, r, (h.expr (LStep.refl c)).imp fun c2 ds r2 x2 ⟨_, _, q⟩ J src => ?_⟩
  have hσ : c2.σ = c.σ := x2.σ
  rw [← hσ]
  refine ⟨fun i m σ H => ∃ c' : C, c'.σ = σ ∧ c'.H = H ∧ R w c' ∧ LStep c c' ∧ Le c2.F c'.F ∧ DlLe c2.dl c'.dl ∧ m = ds.length - i ∧ AftP w Ex c (forGo (asgT t) (evSs w.T Φ ss) (ds.drop i) c'.s) (FlQ w c D), ⟨ds.length, c2, rfl, rfl, r2, x2.l, Le.refl _, DlLe.refl _, rfl, q⟩, ?_⟩
  rintro i m σ H ⟨c', rfl, rfl, r', x', le, ld, hm, q'⟩
  cases e : ds[i]? with
  | none =>
    have hi := List.getElem?_eq_none_iff.mp e
    rw [List.drop_eq_nil_of_le hi] at q'
    exact .inl ⟨src.stop c' r' le i hi, AftP.ret (Ex := Ex) (a := Fl.nx) q' x' r'⟩
  | some d =>
    obtain ⟨hi, he⟩ := List.getElem?_eq_some_iff.mp e
    rw [List.drop_eq_getElem_cons hi, he] at q'
    obtain ⟨g1, g2⟩ := src.go c' r' le ld i d e
    refine .inr ⟨g1, fun σ H => ∃ c3 : C, c3.σ = σ ∧ c3.H = H ∧ R w c3 ∧ LStep c c3 ∧ Le c2.F c3.F ∧ DlLe c2.dl c3.dl ∧ AftP w Ex c (forGo (asgT t) (evSs w.T Φ ss) (ds.drop (i + 1)) c3.s) (FlQ w c D), fun σ' H' ⟨c3, e1, e2, r3, x3, le3, ld3, q3⟩ => ⟨ds.length - (i + 1), by omega, c3, e1, e2, r3, x3, le3, ld3, rfl, q3⟩, fun x H' hy => ?_⟩
    obtain ⟨c4, e1, e2, r4, x4, rp⟩ := g2 x H' hy
    subst e1
    rw [← e2] at q'
    have hσ4 : c4.σ = c'.σ := x4.σ
    rw [← hσ4]
    have st4 := x'.trans x4.l
    refine ⟨c4, d, rfl, rfl, r4, rp, (AftP.bnd (m := asgT t d) q' st4).imp fun c5 _ r5 x5 ⟨_, _, q5⟩ => ?_⟩
    refine fl_turn r5 (st4.trans x5) q5 fun c6 r6 x6 q6 => ?_
    have st6 := (x4.l.trans x5).trans x6
    exact ⟨c6, rfl, rfl, r6, x'.trans st6, le.trans st6.mono, fun p hp => st6.dl p (ld p hp), q6⟩
theorem s_while (hp : PassesOwn (model X.prog X.w) X.A X.env X.xe) (hc : PT X x (tT w Ex Φ a)) (hb : PSs X body (tSs w Ex Φ ss)) : PS X (.While x body [] pos) (tS w Ex Φ (.while a ss)) := (ps_while hp hc hb).imp fun D σ H h => by
  obtain ⟨c, rfl, rfl, r, h⟩ := h
  refine ⟨fun m σ H => ∃ c' : C, c'.σ = σ ∧ c'.H = H ∧ R w c' ∧ LStep c c' ∧ AftP w Ex c (whileGo (bnd (ev w Φ a) bool?) (evSs w.T Φ ss) m c'.s) (FlQ w c D), ⟨FU, c, rfl, rfl, r, LStep.refl c, h⟩, ?_⟩
  rintro m σ H ⟨c', rfl, rfl, r', x', q⟩
  cases m with
  | zero => exact q.elim
  | succ m =>
    have q' : AftP w Ex c (bnd (ev w Φ a) (fun p => bnd (bool? p) fun k => if k then bnd (evSs w.T Φ ss) fun fl => match fl with
      | .nx => whileGo (bnd (ev w Φ a) bool?) (evSs w.T Φ ss) m
      | .ct => whileGo (bnd (ev w Φ a) bool?) (evSs w.T Φ ss) m
      | .bk => ret Fl.nx
      | .rt v => ret (Fl.rt v) else ret Fl.nx) c'.s) (FlQ w c D) := by
      rw [← bnd_assoc]
      exact q
    refine tT_seqP q' x' r' fun c2 k r2 _ x2 hσ q2 => ?_
    cases k with
    | true =>
      rw [if_pos rfl] at q2 ⊢
      refine ⟨fun σ H => ∃ c' : C, c'.σ = σ ∧ c'.H = H ∧ R w c' ∧ LStep c c' ∧ AftP w Ex c (whileGo (bnd (ev w Φ a) bool?) (evSs w.T Φ ss) m c'.s) (FlQ w c D), fun σ' H' h' => ⟨m, Nat.lt_succ_self m, h'⟩, ?_⟩
      rw [← hσ]
      exact fl_turn r2 x2 q2 fun c3 r3 x3 q3 => ⟨c3, rfl, rfl, r3, x2.trans x3, q3⟩
    | false =>
      rw [if_neg Bool.false_ne_true] at q2 ⊢
      rw [← hσ]
      exact AftP.ret (Ex := Ex) (a := Fl.nx) q2 x2 r2
end
end DI

set_option Elab.async false
set_option linter.all false
set_option maxRecDepth 100000
set_option maxHeartbeats 4000000
/-! DI13: list comprehensions. Own text. -/
namespace DI
open PySem PySem.Spec PyProof.Rows L2
section
variable {w : Wd} {Ex : Nat → D → C → Prop} {c c' cw : C} {vs : List Nat}
theorem wipeR_length (r : List (Option DV)) : ∀ vs, (wipeR r vs).length = r.length
  | [] => rfl
  | i :: is => by unfold wipeR; rw [List.length_set, wipeR_length r is]
theorem wipeR_some {r : List (Option DV)} {i : Nat} {x : DV} : ∀ {vs : List Nat}, (wipeR r vs)[i]? = some (some x) → r[i]? = some (some x) ∧ i ∉ vs
  | [], h => ⟨h, by simp⟩
  | v :: vs, h => by
    unfold wipeR at h
    by_cases hi : v = i
    · subst hi
      by_cases hv : v < (wipeR r vs).length
      · rw [List.getElem?_set_self hv] at h; cases h
      · rw [List.getElem?_eq_none (by simpa using hv)] at h; cases h
    · rw [List.getElem?_set_ne hi] at h
      obtain ⟨h1, h2⟩ := wipeR_some h
      exact ⟨h1, fun z => (List.mem_cons.mp z).elim (fun e => hi e.symm) h2⟩
theorem wipeR_keep {r : List (Option DV)} {i : Nat} : ∀ {vs : List Nat}, i ∉ vs → (wipeR r vs)[i]? = r[i]?
  | [], _ => rfl
  | v :: vs, h => by
    unfold wipeR
    rw [List.getElem?_set_ne (fun e => h (by rw [e]; exact List.mem_cons_self)), wipeR_keep fun z => h (List.mem_cons_of_mem _ z)]
theorem wipe_keep {r : L2.St} {i : Nat} : ∀ {vs : List Nat}, i ∉ vs → (wipe r vs)[i]? = r[i]?
  | [], _ => rfl
  | v :: vs, h => by
    unfold wipe
    rw [List.getElem?_set_ne (fun e => h (by rw [e]; exact List.mem_cons_self)), wipe_keep fun z => h (List.mem_cons_of_mem _ z)]
theorem wipe_wipe (σ : L2.St) : ∀ own own2 : List Nat, (∀ i ∈ own2, i ∈ own) → wipe (wipe σ own2) own = wipe σ own
  | own, [], _ => rfl
  | own, i :: is, h => by
    rw [show wipe σ (i :: is) = (wipe σ is).set i none from rfl, wipe_set (h i List.mem_cons_self)]
    exact wipe_wipe σ own is fun j hj => h j (List.mem_cons_of_mem _ hj)
theorem wipe2 (σ : L2.St) (own : List Nat) : wipe (wipe σ own) own = wipe σ own := wipe_wipe σ own own fun _ h => h
def C.wipe (c : C) (vs : List Nat) : C := ⟨c.dl, c.F, c.H, L2.wipe c.σ vs, wipeR c.ρ vs, c.g⟩
theorem own_wipe {i : Nat} {a : Addr} (h : Own (c.wipe vs) i a) : Own c i a ∧ i ∉ vs := by
  obtain ⟨h1, dv, h2, h3⟩ := h
  obtain ⟨q1, q2⟩ := wipeR_some h2
  exact ⟨⟨(wipe_some h1).1, dv, q1, h3⟩, q2⟩
theorem touch_wipe {a : Addr} (h : Touch (c.wipe vs) a) : Touch c a := by
  rcases h with ⟨i, h⟩ | h
  · exact .inl ⟨i, (own_wipe h).1⟩
  · exact .inr h
theorem R.wipe (r : R w c) : R w (c.wipe vs) where
  sub := r.sub
  len := by
    show (L2.wipe c.σ vs).length = (wipeR c.ρ vs).length
    rw [wipe_length, wipeR_length]
    exact r.len
  slot := fun i dv h => by
    obtain ⟨q1, q2⟩ := wipeR_some h
    obtain ⟨v, e1, e2⟩ := r.slot i dv q1
    exact ⟨v, (wipe_keep q2).trans e1, e2⟩
  dist := fun i j a h1 h2 => r.dist i j a (own_wipe h1).1 (own_wipe h2).1
  ndeal := fun i a p h hp => r.ndeal i a p (own_wipe h).1 hp
  deal := r.deal
theorem Step.wipe (c : C) (vs : List Nat) : Step c (c.wipe vs) := ⟨Le.refl _, fun _ _ h _ => h, fun _ h => h, fun _ h => .inl h, fun _ h => .inl (touch_wipe h), DlLe.refl _⟩
/-- an object of nobody's is written -/
theorem R.upd {a : Addr} {o : HO} (r : R w c) (hF : c.F a = none) (hT : ¬ Touch c a) : R w { c with H := L2.upd c.H a o } where
  sub := fun b u h => by
    have z : b ≠ a := fun z => by
      have h' : c.F b = some u := h
      rw [z, hF] at h'
      cases h'
    exact (upd_ne z).trans (r.sub b u h)
  len := r.len
  slot := fun i dv h => by
    obtain ⟨v, e1, e2⟩ := r.slot i dv h
    refine ⟨v, e1, ?_⟩
    cases dv with
    | f d => exact e2
    | o ds =>
      obtain ⟨b, us, rfl, q1, q2, q3⟩ := e2
      exact ⟨b, us, rfl, q1, (upd_ne fun z => hT (.inl ⟨i, by rw [← z]; exact ⟨e1, _, h, rfl⟩⟩)).trans q2, q3⟩
    | n k ds =>
      obtain ⟨b, dx, us, rfl, q1, q2, q3⟩ := e2
      exact ⟨b, dx, us, rfl, q1, (upd_ne fun z => hT (.inl ⟨i, by rw [← z]; exact ⟨e1, _, h, rfl⟩⟩)).trans q2, q3⟩
    | b j => exact e2
  dist := r.dist
  ndeal := r.ndeal
  deal := DealAt.imp r.deal fun p hp => ⟨fun h => h, fun h => h, fun o h => (upd_ne fun z => hT (.inr ⟨p, hp, .inl z.symm⟩)).trans h, fun o h => (upd_ne fun z => hT (.inr ⟨p, hp, .inr z.symm⟩)).trans h⟩
theorem LStep.upd {c0 : C} {a : Addr} {o : HO} (x : LStep c0 c) (h : c0.H a = none) : LStep c0 { c with H := L2.upd c.H a o } := by
  refine ⟨⟨x.mono, fun b u hb n => ?_, fun b hb => ?_, x.newF, x.tch, x.dl⟩, x.pres, x.ini⟩
  · exact (upd_ne fun z => by rw [z, h] at hb; cases hb).trans (x.keep b u hb n)
  · by_cases z : b = a
    · rw [z]; exact h
    · have hb' : L2.upd c.H a o b = none := hb
      rw [upd_ne z] at hb'
      exact x.live b hb'
theorem backR_at {r0 r : List (Option DV)} {j : Nat} (hl : r0.length = r.length) : ∀ {vs : List Nat}, (backR r0 r vs).length = r.length ∧ (j ∈ vs → (backR r0 r vs)[j]? = r0[j]?) ∧ (j ∉ vs → (backR r0 r vs)[j]? = r[j]?)
  | [] => ⟨rfl, fun h => by simp at h, fun _ => rfl⟩
  | i :: is => by
    obtain ⟨l, h1, h2⟩ := backR_at (r0 := r0) (r := r) (j := j) hl (vs := is)
    unfold backR
    cases e : r0[i]? with
    | none =>
      have hi : r0.length ≤ i := List.getElem?_eq_none_iff.mp e
      refine ⟨l, fun hj => ?_, fun hj => h2 fun z => hj (List.mem_cons_of_mem _ z)⟩
      by_cases z : j ∈ is
      · exact h1 z
      · have ej : j = i := (List.mem_cons.mp hj).elim id fun q => absurd q z
        subst ej
        rw [h2 z, e]
        exact List.getElem?_eq_none_iff.mpr (by omega)
    | some v =>
      obtain ⟨hi, _⟩ := List.getElem?_eq_some_iff.mp e
      refine ⟨by rw [List.length_set]; exact l, fun hj => ?_, fun hj => ?_⟩
      · by_cases z : i = j
        · subst z
          rw [List.getElem?_set_self (by omega), e]
        · rw [List.getElem?_set_ne z]
          exact h1 ((List.mem_cons.mp hj).elim (fun q => absurd q.symm z) id)
      · rw [List.getElem?_set_ne (fun z => hj (by rw [z]; exact List.mem_cons_self))]
        exact h2 fun z => hj (List.mem_cons_of_mem _ z)
/-- behind a block: its own names forgotten, the outer ones of the same places as they were -/
theorem R.restore {r : List (Option DV)} (r2 : R w c) (r' : R w c') (x : LStep (c.wipe vs) c') (hσ : c'.σ = L2.wipe c.σ vs) (hρ : c'.ρ = wipeR r vs) (hl : r.length = c.ρ.length) :
    R w ⟨c'.dl, c'.F, c'.H, c.σ, backR c.ρ r vs, c'.g⟩ ∧ SStep c ⟨c'.dl, c'.F, c'.H, c.σ, backR c.ρ r vs, c'.g⟩ ∧ ∀ a, Touch ⟨c'.dl, c'.F, c'.H, c.σ, backR c.ρ r vs, c'.g⟩ a → Touch c' a ∨ c.H a ≠ none := by
  have at_in : ∀ {j : Nat}, j ∈ vs → (backR c.ρ r vs)[j]? = c.ρ[j]? := fun {j} h => (backR_at (vs := vs) hl.symm).2.1 h
  have at_out : ∀ {j : Nat}, j ∉ vs → (backR c.ρ r vs)[j]? = c'.ρ[j]? := fun {j} h => ((backR_at (vs := vs) hl.symm).2.2 h).trans (by rw [hρ, wipeR_keep h])
  have hlen : (backR c.ρ r vs).length = c.ρ.length := ((backR_at (j := 0) (vs := vs) hl.symm).1).trans hl
  have σ_out : ∀ {j : Nat}, j ∉ vs → c'.σ[j]? = c.σ[j]? := fun {j} h => by rw [hσ, wipe_keep h]
  have own : ∀ {j : Nat} {a : Addr}, Own ⟨c'.dl, c'.F, c'.H, c.σ, backR c.ρ r vs, c'.g⟩ j a → (j ∈ vs ∧ Own c j a) ∨ (j ∉ vs ∧ Own c' j a) := fun {j a} ⟨h1, dv, h2, h3⟩ => by
    by_cases z : j ∈ vs
    · exact .inl ⟨z, h1, dv, (at_in z).symm.trans h2, h3⟩
    · exact .inr ⟨z, (σ_out z).trans h1, dv, (at_out z).symm.trans h2, h3⟩
  -- what a forgotten slot owned nobody touched
  have nt : ∀ {j : Nat} {a : Addr}, j ∈ vs → Own c j a → ¬ Touch (c.wipe vs) a := fun {j a} hj o t => by
    rcases t with ⟨k, h⟩ | ⟨p, h1, h2⟩
    · obtain ⟨q1, q2⟩ := own_wipe h
      exact q2 (by rw [← r2.dist j k a o q1]; exact hj)
    · obtain ⟨n1, n2⟩ := r2.ndeal j a p o h1
      rcases h2 with h2 | h2
      · exact n1 h2
      · exact n2 h2
  have nt' : ∀ {j : Nat} {a : Addr}, j ∈ vs → Own c j a → ¬ Touch c' a := fun {j a} hj o t => by
    rcases x.tch a t with q | q
    · exact nt hj o q
    · obtain ⟨u, h1, _⟩ := r2.ownH o
      have q' : c.H a = none := q
      rw [h1] at q'
      cases q'
  have st : Step (c.wipe vs) c' := x.toStep
  refine ⟨⟨r'.sub, by rw [hlen]; exact r2.len, fun j dv h => ?_, fun i j a h1 h2 => ?_, fun j a p h hp => ?_, r'.deal⟩, ⟨⟨x.mono, fun a o h n => x.keep a o h fun t => n (touch_wipe t), x.live, fun a h => ?_, fun a h => ?_, x.dl⟩, rfl, fun j dv h => ?_, fun j k fs h => ?_⟩, fun a h => ?_⟩
  · by_cases z : j ∈ vs
    · have h' : c.ρ[j]? = some (some dv) := (at_in z).symm.trans h
      obtain ⟨v, e1, e2⟩ := r2.slot j dv h'
      refine ⟨v, e1, ?_⟩
      cases dv with
      | f d => exact RepD.mono x.mono x.dl d v e2
      | o ds =>
        obtain ⟨a, us, rfl, q1, q2, q3⟩ := e2
        have n := nt z (a := a) ⟨e1, _, h', rfl⟩
        exact ⟨a, us, rfl, st.noF q2 q1 n, st.keep a _ q2 n, RepAll.mono x.mono x.dl ds us q3⟩
      | n k ds =>
        obtain ⟨a, dx, us, rfl, q1, q2, q3, q4⟩ := e2
        have n := nt z (a := a) ⟨e1, _, h', rfl⟩
        exact ⟨a, dx, us, rfl, st.noF q2 q1 n, st.keep a _ q2 n, q3, RepAll.mono x.mono x.dl ds us q4⟩
      | b k => exact e2
    · have h' : c'.ρ[j]? = some (some dv) := (at_out z).symm.trans h
      obtain ⟨v, e1, e2⟩ := r'.slot j dv h'
      exact ⟨v, (σ_out z).symm.trans e1, e2⟩
  · rcases own h1 with ⟨z1, o1⟩ | ⟨z1, o1⟩ <;> rcases own h2 with ⟨z2, o2⟩ | ⟨z2, o2⟩
    · exact r2.dist i j a o1 o2
    · exact absurd (.inl ⟨j, o2⟩) (nt' z1 o1)
    · exact absurd (.inl ⟨i, o1⟩) (nt' z2 o2)
    · exact r'.dist i j a o1 o2
  · rcases own h with ⟨z1, o1⟩ | ⟨z1, o1⟩
    · have n := nt' z1 o1
      exact ⟨fun z => n (.inr ⟨p, hp, .inl z⟩), fun z => n (.inr ⟨p, hp, .inr z⟩)⟩
    · exact r'.ndeal j a p o1 hp
  · rcases x.newF a h with q | q | q
    · exact .inl q
    · exact .inr (.inl (touch_wipe q))
    · exact .inr (.inr q)
  · have h' : Touch c' a ∨ ∃ j, Own c j a := by
      rcases h with ⟨j, h⟩ | h
      · rcases own h with ⟨_, o⟩ | ⟨_, o⟩
        · exact .inr ⟨j, o⟩
        · exact .inl (.inl ⟨j, o⟩)
      · exact .inl (.inr h)
    rcases h' with q | q
    · rcases x.tch a q with q | q
      · exact .inl (touch_wipe q)
      · exact .inr q
    · exact .inl (.inl q)
  · by_cases z : j ∈ vs
    · exact ⟨dv, (at_in z).trans h⟩
    · obtain ⟨dv', h'⟩ := x.pres j dv ((wipeR_keep z).trans h)
      exact ⟨dv', (at_out z).trans h'⟩
  · by_cases z : j ∈ vs
    · exact ⟨fs, (at_in z).symm.trans h⟩
    · obtain ⟨⟨f0, q⟩, _⟩ := x.ini j k fs ((at_out z).symm.trans h)
      exact ⟨f0, (wipeR_some q).1⟩
  · rcases h with ⟨j, h⟩ | h
    · rcases own h with ⟨_, o⟩ | ⟨_, o⟩
      · obtain ⟨u, h1, _⟩ := r2.ownH o
        exact .inr (by rw [h1]; simp)
      · exact .inl (.inl ⟨j, o⟩)
    · exact .inl (.inr h)
end
abbrev noEx : Nat → D → C → Prop := fun _ _ _ => False
def tTst (w : Wd) (Ex : Nat → D → C → Prop) (Φ : Fns) (e : E) : TT := fun σ H Q => ∃ c, c.σ = σ ∧ c.H = H ∧ R w c ∧ Aft w Ex c (tstM e (ev w Φ e) c.s) fun c' k => Q k c'.H
def lcEnd (w : Wd) (Φ : Fns) (own : List Nat) (t : Tg) (c e : E) (ds : List D) : M DV := fun s => match noExc (lcGo own (asgT t) (tstM c (ev w Φ c)) (bnd (ev w Φ e) frz) ds []) s with
  | .ok ys s' => .ok (.o ys) { s' with r := backR s.r s'.r own }
  | _ => .stuck
section
variable {w : Wd} {Ex : Nat → D → C → Prop} {Φ : Fns} {X : Cx} {own : List Nat} {t : Tg} {k : ItK} {a b ce e : E}
theorem ev_lc : ev w Φ (.lc own t k a b ce e) = bnd (srcP w Φ k a b) (lcEnd w Φ own t ce e) := by
  show bnd (ev w Φ a) _ = _
  unfold srcP
  simp only [bnd_assoc]
  rfl
theorem lcEnd_ok {ds : List D} {c0 c : C} {Q : C → DV → Prop} (h : Aft w Ex c0 (lcEnd w Φ own t ce e ds c.s) Q) : ∃ ys s', lcGo own (asgT t) (tstM ce (ev w Φ ce)) (bnd (ev w Φ e) frz) ds [] c.s = .ok ys s' ∧ Aft w Ex c0 (.ok (.o ys) { s' with r := backR c.ρ s'.r own }) Q := by
  unfold lcEnd noExc at h
  cases q : lcGo own (asgT t) (tstM ce (ev w Φ ce)) (bnd (ev w Φ e) frz) ds [] c.s with
  | ok ys s' =>
    rw [q] at h
    exact ⟨ys, s', rfl, h⟩
  | exc k d s => rw [q] at h; exact h.elim
  | stuck => rw [q] at h; exact h.elim
theorem asgT_len : ∀ (t : Tg) (d : D) {s s' : S}, asgT t d s = .ok () s' → s'.r.length = s.r.length
  | .nm i, d, s, s', h => by
    have h' : setR i (.f d) s = .ok () s' := h
    unfold setR at h'
    split at h'
    · cases h'
      exact List.length_set
    · cases h'
  | .tp ts, .tup ds, s, s', h => asgTs_len2 ts ds h
  | .tp ts, .non, s, s', h => by cases h
  | .tp ts, .bl _, s, s', h => by cases h
  | .tp ts, .int _, s, s', h => by cases h
  | .tp ts, .str _, s, s', h => by cases h
  | .tp ts, .lst _, s, s', h => by cases h
  | .tp ts, .ins _ _, s, s', h => by cases h
  | .tp ts, .deal, s, s', h => by cases h
  | .tp ts, .scr _, s, s', h => by cases h
where
  asgTs_len2 : ∀ (ts : List Tg) (ds : List D) {s s' : S}, asgTs ts ds s = .ok () s' → s'.r.length = s.r.length
  | [], [], s, s', h => by cases h; rfl
  | [], _ :: _, s, s', h => by cases h
  | _ :: _, [], s, s', h => by cases h
  | t :: ts, d :: ds, s, s', h => by
    obtain ⟨u, s1, h1, h2⟩ := bnd_ok (show bnd (asgT t d) (fun _ => asgTs ts ds) s = _ from h)
    rw [asgTs_len2 ts ds h2, asgT_len t d h1]
/-- the invariant of a comprehension's turns -/
structure LcW (w : Wd) (Φ : Fns) (own : List Nat) (t : Tg) (ce e : E) (c2 : C) (Da : Addr) (ds ys : List D) (s' : S) (i : Nat) (c : C) : Prop where
  σ : c.σ = L2.wipe c2.σ own
  r : R w c
  x : LStep (c2.wipe own) c
  go : ∃ (acc : List V) (dacc : List D) (s : S), c.ρ = wipeR s.r own ∧ c.g = s.g ∧ s.r.length = c2.ρ.length ∧ c.H Da = some (.lst acc) ∧ RepAll w c.dl c.F dacc acc ∧ lcGo own (asgT t) (tstM ce (ev w Φ ce)) (bnd (ev w Φ e) frz) (ds.drop i) dacc s = .ok ys s'
  F : c.F Da = none
  T : ¬ Touch c Da
theorem lc_in {σ : L2.St} {H : Hp} {Q : VK} (h : tE w Ex Φ (.lc own t k a b ce e) σ H Q) : tLc (tI w Ex Φ k a b) (gO w noEx own t) (tTst w noEx Φ ce) (tE w noEx Φ e) own σ H Q := by
  obtain ⟨c, rfl, rfl, r, h⟩ := tE_in h
  rw [ev_lc] at h
  refine ⟨c, rfl, rfl, r, (h.bnd (SStep.refl c)).imp fun c2 ds r2 x2 ⟨_, _, q⟩ J src Da hD => ?_⟩
  obtain ⟨ys, s', hgo, q2⟩ := lcEnd_ok q
  have hσ : c2.σ = c.σ := x2.σ
  rw [← hσ]
  have nT0 : ¬ Touch (c2.wipe own) Da := fun z => r2.noT hD (touch_wipe z)
  refine ⟨fun i m H => m = ds.length - i ∧ ∃ c', c'.H = H ∧ LcW w Φ own t ce e c2 Da ds ys s' i c', ⟨ds.length, rfl, { c2.wipe own with H := L2.upd c2.H Da (.lst []) }, rfl, rfl, ?_, ?_, ⟨[], [], c2.s, rfl, rfl, rfl, upd_same, rfl, hgo⟩, r2.noF hD, nT0⟩, ?_⟩
  · exact (r2.wipe (vs := own)).upd (r2.noF hD) nT0
  · exact LStep.upd (LStep.refl _) hD
  rintro i m H ⟨hm, c', rfl, W⟩
  obtain ⟨acc, dacc, s, hρ, hg, hl, hH, rep, go⟩ := W.go
  have le : Le c2.F c'.F := W.x.mono
  have ld : DlLe c2.dl c'.dl := W.x.dl
  cases ei : ds[i]? with
  | none =>
    have hi := List.getElem?_eq_none_iff.mp ei
    rw [List.drop_eq_nil_of_le hi] at go
    cases go
    refine .inl ⟨src.stop c' W.r le i hi, ?_⟩
    obtain ⟨r3, x3, tc⟩ := r2.restore W.r W.x W.σ hρ hl
    refine q2 ⟨c'.dl, c'.F, c'.H, c2.σ, backR c2.ρ s'.r own, c'.g⟩ ?_ r3 (x2.trans x3) (.ref Da) ⟨Da, acc, rfl, W.F, hH, rep, fun z => ?_⟩ ⟨Da, rfl, x2.live Da hD⟩
    · show S.mk _ c'.g = _
      rw [hg]
    · rcases tc Da z with z | z
      · exact W.T z
      · exact z hD
  | some d =>
    obtain ⟨hi, he⟩ := List.getElem?_eq_some_iff.mp ei
    rw [List.drop_eq_getElem_cons hi, he] at go
    obtain ⟨g1, g2⟩ := src.go c' W.r le ld i d ei
    refine .inr ⟨g1, fun H => ∃ c', c'.H = H ∧ LcW w Φ own t ce e c2 Da ds ys s' (i + 1) c', fun H' h' => ⟨ds.length - (i + 1), by omega, rfl, h'⟩, fun x H' hy => ?_⟩
    obtain ⟨c4, e1, e2, r4, x4, rp⟩ := g2 x H' hy
    subst e1
    obtain ⟨_, s1, h1, h2⟩ := bnd_ok (show bnd (asgT t d) (fun _ => bnd (tstM ce (ev w Φ ce)) fun k => if k then bnd (bnd (ev w Φ e) frz) fun y => if dacc.length < lim then lcGo own (asgT t) (tstM ce (ev w Φ ce)) (bnd (ev w Φ e) frz) (ds.drop (i + 1)) (dacc ++ [y]) else stk else lcGo own (asgT t) (tstM ce (ev w Φ ce)) (bnd (ev w Φ e) frz) (ds.drop (i + 1)) dacc) { s with r := wipeR s.r own } = .ok ys s' from go)
    obtain ⟨kb, s2, h3, h4⟩ := bnd_ok h2
    have es : c4.s = { s with r := wipeR s.r own } := by
      rw [e2]
      show S.mk c'.ρ c'.g = _
      rw [hρ, hg]
    rw [← es] at h1
    have hσ4 : c4.σ = L2.wipe c2.σ own := x4.σ.trans W.σ
    have hσw : L2.wipe c4.σ own = L2.wipe c2.σ own := by rw [hσ4, wipe2]
    rw [← hσ4]
    refine ⟨c4, d, rfl, rfl, r4, rp, ?_⟩
    show AftP w noEx c4 (asgT t d c4.s) _
    rw [h1]
    intro c5 es5 r5 x5 hw
    refine ⟨by rw [hw, hσw, hσ4], c5, rfl, rfl, r5, ?_⟩
    rw [es5, h3]
    intro c6 es6 r6 x6
    have l5 : s1.r.length = c2.ρ.length := by
      rw [asgT_len t d h1, es]
      show (wipeR s.r own).length = _
      rw [wipeR_length, hl]
    -- what stays
    have stay : ∀ {c7 : C} {s7 : S}, R w c7 → LStep c' c7 → c7.s = s7 → L2.wipe c7.σ own = L2.wipe c2.σ own → ∀ {acc' : List V} {dacc' : List D}, RepAll w c7.dl c7.F dacc' acc' → lcGo own (asgT t) (tstM ce (ev w Φ ce)) (bnd (ev w Φ e) frz) (ds.drop (i + 1)) dacc' s7 = .ok ys s' →
        ∀ {c8 : C}, c8.dl = c7.dl → c8.F = c7.F → c8.σ = c7.σ → c8.ρ = c7.ρ → c8.g = c7.g → R w c8 → LStep (c2.wipe own) c8 → c8.H Da = some (.lst acc') → LcW w Φ own t ce e c2 Da ds ys s' (i + 1) (c8.wipe own) := by
      intro c7 s7 r7 x7 es7 hw7 acc' dacc' rp7 go7 c8 q1 q2 q3 q4 q5 r8 x8 hH8
      have nT7 : ¬ Touch c7 Da := x7.toStep.noT hH W.T
      refine ⟨?_, r8.wipe, ⟨x8.toStep.trans (Step.wipe c8 own), fun j dv hj => ?_, fun j k fs hj => ?_⟩, ⟨acc', dacc', s7, ?_, ?_, ?_, hH8, ?_, go7⟩, ?_, fun z => ?_⟩
      · show L2.wipe c8.σ own = _
        rw [q3, hw7]
      · obtain ⟨_, hn⟩ := wipeR_some hj
        obtain ⟨dv', h'⟩ := x8.pres j dv hj
        exact ⟨dv', (wipeR_keep hn).trans h'⟩
      · obtain ⟨q, hn⟩ := wipeR_some hj
        obtain ⟨q1, q2⟩ := x8.ini j k fs q
        exact ⟨q1, (wipe_keep hn).trans q2⟩
      · show wipeR c8.ρ own = _
        rw [q4, ← es7]
        rfl
      · show c8.g = _
        rw [q5, ← es7]
        rfl
      · rw [← es7]
        show c7.ρ.length = _
        rw [← r7.len, ← wipe_length c7.σ own, hw7, wipe_length, r2.len]
      · show RepAll w c8.dl c8.F dacc' acc'
        rw [q1, q2]
        exact rp7
      · show c8.F Da = none
        rw [q2]
        exact x7.toStep.noF hH W.F W.T
      · refine nT7 ?_
        rcases touch_wipe z with ⟨j, o1, o2⟩ | z
        · rw [q3] at o1
          rw [q4] at o2
          exact .inl ⟨j, o1, o2⟩
        · rw [q1] at z
          exact .inr z
    have x46 : LStep c' c6 := x4.l.trans (x5.trans x6.l)
    have hσ6 : c6.σ = c5.σ := x6.σ
    cases kb with
    | false =>
      rw [if_neg Bool.false_ne_true] at h4
      have hH6 : c6.H Da = some (.lst acc) := x46.toStep.keep Da _ hH W.T
      exact ⟨c6.wipe own, rfl, stay r6 x46 es6 (by rw [hσ6, hw, hσw]) (RepAll.step x46.toStep rep) h4 rfl rfl rfl rfl rfl r6 (W.x.trans x46) hH6⟩
    | true =>
      rw [if_pos rfl] at h4
      obtain ⟨y, s4, h5, h6⟩ := bnd_ok h4
      obtain ⟨dv, s3, h7, h8⟩ := bnd_ok h5
      simp only [if_true]
      rw [← hσ6]
      refine ⟨c6, rfl, rfl, r6, ?_⟩
      rw [es6, h7]
      intro c7 es7 r7 x7 v rel fr
      rw [← es7] at h8
      obtain ⟨c8, es8, hH8, r8, x8, rp8, _, _, _⟩ := frz_ok (c0 := c6) r7 rel x7 fr h8
      have x48 : LStep c' c8 := x46.trans x8.l
      have hD8 : c8.H Da = some (.lst acc) := x48.toStep.keep Da _ hH W.T
      have hσ8 : c8.σ = c5.σ := (x8.σ).trans hσ6
      by_cases hlim : dacc.length < lim
      · rw [if_pos hlim] at h6
        refine ⟨acc, by rw [← hH8]; exact hD8, by rw [rep.length, ← lim_eq]; exact hlim, ?_⟩
        rw [← hH8]
        have rp' : RepAll w c8.dl c8.F (dacc ++ [y]) (acc ++ [v]) := RepAll.append (RepAll.step x48.toStep rep) (RepAll.one rp8)
        have nT8 : ¬ Touch c8 Da := x48.toStep.noT hH W.T
        have nF8 : c8.F Da = none := x48.toStep.noF hH W.F W.T
        exact ⟨({ c8 with H := L2.upd c8.H Da (.lst (acc ++ [v])) } : C).wipe own, rfl, stay r8 x48 es8 (by rw [hσ8, hw, hσw]) rp' h6 (c8 := { c8 with H := L2.upd c8.H Da (.lst (acc ++ [v])) }) rfl rfl rfl rfl rfl (r8.upd nF8 nT8) (LStep.upd (W.x.trans x48) hD) upd_same⟩
      · rw [if_neg hlim] at h6
        cases h6
section
variable {elt tg iter : Expr} {ifs : List Expr} {scope : Scope} {own2 : List (Str × Nat)} {pos spos : Pos} {py : Pos} {n : Str} {i : Nat}
theorem j_lc (hc : X.calm = true) (hN : X.N.Nodup) (hi : PI X tg iter (tI w Ex Φ k a b)) (ok : BlkOk X.N X.env.scope scope own2)
    (hg : ∀ (s : Shared) (H : Hp) (C : Addr) (cl : List (Str × Addr)) (fp : List Addr), PG (X.blk s H scope (compEnvC scope cl C X.env) fp) tg (gO w noEx (own2.map (·.2)) t)) (ht : ∀ (s : Shared) (H : Hp) (C : Addr) (cl : List (Str × Addr)) (fp : List Addr), PTs (X.blk s H scope (compEnvC scope cl C X.env) fp) ifs (tTst w noEx Φ ce))
    (he : ∀ (s : Shared) (H : Hp) (C : Addr) (cl : List (Str × Addr)) (fp : List Addr), PE (X.blk s H scope (compEnvC scope cl C X.env) fp) elt (tE w noEx Φ e)) (hs : ∀ x, foldedSetIterable iter X.env x = pure x) :
    PE X (.ListComp elt [⟨tg, iter, ifs, 0⟩] scope pos) (tE w Ex Φ (.lc (own2.map (·.2)) t k a b ce e)) := (pe_lc hc hN hi ok hg ht he hs).imp fun σ H Q h => lc_in h
theorem s_setLc (hc : X.calm = true) (hN : X.N.Nodup) (hy : X.N[i]? = some n) (hyl : X.env.scope.names.lookup n = some .local)
    (hsw : swapsWith (.ListComp elt [⟨tg, iter, ifs, 0⟩] scope pos) (some (.Name n py)) spos.line X.env = pure true) (hi : PI X tg iter (tI w Ex Φ k a b)) (ok : BlkOk X.N X.env.scope scope own2)
    (hg : ∀ (s : Shared) (H : Hp) (C : Addr) (cl : List (Str × Addr)) (fp : List Addr), PG (X.blk s H scope (compEnvC scope cl C X.env) fp) tg (gO w noEx (own2.map (·.2)) t)) (ht : ∀ (s : Shared) (H : Hp) (C : Addr) (cl : List (Str × Addr)) (fp : List Addr), PTs (X.blk s H scope (compEnvC scope cl C X.env) fp) ifs (tTst w noEx Φ ce))
    (he : ∀ (s : Shared) (H : Hp) (C : Addr) (cl : List (Str × Addr)) (fp : List Addr), PE (X.blk s H scope (compEnvC scope cl C X.env) fp) elt (tE w noEx Φ e)) (hs : ∀ x, foldedSetIterable iter X.env x = pure x) :
    PS X (.Assign [.Name n py] (.ListComp elt [⟨tg, iter, ifs, 0⟩] scope pos) spos) (tS w Ex Φ (.set i (.lc (own2.map (·.2)) t k a b ce e))) := (ps_setLc hc hN hy hyl hsw hi ok hg ht he hs).imp fun D σ H h => by
  refine lc_in ?_
  obtain ⟨c, rfl, rfl, r, h⟩ := h
  refine tE_seqP h (LStep.refl c) r fun c2 v dv r2 _ x2 hσ rel fr q => ?_
  obtain ⟨c', e1, e2, r3, x3, _, q2⟩ := keep_ok (f := fun _ => ret Fl.nx) q r2 x2 rel fr
  show D.nx (c.σ.set i (some v)) c2.H
  rw [← hσ, ← e1, ← e2]
  exact AftP.ret (a := Fl.nx) q2 x3 r3
end
end
end DI

set_option Elab.async false
set_option linter.all false
set_option maxRecDepth 100000
set_option maxHeartbeats 4000000
/-! DI14: what loops walk. Own text. -/
namespace DI
open PySem PySem.Spec PyProof.Rows L2
section
variable {w : Wd} {Ex : Nat → D → C → Prop} {Φ : Fns} {X : Cx} {x y tg : Expr} {p pos tpos : Pos} {a b e : E} {elts : List Expr} {kk : Nat} {α β : Type}
theorem bnd_eq {m : M α} {f g : α → M β} {s : S} (h : ∀ v s', m s = .ok v s' → f v s' = g v s') : bnd m f s = bnd m g s := by
  unfold bnd
  cases e : m s with
  | ok v s' => exact h v s' e
  | exc k d s' => rfl
  | stuck => rfl
def gL (f : List D → M β) : D → M β
  | .lst ds => f ds
  | _ => stk
def gU (f : List D → M β) : D → M β
  | .tup ds => f ds
  | _ => stk
theorem srcP_val : srcP w Φ .val a .nop = bnd (bnd (ev w Φ a) frz) fun dx => opt (seqOf dx) := by
  rw [bnd_assoc]
  rfl
/-- by what the source turns out to be -/
theorem val_cases {f : D → M β} {s : S} (h : bnd (bnd (ev w Φ a) frz) f s ≠ .stuck) (hf : ∀ d s, f d s ≠ .stuck → seqOf d ≠ none) :
    bnd (bnd (ev w Φ a) frz) f s = bnd (ev w Φ a) (fun v => bnd (frz v) (gL fun ds => f (.lst ds))) s ∨ bnd (bnd (ev w Φ a) frz) f s = bnd (ev w Φ a) (fun v => bnd (frz v) (gU fun ds => f (.tup ds))) s := by
  rw [← bnd_assoc, ← bnd_assoc]
  cases e : bnd (ev w Φ a) frz s with
  | ok d s' =>
    have h' : f d s' ≠ .stuck := by
      unfold bnd at h e
      rw [e] at h
      exact h
    have hq := hf d s' h'
    cases d with
    | lst ds =>
      left
      refine bnd_eq fun v s2 q => ?_
      rw [e] at q
      cases q
      rfl
    | tup ds =>
      right
      refine bnd_eq fun v s2 q => ?_
      rw [e] at q
      cases q
      rfl
    | _ => exact absurd rfl hq
  | exc k d s' =>
    left
    refine bnd_eq fun v s2 q => ?_
    rw [e] at q
    cases q
  | stuck =>
    left
    refine bnd_eq fun v s2 q => ?_
    rw [e] at q
    cases q
theorem Aft.ne {c : C} {r : Res α} {Q : C → α → Prop} (h : Aft w Ex c r Q) : r ≠ .stuck := fun z => by rw [z] at h; exact h
theorem opt_seq {d : D} {s : S} (h : (opt (seqOf d) : M (List D)) s ≠ .stuck) : seqOf d ≠ none := fun z => by rw [z] at h; exact h rfl
/-- a list at hand, let be -/
theorem lst_in {f : List D → M β} {Q : C → β → Prop} {c0 c : C} {v : V} {dv : DV} (h : Aft w Ex c0 (bnd (frz dv) (gL f) c.s) Q) (r : R w c) (x : SStep c0 c) (rel : Rel w c v dv) (fr : Frs c0.H v dv) :
    ∃ (ds : List D) (p : Addr) (us : List V) (c' : C), v = .ref p ∧ c'.H = c.H ∧ R w c' ∧ SStep c0 c' ∧ SqL w.K c'.F p us ∧ RepAll w c'.dl c'.F ds us ∧ Aft w Ex c0 (f ds c'.s) Q := by
  obtain ⟨d, c', hH, r', x', rep, _, _, _, h2⟩ := h.frz r x rel fr
  cases d with
  | lst ds =>
    obtain ⟨p, us, e, q1, q2⟩ := rep
    exact ⟨ds, p, us, c', e, hH, r', x', SqL.of q1, q2, h2⟩
  | _ => exact h2.elim
theorem tup_in {f : List D → M β} {Q : C → β → Prop} {c0 c : C} {v : V} {dv : DV} (h : Aft w Ex c0 (bnd (frz dv) (gU f) c.s) Q) (r : R w c) (x : SStep c0 c) (rel : Rel w c v dv) (fr : Frs c0.H v dv) :
    ∃ (ds : List D) (p : Addr) (us : List V) (c' : C), v = .ref p ∧ c'.H = c.H ∧ R w c' ∧ SStep c0 c' ∧ SqT w.K c'.F p us ∧ RepAll w c'.dl c'.F ds us ∧ Aft w Ex c0 (f ds c'.s) Q := by
  obtain ⟨d, c', hH, r', x', rep, _, _, _, h2⟩ := h.frz r x rel fr
  cases d with
  | tup ds =>
    obtain ⟨p, us, e, q1, q2⟩ := rep
    exact ⟨ds, p, us, c', e, hH, r', x', q1, q2, h2⟩
  | _ => exact h2.elim
/-- for .. in e: a list or a tuple -/
theorem i_val (hK : X.K = w.K) (ha : PE X x (tE w Ex Φ a)) : PI X tg x (tI w Ex Φ .val a .nop) := by
  refine ⟨fun pins s σ H R I h => ?_⟩
  obtain ⟨c, rfl, rfl, r, h⟩ := h
  rw [srcP_val] at h
  rcases val_cases (f := fun dx => opt (seqOf dx)) h.ne (fun d s z => opt_seq z) with q | q
  · rw [q] at h
    refine (pi_list ha).run pins s _ _ R I ?_
    refine tE_seq h (SStep.refl c) r fun c2 u du r2 x2 x02 hσ rel fr fr0 h2 => ?_
    obtain ⟨ds, p, us, c3, rfl, hH, r3, x3, s1, rep, h3⟩ := lst_in h2 r2 x02 rel fr0
    rw [← hH]
    refine ⟨p, rfl, ⟨us, by rw [hK]; exact r3.sub.sqL s1⟩, ?_⟩
    rw [hK]
    exact Aft.ret (a := ds) h3 x3 r3 _ (src_list s1 rep)
  · rw [q] at h
    refine (pi_tup ha).run pins s _ _ R I ?_
    refine tE_seq h (SStep.refl c) r fun c2 u du r2 x2 x02 hσ rel fr fr0 h2 => ?_
    obtain ⟨ds, p, us, c3, rfl, hH, r3, x3, s1, rep, h3⟩ := tup_in h2 r2 x02 rel fr0
    rw [← hH]
    refine ⟨p, rfl, ⟨us, by rw [hK]; exact r3.sub.sqT s1⟩, ?_⟩
    rw [hK]
    exact Aft.ret (a := ds) h3 x3 r3 _ (src_tup s1 rep)
/-! ### ranges -/
theorem _root_.L2.PI.imp {t t' : TI} (h : PI X tg x t) (f : ∀ σ H Q, t' σ H Q → t σ H Q) : PI X tg x t' := ⟨fun pins s σ H R I q => h.run pins s σ H R I (f σ H R q)⟩
theorem rng_some {d1 d2 : D} {ds : List D} (h : itemsD .rng d1 d2 = some ds) : ∃ i j, d1 = .int i ∧ d2 = .int j ∧ ds = rngI i j ∧ (-(2 ^ 62) ≤ i ∧ i < 2 ^ 62 ∧ -(2 ^ 62) ≤ j ∧ j < 2 ^ 62) := by
  cases d1 <;> first | (cases h; done) | skip
  cases d2 <;> first | (cases h; done) | skip
  rename_i i j
  have h' : (if bnd62 i && bnd62 j then some (rngI i j) else none) = some ds := h
  split at h'
  · rename_i z
    cases h'
    simp only [bnd62, Bool.and_eq_true, decide_eq_true_eq] at z
    exact ⟨i, j, rfl, rfl, rfl, z.1.1, z.1.2, z.2.1, z.2.2⟩
  · cases h'
theorem evs1 : evs w Φ [a] = bnd (ev w Φ a) fun v => ret [v] := rfl
theorem evs2 : evs w Φ [a, b] = bnd (ev w Φ a) fun v => bnd (ev w Φ b) fun u => ret [v, u] := by
  show bnd (ev w Φ a) (fun v => bnd (bnd (ev w Φ b) fun u => bnd (ret []) fun vs => ret (u :: vs)) fun vs => ret (v :: vs)) = _
  simp only [bnd_assoc]
  rfl
theorem frzs2 {v u : DV} : frzs [v, u] = bnd (frz v) fun d => bnd (frz u) fun f => ret [d, f] := by
  show bnd (frz v) (fun d => bnd (bnd (frz u) fun f => bnd (ret []) fun vs => ret (f :: vs)) fun vs => ret (d :: vs)) = _
  simp only [bnd_assoc]
  rfl
theorem frzs1 {v : DV} : frzs [v] = bnd (frz v) fun d => ret [d] := rfl
def two? {β : Type} (f : D → D → M β) : List D → M β
  | [d, e] => f d e
  | _ => stk
theorem srcM_id {m : M DV} (h : b ≠ .nop) : srcM b m = m := by cases b <;> first | rfl | exact absurd rfl h
theorem srcP2 {k : ItK} (hb : b ≠ .nop) : srcP w Φ k a b = bnd (evs w Φ [a, b]) fun vs => bnd (frzs vs) (two? fun dx dy => opt (itemsD k dx dy)) := by
  unfold srcP
  rw [srcM_id hb, evs2]
  simp only [bnd_assoc]
  congr 1
  funext v
  congr 1
  funext u
  show _ = bnd (frzs [v, u]) _
  rw [frzs2]
  simp only [bnd_assoc]
  rfl
theorem two_rep {f : D → D → M β} {Q : C → β → Prop} {c0 c : C} {ds : List D} {us : List V} (h : Aft w Ex c0 (two? f ds c.s) Q) (rep : RepAll w c.dl c.F ds us) :
    ∃ d1 d2 u v, us = [u, v] ∧ RepD w c.dl c.F d1 u ∧ RepD w c.dl c.F d2 v ∧ Aft w Ex c0 (f d1 d2 c.s) Q := by
  rcases ds with _ | ⟨d1, _ | ⟨d2, _ | ⟨d3, ds⟩⟩⟩
  · exact h.elim
  · exact h.elim
  · obtain ⟨u, r1, rfl, q1, v, r2, rfl, q2, q3⟩ := rep
    rw [show r2 = [] from q3]
    exact ⟨d1, d2, u, v, rfl, q1, q2, h⟩
  · exact h.elim
theorem i_rng2 (hb : b ≠ .nop) (hg : Gl X "range") (hm : X.mg "range" = none) (ha : PA X [x, y] (tEs w Ex Φ [a, b])) (hs : starEach [x, y] X.env = [(false, eval x X.env), (false, eval y X.env)]) (hs2 : starEach [y] X.env = [(false, eval y X.env)]) :
    PI X tg (.Call (.Name "range" p) [x, y] [] pos) (tI w Ex Φ .rng a b) := (pi_range2 hg hm ha hs hs2).imp fun σ H R h => by
  obtain ⟨c, rfl, rfl, r, h⟩ := h
  rw [srcP2 hb] at h
  refine tEs_seq h (SStep.refl c) r fun c2 vs dvs r2 x2 x02 hσ rels rels0 h2 => ?_
  obtain ⟨ds, c3, hH, r3, x3, rep, h3⟩ := h2.frzs r2 x02 rels0
  obtain ⟨d1, d2, u, v, rfl, q1, q2, h4⟩ := two_rep h3 rep
  obtain ⟨es, he, h5⟩ := h4.opt1 x3 r3
  obtain ⟨i, j, rfl, rfl, rfl, z⟩ := rng_some he
  rw [← hH]
  exact ⟨i, j, by rw [show u = .int i from q1, show v = .int j from q2], z, h5 _ src_rng⟩
theorem i_rng1 (hb : b ≠ .nop) (hg : Gl X "range") (hm : X.mg "range" = none) (ha : PA X [y] (tEs w Ex Φ [b])) (hs : starEach [y] X.env = [(false, eval y X.env)]) :
    PI X tg (.Call (.Name "range" p) [y] [] pos) (tI w Ex Φ .rng (.int 0) b) := (pi_range1 hg hm ha hs).imp fun σ H R h => by
  obtain ⟨c, rfl, rfl, r, h⟩ := h
  have e : srcP w Φ .rng (.int 0) b = bnd (evs w Φ [b]) fun vs => bnd (frzs vs) fun ds => match ds with | [d] => opt (itemsD .rng (.int 0) d) | _ => stk := by
    unfold srcP
    rw [srcM_id hb, evs1, bnd_assoc]
    show bnd (ev w Φ b) (fun y => bnd (frz y) fun dy => opt (itemsD .rng (.int 0) dy)) = _
    congr 1
    funext v
    show _ = bnd (frzs [v]) _
    rw [frzs1, bnd_assoc]
    rfl
  rw [e] at h
  refine tEs_seq h (SStep.refl c) r fun c2 vs dvs r2 x2 x02 hσ rels rels0 h2 => ?_
  obtain ⟨ds, c3, hH, r3, x3, rep, h3⟩ := h2.frzs r2 x02 rels0
  rcases ds with _ | ⟨d1, _ | ⟨d2, ds⟩⟩
  · exact h3.elim
  · obtain ⟨u, r1, rfl, q1, q2⟩ := rep
    obtain ⟨es, he, h5⟩ := Aft.opt1 (o := itemsD .rng (.int 0) d1) h3 x3 r3
    obtain ⟨i, j, ei, rfl, rfl, z⟩ := rng_some he
    cases ei
    rw [← hH]
    refine ⟨j, by rw [show u = .int j from q1, show r1 = [] from q2], z.2.2.1, z.2.2.2, ?_⟩
    have q := h5 _ (src_rng (w := w) (c0 := c3) (i := 0) (j := j))
    rw [Int.sub_zero] at q
    exact q
  · exact h3.elim
/-! ### zip -/
theorem zip_some {d1 d2 : D} {ds : List D} (h : itemsD .zip d1 d2 = some ds) : (∃ xs ys, d1 = .lst xs ∧ d2 = .lst ys ∧ ds = (xs.zip ys).map fun p => .tup [p.1, p.2]) ∨ ∃ xs ys, d1 = .tup xs ∧ d2 = .tup ys ∧ ds = (xs.zip ys).map fun p => .tup [p.1, p.2] := by
  cases d1 <;> first | (cases h; done) | skip
  · cases d2 <;> first | (cases h; done) | skip
    cases h
    exact .inr ⟨_, _, rfl, rfl, rfl⟩
  · cases d2 <;> first | (cases h; done) | skip
    cases h
    exact .inl ⟨_, _, rfl, rfl, rfl⟩
theorem i_zip (hK : X.K = w.K) (hb : b ≠ .nop) (hg : Gl X "zip") (hm : X.mg "zip" = none) (ha : PA X [x, y] (tEs w Ex Φ [a, b])) (hs : starEach [x, y] X.env = (false, eval x X.env) :: starEach [y] X.env) (hpl : (backTo pos (starEach [y] X.env)).any (·.1) = false) :
    PI X (.Tuple elts kk tpos) (.Call (.Name "zip" p) [x, y] [] pos) (tI w Ex Φ .zip a b) := (RZ.pi_zipA hg hm ha hs hpl).imp fun σ H R h => by
  obtain ⟨c, rfl, rfl, r, h⟩ := h
  rw [srcP2 hb] at h
  refine tEs_seq h (SStep.refl c) r fun c2 vs dvs r2 x2 x02 hσ rels rels0 h2 => ?_
  obtain ⟨ds, c3, hH, r3, x3, rep, h3⟩ := h2.frzs r2 x02 rels0
  obtain ⟨d1, d2, u, v, rfl, q1, q2, h4⟩ := two_rep h3 rep
  obtain ⟨es, he, h5⟩ := h4.opt1 x3 r3
  rw [← hH, hK]
  rcases zip_some he with ⟨xs, ys, rfl, rfl, rfl⟩ | ⟨xs, ys, rfl, rfl, rfl⟩
  · obtain ⟨A, us, rfl, f1, g1⟩ := q1
    obtain ⟨B, vs, rfl, f2, g2⟩ := q2
    exact ⟨A, B, us, vs, rfl, .inl ⟨r3.sub.sqL (SqL.of f1), r3.sub.sqL (SqL.of f2), h5 _ (src_zip (SqL.of f1) g1 (SqL.of f2) g2)⟩⟩
  · obtain ⟨A, us, rfl, f1, g1⟩ := q1
    obtain ⟨B, vs, rfl, f2, g2⟩ := q2
    exact ⟨A, B, us, vs, rfl, .inr ⟨r3.sub.sqT f1, r3.sub.sqT f2, h5 _ (src_zipT f1 g1 f2 g2)⟩⟩
/-! ### tests of a comprehension -/
theorem ts_nil : PTs X [] (tTst w Ex Φ .nop) := ⟨fun pins s σ H Q I h => by
  obtain ⟨c, rfl, rfl, r, h⟩ := h
  exact pts_nil.run pins s _ _ Q I (Aft.ret (a := true) h (SStep.refl c) r)⟩
theorem tstM_id {m : M DV} (h : e ≠ .nop) : tstM e m = bnd m bool? := by cases e <;> first | rfl | exact absurd rfl h
theorem ts_one (hn : e ≠ .nop) (h : PT X x (tT w Ex Φ e)) : PTs X [x] (tTst w Ex Φ e) := ⟨fun pins s σ H Q I q => by
  refine (pts_one h).run pins s σ H Q I ?_
  obtain ⟨c, h1, h2, h3, h4⟩ := q
  rw [tstM_id hn] at h4
  exact ⟨c, h1, h2, h3, h4⟩⟩
end
end DI

set_option Elab.async false
set_option linter.all false
set_option maxRecDepth 100000
set_option maxHeartbeats 4000000
/-! DI15: stores. Own text. -/
namespace DI
open PySem PySem.Spec PyProof.Rows L2
section
variable {w : Wd} {Ex : Nat → D → C → Prop} {Φ : Fns} {X : Cx} {x y tg : Expr} {p pos pos' tpos : Pos} {a b e : E} {es : List E} {l : List Expr} {kk k2 : Nat} {α β : Type} {n : Str} {i : Nat}
theorem AftP.own {i : Nat} {f : List DI.D → M β} {c0 c : C} {Q : C → β → Prop} (h : AftP w Ex c0 (DI.bnd (ownAt i) f c.s) Q) (r : R w c) :
    ∃ ds p vs, c.ρ[i]? = some (some (.o ds)) ∧ c.σ[i]? = some (some (.ref p)) ∧ c.H p = some (.lst vs) ∧ RepAll w c.dl c.F ds vs ∧ AftP w Ex c0 (f ds c.s) Q := by
  unfold DI.bnd ownAt at h
  cases e : c.ρ[i]? with
  | none =>
    simp only [C.s, e] at h
    exact h.elim
  | some o =>
    cases o with
    | none =>
      simp only [C.s, e] at h
      exact h.elim
    | some dv =>
      cases dv with
      | o ds =>
        simp only [C.s, e] at h
        obtain ⟨v, e1, p, vs, rfl, q2, q3, q4⟩ := r.slot i _ e
        exact ⟨ds, p, vs, rfl, e1, q3, q4, h⟩
      | f d =>
        simp only [C.s, e] at h
        exact h.elim
      | b j =>
        simp only [C.s, e] at h
        exact h.elim
      | n k fs =>
        simp only [C.s, e] at h
        exact h.elim
theorem AftP.if_ {c0 c : C} {p : Prop} [Decidable p] {m : M α} {Q : C → α → Prop} (h : AftP w Ex c0 ((if p then m else stk : M α) c.s) Q) : p ∧ AftP w Ex c0 (m c.s) Q := by
  by_cases hp : p
  · rw [if_pos hp] at h
    exact ⟨hp, h⟩
  · rw [if_neg hp] at h
    exact h.elim
theorem bnd_if {p : Prop} [Decidable p] {m : M α} {f : α → M β} : DI.bnd (if p then m else stk) f = if p then DI.bnd m f else stk := by
  by_cases hp : p
  · rw [if_pos hp, if_pos hp]
  · rw [if_neg hp, if_neg hp]
    rfl
/-- o[k] = v where slot i owns the list -/
theorem setAt_in {f : Unit → M β} {Q : C → β → Prop} {P : Hp → Prop} {c0 c : C} {v : V} {d : DI.D} (h : AftP w Ex c0 (DI.bnd (setAt w.T Φ i e d) f c.s) Q) (r : R w c) (x0 : LStep c0 c) (rep : RepD w c.dl c.F d v)
    (k : ∀ c' : C, c'.σ = c.σ → R w c' → LStep c0 c' → LStep c c' → AftP w Ex c0 (f () c'.s) Q → P c'.H) :
    ∃ o, c.σ[i]? = some (some o) ∧ tE w Ex Φ e c.σ c.H fun u H2 => rSetL o u v H2 P := by
  have h' : AftP w Ex c0 (DI.bnd (ownAt i) (fun _ => DI.bnd (ev w Φ e) (fun x => DI.bnd (look x) fun dk => DI.bnd (int? dk) fun j => DI.bnd (ownAt i) fun xs => if 0 ≤ j ∧ j < xs.length ∧ j < 2 ^ 62 then DI.bnd (setR i (.o (xs.set j.toNat d))) f else stk)) c.s) Q := by
    have q : DI.bnd (setAt w.T Φ i e d) f = DI.bnd (ownAt i) (fun _ => DI.bnd (ev w Φ e) (fun x => DI.bnd (look x) fun dk => DI.bnd (int? dk) fun j => DI.bnd (ownAt i) fun xs => if 0 ≤ j ∧ j < xs.length ∧ j < 2 ^ 62 then DI.bnd (setR i (.o (xs.set j.toNat d))) f else stk)) := by
      unfold setAt
      simp only [bnd_assoc, bnd_if]
    rw [← q]
    exact h
  obtain ⟨ds0, p0, us0, _, ei, _, _, h2⟩ := h'.own r
  refine ⟨.ref p0, ei, tE_seqP h2 x0 r fun c2 u du r2 x2 x02 hσ rel fr q => ?_⟩
  obtain ⟨dk, lk, q⟩ := q.look r2 rel
  obtain ⟨j, ej, q2⟩ := q.int
  subst ej
  obtain ⟨ds, pa, us, e1, e2, e3, e4, q3⟩ := q2.own r2
  obtain ⟨⟨z1, z2, z3⟩, q4⟩ := q3.if_
  rw [hσ, ei] at e2
  cases e2
  have rep2 : RepD w c2.dl c2.F d v := RepD.step x2.toStep rep
  have hσi : c2.σ[i]? = some (some (.ref p0)) := by rw [hσ]; exact ei
  obtain ⟨r', x'⟩ := r2.write hσi e1 (RepAll.set j.toNat e4 rep2)
  obtain ⟨_, q5⟩ := setR_out q4
  refine ⟨p0, us, j, j.toNat, rfl, lk, e3, ?_, ?_⟩
  · unfold L2.ixN
    rw [if_pos z1, if_pos (by rw [e4.length]; exact z2)]
  · exact k { c2 with H := L2.upd c2.H p0 (.lst (us.set j.toNat v)), ρ := c2.ρ.set i (some (.o (ds.set j.toNat d))) } hσ r' (x02.trans x'.l) (x2.l.trans x'.l) q5
/-- the index is no slice -/
def AsgIx (X : Cx) (n : Str) (npos : Pos) (y : Expr) (tpos : Pos) : Prop := ∀ v, assign (.Subscript (.Name n npos) y tpos) X.env v = (do
  let ov ← holding [v] (eval (.Name n npos) X.env)
  let iv ← holding [v, ov] (eval y X.env)
  standAt tpos
  holding [v, ov, iv] (setItem ov iv v)
  release [v, ov, iv] [])
/-- xs[k] = e -/
theorem s_setIx {npos : Pos} (hN : X.N[i]? = some n) (hv : Vis X.env.scope n) (hd : (n == ("__debug__" : Str)) = false) (hcd : (n == ("__classdict__" : Str)) = false) (hk : PE X y (tE w Ex Φ e)) (ha : PE X x (tE w Ex Φ a))
    (hs : swapsWithSole [.Subscript (.Name n npos) y tpos] x pos.line X.env = pure false) (hx : AsgIx X n npos y tpos) : PS X (.Assign [.Subscript (.Name n npos) y tpos] x pos) (tS w Ex Φ (.setIx i e a)) :=
  (ps_asg ha (pg_sub (pe_var hN hv hd hcd) hk set_list hx) hs (by rfl) (by rfl)).imp fun D σ H h => by
    obtain ⟨c, rfl, rfl, r, h⟩ := h
    refine tE_seqP h (LStep.refl c) r fun c2 v dv r2 x2 x02 hσ rel fr q => ?_
    obtain ⟨d, c3, hH, r3, x3, rep, _, _, _, q3⟩ := AftP.frz (f := fun d => bnd (setAt w.T Φ i e d) fun _ => ret Fl.nx) q r2 x2 rel fr
    obtain ⟨o, ho, q4⟩ := setAt_in (P := fun H3 => D.nx c.σ H3) q3 r3 x3.l rep fun c4 hσ4 r4 x4 _ q4 => by
      have e5 : c4.σ = c.σ := hσ4.trans x3.σ
      have q5 := AftP.ret (Ex := Ex) (a := Fl.nx) q4 x4 r4
      have q6 : D.nx c4.σ c4.H := q5
      rw [e5] at q6
      exact q6
    have e3 : c3.σ = c.σ := x3.σ
    rw [e3] at ho q4
    rw [hH] at q4
    exact ⟨o, ho, q4⟩
/-! ### names, stored from the right -/
def sets {α : Type} : List (Option α) → List Nat → List α → List (Option α)
  | l, j :: js, v :: vs => sets (l.set j (some v)) js vs
  | l, _, _ => l
theorem sets_out {l : List (Option α)} {j : Nat} {v : α} : ∀ {js : List Nat} {vs : List α} {l : List (Option α)}, j ∉ js → sets (l.set j (some v)) js vs = (sets l js vs).set j (some v)
  | [], _, _, _ => rfl
  | _ :: _, [], _, _ => rfl
  | i :: js, u :: vs, l, h => by
    have h1 : j ≠ i := fun z => h (by rw [z]; exact List.mem_cons_self)
    have h2 : j ∉ js := fun z => h (List.mem_cons_of_mem _ z)
    show sets ((l.set j (some v)).set i (some u)) js vs = (sets (l.set i (some u)) js vs).set j (some v)
    rw [List.set_comm _ _ h1, sets_out (l := l) h2]
theorem sets_end {j : Nat} {v : α} : ∀ {js : List Nat} {vs : List α} {l : List (Option α)}, js.length = vs.length → sets l (js ++ [j]) (vs ++ [v]) = (sets l js vs).set j (some v)
  | [], [], _, _ => rfl
  | _ :: js, _ :: vs, l, h => sets_end (js := js) (vs := vs) (by simpa using h)
  | [], _ :: _, _, h => by simp at h
  | _ :: _, [], _, h => by simp at h
theorem sets_rev : ∀ {js : List Nat} {vs : List α} {l : List (Option α)}, js.Nodup → js.length = vs.length → sets l js.reverse vs.reverse = sets l js vs
  | [], [], _, _, _ => rfl
  | j :: js, v :: vs, l, nd, h => by
    obtain ⟨n1, n2⟩ := List.nodup_cons.mp nd
    have hl : js.length = vs.length := by simpa using h
    rw [List.reverse_cons, List.reverse_cons, sets_end (by simpa using hl), sets_rev n2 hl]
    exact (sets_out (l := l) n1).symm
  | [], _ :: _, _, _, h => by simp at h
  | _ :: _, [], _, _, h => by simp at h
theorem vals_rev : ∀ {vs : List V} {us : List Value}, Vals vs us → Vals vs.reverse us.reverse
  | _, _, .nil => .nil
  | _, _, .cons r rr => by
    rw [List.reverse_cons, List.reverse_cons]
    exact (vals_rev rr).append (.cons r .nil)
/-- names and their slots -/
inductive NmS (X : Cx) : List Str → List Nat → Prop where
  | nil : NmS X [] []
  | cons {n : Str} {i : Nat} {ns : List Str} {js : List Nat} (hi : X.N[i]? = some n) (hl : X.env.scope.names.lookup n = some .local) (r : NmS X ns js) : NmS X (n :: ns) (i :: js)
theorem NmS.append {ns ms : List Str} {js ks : List Nat} (a : NmS X ns js) (b : NmS X ms ks) : NmS X (ns ++ ms) (js ++ ks) := by
  induction a with
  | nil => exact b
  | cons hi hl _ ih => exact .cons hi hl ih
theorem NmS.rev {ns : List Str} {js : List Nat} (a : NmS X ns js) : NmS X ns.reverse js.reverse := by
  induction a with
  | nil => exact .nil
  | cons hi hl _ ih =>
    rw [List.reverse_cons, List.reverse_cons]
    exact ih.append (.cons hi hl .nil)
theorem NmS.length {ns : List Str} {js : List Nat} (a : NmS X ns js) : ns.length = js.length := by
  induction a with
  | nil => rfl
  | cons _ _ _ ih => rw [List.length_cons, List.length_cons, ih]
theorem stores {pins : List (Addr × Obj)} {Hx : Hp} {Q : Unit → Shared → Prop} (hN : X.N.Nodup) : ∀ {ns : List Str} {js : List Nat} {vs : List V} {us : List Value} {σ : L2.St} {s : Shared}, NmS X ns js → Vals vs us → vs.length = js.length → Inv X pins σ Hx s →
    (∀ s', Inv X pins (sets σ js vs) Hx s' → Q () s') → wpAny (model X.prog X.w) X.A (assignInOrder (ns.map fun n => bindName X.env n) us) Q X.xe s
  | _, _, _, _, _, _, .nil, .nil, _, I, hq => assignInOrder_nil (hq _ I)
  | _, _, _, _, _, _, .cons hi hl r, .cons rv rr, hlen, I, hq =>
    assignInOrder_cons (wpAny_bindName (store_ok I hN hi (.inl hl) rv (fun s2 I2 => stores hN r rr (by simpa using hlen) I2 hq) (.inr hl)))
  | _, _, _, _, _, _, .nil, .cons _ _, h, _, _ => by simp at h
  | _, _, _, _, _, _, .cons _ _ _, .nil, h, _, _ => by simp at h
def tSw (js : List Nat) (ta : TA) : TS := fun D σ H => ta σ H fun vs H1 => vs.length = js.length ∧ D.nx (sets σ js vs) H1
theorem ps_sw {ts : List Expr} {ns : List Str} {js : List Nat} {ta : TA} (hc : X.calm = true) (hN : X.N.Nodup) (nd : js.Nodup) (h3 : js.length ≤ 3) (ok : NmS X ns js) (ha : PA X l ta)
    (hw : swappedStores [.Tuple ts kk tpos] (.Tuple l k2 p) X.env = pure (some ns)) (hs : swapsWithSole [.Tuple ts kk tpos] (.Tuple l k2 p) pos.line X.env = pure false) :
    PS X (.Assign [.Tuple ts kk tpos] (.Tuple l k2 p) pos) (tSw js ta) := by
  refine ⟨fun pins s σ H D I h => ?_⟩
  rw [exec_Assign_arm]
  refine wpAny_bind (wpAny_standAt ?_)
  rw [hs]
  refine wpAny_bind (wpAny_pure ?_)
  rw [if_neg (by decide)]
  have hnl := ok.length
  refine wpAny_bind (wpAny_Tuple_spliced (thn (ha.run _ pins s σ H _ I h) fun us s1 ⟨vs, H1, I1, r1, hl, q1⟩ => ?_))
  have hul : us.length = ns.length := by rw [← r1.length, hl, hnl]
  refine ⟨by rw [hul, hnl, sizeLine_eq]; omega, ?_⟩
  · have I2 : Inv X pins σ H1 { s1 with heap := s1.heap.push { cls := .type "tuple", data := .seq us.toArray } } := I1.kept (t' := s1.toks) fun b o e => Heap.get?_push_of_some _ e
    rw [hw]
    refine wpAny_bind (wpAny_pure ?_)
    show wpAny (model X.prog X.w) X.A (do
      rule "assign.swapped-stores"
      let items ← unpackItems (.ref s1.heap.objs.size) ns.length none
      assignInOrder (ns.reverse.map fun n => bindName X.env n) items.reverse
      pure Flow.next) _ _ _
    refine wpAny_bind (wpAny_rule (wpAny_bind ?_))
    have e : ns.length = us.toArray.size := by rw [List.size_toArray, hul]
    rw [e]
    refine unpackItems_tuple (items := us.toArray) (I.ok.hd hc) (IsTup.new s1.heap _) fun h' hx' => ?_
    have I3 := I2.kept (h' := h') (t' := s1.toks) fun b o e => hx' b o (Nat.ne_of_lt (Heap.lt_size e)) e
    refine wpAny_bind (stores hN ok.rev (vals_rev r1) (by rw [List.length_reverse, List.length_reverse, hl]) I3 fun s' I4 => wpAny_pure ?_)
    rw [sets_rev nd hl.symm] at I4
    exact ⟨_, H1, I4, q1⟩
end
end DI

set_option Elab.async false
set_option linter.all false
set_option maxRecDepth 100000
set_option maxHeartbeats 4000000
/-! DI16: several targets; fields. Own text. -/
namespace DI
open PySem PySem.Spec PyProof.Rows L2
def isB : DV → Bool
  | .b _ => true
  | _ => false
section
variable {w : Wd} {Ex : Nat → D → C → Prop} {Φ : Fns} {X : Cx} {x y tg : Expr} {p pos pos' tpos npos : Pos} {a b e : E} {es : List E} {l : List Expr} {kk k2 : Nat} {α β : Type} {n : Str} {i : Nat}
theorem settle_noExc : ∀ {ds : List DV} {s : S} {k d s'}, settle ds s ≠ .exc k d s'
  | [], _, _, _, _, h => by cases h
  | .b i :: ds, s, k, d', s', h => by
    rcases bnd_exc (show DI.bnd (DI.frz (.b i)) (fun y => DI.bnd (settle ds) fun ys => DI.ret (.f y :: ys)) s = .exc k d' s' from h) with h1 | ⟨a, s1, _, h1⟩
    · exact frz_noExc h1
    · rcases bnd_exc h1 with h2 | ⟨b, s2, _, h2⟩
      · exact settle_noExc h2
      · cases h2
  | .f d :: ds, s, k, d', s', h => by
    rcases bnd_exc (show DI.bnd (settle ds) (fun ys => DI.ret (.f d :: ys)) s = .exc k d' s' from h) with h1 | ⟨a, s1, _, h1⟩
    · exact settle_noExc h1
    · cases h1
  | .o d :: ds, s, k, d', s', h => by
    rcases bnd_exc (show DI.bnd (settle ds) (fun ys => DI.ret (.o d :: ys)) s = .exc k d' s' from h) with h1 | ⟨a, s1, _, h1⟩
    · exact settle_noExc h1
    · cases h1
  | .n c d :: ds, s, k, d', s', h => by
    rcases bnd_exc (show DI.bnd (settle ds) (fun ys => DI.ret (.n c d :: ys)) s = .exc k d' s' from h) with h1 | ⟨a, s1, _, h1⟩
    · exact settle_noExc h1
    · cases h1
/-- values that lean on a slot let it be -/
theorem settle_ok {c0 : C} : ∀ {dvs : List DV} {vs : List V} {c : C} {ws : List DV} {s' : S}, R w c → Rels w c0.H c vs dvs → SStep c0 c → settle dvs c.s = .ok ws s' →
    ∃ c', c'.s = s' ∧ c'.H = c.H ∧ R w c' ∧ SStep c0 c' ∧ SStep c c' ∧ Rels w c0.H c' vs ws ∧ (∀ d ∈ ws, isB d = false) ∧ ∀ (j : Nat) d, ws[j]? = some d → isO d = true → ∃ d', dvs[j]? = some d' ∧ isO d' = true
  | [], [], c, ws, s', r, rel, x, h => by
    cases h
    exact ⟨c, rfl, rfl, r, x, SStep.refl c, trivial, fun d h => by simp at h, fun j d h => by simp at h⟩
  | [], _ :: _, _, _, _, _, rel, _, _ => rel.elim
  | _ :: _, [], _, _, _, _, rel, _, _ => rel.elim
  | dv :: dvs, v :: vs, c, ws, s', r, ⟨h1, h2, h3, h4⟩, x, h => by
    by_cases hb : isB dv = true
    · cases dv with
      | b i =>
        obtain ⟨d, s1, q1, q2⟩ := bnd_ok (show DI.bnd (DI.frz (.b i)) (fun y => DI.bnd (settle dvs) fun ys => DI.ret (.f y :: ys)) c.s = .ok ws s' from h)
        obtain ⟨ws', s2, q3, q4⟩ := bnd_ok q2
        cases q4
        obtain ⟨c1, rfl, hH, r1, x1, rep, _, _, oth⟩ := frz_ok (c0 := c) r h1 (SStep.refl c) trivial q1
        have rels1 : Rels w c0.H c1 vs dvs := Rels.others oth (fun i u e a b z => by cases z) h4
        obtain ⟨c2, e2, hH2, r2, x2, x22, rels2, nb, ow⟩ := settle_ok r1 rels1 (x.trans x1) q3
        refine ⟨c2, e2, hH2.trans hH, r2, x2, x1.trans x22, ⟨RepD.step x22.toStep rep, trivial, (fun i u e _ _ z => by cases z), rels2⟩, fun d hd => ?_, fun j d hd hdo => ?_⟩
        · rcases List.mem_cons.mp hd with rfl | hd
          · rfl
          · exact nb d hd
        · cases j with
          | zero => simp at hd; subst hd; cases hdo
          | succ j => exact ow j d (by simpa using hd) hdo
      | f d => cases hb
      | o d => cases hb
      | n k d => cases hb
    · have hb' : isB dv = false := by simpa using hb
      have h' : DI.bnd (settle dvs) (fun ys => DI.ret (dv :: ys)) c.s = .ok ws s' := by
        cases dv with
        | b i => cases hb'
        | f d => exact h
        | o d => exact h
        | n k d => exact h
      obtain ⟨ws', s2, q3, q4⟩ := bnd_ok h'
      cases q4
      obtain ⟨c2, e2, hH2, r2, x2, x22, rels2, nb, ow⟩ := settle_ok r h4 x q3
      refine ⟨c2, e2, hH2, r2, x2, x22, ⟨h1.step x22, h2, fun j u d hu hd ho1 ho2 => ?_, rels2⟩, fun d hd => ?_, fun j d hd hdo => ?_⟩
      · obtain ⟨d', e', o'⟩ := ow j d hd ho2
        exact h3 j u d' hu e' ho1 o'
      · rcases List.mem_cons.mp hd with rfl | hd
        · exact hb'
        · exact nb d hd
      · cases j with
        | zero => simp at hd; subst hd; exact ⟨dv, rfl, hdo⟩
        | succ j => exact ow j d (by simpa using hd) hdo
theorem AftP.settle {c0 c1 c : C} {dvs : List DV} {vs : List V} {f : List DV → M β} {Q : C → β → Prop} (h : AftP w Ex c0 (DI.bnd (DI.settle dvs) f c.s) Q) (r : R w c) (x : SStep c1 c) (rel : Rels w c1.H c vs dvs) :
    ∃ ws c', c'.H = c.H ∧ R w c' ∧ SStep c1 c' ∧ Rels w c1.H c' vs ws ∧ (∀ d ∈ ws, isB d = false) ∧ AftP w Ex c0 (f ws c'.s) Q := by
  unfold DI.bnd at h
  cases e : DI.settle dvs c.s with
  | ok ws s' =>
    rw [e] at h
    obtain ⟨c', rfl, hH, r', x', _, rels, nb, _⟩ := settle_ok r rel x e
    exact ⟨ws, c', hH, r', x', rels, nb, h⟩
  | exc k d s => exact (settle_noExc e).elim
  | stuck => rw [e] at h; exact h.elim
theorem Rels.mono {H : Hp} {c c' : C} (x : ∀ u e, (∀ j, e ≠ .b j) → Rel w c u e → Rel w c' u e) : ∀ {vs : List V} {ds : List DV}, (∀ d ∈ ds, isB d = false) → Rels w H c vs ds → Rels w H c' vs ds
  | [], [], _, h => h
  | _ :: _, d :: _, nb, ⟨h1, h2, h3, h4⟩ => ⟨x _ _ (fun j z => by have := nb d List.mem_cons_self; rw [z] at this; cases this) h1, h2, h3, Rels.mono x (fun d hd => nb d (List.mem_cons_of_mem _ hd)) h4⟩
  | [], _ :: _, _, h => h.elim
  | _ :: _, [], _, h => h.elim
theorem Rels.keep {H : Hp} {c c' : C} {v : V} {dv : DV} (x : ∀ u e, (∀ j, e ≠ .b j) → (isO dv = true → isO e = true → u ≠ v) → Rel w c u e → Rel w c' u e) : ∀ {vs : List V} {ds : List DV}, (∀ d ∈ ds, isB d = false) → (∀ (i : Nat) u e, vs[i]? = some u → ds[i]? = some e → isO dv = true → isO e = true → u ≠ v) → Rels w H c vs ds → Rels w H c' vs ds
  | [], [], _, _, h => h
  | u :: _, d :: _, nb, ne, ⟨h1, h2, h3, h4⟩ => ⟨x _ _ (fun j z => by have := nb d List.mem_cons_self; rw [z] at this; cases this) (ne 0 u d rfl rfl) h1, h2, h3, Rels.keep x (fun d hd => nb d (List.mem_cons_of_mem _ hd)) (fun i u e a b => ne (i + 1) u e (by simpa using a) (by simpa using b)) h4⟩
  | [], _ :: _, _, _, h => h.elim
  | _ :: _, [], _, _, h => h.elim
/-- names kept, from the left -/
theorem asgN_ok {f : Unit → M β} {Q : C → β → Prop} {c0 : C} : ∀ {js : List Nat} {ws : List DV} {vs : List V} {c : C}, AftP w Ex c0 (DI.bnd (asgXs w.T Φ (js.map .nm) ws) f c.s) Q → R w c → LStep c0 c → Rels w c0.H c vs ws → (∀ d ∈ ws, isB d = false) →
    ∃ c' : C, c'.σ = sets c.σ js vs ∧ c'.H = c.H ∧ R w c' ∧ LStep c0 c' ∧ vs.length = js.length ∧ AftP w Ex c0 (f () c'.s) Q
  | [], [], [], c, h, r, x, _, _ => ⟨c, rfl, rfl, r, x, rfl, h⟩
  | j :: js, d :: ds, v :: vs, c, h, r, x, ⟨h1, h2, h3, h4⟩, nb => by
    have h' : AftP w Ex c0 (DI.bnd (keep j d) (fun _ => DI.bnd (asgXs w.T Φ (js.map .nm) ds) f) c.s) Q := by
      rw [← bnd_assoc]
      exact h
    obtain ⟨c1, e1, e2, r1, x1, oth, q⟩ := keep_ok h' r x h1 h2
    have rels := Rels.keep oth (fun d hd => nb d (List.mem_cons_of_mem _ hd)) h3 h4
    obtain ⟨c2, f1, f2, r2, x2, hl, q2⟩ := asgN_ok q r1 x1 rels fun d hd => nb d (List.mem_cons_of_mem _ hd)
    exact ⟨c2, by rw [f1, e1]; rfl, f2.trans e2, r2, x2, by rw [List.length_cons, List.length_cons, hl], q2⟩
  | [], [], _ :: _, _, _, _, _, h, _ => h.elim
  | [], _ :: _, _, _, h, _, _, _, _ => h.elim
  | _ :: _, [], _, _, h, _, _, _, _ => h.elim
  | _ :: _, _ :: _, [], _, _, _, _, h, _ => h.elim
theorem s_parN {ts : List Expr} {ns : List Str} {js : List Nat} (hc : X.calm = true) (hN : X.N.Nodup) (nd : js.Nodup) (h3 : js.length ≤ 3) (ok : NmS X ns js) (ha : PA X l (tEs w Ex Φ es))
    (hw : swappedStores [.Tuple ts kk tpos] (.Tuple l k2 p) X.env = pure (some ns)) (hs : swapsWithSole [.Tuple ts kk tpos] (.Tuple l k2 p) pos.line X.env = pure false) :
    PS X (.Assign [.Tuple ts kk tpos] (.Tuple l k2 p) pos) (tS w Ex Φ (.par (js.map .nm) es)) := (ps_sw hc hN nd h3 ok ha hw hs).imp fun D σ H h => by
  obtain ⟨c, rfl, rfl, r, h⟩ := h
  refine tEs_seqP h (LStep.refl c) r fun c2 vs dvs r2 x2 x02 hσ rels q => ?_
  obtain ⟨ws, c3, hH, r3, x3, rels3, nb, q3⟩ := AftP.settle (f := fun ws => bnd (asgXs w.T Φ (js.map .nm) ws) fun _ => ret Fl.nx) q r2 x2 rels
  obtain ⟨c4, e1, e2, r4, x4, hl, q4⟩ := asgN_ok q3 r3 x3.l rels3 nb
  have e3 : c3.σ = c.σ := x3.σ
  have q5 : D.nx c4.σ c4.H := AftP.ret (Ex := Ex) (a := Fl.nx) q4 x4 r4
  rw [e1, e2, e3, hH] at q5
  exact ⟨hl, q5⟩
/-- targets of any kind, from the left -/
def gXs (w : Wd) (Ex : Nat → D → C → Prop) (Φ : Fns) (ts : List TX) : TGs := fun vs σ H Q => ∃ (c0 c : C) (ws : List DV), c.σ = σ ∧ c.H = H ∧ R w c ∧ LStep c0 c ∧ Rels w c0.H c vs ws ∧ (∀ d ∈ ws, isB d = false) ∧ AftP w Ex c0 (asgXs w.T Φ ts ws c.s) fun c' _ => Q c'.σ c'.H
theorem gx_nil : PGs X [] (gXs w Ex Φ []) := pgs_nil.imp fun vs σ H Q h => by
  obtain ⟨c0, c, ws, rfl, rfl, r, x, rel, nb, h⟩ := h
  cases ws with
  | nil =>
    cases vs with
    | nil => exact ⟨rfl, AftP.ret (a := ()) h x r⟩
    | cons v vs => exact rel.elim
  | cons d ds => exact h.elim
theorem gx_nm {ts : List TX} (hN : X.N.Nodup) (hi : X.N[i]? = some n) (hx : Loc X.env.scope n) (hf : X.fn n = true ∨ X.env.scope.names.lookup n = some .local) (h2 : PGs X l (gXs w Ex Φ ts)) (hs : (assignEach (.Name n npos :: l) X.env).map (·.2) = assign (.Name n npos) X.env :: (assignEach l X.env).map (·.2)) :
    PGs X (.Name n npos :: l) (gXs w Ex Φ (.nm i :: ts)) := (pgs_cons (pg_name hN hi hx hf) h2 hs).imp fun vs σ H Q h => by
  obtain ⟨c0, c, ws, rfl, rfl, r, x, rel, nb, h⟩ := h
  rcases ws with _ | ⟨d, ds⟩
  · exact h.elim
  rcases vs with _ | ⟨v, vs⟩
  · exact rel.elim
  obtain ⟨r1, r2, r3, r4⟩ := rel
  obtain ⟨c1, e1, e2, rc, x1, oth, q⟩ := keep_ok (f := fun _ => asgXs w.T Φ ts ds) h r x r1 r2
  refine ⟨v, vs, rfl, ?_⟩
  have rels := Rels.keep oth (fun d hd => nb d (List.mem_cons_of_mem _ hd)) r3 r4
  exact ⟨c0, c1, ds, e1, e2, rc, x1, rels, fun d hd => nb d (List.mem_cons_of_mem _ hd), q⟩
theorem gx_ix {ts : List TX} (hi : X.N[i]? = some n) (hv : Vis X.env.scope n) (hd : (n == ("__debug__" : Str)) = false) (hcd : (n == ("__classdict__" : Str)) = false) (hk : PE X y (tE w Ex Φ e)) (hx : AsgIx X n npos y tpos) (h2 : PGs X l (gXs w Ex Φ ts))
    (hs : (assignEach (.Subscript (.Name n npos) y tpos :: l) X.env).map (·.2) = assign (.Subscript (.Name n npos) y tpos) X.env :: (assignEach l X.env).map (·.2)) :
    PGs X (.Subscript (.Name n npos) y tpos :: l) (gXs w Ex Φ (.ix i e :: ts)) := (pgs_cons (pg_sub (pe_var hi hv hd hcd) hk set_list hx) h2 hs).imp fun vs σ H Q h => by
  obtain ⟨c0, c, ws, rfl, rfl, r, x, rel, nb, h⟩ := h
  rcases ws with _ | ⟨d, ds⟩
  · exact h.elim
  rcases vs with _ | ⟨v, vs⟩
  · exact rel.elim
  obtain ⟨r1, r2, r3, r4⟩ := rel
  refine ⟨v, vs, rfl, ?_⟩
  cases d with
  | f d =>
    obtain ⟨o, ho, q⟩ := setAt_in (P := fun H3 => gXs w Ex Φ ts vs c.σ H3 Q) (f := fun _ => asgXs w.T Φ ts ds) h r x r1 fun c4 hσ4 r5 x5 x6 q4 => by
      refine ⟨c0, c4, ds, hσ4, rfl, r5, x5, ?_, fun d hd => nb d (List.mem_cons_of_mem _ hd), q4⟩
      refine Rels.mono (fun u e nbe re => ?_) (fun d hd => nb d (List.mem_cons_of_mem _ hd)) r4
      exact Rel.step ⟨x6.toStep, hσ4, x6.pres, fun j k fs h => (x6.ini j k fs h).1⟩ re
    exact ⟨o, ho, q⟩
  | o d => exact h.elim
  | b j => exact h.elim
  | n k d => exact h.elim
theorem chk_inP {c0 c : C} {n : Nat} {vs : List DV} {f : M β} {Q : C → β → Prop} (h : AftP w Ex c0 (DI.bnd (chk n vs) (fun _ => f) c.s) Q) : vs.length = n ∧ AftP w Ex c0 (f c.s) Q := by
  simp only [DI.bnd, chk] at h
  by_cases hv : vs.length = n
  · rw [if_pos hv] at h
    exact ⟨hv, h⟩
  · rw [if_neg hv] at h
    exact h.elim
theorem AftP.bnd0 {c0 c1 : C} {m : M α} {f : α → M β} {Q : C → β → Prop} (h : AftP w Ex c0 (DI.bnd m f c1.s) Q) : AftP w Ex c0 (m c1.s) fun c2 a => LStep c0 c2 ∧ R w c2 ∧ AftP w Ex c0 (f a c2.s) Q := by
  unfold DI.bnd at h
  cases e : m c1.s with
  | ok a s =>
    rw [e] at h
    intro c2 hs r2 x2
    exact ⟨x2, r2, by rw [hs]; exact h⟩
  | exc k d s =>
    rw [e] at h
    exact h
  | stuck => rw [e] at h; exact h
theorem s_parX {ts : List Expr} {xs : List TX} (hK : X.K = w.K) (hc : X.calm = true) (ha : PA X l (tEs w Ex Φ es)) (hg : PGs X ts (gXs w Ex Φ xs)) (hl : es.length = xs.length) (hsz : xs.length ≤ 64) (hn : (assignEach ts X.env).length = xs.length) (hst : (assignEach ts X.env).findIdx? (·.1) = none)
    (hw : swappedStores [.Tuple ts kk tpos] (.Tuple l k2 p) X.env = pure none) (hs : swapsWithSole [.Tuple ts kk tpos] (.Tuple l k2 p) pos.line X.env = pure false) :
    PS X (.Assign [.Tuple ts kk tpos] (.Tuple l k2 p) pos) (tS w Ex Φ (.par xs es)) := (ps_asg (pe_tup ha) (pg_tup hc hg hn hst) hs hw (by rfl)).imp fun D σ H h => by
  obtain ⟨c, rfl, rfl, r, h⟩ := h
  have h' : AftP w Ex c (DI.bnd (evs w Φ es) (fun vs => DI.bnd (chk es.length vs) fun _ => DI.bnd (settle vs) fun ws => DI.bnd (asgXs w.T Φ xs ws) fun _ => ret Fl.nx) c.s) (FlQ w c D) := by
    rw [← chk_bnd (f := fun vs => DI.bnd (settle vs) fun ws => DI.bnd (asgXs w.T Φ xs ws) fun _ => ret Fl.nx)]
    exact h
  show tEs w Ex Φ es c.σ c.H (fun us H1 => us.length ≤ sizeLine ∧ ∀ p, H1 p = none → gTup X.K xs.length (gXs w Ex Φ xs) (.ref p) c.σ (L2.upd H1 p (.tup us)) D.nx)
  refine tEs_seqP h' (LStep.refl c) r fun c2 vs dvs r2 x2 x02 hσ rels q => ?_
  obtain ⟨hv, q⟩ := chk_inP q
  obtain ⟨ws, c3, hH, r3, x3, rels3, nb, q3⟩ := AftP.settle (f := fun ws => DI.bnd (asgXs w.T Φ xs ws) fun _ => ret Fl.nx) q r2 x2 rels
  have len : vs.length = xs.length := by rw [rels.length, hv, hl]
  refine ⟨by rw [len, sizeLine_eq]; omega, fun q hq => ?_⟩
  have hq3 : c3.H q = none := by rw [hH]; exact hq
  obtain ⟨r4, x4⟩ := r3.lay hq3 (.tup vs)
  refine ⟨q, vs, rfl, SqT.of upd_same, len, c, { c3 with H := L2.upd c3.H q (.tup vs) }, ws, x3.σ, by rw [← hH], r4, x3.l.trans x4.l, Rels.step (fun u e re => re.step x4) rels3, nb, ?_⟩
  refine (AftP.bnd0 (c1 := { c3 with H := L2.upd c3.H q (.tup vs) }) (m := asgXs w.T Φ xs ws) q3).imp fun c5 _ r5 x5 ⟨_, _, q5⟩ => ?_
  exact AftP.ret (Ex := Ex) (a := Fl.nx) q5 x5 r5
/-- a, b = e -/
theorem s_unp {ts : List Tg} (ha : PE X x (tE w Ex Φ a)) (hg : PG X tg (gT w Ex (.tp ts))) (hs : swapsWithSole [tg] x pos.line X.env = pure false) (hw : swappedStores [tg] x X.env = pure none) (h1 : (assignEach [tg] X.env).map (·.2) = [assign tg X.env]) :
    PS X (.Assign [tg] x pos) (tS w Ex Φ (.unp ts a)) := (ps_asg ha hg hs hw h1).imp fun D σ H h => by
  obtain ⟨c, rfl, rfl, r, h⟩ := h
  refine tE_seqP h (LStep.refl c) r fun c2 v dv r2 x2 x02 hσ rel fr q => ?_
  obtain ⟨d, lk, q2⟩ := AftP.look (f := fun d => DI.bnd (asgT (.tp ts) d) fun _ => ret Fl.nx) q r2 rel
  have rep : RepD w c2.dl c2.F d v := by
    cases d with
    | lst ds => exact q2.elim
    | _ => exact lk
  refine ⟨c2, d, hσ, rfl, r2, rep, (AftP.bnd (m := asgT (.tp ts) d) q2 x02).imp fun c5 _ r5 x5 ⟨_, _, q5⟩ => ?_⟩
  exact AftP.ret (Ex := Ex) (a := Fl.nx) q5 (x02.trans x5) r5
/-! ### a field of the instance in the making -/
/-- the class at K has no attribute of these names: an instance's own are found -/
structure FldOk (w : Wd) (X : Cx) (k0 : Nat) (f : Str) : Prop where
  cls : Cls X.K (w.ca k0)
  no : NoAttr X.K (w.ca k0) f
  few : (w.T.fl k0).length < 900
theorem putF_new (f : Str) (v : V) : ∀ {fs : List (Str × V)}, (∀ p ∈ fs, p.1 ≠ f) → putF f v fs = fs ++ [(f, v)]
  | [], _ => rfl
  | (g, u) :: r, h => by
    show (if g = f then (g, v) :: r else (g, u) :: putF f v r) = _
    rw [if_neg (h _ List.mem_cons_self), putF_new f v fun p hp => h p (List.mem_cons_of_mem _ hp)]
    rfl
theorem zip_snoc {α β : Type} : ∀ {ns : List α} {vs : List β} {n : α} {v : β}, ns[vs.length]? = some n → ns.zip (vs ++ [v]) = ns.zip vs ++ [(n, v)]
  | [], vs, n, v, h => by simp at h
  | m :: ns, [], n, v, h => by
    simp at h
    subst h
    simp
  | m :: ns, u :: vs, n, v, h => by
    show (m, u) :: ns.zip (vs ++ [v]) = _
    rw [zip_snoc (by simpa using h)]
    rfl
theorem s_fset {k : Nat} {fpos opos : Pos} {f : Str} (hK : X.K = w.K) (h0 : X.N[(0 : Nat)]? = some n) (hv : Vis X.env.scope n) (hd : (n == ("__debug__" : Str)) = false) (hcd : (n == ("__classdict__" : Str)) = false) (hf : w.fn k = f) (ok : ∀ k0, k ∈ w.T.fl k0 → FldOk w X k0 f ∧ (w.names k0).Nodup)
    (ha : PE X x (tE w Ex Φ a)) (hs : swapsWith x (some (.Attribute (.Name n opos) f fpos)) pos.line X.env = pure false) : PS X (.Assign [.Attribute (.Name n opos) f fpos] x pos) (tS w Ex Φ (.fset k a)) := (ps_fld (pe_var h0 hv hd hcd) ha hs).imp fun D σ H h => by
  obtain ⟨c, rfl, rfl, r, h⟩ := h
  refine tE_seqP h (LStep.refl c) r fun c2 v dv r2 x2 x02 hσ rel fr q => ?_
  obtain ⟨d, c3, hH, r3, x3, rep, _, _, _, q3⟩ := AftP.frz (f := fun d => DI.bnd (fsetM w.T k d) fun _ => ret Fl.nx) q r2 x2 rel fr
  have e3 : c3.σ = c.σ := x3.σ
  unfold DI.bnd fsetM at q3
  cases e0 : c3.ρ[(0 : Nat)]? with
  | none =>
    simp only [C.s, e0] at q3
    exact q3.elim
  | some o =>
    cases o with
    | none =>
      simp only [C.s, e0] at q3
      exact q3.elim
    | some d0 =>
      cases d0 with
      | f d' => simp only [C.s, e0] at q3; exact q3.elim
      | o d' => simp only [C.s, e0] at q3; exact q3.elim
      | b d' => simp only [C.s, e0] at q3; exact q3.elim
      | n k0 fs =>
        simp only [C.s, e0] at q3
        by_cases hk : (w.T.fl k0)[fs.length]? = some k
        · simp only [hk, if_true] at q3
          obtain ⟨v0, f1, A, dx, us, rfl, f3, f4, f5, f6⟩ := r3.slot 0 _ e0
          obtain ⟨⟨okc, okn, okf⟩, nd⟩ := ok k0 (List.mem_of_getElem? hk)
          have ul : us.length = fs.length := f6.length
          have nm : (w.names k0)[us.length]? = some f := by rw [List.getElem?_map, ul, hk, ← hf]; rfl
          have hlt : fs.length < (w.T.fl k0).length := (List.getElem?_eq_some_iff.mp hk).1
          have znew : ∀ p ∈ (w.names k0).zip us, p.1 ≠ f := fun p hp ep => by
            obtain ⟨j, hj, ej⟩ := List.getElem_of_mem hp
            have hj' : j < us.length := by rw [List.length_zip] at hj; omega
            have q1 : (w.names k0)[j]? = some f := by
              have z : ((w.names k0).zip us)[j]? = some p := by rw [List.getElem?_eq_getElem hj, ej]
              obtain ⟨z1, _⟩ := List.getElem?_zip_eq_some.mp z
              rw [z1, ep]
            have hl1 : j < (w.names k0).length := (List.getElem?_eq_some_iff.mp q1).1
            have := (List.getElem?_inj hl1 nd).mp (q1.trans nm.symm)
            omega
          have pf : putF f v ((w.names k0).zip us) = (w.names k0).zip (us ++ [v]) := by rw [putF_new f v znew, zip_snoc nm]
          have eσ : c.σ[(0 : Nat)]? = some (some (.ref A)) := by rw [← e3]; exact f1
          have own0 : Own c3 0 A := ⟨f1, _, e0, rfl⟩
          refine ⟨.ref A, eσ, A, w.ca k0, dx, (w.names k0).zip us, rfl, by rw [← hH]; exact f4, okc, okn, ?_, ?_⟩
          · rw [List.length_zip, List.length_map]; omega
          · rw [pf, ← e3, ← hH]
            -- the heap behind
            have hρ : (0 : Nat) < c3.ρ.length := (List.getElem?_eq_some_iff.mp e0).1
            have hset : ∀ (j : Nat) (dv : DV), (c3.ρ.set 0 (some (.n k0 (fs ++ [d]))))[j]? = some (some dv) → (j = 0 ∧ dv = .n k0 (fs ++ [d])) ∨ (j ≠ 0 ∧ c3.ρ[j]? = some (some dv)) := fun j dv hj => by
              cases j with
              | zero =>
                rw [List.getElem?_set_self hρ] at hj
                cases hj
                exact .inl ⟨rfl, rfl⟩
              | succ j =>
                rw [List.getElem?_set_ne (by omega)] at hj
                exact .inr ⟨by omega, hj⟩
            have own : ∀ {j : Nat} {b : Addr}, Own { c3 with H := L2.upd c3.H A (.ins (w.ca k0) dx ((w.names k0).zip (us ++ [v]))), ρ := c3.ρ.set 0 (some (.n k0 (fs ++ [d]))) } j b → Own c3 j b := fun {j b} ⟨g1, dv, g2, g3⟩ => by
              rcases hset j dv g2 with ⟨rfl, rfl⟩ | ⟨_, g⟩
              · exact ⟨g1, _, e0, rfl⟩
              · exact ⟨g1, dv, g, g3⟩
            have r4 : R w { c3 with H := L2.upd c3.H A (.ins (w.ca k0) dx ((w.names k0).zip (us ++ [v]))), ρ := c3.ρ.set 0 (some (.n k0 (fs ++ [d]))) } := by
              refine ⟨fun b u hb => ?_, by rw [List.length_set]; exact r3.len, fun j dv hj => ?_, fun i j b g1 g2 => r3.dist i j b (own g1) (own g2), fun i b p g hp => r3.ndeal i b p (own g) hp, ?_⟩
              · have z : b ≠ A := fun z => by
                  have hb' : c3.F b = some u := hb
                  rw [z, f3] at hb'
                  cases hb'
                exact (upd_ne z).trans (r3.sub b u hb)
              · rcases hset j dv hj with ⟨rfl, rfl⟩ | ⟨hj0, g⟩
                · exact ⟨.ref A, f1, A, dx, us ++ [v], rfl, f3, upd_same, by rw [List.length_append, List.length_map, ul]; show fs.length + 1 ≤ _; omega, RepAll.append f6 (RepAll.one rep)⟩
                · obtain ⟨u, g1, g2⟩ := r3.slot j dv g
                  refine ⟨u, g1, ?_⟩
                  cases dv with
                  | f d' => exact g2
                  | o ds =>
                    obtain ⟨b, bs, rfl, q1, q2, q4⟩ := g2
                    have z : b ≠ A := fun z => hj0 (r3.dist j 0 A (by rw [← z]; exact ⟨g1, _, g, rfl⟩) own0)
                    exact ⟨b, bs, rfl, q1, (upd_ne z).trans q2, q4⟩
                  | n k' ds =>
                    obtain ⟨b, bx, bs, rfl, q1, q2, q4⟩ := g2
                    have z : b ≠ A := fun z => hj0 (r3.dist j 0 A (by rw [← z]; exact ⟨g1, _, g, rfl⟩) own0)
                    exact ⟨b, bx, bs, rfl, q1, (upd_ne z).trans q2, q4⟩
                  | b j' => exact g2
              · refine DealAt.imp r3.deal fun p hp => ?_
                obtain ⟨n1, n2⟩ := r3.ndeal 0 A p own0 hp
                exact ⟨fun h => h, fun h => h, fun o h => (upd_ne fun z => n1 z.symm).trans h, fun o h => (upd_ne fun z => n2 z.symm).trans h⟩
            have x4 : LStep c3 { c3 with H := L2.upd c3.H A (.ins (w.ca k0) dx ((w.names k0).zip (us ++ [v]))), ρ := c3.ρ.set 0 (some (.n k0 (fs ++ [d]))) } := by
              refine ⟨⟨Le.refl _, fun b u hb n => ?_, fun b hb => ?_, fun b hb => .inl hb, fun b hb => .inl ?_, DlLe.refl _⟩, fun j dv hj => ?_, fun j k' fs' hj => ?_⟩
              · exact (upd_ne fun z => n (.inl ⟨0, by rw [z]; exact own0⟩)).trans hb
              · by_cases z : b = A
                · have hb' : L2.upd c3.H A _ b = none := hb
                  rw [z, upd_same] at hb'
                  cases hb'
                · have hb' : L2.upd c3.H A _ b = none := hb
                  rw [upd_ne z] at hb'
                  exact hb'
              · rcases hb with ⟨j, g⟩ | g
                · exact .inl ⟨j, own g⟩
                · exact .inr g
              · cases j with
                | zero => exact ⟨_, List.getElem?_set_self hρ⟩
                | succ j => exact ⟨dv, (List.getElem?_set_ne (by omega)).trans hj⟩
              · rcases hset j _ hj with ⟨rfl, q⟩ | ⟨_, q⟩
                · cases q
                  exact ⟨⟨fs, e0⟩, rfl⟩
                · exact ⟨⟨fs', q⟩, rfl⟩
            exact q3 { c3 with H := L2.upd c3.H A (.ins (w.ca k0) dx ((w.names k0).zip (us ++ [v]))), ρ := c3.ρ.set 0 (some (.n k0 (fs ++ [d]))) } rfl r4 (x3.l.trans x4)
        · simp only [hk, if_false] at q3
          exact q3.elim
end
end DI

set_option Elab.async false
set_option linter.all false
set_option maxRecDepth 100000
set_option maxHeartbeats 4000000
/-! DI17: a def's body keeps its promise. Own text. -/
namespace DI
open PySem PySem.Spec PyProof.Rows L2
/-- what an exception is to reach, at a body of the wish E -/
def exOf (EF : XK → Nat → D → C → Prop) (E : XK) : Nat → D → C → Prop := fun k d c => EF E k d c.bare
section
variable {w : Wd} {EF : XK → Nat → D → C → Prop} {Φ : Fns} {c : C} {ds : List D} {vs : List V} {Q : VK} {E : XK} {N : List Str} {b : List Sm}
/-- at the body's start -/
def C.enter (c : C) (N : List Str) (ds : List D) (vs : List V) : C := ⟨c.dl, c.F, c.H, start N vs, startR N.length ds, c.g⟩
theorem start_len {N : List Str} {vs : List V} (h : vs.length ≤ N.length) : (start N vs).length = N.length := by
  unfold L2.start
  rw [List.length_append, List.length_map, List.length_replicate]
  omega
theorem startR_len {n : Nat} {ds : List D} (h : ds.length ≤ n) : (startR n ds).length = n := by
  unfold startR
  rw [List.length_append, List.length_map, List.length_replicate]
  omega
theorem startR_at {n : Nat} {ds : List D} {i : Nat} {dv : DV} (h : (startR n ds)[i]? = some (some dv)) : ∃ d, ds[i]? = some d ∧ dv = .f d := by
  unfold startR at h
  by_cases hi : i < ds.length
  · rw [List.getElem?_append_left (by simpa using hi), List.getElem?_map] at h
    cases e : ds[i]? with
    | none => rw [e] at h; cases h
    | some d =>
      rw [e] at h
      cases h
      exact ⟨d, rfl, rfl⟩
  · rw [List.getElem?_append_right (by simpa using hi), List.getElem?_replicate] at h
    split at h <;> cases h
theorem start_at {N : List Str} {vs : List V} {i : Nat} {v : V} (h : vs[i]? = some v) : (start N vs)[i]? = some (some v) := by
  have hi : i < vs.length := (List.getElem?_eq_some_iff.mp h).1
  unfold L2.start
  rw [List.getElem?_append_left (by simpa using hi), List.getElem?_map, h]
  rfl
theorem R.enter (r : R w c) (rep : RepAll w c.dl c.F ds vs) (hl : ds.length ≤ N.length) : R w (c.enter N ds vs) := by
  have noOwn : ∀ {i : Nat} {a : Addr}, ¬ Own (c.enter N ds vs) i a := fun {i a} ⟨_, dv, h2, h3⟩ => by
    obtain ⟨d, _, rfl⟩ := startR_at h2
    cases h3
  refine ⟨r.sub, ?_, fun i dv h => ?_, fun i j a h => absurd h noOwn, fun i a p h => absurd h noOwn, r.deal⟩
  · show (start N vs).length = (startR N.length ds).length
    rw [start_len (by rw [rep.length]; exact hl), startR_len hl]
  · obtain ⟨d, e, rfl⟩ := startR_at h
    obtain ⟨v, e1, e2⟩ := rep.get e
    exact ⟨v, start_at e1, e2⟩
/-- a step of the body, seen by the caller -/
theorem step_out {c1 e : C} (hd : c1.dl = c.dl) (hF : c1.F = c.F) (hH : c1.H = c.H) (hσ : c.σ = []) (hρ : c.ρ = []) (hT : ∀ a, Touch c1 a → Touch c a) (x : LStep c1 e) : SStep c e.bare := by
  refine ⟨⟨?_, fun a o h n => ?_, fun a h => ?_, fun a h => ?_, fun a h => ?_, ?_⟩, hσ.symm, fun i dv h => ?_, fun i k fs h => ?_⟩
  · rw [← hF]; exact x.mono
  · exact x.keep a o (by rw [hH]; exact h) fun t => n (hT a t)
  · rw [← hH]; exact x.live a h
  · rcases x.newF a h with q | q | q
    · exact .inl (by rw [← hF]; exact q)
    · exact .inr (.inl (hT a q))
    · exact .inr (.inr (by rw [← hH]; exact q))
  · obtain ⟨p, h1, h2⟩ := h.ofBare
    rcases x.tch a (.inr ⟨p, h1, h2⟩) with q | q
    · exact .inl (hT a q)
    · exact .inr (by rw [← hH]; exact q)
  · rw [← hd]; exact x.dl
  · rw [hρ] at h; simp at h
  · simp [C.bare] at h
theorem body_in {n p : Nat} (hn : n = N.length) (h : spF w EF (runFn w.T Φ (.body n p b)) vs H Q E) : tSs w (exOf EF E) Φ b { nx := fun _ H' => Q .non H', rt := Q } (start N vs) H := by
  subst hn
  obtain ⟨c, ds, hσ, hρ, rfl, r, rep, h⟩ := h
  have h' : AftF w EF c E (if ds.length = p ∧ p ≤ N.length then match evSs w.T Φ b { r := startR N.length ds, g := c.g } with
    | .ok (.rt v) s => .ok v s
    | .ok .nx s => .ok (.f .non) s
    | .exc c d s => .exc c d s
    | _ => .stuck else .stuck) Q := h
  by_cases hp : ds.length = p ∧ p ≤ N.length
  · rw [if_pos hp] at h'
    have noOwn : ∀ {i : Nat} {a : Addr}, ¬ Own (c.enter N ds vs) i a := fun {i a} ⟨_, dv, h2, h3⟩ => by
      obtain ⟨d, _, rfl⟩ := startR_at h2
      cases h3
    have hT : ∀ a, Touch (c.enter N ds vs) a → Touch c a := fun a t => by
      rcases t with ⟨i, o⟩ | t
      · exact absurd o noOwn
      · exact .inr t
    refine ⟨c.enter N ds vs, rfl, rfl, r.enter rep (by omega), ?_⟩
    show AftP w (exOf EF E) (c.enter N ds vs) (evSs w.T Φ b { r := startR N.length ds, g := c.g }) _
    cases e : evSs w.T Φ b { r := startR N.length ds, g := c.g } with
    | stuck => rw [e] at h'; exact h'.elim
    | exc k d s =>
      rw [e] at h'
      intro c' es r' x'
      exact h' c'.bare (by rw [← es]; rfl) r'.bare (step_out (c1 := c.enter N ds vs) rfl rfl rfl hσ hρ hT x')
    | ok fl s =>
      rw [e] at h'
      cases fl with
      | bk => exact h'.elim
      | ct => exact h'.elim
      | nx =>
        intro c' es r' x'
        exact h' c'.bare (by rw [← es]; rfl) r'.bare (step_out (c1 := c.enter N ds vs) rfl rfl rfl hσ hρ hT x') .non rfl trivial
      | rt dv =>
        intro c' es r' x' v rel fr
        refine h' c'.bare (by rw [← es]; rfl) r'.bare (step_out (c1 := c.enter N ds vs) rfl rfl rfl hσ hρ hT x') v rel ?_
        cases dv with
        | o ds =>
          obtain ⟨a, e1, q⟩ := fr
          rcases q with q | ⟨i, q⟩
          · exact ⟨a, e1, q⟩
          · exact absurd q noOwn
        | _ => trivial
  · rw [if_neg hp] at h'
    exact h'.elim
theorem body_len {n p : Nat} (h : spF w EF (runFn w.T Φ (.body n p b)) vs H Q E) : vs.length = p := by
  obtain ⟨c, ds, hσ, hρ, rfl, r, rep, h⟩ := h
  have h' : AftF w EF c E (if ds.length = p ∧ p ≤ n then match evSs w.T Φ b { r := startR n ds, g := c.g } with
    | .ok (.rt v) s => .ok v s
    | .ok .nx s => .ok (.f .non) s
    | .exc c d s => .exc c d s
    | _ => .stuck else .stuck) Q := h
  by_cases hp : ds.length = p ∧ p ≤ n
  · rw [rep.length]; exact hp.1
  · rw [if_neg hp] at h'
    exact h'.elim
/-! ### __init__ -/
def C.enterI (c : C) (k0 : Nat) (N : List Str) (ds : List D) (x : Addr) (us : List V) : C := ⟨c.dl, c.F, c.H, start N (.ref x :: us), some (.n k0 []) :: startR (N.length - 1) ds, c.g⟩
theorem init_len {n p k0 : Nat} (h : spI w EF k0 (runFn w.T Φ (.init k0 n p b)) vs H Q E) : vs.length = p := by
  obtain ⟨c, ds, x, us, rfl, hσ, hρ, rfl, r, rep, h⟩ := h
  by_cases hp : ds.length + 1 = p ∧ p ≤ n
  · rw [List.length_cons, rep.length]; exact hp.1
  · have e : runFn w.T Φ (.init k0 n p b) ds c.g = .stuck := if_neg hp
    rw [e] at h
    exact h.elim
theorem init_in {n p k0 : Nat} (hn : n = N.length) (h : spI w EF k0 (runFn w.T Φ (.init k0 n p b)) vs H Q E) : tSs w (exOf EF E) Φ b { nx := fun _ H' => Q .non H', rt := fun _ _ => False } (start N vs) H := by
  subst hn
  obtain ⟨c, ds, x, us, rfl, hσ, hρ, rfl, r, rep, h⟩ := h
  by_cases hp : ds.length + 1 = p ∧ p ≤ N.length
  · have e1 : runFn w.T Φ (.init k0 N.length p b) ds c.g = match evSs w.T Φ b { r := some (.n k0 []) :: startR (N.length - 1) ds, g := c.g } with
      | .ok .nx s => match s.r[(0 : Nat)]? with
        | some (some (.n c' fs)) => if c' = k0 ∧ fs.length = (w.T.fl k0).length then .ok (.f (.ins k0 fs)) s else .stuck
        | _ => .stuck
      | .exc c d s => .exc c d s
      | _ => .stuck := if_pos hp
    have hN1 : 1 ≤ N.length := by omega
    have at0 : ∀ {i : Nat} {dv : DV}, (some (DV.n k0 []) :: startR (N.length - 1) ds)[i]? = some (some dv) → (i = 0 ∧ dv = .n k0 []) ∨ ∃ j d, i = j + 1 ∧ ds[j]? = some d ∧ dv = .f d := fun {i dv} h => by
      cases i with
      | zero =>
        have h' : some (some (DV.n k0 [])) = some (some dv) := h
        cases h'
        exact .inl ⟨rfl, rfl⟩
      | succ j =>
        obtain ⟨d, q1, q2⟩ := startR_at (show (startR (N.length - 1) ds)[j]? = _ from by simpa using h)
        exact .inr ⟨j, d, rfl, q1, q2⟩
    have s0 : (start N (.ref x :: us))[(0 : Nat)]? = some (some (V.ref x)) := start_at rfl
    have own : ∀ {i : Nat} {a : Addr}, Own (c.enterI k0 N ds x us) i a → i = 0 ∧ a = x := fun {i a} ⟨h1, dv, h2, h3⟩ => by
      rcases at0 h2 with ⟨rfl, rfl⟩ | ⟨j, d, _, _, rfl⟩
      · have h1' : (start N (.ref x :: us))[(0 : Nat)]? = some (some (V.ref a)) := h1
        rw [s0] at h1'
        cases h1'
        exact ⟨rfl, rfl⟩
      · cases h3
    have cown : Own c 0 x := ⟨by rw [hσ]; rfl, _, by rw [hρ]; rfl, rfl⟩
    have hT : ∀ a, Touch (c.enterI k0 N ds x us) a → Touch c a := fun a t => by
      rcases t with ⟨i, o⟩ | t
      · rw [(own o).2]
        exact .inl ⟨0, cown⟩
      · exact .inr t
    have hT' : ∀ a, Touch c a → Touch (c.enterI k0 N ds x us) a := fun a t => by
      rcases t with ⟨i, o1, dv, o2, o3⟩ | t
      · cases i with
        | zero =>
          rw [hσ] at o1
          cases o1
          exact .inl ⟨0, s0, _, rfl, rfl⟩
        | succ i =>
          rw [hσ] at o1
          simp at o1
      · exact .inr t
    have r1 : R w (c.enterI k0 N ds x us) := by
      refine ⟨r.sub, ?_, fun i dv h => ?_, fun i j a h1 h2 => by rw [(own h1).1, (own h2).1], fun i a p h hp => ?_, r.deal⟩
      · show (start N (.ref x :: us)).length = (some (DV.n k0 []) :: startR (N.length - 1) ds).length
        rw [start_len (by rw [List.length_cons, rep.length]; omega), List.length_cons, startR_len (by omega)]
        omega
      · rcases at0 h with ⟨rfl, rfl⟩ | ⟨j, d, rfl, q1, rfl⟩
        · obtain ⟨v, q1, q2⟩ := r.slot 0 (.n k0 []) (by rw [hρ]; rfl)
          rw [hσ] at q1
          cases q1
          exact ⟨.ref x, s0, q2⟩
        · obtain ⟨v, q2, q3⟩ := rep.get q1
          exact ⟨v, start_at (i := j + 1) (by simpa using q2), q3⟩
      · rw [(own h).2]
        exact r.ndeal 0 x p cown hp
    refine ⟨c.enterI k0 N ds x us, rfl, rfl, r1, ?_⟩
    show AftP w (exOf EF E) (c.enterI k0 N ds x us) (evSs w.T Φ b { r := some (.n k0 []) :: startR (N.length - 1) ds, g := c.g }) _
    rw [e1] at h
    cases e : evSs w.T Φ b { r := some (.n k0 []) :: startR (N.length - 1) ds, g := c.g } with
    | stuck => rw [e] at h; exact h.elim
    | exc k d s =>
      rw [e] at h
      intro c' es r' x'
      refine h c'.bare (by rw [← es]; rfl) r'.bare ⟨x'.mono, fun a o ho n => x'.keep a o ho fun t => n (hT a t), x'.live, fun a ha => ?_, fun a ha => ?_, x'.dl⟩ rfl
      · rcases x'.newF a ha with q | q | q
        · exact .inl q
        · exact .inr (.inl (hT a q))
        · exact .inr (.inr q)
      · obtain ⟨p, h1, h2⟩ := ha.ofBare
        rcases x'.tch a (.inr ⟨p, h1, h2⟩) with q | q
        · exact .inl (hT a q)
        · exact .inr q
    | ok fl s =>
      rw [e] at h
      cases fl with
      | bk => exact h.elim
      | ct => exact h.elim
      | rt dv => exact h.elim
      | nx =>
        intro c' es r' x'
        show Q .non c'.H
        have es' : s.r[(0 : Nat)]? = c'.ρ[(0 : Nat)]? := by rw [← es]; rfl
        have h : AftI w EF k0 c E (match s.r[(0 : Nat)]? with
          | some (some (.n c' fs)) => if c' = k0 ∧ fs.length = (w.T.fl k0).length then .ok (.f (.ins k0 fs)) s else .stuck
          | _ => .stuck) Q := h
        cases e0 : c'.ρ[(0 : Nat)]? with
        | none => rw [es', e0] at h; exact h.elim
        | some o =>
          rw [es', e0] at h
          cases o with
          | none => exact h.elim
          | some dv =>
            cases dv with
            | f d => exact h.elim
            | o d => exact h.elim
            | b j => exact h.elim
            | n k' fs =>
              have h2 : AftI w EF k0 c E (if k' = k0 ∧ fs.length = (w.T.fl k0).length then .ok (.f (.ins k0 fs)) s else .stuck) Q := h
              by_cases hk : k' = k0 ∧ fs.length = (w.T.fl k0).length
              · rw [if_pos hk] at h2
                obtain ⟨rfl, hl⟩ := hk
                obtain ⟨_, eσ⟩ := x'.ini 0 k' fs e0
                have eσ' : c'.σ[(0 : Nat)]? = some (some (.ref x)) := eσ.trans s0
                have own' : ∀ {i : Nat} {a : Addr}, Own (⟨c'.dl, c'.F, c'.H, [some (.ref x)], [some (.n k' fs)], c'.g⟩ : C) i a → i = 0 ∧ a = x := fun {i a} ⟨h1, _⟩ => by
                  cases i with
                  | zero =>
                    have h1' : some (some (V.ref x)) = some (some (V.ref a)) := h1
                    cases h1'
                    exact ⟨rfl, rfl⟩
                  | succ i => simp at h1
                have cown' : Own c' 0 x := ⟨eσ', _, e0, rfl⟩
                have tt : ∀ a, Touch (⟨c'.dl, c'.F, c'.H, [some (.ref x)], [some (.n k' fs)], c'.g⟩ : C) a → Touch c' a := fun a t => by
                  rcases t with ⟨i, o⟩ | t
                  · rw [(own' o).2]
                    exact .inl ⟨0, cown'⟩
                  · exact .inr t
                refine h2 ⟨c'.dl, c'.F, c'.H, [some (.ref x)], [some (.n k' fs)], c'.g⟩ fs (by rw [← es]; rfl) ?_ ?_ rfl rfl hl
                · refine ⟨r'.sub, rfl, fun i dv h => ?_, fun i j a h1 h2 => by rw [(own' h1).1, (own' h2).1], fun i a p h hp => ?_, r'.deal⟩
                  · cases i with
                    | zero =>
                      have h' : some (some (DV.n k' fs)) = some (some dv) := h
                      cases h'
                      obtain ⟨v, q1, q2⟩ := r'.slot 0 _ e0
                      rw [eσ'] at q1
                      cases q1
                      exact ⟨.ref x, rfl, q2⟩
                    | succ i => simp at h
                  · rw [(own' h).2]
                    exact r'.ndeal 0 x p cown' hp
                · refine ⟨⟨x'.mono, fun a o ho n => x'.keep a o ho fun t => n (hT a t), x'.live, fun a ha => ?_, fun a ha => ?_, x'.dl⟩, hσ.symm, fun i dv hi => ?_, fun i k fs' hi => ?_⟩
                  · rcases x'.newF a ha with q | q | q
                    · exact .inl q
                    · exact .inr (.inl (hT a q))
                    · exact .inr (.inr q)
                  · rcases x'.tch a (tt a ha) with q | q
                    · exact .inl (hT a q)
                    · exact .inr q
                  · rw [hρ] at hi
                    cases i with
                    | zero => exact ⟨_, rfl⟩
                    | succ i => simp at hi
                  · cases i with
                    | zero =>
                      have hi' : some (some (DV.n k' fs)) = some (some (.n k fs')) := hi
                      cases hi'
                      exact ⟨[], by rw [hρ]; rfl⟩
                    | succ i => simp at hi
              · rw [if_neg hk] at h2
                exact h2.elim
  · have e : runFn w.T Φ (.init k0 N.length p b) ds c.g = .stuck := if_neg hp
    rw [e] at h
    exact h.elim
end
/-! ### the rules -/
section
variable {P : Program} {W : World} {K : PySem.W.Frag} {mg : Str → Option Value} {base : Heap} {CX : CXT} {w : Wd} {EF : XK → Nat → D → C → Prop} {Φ : Fns} {x qual : Str} {params : Arguments} {body : List Stmt} {scope : Scope} {f : Addr} {fd : FuncData} {kws : List (Str × V)} {N ps : List Str} {n k p : Nat} {b : List Sm}
theorem fn_body (F : FunD K x qual params body scope [] kws f fd) (S : FnScope N ps scope) (hn : n = N.length) (hp : p = ps.length)
    (h : ∀ (cdv : Value) (A : Around) (outer : List Env) (s : Shared) (H : Hp) (E : XK), Room k (A.deeper (envOfC qual scope s.heap.objs.size f cdv)) → A.guards = some [] → PSs (cxOf CX P W K mg base N qual scope f cdv A outer s H E) body (tSs w (exOf EF E) Φ b)) :
    FnG P W K mg base CX (k + 1) f fd ps (spF w EF (runFn w.T Φ (.body n p b))) :=
  okG F S (fun h => (body_len h).trans hp) fun cdv A outer s H vs Q E hr hgd hs => ⟨_, h cdv A outer s H E hr hgd, body_in hn hs⟩
theorem fn_init {k0 : Nat} (F : FunD K x qual params body scope [] kws f fd) (S : FnScope N ps scope) (hn : n = N.length) (hp : p = ps.length)
    (h : ∀ (cdv : Value) (A : Around) (outer : List Env) (s : Shared) (H : Hp) (E : XK), Room k (A.deeper (envOfC qual scope s.heap.objs.size f cdv)) → A.guards = some [] → PSs (cxOf CX P W K mg base N qual scope f cdv A outer s H E) body (tSs w (exOf EF E) Φ b)) :
    FnG P W K mg base CX (k + 1) f fd ps (spI w EF k0 (runFn w.T Φ (.init k0 n p b))) :=
  okG F S (fun h => (init_len h).trans hp) fun cdv A outer s H vs Q E hr hgd hs => ⟨_, h cdv A outer s H E hr hgd, by
    obtain ⟨c, h1, h2, h3, h4⟩ := init_in hn hs
    exact ⟨c, h1, h2, h3, h4.imp fun c' fl r' x' q => by
      cases fl with
      | nx => exact q
      | bk => exact q
      | ct => exact q
      | rt dv => exact fun v rel fr => (q v rel fr).elim⟩⟩
end
end DI

set_option Elab.async false
set_option linter.all false
set_option maxRecDepth 100000
set_option maxHeartbeats 4000000
/-! DI18: the rules as a def's text takes them. Own text. -/
namespace DI
open PySem PySem.Spec PyProof.Rows L2
/-- what holds all through a body -/
structure Gx (w : Wd) (X : Cx) : Prop where
  hK : X.K = w.K
  hu : X.A.units + 65 < cLine
  hc : X.calm = true
  hN : X.N.Nodup
  hp : PassesOwn (model X.prog X.w) X.A X.env X.xe
  gd : X.A.guards = some []
  cls : ∀ c, ClsOk w c
  tab : ∀ c, (w.T.fl c).length < 900 ∧ (w.names c).Nodup
section
variable {w : Wd} {Ex : Nat → D → C → Prop} {Φ : Fns} {X : Cx} {x y z tg iter : Expr} {a b c e : E} {es : List E} {l : List Expr} {pos p apos npos tpos cpos : Pos} {n : Str} {k kk : Nat} {s : Sm} {ss : List Sm} {st : Stmt} {rest : List Stmt}
theorem Gx.blk (g : Gx w X) (s : Shared) (H : Hp) (scope : Scope) (cenv : Env) (fp : List Addr) : Gx w (X.blk s H scope cenv fp) := ⟨g.hK, g.hu, g.hc, g.hN, PassesOwn.never, g.gd, g.cls, g.tab⟩
theorem gx_of {CX : CXT} {P : Program} {W : World} {K : PySem.W.Frag} {mg : Str → Option Value} {base : Heap} {N : List Str} {qual : Str} {scope : Scope} {f : Addr} {cd : Value} {A : Around} {outer : List Env} {s : Shared} {H : Hp} {E : XK} {j : Nat} (hr : Room j (A.deeper (envOfC qual scope s.heap.objs.size f cd))) (hgd : A.guards = some []) (hN : N.Nodup) (hK : K = w.K) (cls : ∀ c, ClsOk w c) (tab : ∀ c, (w.T.fl c).length < 900 ∧ (w.names c).Nodup) :
    Gx w (cxOf CX P W K mg base N qual scope f cd A outer s H E).nox := ⟨hK, by have := hr.un; show (A.deeper (envOfC qual scope s.heap.objs.size f cd)).units + 65 < _; omega, rfl, hN, PassesOwn.never, hgd, cls, tab⟩
theorem q_var (i : Nat) (hN : X.N[i]? = some n := by rfl) (hv : Vis X.env.scope n := by first | exact Or.inl rfl | exact Or.inr (Or.inl rfl) | exact Or.inr (Or.inr rfl)) (hd : (n == ("__debug__" : Str)) = false := by decide) (hcd : (n == ("__classdict__" : Str)) = false := by decide) :
    PE X (.Name n pos) (tE w Ex Φ (.var i)) := j_var hN hv hd hcd
theorem q_bin (g : Gx w X) (o : BOp) (ha : PE X x (tE w Ex Φ a)) (hb : PE X y (tE w Ex Φ b)) : PE X (.BinOp x (opOf o) y pos) (tE w Ex Φ (.bin o a b)) := j_bin g.hK ha hb
theorem q_cmp (g : Gx w X) (o : COp) (ha : PE X x (tE w Ex Φ a)) (hb : PE X y (tE w Ex Φ b)) (hm : behindInMarks (copOf o) y = false := by first | exact nomark _ | rfl | with_unfolding_all rfl) : PE X (.Compare x [copOf o] [y] pos) (tE w Ex Φ (.cmp o a b)) := j_cmp g.hK g.hu hm ha hb
theorem q_tcmp (g : Gx w X) (o : COp) (ha : PE X x (tE w Ex Φ a)) (hb : PE X y (tE w Ex Φ b)) (hm : behindInMarks (copOf o) y = false := by first | exact nomark _ | rfl | with_unfolding_all rfl) : PT X (.Compare x [copOf o] [y] pos) (tT w Ex Φ (.cmp o a b)) := t_cmp g.hK g.hu hm ha hb
theorem q_and (ha : PE X x (tE w Ex Φ a)) (hb : PE X (.BoolOp .And (y :: l) pos) (tE w Ex Φ b)) : PE X (.BoolOp .And (x :: y :: l) pos) (tE w Ex Φ (.and a b)) := j_and (p2 := pos) ha hb
theorem q_or (ha : PE X x (tE w Ex Φ a)) (hb : PE X (.BoolOp .Or (y :: l) pos) (tE w Ex Φ b)) : PE X (.BoolOp .Or (x :: y :: l) pos) (tE w Ex Φ (.or a b)) := j_or ha hb
theorem q_one {op : BoolOp} (ha : PE X x (tE w Ex Φ a)) : PE X (.BoolOp op [x] pos) (tE w Ex Φ a) := pe_one ha
theorem q_val (ha : PE X x (tE w Ex Φ a)) (he : ∀ whole, isTrue x X.env whole = (do let v ← whole; standAt x.pos; holding [v] (truthy v)) := by intro _; rfl) : PT X x (tT w Ex Φ a) := t_val ha he
theorem q_cons (ha : PE X x (tE w Ex Φ a)) (hs : PA X l (tEs w Ex Φ es)) (hst : starEach (x :: l) X.env = (false, eval x X.env) :: starEach l X.env := by rfl) : PA X (x :: l) (tEs w Ex Φ (a :: es)) := j_cons ha hs hst
theorem q_ix (g : Gx w X) (ha : PE X x (tE w Ex Φ a)) (hb : PE X y (tE w Ex Φ b)) (hs : PlainIx y := by intro _ _; rfl) : PE X (.Subscript x y pos) (tE w Ex Φ (.ix a b)) := j_ix g.hK ha hb hs
theorem q_sl (g : Gx w X) {lo hi : Option Expr} {p2 : Pos} (ha : PE X x (tE w Ex Φ a)) (hl : PO X lo (tP w Ex Φ b)) (hh : PO X hi (tP w Ex Φ c)) : PE X (.Subscript x (.Slice lo hi none p2) pos) (tE w Ex Φ (.sl a b c)) := j_sl g.hK ha hl hh
theorem q_fld (g : Gx w X) (k : Nat) (ha : PE X x (tE w Ex Φ a)) (hn : w.fn k = n := by rfl) (hb : attributeBase x n X.env (eval x X.env) = eval x X.env := by rfl) : PE X (.Attribute x n pos) (tE w Ex Φ (.fld a k)) := j_fld g.hK g.cls hn ha hb
theorem q_append (i : Nat) (ha : PE X x (tE w Ex Φ a)) (hN : X.N[i]? = some n := by rfl) (hv : Vis X.env.scope n := by first | exact Or.inl rfl | exact Or.inr (Or.inl rfl) | exact Or.inr (Or.inr rfl)) (hd : (n == ("__debug__" : Str)) = false := by decide) (hcd : (n == ("__classdict__" : Str)) = false := by decide)
    (hline : (apos.endLine == pos.line) = true := by rfl) (hst : starEach [x] X.env = (false, eval x X.env) :: starEach [] X.env := by rfl) : PE X (.Call (.Attribute (.Name n npos) "append" apos) [x] [] pos) (tE w Ex Φ (.append i a)) := j_append hN hv hd hcd ha hline hst
theorem q_pop (i : Nat) (hN : X.N[i]? = some n := by rfl) (hv : Vis X.env.scope n := by first | exact Or.inl rfl | exact Or.inr (Or.inl rfl) | exact Or.inr (Or.inr rfl)) (hd : (n == ("__debug__" : Str)) = false := by decide) (hcd : (n == ("__classdict__" : Str)) = false := by decide)
    (hline : (apos.endLine == pos.line) = true := by rfl) : PE X (.Call (.Attribute (.Name n npos) "pop" apos) [] [] pos) (tE w Ex Φ (.pop i)) := j_pop hN hv hd hcd hline
theorem q_popAt (i : Nat) (ha : PE X x (tE w Ex Φ a)) (hN : X.N[i]? = some n := by rfl) (hv : Vis X.env.scope n := by first | exact Or.inl rfl | exact Or.inr (Or.inl rfl) | exact Or.inr (Or.inr rfl)) (hd : (n == ("__debug__" : Str)) = false := by decide) (hcd : (n == ("__classdict__" : Str)) = false := by decide)
    (hline : (apos.endLine == pos.line) = true := by rfl) (hst : starEach [x] X.env = (false, eval x X.env) :: starEach [] X.env := by rfl) : PE X (.Call (.Attribute (.Name n npos) "pop" apos) [x] [] pos) (tE w Ex Φ (.popAt i a)) := j_popAt hN hv hd hcd ha hline hst
theorem q_tisN {k : Nat} {p : Pos} (ha : PE X x (tE w Ex Φ a)) : PT X (.Compare x [.Is] [.Constant .none k p] pos) (tT w Ex Φ (.isN a)) := (pt_cmp (pc_isN ha) rfl).imp fun σ H Q h => by
  obtain ⟨c, rfl, rfl, r, h⟩ := h
  have h' : Aft w Ex c (bnd (ev w Φ a) (fun v => bnd (look v) fun d => ret (isNonD d)) c.s) fun c' k => Q k c'.H := by
    have e : bnd (ev w Φ (.isN a)) bool? = bnd (ev w Φ a) (fun v => bnd (look v) fun d => ret (isNonD d)) := by
      show bnd (bnd (ev w Φ a) fun v => bnd (look v) fun d => ret (.f (.bl (isNonD d)))) bool? = _
      simp only [bnd_assoc]
      rfl
    rw [← e]
    exact h
  refine tE_seq h' (SStep.refl c) r fun c2 u du r2 x2 x02 hσ rel fr fr0 h2 => ?_
  obtain ⟨d, l, h4⟩ := h2.look r2 rel
  have h5 := Aft.ret (a := isNonD d) h4 x02 r2
  rw [l.isNon] at h5
  exact ⟨_, rfl, h5⟩
theorem q_tnotN {k : Nat} {p : Pos} (ha : PE X x (tE w Ex Φ a)) : PT X (.Compare x [.IsNot] [.Constant .none k p] pos) (tT w Ex Φ (.notN a)) := (pt_cmp (pc_notN ha) rfl).imp fun σ H Q h => by
  obtain ⟨c, rfl, rfl, r, h⟩ := h
  have h' : Aft w Ex c (bnd (ev w Φ a) (fun v => bnd (look v) fun d => ret (!isNonD d)) c.s) fun c' k => Q k c'.H := by
    have e : bnd (ev w Φ (.notN a)) bool? = bnd (ev w Φ a) (fun v => bnd (look v) fun d => ret (!isNonD d)) := by
      show bnd (bnd (ev w Φ a) fun v => bnd (look v) fun d => ret (.f (.bl (!isNonD d)))) bool? = _
      simp only [bnd_assoc]
      rfl
    rw [← e]
    exact h
  refine tE_seq h' (SStep.refl c) r fun c2 u du r2 x2 x02 hσ rel fr fr0 h2 => ?_
  obtain ⟨d, l, h4⟩ := h2.look r2 rel
  have h5 := Aft.ret (a := !isNonD d) h4 x02 r2
  rw [l.isNon] at h5
  exact ⟨_, rfl, h5⟩
/-! ### built-in functions -/
/-- a built-in function's name, not hidden by the module's -/
def Fr (X : Cx) (n : Str) : Prop := X.mg n = none
theorem q_len (g : Gx w X) (f : Fr X "len") (ha : PA X (x :: l) (tEs w Ex Φ es)) (hg : Gl X "len" := by rfl) (hst : starEach (x :: l) X.env = (false, eval x X.env) :: starEach l X.env := by rfl) (hpl : (backTo pos (starEach l X.env)).any (·.1) = false := by rfl) : PE X (.Call (.Name "len" p) (x :: l) [] pos) (tE w Ex Φ (.blt .len es)) :=
  j_bltB ⟨hg, f, rfl, by decide, by decide⟩ (len_ok g.hK) ha hst hpl
theorem q_int (f : Fr X "int") (ha : PA X (x :: l) (tEs w Ex Φ es)) (hg : Gl X "int" := by rfl) (hst : starEach (x :: l) X.env = (false, eval x X.env) :: starEach l X.env := by rfl) (hpl : (backTo pos (starEach l X.env)).any (·.1) = false := by rfl) : PE X (.Call (.Name "int" p) (x :: l) [] pos) (tE w Ex Φ (.blt .int es)) :=
  j_bltT ⟨hg, f, rfl, by decide, by decide⟩ int_ok ha hst hpl
theorem q_abs (f : Fr X "abs") (ha : PA X (x :: l) (tEs w Ex Φ es)) (hg : Gl X "abs" := by rfl) (hst : starEach (x :: l) X.env = (false, eval x X.env) :: starEach l X.env := by rfl) (hpl : (backTo pos (starEach l X.env)).any (·.1) = false := by rfl) : PE X (.Call (.Name "abs" p) (x :: l) [] pos) (tE w Ex Φ (.blt .abs es)) :=
  j_bltB ⟨hg, f, rfl, by decide, by decide⟩ abs_ok ha hst hpl
theorem q_list (g : Gx w X) (f : Fr X "list") (ha : PA X (x :: l) (tEs w Ex Φ es)) (hg : Gl X "list" := by rfl) (hst : starEach (x :: l) X.env = (false, eval x X.env) :: starEach l X.env := by rfl) (hpl : (backTo pos (starEach l X.env)).any (·.1) = false := by rfl) : PE X (.Call (.Name "list" p) (x :: l) [] pos) (tE w Ex Φ (.blt .list es)) :=
  j_bltT ⟨hg, f, rfl, by decide, by decide⟩ (list_ok g.hK) ha hst hpl
theorem q_tuple (g : Gx w X) (f : Fr X "tuple") (ha : PA X (x :: l) (tEs w Ex Φ es)) (hg : Gl X "tuple" := by rfl) (hst : starEach (x :: l) X.env = (false, eval x X.env) :: starEach l X.env := by rfl) (hpl : (backTo pos (starEach l X.env)).any (·.1) = false := by rfl) : PE X (.Call (.Name "tuple" p) (x :: l) [] pos) (tE w Ex Φ (.blt .tuple es)) :=
  j_bltT ⟨hg, f, rfl, by decide, by decide⟩ (tuple_ok g.hK) ha hst hpl
theorem q_max (g : Gx w X) (f : Fr X "max") (ha : PA X (x :: l) (tEs w Ex Φ es)) (hg : Gl X "max" := by rfl) (hst : starEach (x :: l) X.env = (false, eval x X.env) :: starEach l X.env := by rfl) (hpl : (backTo pos (starEach l X.env)).any (·.1) = false := by rfl) : PE X (.Call (.Name "max" p) (x :: l) [] pos) (tE w Ex Φ (.blt .max es)) :=
  j_bltB ⟨hg, f, rfl, by decide, by decide⟩ (max_ok g.hK g.hc) ha hst hpl
theorem q_min (g : Gx w X) (f : Fr X "min") (ha : PA X (x :: l) (tEs w Ex Φ es)) (hg : Gl X "min" := by rfl) (hst : starEach (x :: l) X.env = (false, eval x X.env) :: starEach l X.env := by rfl) (hpl : (backTo pos (starEach l X.env)).any (·.1) = false := by rfl) : PE X (.Call (.Name "min" p) (x :: l) [] pos) (tE w Ex Φ (.blt .min es)) :=
  j_bltB ⟨hg, f, rfl, by decide, by decide⟩ (min_ok g.hK g.hc) ha hst hpl
theorem q_sum (g : Gx w X) (f : Fr X "sum") (ha : PA X (x :: l) (tEs w Ex Φ es)) (hg : Gl X "sum" := by rfl) (hst : starEach (x :: l) X.env = (false, eval x X.env) :: starEach l X.env := by rfl) (hpl : (backTo pos (starEach l X.env)).any (·.1) = false := by rfl) : PE X (.Call (.Name "sum" p) (x :: l) [] pos) (tE w Ex Φ (.blt .sum es)) :=
  j_bltB ⟨hg, f, rfl, by decide, by decide⟩ (sum_ok g.hK g.hc) ha hst hpl
theorem q_all (g : Gx w X) (f : Fr X "all") (ha : PA X (x :: l) (tEs w Ex Φ es)) (hg : Gl X "all" := by rfl) (hst : starEach (x :: l) X.env = (false, eval x X.env) :: starEach l X.env := by rfl) (hpl : (backTo pos (starEach l X.env)).any (·.1) = false := by rfl) : PE X (.Call (.Name "all" p) (x :: l) [] pos) (tE w Ex Φ (.blt .all es)) :=
  j_bltB ⟨hg, f, rfl, by decide, by decide⟩ (all_ok g.hK g.hc) ha hst hpl
theorem q_any (g : Gx w X) (f : Fr X "any") (ha : PA X (x :: l) (tEs w Ex Φ es)) (hg : Gl X "any" := by rfl) (hst : starEach (x :: l) X.env = (false, eval x X.env) :: starEach l X.env := by rfl) (hpl : (backTo pos (starEach l X.env)).any (·.1) = false := by rfl) : PE X (.Call (.Name "any" p) (x :: l) [] pos) (tE w Ex Φ (.blt .any es)) :=
  j_bltB ⟨hg, f, rfl, by decide, by decide⟩ (any_ok g.hK g.hc) ha hst hpl
theorem q_sorted (g : Gx w X) (f : Fr X "sorted") (ha : PA X (x :: l) (tEs w Ex Φ es)) (hg : Gl X "sorted" := by rfl) (hst : starEach (x :: l) X.env = (false, eval x X.env) :: starEach l X.env := by rfl) (hpl : (backTo pos (starEach l X.env)).any (·.1) = false := by rfl) : PE X (.Call (.Name "sorted" p) (x :: l) [] pos) (tE w Ex Φ (.blt .sorted es)) :=
  j_bltB ⟨hg, f, rfl, by decide, by decide⟩ (sorted_ok g.hK) ha hst hpl
theorem q_isI (g : Gx w X) (t : Ty) {m : Str} {p2 : Pos} (f : Fr X "isinstance") (f2 : Fr X m) (ha : PE X x (tE w Ex Φ a)) (ht : tyS t ≠ "" := by decide) (hg : Gl X "isinstance" := by rfl) (hg2 : Gl X m := by rfl) (hb : bootBuiltins m = some (.type (tyS t)) := by rfl) (h1 : m ≠ "__name__" := by decide) (h2 : (m == ("__debug__" : Str)) = false := by decide)
    (hst : starEach [x, .Name m p2] X.env = (false, eval x X.env) :: starEach [.Name m p2] X.env := by rfl) : PE X (.Call (.Name "isinstance" p) [x, .Name m p2] [] pos) (tE w Ex Φ (.isI a t)) :=
  j_isI g.hK ht ⟨hg, f, rfl, by decide, by decide⟩ ⟨hg2, f2, hb, h1, h2⟩ ha hst
theorem q_isS (g : Gx w X) {p1 p2 p3 : Pos} (f : Fr X "isinstance") (f1 : Fr X "list") (f2 : Fr X "tuple") (ha : PE X x (tE w Ex Φ a)) (hg : Gl X "isinstance" := by rfl) (hg1 : Gl X "list" := by rfl) (hg2 : Gl X "tuple" := by rfl)
    (hst : starEach [x, .Tuple [.Name "list" p1, .Name "tuple" p2] kk p3] X.env = (false, eval x X.env) :: starEach [.Tuple [.Name "list" p1, .Name "tuple" p2] kk p3] X.env := by rfl) : PE X (.Call (.Name "isinstance" p) [x, .Tuple [.Name "list" p1, .Name "tuple" p2] kk p3] [] pos) (tE w Ex Φ (.isI a .seq)) :=
  j_isS g.hK ⟨hg, f, rfl, by decide, by decide⟩ ⟨hg1, f1, rfl, by decide, by decide⟩ ⟨hg2, f2, rfl, by decide, by decide⟩ ha hst
theorem q_rg1 (f : Fr X "range") (hb : PE X y (tE w Ex Φ b)) (hg : Gl X "range" := by rfl) (nb : starEach [y] X.env = (false, eval y X.env) :: starEach [] X.env := by rfl) : PRg X (.Call (.Name "range" p) [y] [] cpos) (tRG w Ex Φ .nop b) := j_rg1 hg f hb nb
theorem q_rg2 (f : Fr X "range") (ha : PE X x (tE w Ex Φ a)) (hb : PE X y (tE w Ex Φ b)) (hn : a ≠ .nop := by intro z; cases z) (hg : Gl X "range" := by rfl) (na : starEach [x, y] X.env = (false, eval x X.env) :: starEach [y] X.env := by rfl) (nb : starEach [y] X.env = (false, eval y X.env) :: starEach [] X.env := by rfl)
    (hp : (backTo cpos (starEach [y] X.env)).any (·.1) = false := by rfl) : PRg X (.Call (.Name "range" p) [x, y] [] cpos) (tRG w Ex Φ a b) := j_rg2 hn hg f ha hb na nb hp
theorem q_lrg (g : Gx w X) (f : Fr X "list") (he : PRg X x (tRG w Ex Φ a b)) (hg : Gl X "list" := by rfl) (na : starEach [x] X.env = (false, eval x X.env) :: starEach [] X.env := by rfl) : PE X (.Call (.Name "list" p) [x] [] cpos) (tE w Ex Φ (.lrg a b)) := j_lrg g.hc hg f he na
theorem q_trg (g : Gx w X) (f : Fr X "tuple") (he : PRg X x (tRG w Ex Φ a b)) (hg : Gl X "tuple" := by rfl) (na : starEach [x] X.env = (false, eval x X.env) :: starEach [] X.env := by rfl) : PE X (.Call (.Name "tuple" p) [x] [] cpos) (tE w Ex Φ (.trg a b)) := j_trg g.hc hg f he na
/-! ### sources, targets -/
theorem q_rng1 (f : Fr X "range") (ha : PA X [y] (tEs w Ex Φ [b])) (hb : b ≠ .nop := by intro z; cases z) (hg : Gl X "range" := by rfl) (hs : starEach [y] X.env = [(false, eval y X.env)] := by rfl) : PI X tg (.Call (.Name "range" p) [y] [] pos) (tI w Ex Φ .rng (.int 0) b) := i_rng1 hb hg f ha hs
theorem q_rng2 (f : Fr X "range") (ha : PA X [x, y] (tEs w Ex Φ [a, b])) (hb : b ≠ .nop := by intro z; cases z) (hg : Gl X "range" := by rfl) (hs : starEach [x, y] X.env = [(false, eval x X.env), (false, eval y X.env)] := by rfl) (hs2 : starEach [y] X.env = [(false, eval y X.env)] := by rfl) : PI X tg (.Call (.Name "range" p) [x, y] [] pos) (tI w Ex Φ .rng a b) := i_rng2 hb hg f ha hs hs2
theorem q_zip (g : Gx w X) {elts : List Expr} (f : Fr X "zip") (ha : PA X [x, y] (tEs w Ex Φ [a, b])) (hb : b ≠ .nop := by intro z; cases z) (hg : Gl X "zip" := by rfl) (hs : starEach [x, y] X.env = (false, eval x X.env) :: starEach [y] X.env := by rfl) (hpl : (backTo pos (starEach [y] X.env)).any (·.1) = false := by rfl) :
    PI X (.Tuple elts kk tpos) (.Call (.Name "zip" p) [x, y] [] pos) (tI w Ex Φ .zip a b) := i_zip g.hK hb hg f ha hs hpl
theorem q_gnm (g : Gx w X) {own : List Nat} (i : Nat) (hi : X.N[i]? = some n := by rfl) (hx : Loc X.env.scope n := by first | exact Or.inl rfl | exact Or.inr rfl) (hf : X.fn n = true ∨ X.env.scope.names.lookup n = some .local := by first | exact .inl rfl | exact .inr rfl) (ho : i ∈ own := by decide) : PG X (.Name n pos) (gO w Ex own (.nm i)) := g_nm g.hN hi hx hf ho
theorem q_gcons {own : List Nat} {t : Tg} {ts : List Tg} (h1 : PG X x (gO w Ex own t)) (h2 : PGs X l (gOs w Ex own ts)) (hs : (assignEach (x :: l) X.env).map (·.2) = assign x X.env :: (assignEach l X.env).map (·.2) := by rfl) : PGs X (x :: l) (gOs w Ex own (t :: ts)) := gs_cons h1 h2 hs
theorem q_gtp (g : Gx w X) {own : List Nat} {ts : List Tg} (h : PGs X l (gOs w Ex own ts)) (hn : (assignEach l X.env).length = ts.length := by rfl) (hst : (assignEach l X.env).findIdx? (·.1) = none := by rfl) : PG X (.Tuple l kk pos) (gO w Ex own (.tp ts)) := g_tp g.hK g.hc h hn hst
/-! ### comprehensions -/
theorem q_lc (g : Gx w X) {elt : Expr} {ifs : List Expr} {scope : Scope} (own2 : List (Str × Nat)) {t : Tg} {k : ItK} (hi : PI X tg iter (tI w Ex Φ k a b)) (ok : BlkOk X.N X.env.scope scope own2)
    (hb : ∀ (s : Shared) (H : Hp) (C : Addr) (cl : List (Str × Addr)) (fp : List Addr), Gx w (X.blk s H scope (compEnvC scope cl C X.env) fp) → PG (X.blk s H scope (compEnvC scope cl C X.env) fp) tg (gO w noEx (own2.map (·.2)) t) ∧ PTs (X.blk s H scope (compEnvC scope cl C X.env) fp) ifs (tTst w noEx Φ c) ∧ PE (X.blk s H scope (compEnvC scope cl C X.env) fp) elt (tE w noEx Φ e))
    (hs : ∀ x, foldedSetIterable iter X.env x = pure x := by intro _; rfl) : PE X (.ListComp elt [⟨tg, iter, ifs, 0⟩] scope pos) (tE w Ex Φ (.lc (own2.map (·.2)) t k a b c e)) :=
  j_lc g.hc g.hN hi ok (fun s H C cl fp => (hb s H C cl fp (g.blk ..)).1) (fun s H C cl fp => (hb s H C cl fp (g.blk ..)).2.1) (fun s H C cl fp => (hb s H C cl fp (g.blk ..)).2.2) hs
theorem q_setLc (g : Gx w X) {elt : Expr} {ifs : List Expr} {scope : Scope} {spos py : Pos} (i : Nat) (own2 : List (Str × Nat)) {t : Tg} {k : ItK} (hi : PI X tg iter (tI w Ex Φ k a b)) (ok : BlkOk X.N X.env.scope scope own2)
    (hb : ∀ (s : Shared) (H : Hp) (C : Addr) (cl : List (Str × Addr)) (fp : List Addr), Gx w (X.blk s H scope (compEnvC scope cl C X.env) fp) → PG (X.blk s H scope (compEnvC scope cl C X.env) fp) tg (gO w noEx (own2.map (·.2)) t) ∧ PTs (X.blk s H scope (compEnvC scope cl C X.env) fp) ifs (tTst w noEx Φ c) ∧ PE (X.blk s H scope (compEnvC scope cl C X.env) fp) elt (tE w noEx Φ e))
    (hy : X.N[i]? = some n := by rfl) (hyl : X.env.scope.names.lookup n = some .local := by rfl) (hsw : swapsWith (.ListComp elt [⟨tg, iter, ifs, 0⟩] scope pos) (some (.Name n py)) spos.line X.env = pure true := by rfl) (hs : ∀ x, foldedSetIterable iter X.env x = pure x := by intro _; rfl) :
    PS X (.Assign [.Name n py] (.ListComp elt [⟨tg, iter, ifs, 0⟩] scope pos) spos) (tS w Ex Φ (.set i (.lc (own2.map (·.2)) t k a b c e))) :=
  s_setLc g.hc g.hN hy hyl hsw hi ok (fun s H C cl fp => (hb s H C cl fp (g.blk ..)).1) (fun s H C cl fp => (hb s H C cl fp (g.blk ..)).2.1) (fun s H C cl fp => (hb s H C cl fp (g.blk ..)).2.2) hs
theorem q_ts1 (h : PT X x (tT w Ex Φ e)) (hn : e ≠ .nop := by intro z; cases z) : PTs X [x] (tTst w Ex Φ e) := ts_one hn h
/-! ### statements -/
theorem q_expr (ha : PE X x (tE w Ex Φ a)) (hs : swapsWith x none pos.line X.env = pure false := by rfl) : PS X (.Expr x pos) (tS w Ex Φ (.expr a)) := s_expr ha hs
theorem q_set (g : Gx w X) (i : Nat) {p1 : Pos} (ha : PE X x (tE w Ex Φ a)) (hi : X.N[i]? = some n := by rfl) (hx : Loc X.env.scope n := by first | exact Or.inl rfl | exact Or.inr rfl) (hs : swapsWith x (some (.Name n p1)) pos.line X.env = pure false := by rfl) (hf : X.fn n = true ∨ X.env.scope.names.lookup n = some .local := by first | exact .inl rfl | exact .inr rfl) :
    PS X (.Assign [.Name n p1] x pos) (tS w Ex Φ (.set i a)) := s_set g.hN hi hx ha hs hf
theorem q_for (g : Gx w X) {t : Tg} {k : ItK} {body : List Stmt} (own : List Nat) (hi : PI X tg iter (tI w Ex Φ k a b)) (hg : PG X tg (gO w Ex own t)) (hb : PSs X body (tSs w Ex Φ ss)) (hs : ∀ x, foldedSetIterable iter X.env x = pure x := by intro _; rfl) : PS X (.For tg iter body [] pos) (tS w Ex Φ (.for t k a b ss)) := s_for g.hp g.hc hi (g_all hg) hb hs
theorem q_while (g : Gx w X) {body : List Stmt} (hc : PT X x (tT w Ex Φ a)) (hb : PSs X body (tSs w Ex Φ ss)) : PS X (.While x body [] pos) (tS w Ex Φ (.while a ss)) := s_while g.hp hc hb
theorem q_setIx (i : Nat) (hk : PE X y (tE w Ex Φ e)) (ha : PE X x (tE w Ex Φ a)) (hN : X.N[i]? = some n := by rfl) (hv : Vis X.env.scope n := by first | exact Or.inl rfl | exact Or.inr (Or.inl rfl) | exact Or.inr (Or.inr rfl)) (hd : (n == ("__debug__" : Str)) = false := by decide) (hcd : (n == ("__classdict__" : Str)) = false := by decide)
    (hs : swapsWithSole [.Subscript (.Name n npos) y tpos] x pos.line X.env = pure false := by rfl) (hx : AsgIx X n npos y tpos := by intro _; rfl) : PS X (.Assign [.Subscript (.Name n npos) y tpos] x pos) (tS w Ex Φ (.setIx i e a)) := s_setIx hN hv hd hcd hk ha hs hx
theorem q_parN (g : Gx w X) {k2 : Nat} {ts : List Expr} {ns : List Str} (js : List Nat) (ok : NmS X ns js) (ha : PA X l (tEs w Ex Φ es)) (nd : js.Nodup := by decide) (h3 : js.length ≤ 3 := by decide) (hw : swappedStores [.Tuple ts kk tpos] (.Tuple l k2 p) X.env = pure (some ns) := by rfl)
    (hs : swapsWithSole [.Tuple ts kk tpos] (.Tuple l k2 p) pos.line X.env = pure false := by rfl) : PS X (.Assign [.Tuple ts kk tpos] (.Tuple l k2 p) pos) (tS w Ex Φ (.par (js.map .nm) es)) := s_parN g.hc g.hN nd h3 ok ha hw hs
theorem q_nm (i : Nat) {ns : List Str} {js : List Nat} (r : NmS X ns js) (hi : X.N[i]? = some n := by rfl) (hl : X.env.scope.names.lookup n = some .local := by rfl) : NmS X (n :: ns) (i :: js) := .cons hi hl r
theorem q_parX (g : Gx w X) {k2 : Nat} {ts : List Expr} {xs : List TX} (ha : PA X l (tEs w Ex Φ es)) (hg : PGs X ts (gXs w Ex Φ xs)) (hl : es.length = xs.length := by rfl) (hsz : xs.length ≤ 64 := by decide) (hn : (assignEach ts X.env).length = xs.length := by rfl) (hst : (assignEach ts X.env).findIdx? (·.1) = none := by rfl)
    (hw : swappedStores [.Tuple ts kk tpos] (.Tuple l k2 p) X.env = pure none := by rfl) (hs : swapsWithSole [.Tuple ts kk tpos] (.Tuple l k2 p) pos.line X.env = pure false := by rfl) : PS X (.Assign [.Tuple ts kk tpos] (.Tuple l k2 p) pos) (tS w Ex Φ (.par xs es)) := s_parX g.hK g.hc ha hg hl hsz hn hst hw hs
theorem q_xnm (g : Gx w X) (i : Nat) {ts : List TX} (h2 : PGs X l (gXs w Ex Φ ts)) (hi : X.N[i]? = some n := by rfl) (hx : Loc X.env.scope n := by first | exact Or.inl rfl | exact Or.inr rfl) (hf : X.fn n = true ∨ X.env.scope.names.lookup n = some .local := by first | exact .inl rfl | exact .inr rfl)
    (hs : (assignEach (.Name n npos :: l) X.env).map (·.2) = assign (.Name n npos) X.env :: (assignEach l X.env).map (·.2) := by rfl) : PGs X (.Name n npos :: l) (gXs w Ex Φ (.nm i :: ts)) := gx_nm g.hN hi hx hf h2 hs
theorem q_xix (i : Nat) {ts : List TX} (hk : PE X y (tE w Ex Φ e)) (h2 : PGs X l (gXs w Ex Φ ts)) (hi : X.N[i]? = some n := by rfl) (hv : Vis X.env.scope n := by first | exact Or.inl rfl | exact Or.inr (Or.inl rfl) | exact Or.inr (Or.inr rfl)) (hd : (n == ("__debug__" : Str)) = false := by decide) (hcd : (n == ("__classdict__" : Str)) = false := by decide) (hx : AsgIx X n npos y tpos := by intro _; rfl)
    (hs : (assignEach (.Subscript (.Name n npos) y tpos :: l) X.env).map (·.2) = assign (.Subscript (.Name n npos) y tpos) X.env :: (assignEach l X.env).map (·.2) := by rfl) : PGs X (.Subscript (.Name n npos) y tpos :: l) (gXs w Ex Φ (.ix i e :: ts)) := gx_ix hi hv hd hcd hk hx h2 hs
theorem q_unp {ts : List Tg} (own : List Nat) (ha : PE X x (tE w Ex Φ a)) (hg : PG X tg (gO w Ex own (.tp ts))) (hs : swapsWithSole [tg] x pos.line X.env = pure false := by rfl) (hw : swappedStores [tg] x X.env = pure none := by rfl) (h1 : (assignEach [tg] X.env).map (·.2) = [assign tg X.env] := by rfl) : PS X (.Assign [tg] x pos) (tS w Ex Φ (.unp ts a)) := s_unp ha (g_all hg) hs hw h1
end
section
variable {w : Wd} {Ex : Nat → D → C → Prop} {Φ : Fns} {X : Cx} {x : Expr} {a : E} {pos : Pos} {n : Str}
theorem q_fset (g : Gx w X) (k : Nat) {fpos opos : Pos} {f : Str} (ha : PE X x (tE w Ex Φ a)) (h0 : X.N[(0 : Nat)]? = some n := by rfl) (hv : Vis X.env.scope n := by first | exact Or.inl rfl | exact Or.inr (Or.inl rfl) | exact Or.inr (Or.inr rfl)) (hd : (n == ("__debug__" : Str)) = false := by decide) (hcd : (n == ("__classdict__" : Str)) = false := by decide) (hf : w.fn k = f := by rfl)
    (hs : swapsWith x (some (.Attribute (.Name n opos) f fpos)) pos.line X.env = pure false := by rfl) : PS X (.Assign [.Attribute (.Name n opos) f fpos] x pos) (tS w Ex Φ (.fset k a)) :=
  s_fset g.hK h0 hv hd hcd hf (fun k0 hk => ⟨⟨by rw [g.hK]; exact (g.cls k0).cls, by rw [g.hK, ← hf]; exact (g.cls k0).no k hk, (g.tab k0).1⟩, (g.tab k0).2⟩) ha hs
def blkB (N : List Str) (sc scope : Scope) (own : List (Str × Nat)) : Bool :=
  decide (scope.kind = .function) && scope.names.all (fun y => decide (scope.names.lookup y.1 = some y.2)) && own.all (fun p => decide (N[p.2]? = some p.1)) &&
    scope.names.all (fun y => if y.2 = .free then decide (sc.names.lookup y.1 = some .cell) || decide (sc.names.lookup y.1 = some .free) else true) &&
    scope.names.all (fun y => if y.2 = .local ∨ y.2 = .cell then decide (y.1 ∈ own.map (·.1)) || decide (y.1 ∉ N) else true)
theorem blk_of {N : List Str} {sc scope : Scope} {own : List (Str × Nat)} (h : blkB N sc scope own = true) : BlkOk N sc scope own := by
  unfold blkB at h
  simp only [Bool.and_eq_true, List.all_eq_true, decide_eq_true_eq] at h
  obtain ⟨⟨⟨⟨h1, h2⟩, h3⟩, h4⟩, h5⟩ := h
  refine ⟨h1, fun y hy => h2 y hy, fun p hp => h3 p hp, fun y hy e => ?_, fun y hy e => ?_⟩
  · have q := h4 y hy
    rw [if_pos e, Bool.or_eq_true, decide_eq_true_eq, decide_eq_true_eq] at q
    exact q
  · have q := h5 y hy
    rw [if_pos e, Bool.or_eq_true, decide_eq_true_eq, decide_eq_true_eq] at q
    exact q
end
/-! ### defs by their names -/
section
variable (P : Program) (W : World) (K : PySem.W.Frag) (mg : Str → Option Value) (base : Heap) (w : Wd)
/-- no exception leaves a def -/
abbrev noEF : XK → Nat → D → C → Prop := fun _ _ _ _ => False
def TF (n : Str) (pr : Arguments) (ps : List Str) (φ : List D → G → Res DV) (k : Nat) : Prop := ∃ f fd bd sc, FnG P W K mg base CX0 k f fd ps (spF w noEF φ) ∧ FunD K n n pr bd sc [] [] f fd ∧ mg n = some (.ref f) ∧ Binds K fd ps []
def MF (n : Str) (ps : List Str) (k0 : Nat) (φ : List D → G → Res DV) (k : Nat) : Prop := ∃ f fd, FnG P W K mg base CX0 k f fd ps (spI w noEF k0 φ) ∧ Mk K (w.ca k0) f ∧ mg n = some (.ref (w.ca k0)) ∧ Binds K fd ps []
end
section
variable {w : Wd} {Φ : Fns} {X : Cx} {x : Expr} {es : List E} {l : List Expr} {kws : List Keyword} {pos p : Pos} {n : Str} {k i k0 : Nat} {ps ks : List Str} {pr : Arguments}
theorem q_call (N : TF X.prog X.w X.K X.mg X.base w n pr ps (Φ i) k) (g : Gx w X) (hr : Room k X.A) (hs : PA X (x :: l) (tEs w noEx Φ es)) (hg : Gl X n := by rfl) (hd : (n == ("__debug__" : Str)) = false := by decide) (hst : starEach (x :: l) X.env = (false, eval x X.env) :: starEach l X.env := by rfl) (hpl : (backTo pos (starEach l X.env)).any (·.1) = false := by rfl) :
    PE X (.Call (.Name n p) (x :: l) [] pos) (tE w noEx Φ (.call i es)) := by
  obtain ⟨f, fd, _, _, h1, h2, h3, h4⟩ := N
  exact j_call (E := fun _ _ _ => False) ⟨h1, hr, g.gd, hg, h3, h2.kp, h4, hd⟩ pass0 (fun _ _ _ _ h => h) hs hst hpl
theorem q_call0 (N : TF X.prog X.w X.K X.mg X.base w n pr ps (Φ i) k) (g : Gx w X) (hr : Room k X.A) (hg : Gl X n := by rfl) (hd : (n == ("__debug__" : Str)) = false := by decide) : PE X (.Call (.Name n p) [] [] pos) (tE w noEx Φ (.call i [])) := by
  obtain ⟨f, fd, _, _, h1, h2, h3, h4⟩ := N
  exact j_call0 (E := fun _ _ _ => False) ⟨h1, hr, g.gd, hg, h3, h2.kp, h4, hd⟩ pass0 (fun _ _ _ _ h => h)
theorem q_make (N : MF X.prog X.w X.K X.mg X.base w n ps k0 (Φ i) k) (g : Gx w X) (hr : Room (k + 1) X.A) (hs : PA X (x :: l) (tEs w noEx Φ es)) (hg : Gl X n := by rfl) (hd : (n == ("__debug__" : Str)) = false := by decide) (hst : starEach (x :: l) X.env = (false, eval x X.env) :: starEach l X.env := by rfl) (hpl : (backTo pos (starEach l X.env)).any (·.1) = false := by rfl) :
    PE X (.Call (.Name n p) (x :: l) [] pos) (tE w noEx Φ (.make i es)) := by
  obtain ⟨f, fd, h1, h2, h3, h4⟩ := N
  exact j_make (E := fun _ _ _ => False) ⟨h1, hr, g.gd, hg, h2, h3, h4, hd⟩ pass0 (fun _ _ _ _ h => h) hs hst hpl
/-- the keywords of a call bind by their places -/
def KB (n : Str) (pr : Arguments) (ps ks : List Str) (js : List Nat) : Prop := ∀ (bd : List Stmt) (sc : Scope) (kV doc pm : Value) (an : Option Addr) (cdv ct : Value) (us ws : List Value), us.length = 0 → ws.length = ks.length →
  bindArgs (PySem.W.fnOf n n pr bd sc .none kV doc pm an cdv ct) ⟨us, ks.zip ws⟩ = pure (ps.zip (permL js (us ++ ws)))
theorem q_callk (ks : List Str) (js : List Nat) (N : TF X.prog X.w X.K X.mg X.base w n pr ps (Φ i) k) (g : Gx w X) (hr : Room k X.A) (hB : KB n pr ps ks js) (hkw : PK X kws (tEs w noEx Φ es)) (hg : Gl X n := by rfl) (hd : (n == ("__debug__" : Str)) = false := by decide) (hl : es.length = ks.length := by rfl)
    (hall : (backToKw pos (keywordEach kws X.env)).all (·.1.isSome) = true := by rfl) (hks : (backToKw pos (keywordEach kws X.env)).filterMap (·.1) = ks := by rfl)
    (hpl : ((backTo pos (starEach [] X.env)).any (·.1) || (backToKw pos (keywordEach kws X.env)).any (·.1.isNone)) = false := by rfl) :
    PE X (.Call (.Name n p) [] kws pos) (tE w noEx Φ (.callk i js es)) := by
  obtain ⟨f, fd, bd, sc, h1, h2, h3, h4⟩ := N
  exact j_callk (E := fun _ _ _ => False) ⟨h1, hr, g.gd, hg, h3, h2.kp, h4, hd⟩ (kbn_of h2 (hB bd sc)) pass0 (fun _ _ _ _ h => h) hkw hl hall hks hpl
end
end DI

set_option Elab.async false
set_option linter.all false
set_option maxRecDepth 100000
set_option maxHeartbeats 4000000
/-! DI19: enumerate of a list or a tuple. Own text. -/
namespace DI
open PySem PySem.Spec PyProof.Rows L2
section
open PySem.Sem (wp)
set_option maxHeartbeats 8000000 in
theorem enum_new1 {src : Value} {cell : Obj} {ok : Heap → Prop} (B : Begins src cell ok) :
    Meets (Builtin.«enumerate.__new__» ⟨[.type "enumerate", src], []⟩) (fun _ R st => ok st.heap ∧
      R (.ok (.ret (.ref (st.heap.push cell).objs.size))) { st with heap := (st.heap.push cell).push { cls := .type "enumerate", data := .fields #[.none, .bool false, .ref st.heap.objs.size, rawInt 0, .none, .none] } }) :=
  .of_wp fun pr wo Ar Rr st hst => by
    obtain ⟨hh, gg, dd, tt, oo⟩ := st
    obtain ⟨b1, b2⟩ := hst
    have sb := sub_enumerate
    have go : ∀ {A2 : Around} {E2 : Value → Shared → Prop} {Q2 : Value → Shared → Prop}, Q2 (.ref hh.objs.size) ⟨hh.push cell, gg, dd, tt, oo⟩ → wpAny (model pr wo) A2 (pyIter src) Q2 E2 ⟨hh, gg, dd, tt, oo⟩ := fun z => B.iter pr wo _ _ ⟨hh, gg, dd, tt, oo⟩ _ b1 z
    wp_walk using go
    refine wpAny_stack_any fun _ => wpAny_pure ?_
    split
    · rename_i cl _ _ _ _ _
      cases (cl == Value.type "enumerate") <;> (wp_walk using go; exact ⟨_, rfl, b2⟩)
    · wp_walk using go
      exact ⟨_, rfl, b2⟩
theorem enum_call1 {prog : Program} {w : World} {A : Around} {E : Value → Shared → Prop} {s : Shared} {src : Value} {cell : Obj} {ok : Heap → Prop} {Q : Value → Shared → Prop} (B : Begins src cell ok) (h1 : ok s.heap)
    (h : ∀ h2, IsEnum h2 (s.heap.objs.size + 1) s.heap.objs.size 0 .none → h2.get? s.heap.objs.size = some cell → (∀ b o, s.heap.get? b = some o → h2.get? b = some o) → Q (.ref (s.heap.objs.size + 1)) { s with heap := h2 }) :
    wpAny (model prog w) A (call (.type "enumerate") [src]) Q E s := by
  refine callType_new F.called_enumerate (by decide) (F.typeCall_enumerate_1 _) (F.newCall_enumerate_1 _) (fun ob => F.args_object_init_2 ob _) F.entry_enumerate_new (enum_new1 B) ⟨h1, ?_⟩
  have sz : (s.heap.push cell).objs.size = s.heap.objs.size + 1 := Heap.size_push ..
  have en : IsEnum ((s.heap.push cell).push { cls := .type "enumerate", data := .fields #[.none, .bool false, .ref s.heap.objs.size, rawInt 0, .none, .none] }) (s.heap.objs.size + 1) s.heap.objs.size 0 .none := by
    rw [← sz]
    exact Heap.get?_push_size (s.heap.push cell) rfl
  show _ ∧ _
  rw [sz]
  exact ⟨⟨_, en, rfl⟩, h _ en (Heap.get?_push_of_some _ (Heap.get?_push_size _ B.free)) fun b o x => Heap.get?_push_of_some _ (Heap.get?_push_of_some _ x)⟩
end
/-- the tuple at a as it stands, its items in new pairs with their places -/
def IteT (K : PySem.W.Frag) (a : Addr) : It :=
  ⟨fun i H => ∃ us v, SqT K H a us ∧ us[i]? = some v, fun i H v H' => ∃ T x, v = .ref T ∧ H T = none ∧ H' = upd H T (.tup [.int (i : Nat), x]) ∧ ∀ us, SqT K H a us → us[i]? = some x, fun i H => ∃ us, SqT K H a us ∧ us.length ≤ i⟩
theorem turn_enumT {P : Program} {w : World} {K : PySem.W.Frag} {elts : List Expr} {kk : Nat} {tpos : Pos} (a e it : Addr) :
    Turn P w K (.Tuple elts kk tpos) (IteT K a) [e, it] e (fun i h => (∃ old, IsEnum h e it ((i : Nat) : Int) old) ∧ h.IsTupleIter it a i ∧ e ≠ it ∧ a ≠ it ∧ a ≠ e) where
  mem := by simp
  obj := fun i h st b hb => by
    obtain ⟨⟨old, he⟩, ⟨o, ho, hc, hd⟩, _⟩ := st
    rcases List.mem_cons.mp hb with z | z
    · rw [z]; exact ⟨_, he, fun v q => nomatch q⟩
    · rw [List.mem_singleton.mp z]; exact ⟨o, ho, fun v q => by rw [hd] at q; cases q⟩
  keep := fun i h h' st k => by
    obtain ⟨⟨old, he⟩, hi, n1, n2, n3⟩ := st
    exact ⟨⟨old, k e (by simp) _ he⟩, hi.at fun o q => k it (by simp) o q, n1, n2, n3⟩
  item := by
    intro X hP hw hK hc i pins s σ H E I hf st hg
    subst hP hw hK
    obtain ⟨⟨old, he⟩, hit, hne, hai, hae⟩ := st
    obtain ⟨us, x, hq, hx⟩ := hg
    obtain ⟨its, rv, p, hz⟩ := I.tuple hq
    obtain ⟨u, hu, ru⟩ := rv.get hx
    have hel : e < s.heap.objs.size := Heap.lt_size he
    have hil : it < s.heap.objs.size := by obtain ⟨_, q, _⟩ := hit; exact Heap.lt_size q
    have hlt : i < its.toArray.size := by
      rw [List.size_toArray]
      exact (List.getElem?_eq_some_iff.mp hu).1
    have D : Draws X.prog X.w X.A.in1 it [it, a] its.toArray.size (fun i v => its.toArray[i]? = some v) (fun i h => h.IsTupleIter it a i ∧ h.IsTuple a its.toArray) := Draws.tuple (show X.A.in1.handled = none from I.ok.hd hc) it a hai its.toArray
    refine wpAny_pyNext_enum_itemD D he ⟨hit, p⟩ hlt hne (fun z => ?_) fun y h2 tk hy ho hst2 hT hsz hk => ?_
    · rcases List.mem_cons.mp z with z | z
      · exact hne z
      · exact hae (List.mem_singleton.mp z).symm
    have ey : y = u := by
      have q : its.toArray[i]? = some u := by simpa using hu
      rw [q] at hy
      exact (Option.some.inj hy).symm
    subst ey
    refine ⟨_, rfl, wpAny_letOwnedTupleGo_enum (s := { s with heap := h2, toks := tk + 1 }) ho fun h3 he3 sb => ?_⟩
    have hT3 : h3.get? s.heap.objs.size = some { cls := .type "tuple", data := .seq #[.int i tk, y] } := (sb.2 _ (Nat.ne_of_gt hel)).trans hT
    have new : ObjOk X.prog X.w (upd H s.heap.objs.size (.tup [.int (i : Nat), x])) h3 s.heap.objs.size (.tup [.int (i : Nat), x]) :=
      ⟨by show 2 ≤ sizeLine; decide, [.int i tk, y], .cons ⟨_, rfl⟩ (.cons ru .nil), ⟨_, hT3, rfl, _, rfl⟩⟩
    have I1 : Inv X pins σ (upd H s.heap.objs.size (.tup [.int (i : Nat), x])) { s with heap := h3, toks := tk + 1 } :=
      I.turnedNew (ch := [e, it]) (fun b ob hb q => (sb.2 b (fun z => hb (by simp [z]))).trans (hk b ob (fun z => hb (by simp [z])) (fun z => hb (by simp [z])) q)) hf (Nat.le_refl _) new
    refine ⟨.ref s.heap.objs.size, _, I1, rfl, ⟨_, x, rfl, I.hok.fresh (Nat.le_refl _), rfl, fun ys hy2 => by rw [I.tuple_inj hy2 hq]; exact hx⟩, ⟨⟨y, ?_⟩, hst2.1.at fun o q => (sb.2 it (Ne.symm hne)).trans q, hne, hai, hae⟩, fun b hb => ?_⟩
    · have e1 : ((i + 1 : Nat) : Int) = (i : Int) + 1 := by omega
      rw [e1]
      exact he3
    · have hb2 : b < s.heap.objs.size := by
        rcases List.mem_cons.mp hb with z | z
        · rw [z]; exact hel
        · rw [List.mem_singleton.mp z]; exact hil
      rw [upd_ne (Nat.ne_of_lt hb2)]
      exact (hf b hb).1
  done := by
    intro X hP hw hK hc i pins s σ H E I hf st hg
    subst hP hw hK
    obtain ⟨⟨old, he⟩, hit, hne, hai, hae⟩ := st
    obtain ⟨us, hq, hx⟩ := hg
    obtain ⟨its, rv, p, hz⟩ := I.tuple hq
    obtain ⟨f0, f1, f2, f3, f4, f5⟩ := hf it (by simp)
    have hl := rv.length
    have D : Draws X.prog X.w X.A.in1 it [it, a] i (fun _ _ => False) (fun j h => j = i ∧ h.IsTupleIter it a i ∧ h.IsTuple a its.toArray) := {
      live := fun j h st => by
        obtain ⟨_, ⟨o, ho, _⟩, _⟩ := st
        exact ⟨o, ho⟩
      frame := fun j h h2 st k => ⟨st.1, st.2.1.at fun o e => k it (by simp) o e, st.2.2.at fun o e => k a (by simp) o e⟩
      item := fun j s Q E hj st _ => absurd hj (by rw [st.1]; exact Nat.lt_irrefl i)
      done := fun s Q E st hE => RZ.nextOf_tuple_end (show X.A.in1.handled = none from I.ok.hd hc) st.2.1 st.2.2 (by simp; omega) hE }
    exact wpAny_pyNext_enum_endD D he ⟨rfl, hit, p⟩ fun h' eb => ⟨rfl, I.turned (t' := s.toks) (fun b o hb q => eb b o hb q) f0 f1 f3 f4 f5⟩
  self := fun A i s Q E st h => let ⟨⟨_, he⟩, _⟩ := st; wpAny_pyIter_enum he h
section
variable {X : Cx} {e : Expr} {ta : TA} {p pos tpos : Pos} {elts : List Expr} {kk : Nat}
def iEnumT (K : PySem.W.Frag) (ta : TA) : TI := fun σ H R => ta σ H fun vs H1 => ∃ a us, vs = [.ref a] ∧ SqT K H1 a us ∧ R (IteT K a) H1
theorem pi_enumT (hg : Gl X "enumerate") (hm : X.mg "enumerate" = none) (ha : PA X [e] ta) (hs : starEach [e] X.env = [(false, eval e X.env)]) : PI X (.Tuple elts kk tpos) (.Call (.Name "enumerate" p) [e] [] pos) (iEnumT X.K ta) := by
  refine ⟨fun pins s σ H R I h => ?_⟩
  refine Call_ (ld_blt I hg hm boot_enumerate (PyProof.Rows.callWith_type1 (thn (ha.run pos pins s σ H _ I h) fun us s1 ⟨vs, H1, I1, r1, q1⟩ => ?_) hs rfl))
  obtain ⟨a, ws, ex, hq, q⟩ := q1
  subst ex
  obtain ⟨u, rfl, rfl⟩ := vals1 r1
  obtain ⟨its, rv, p', hz⟩ := I1.tuple hq
  have la : a < s1.heap.objs.size := by obtain ⟨o, ho, _⟩ := id p'; exact Heap.lt_size ho
  refine enum_call1 (begins_tuple a its.toArray) (show s1.heap.IsTuple a its.toArray from p') fun h2 he hit hk => wpAny_pyIter_enum he ?_
  have I2 : Inv X pins σ H1 { s1 with heap := h2 } := I1.kept (t' := s1.toks) hk
  refine ⟨s1.heap.objs.size + 1, [s1.heap.objs.size + 1, s1.heap.objs.size], _, _, H1, rfl, I2, turn_enumT a (s1.heap.objs.size + 1) s1.heap.objs.size, ⟨⟨.none, he⟩, ⟨_, hit, rfl, rfl⟩, Nat.succ_ne_self _, Nat.ne_of_lt la, Nat.ne_of_lt (Nat.lt_succ_of_lt la)⟩, fun b hb => ?_, q⟩
  have hle : s1.heap.objs.size ≤ b := by
    rcases List.mem_cons.mp hb with z | z
    · rw [z]; exact Nat.le_succ _
    · rw [List.mem_singleton.mp z]; exact Nat.le_refl _
  exact I1.fpOk hle (I1.hok.fresh hle)
end
section
variable {w : Wd} {Ex : Nat → D → C → Prop} {Φ : Fns} {X : Cx} {c0 : C} {A : Addr} {us : List V} {ds : List D} {x : Expr} {a : E} {p pos tpos : Pos} {elts : List Expr} {kk : Nat}
theorem src_enumT (hF : SqT w.K c0.F A us) (rep : RepAll w c0.dl c0.F ds us) : Src w c0 (IteT w.K A) ((ds.zipIdx).map fun p => .tup [.int p.2, p.1]) where
  go := fun c r le ld i d hd => by
    have hq : SqT w.K c.H A us := r.sub.sqT (le.sqT hF)
    obtain ⟨y, hy, rfl⟩ := zipIdx_get hd
    obtain ⟨v, e1, e2⟩ := rep.get hy
    refine ⟨⟨us, v, hq, e1⟩, fun x H' ⟨T, z, q1, q2, q3, q4⟩ => ?_⟩
    have e3 := q4 us hq
    rw [e1] at e3
    cases e3
    subst q1
    subst q3
    exact yldPair r q2 rfl (RepD.mono le ld y v e2)
  stop := fun c r le i hi => ⟨us, r.sub.sqT (le.sqT hF), by rw [rep.length]; simpa using hi⟩
theorem srcP_enum : srcP w Φ .enum a .nop = bnd (bnd (ev w Φ a) frz) fun dx => opt (itemsD .enum dx .non) := by
  rw [bnd_assoc]
  rfl
theorem opt_enum {d : D} {s : S} (h : (opt (itemsD .enum d .non) : M (List D)) s ≠ .stuck) : seqOf d ≠ none := fun z => by
  have e : itemsD .enum d .non = (seqOf d).map fun xs => (xs.zipIdx).map fun p => .tup [.int p.2, p.1] := by cases d <;> rfl
  rw [e, z] at h
  exact h rfl
theorem i_enum (hK : X.K = w.K) (hg : Gl X "enumerate") (hm : X.mg "enumerate" = none) (ha : PE X x (tE w Ex Φ a)) (hs : starEach [x] X.env = (false, eval x X.env) :: starEach [] X.env) : PI X (.Tuple elts kk tpos) (.Call (.Name "enumerate" p) [x] [] pos) (tI w Ex Φ .enum a .nop) := by
  have hs2 : starEach [x] X.env = [(false, eval x X.env)] := hs
  refine ⟨fun pins s σ H R I h => ?_⟩
  obtain ⟨c, rfl, rfl, r, h⟩ := h
  rw [srcP_enum] at h
  rcases val_cases (f := fun dx => opt (itemsD .enum dx .non)) h.ne (fun d s z => opt_enum z) with q | q
  · rw [q] at h
    refine (pi_enum hg hm (pa_cons ha pa_nil hs) hs2).run pins s _ _ R I ?_
    refine tE_seq h (SStep.refl c) r fun c2 u du r2 x2 x02 hσ rel fr fr0 h2 => ?_
    obtain ⟨ds, p, us, c3, rfl, hH, r3, x3, s1, rep, h3⟩ := lst_in h2 r2 x02 rel fr0
    rw [← hH]
    refine ⟨p, us, rfl, by rw [hK]; exact r3.sub.sqL s1, ?_⟩
    rw [hK]
    exact Aft.ret h3 x3 r3 _ (src_enum s1 rep)
  · rw [q] at h
    refine (pi_enumT hg hm (pa_cons ha pa_nil hs) hs2).run pins s _ _ R I ?_
    refine tE_seq h (SStep.refl c) r fun c2 u du r2 x2 x02 hσ rel fr fr0 h2 => ?_
    obtain ⟨ds, p, us, c3, rfl, hH, r3, x3, s1, rep, h3⟩ := tup_in h2 r2 x02 rel fr0
    rw [← hH]
    refine ⟨p, us, rfl, by rw [hK]; exact r3.sub.sqT s1, ?_⟩
    rw [hK]
    exact Aft.ret h3 x3 r3 _ (src_enumT s1 rep)
theorem q_enum (g : Gx w X) (f : Fr X "enumerate") (ha : PE X x (tE w Ex Φ a)) (hg : Gl X "enumerate" := by rfl) (hs : starEach [x] X.env = (false, eval x X.env) :: starEach [] X.env := by rfl) : PI X (.Tuple elts kk tpos) (.Call (.Name "enumerate" p) [x] [] pos) (tI w Ex Φ .enum a .nop) := i_enum g.hK hg f ha hs
end
end DI

set_option Elab.async false
set_option linter.all false
set_option maxRecDepth 100000
set_option maxHeartbeats 4000000
/-! DI20: repr. Own text. -/
namespace DI
open PySem PySem.Spec PyProof.Rows L2
def rRepr (K : PySem.W.Frag) : List V → Hp → VK → Prop := fun xs H Q => ∃ v d, xs = [v] ∧ Dp K H v d ∧ d.showable = true ∧ d.hasDict = false ∧ d.depth ≤ 64 ∧ d.shown.length ≤ sizeLine ∧ Q (.str d.shown) H
section
variable {X : Cx}
theorem call_reprD (hu : X.A.units + 65 < cLine) (hgd : X.A.guards = some []) : CallR X (.builtin "repr") (rRepr X.K) := by
  intro pins s σ H xs us Q I r h
  obtain ⟨v, d, rfl, hd, h1, h2, h3, h4, q⟩ := h
  obtain ⟨u, rfl, rv⟩ := vals1 r
  obtain ⟨as, rd⟩ := Dp.reads I d v u hd rv
  cases rd with
  | none => exact PySem.P.repr_of_none ⟨.str _, H, I.tok _, ⟨_, rfl⟩, q⟩
  | bool b => exact PySem.P.repr_of_bool ⟨.str _, H, I.tok _, ⟨_, rfl⟩, q⟩
  | int i t => exact PySem.P.repr_of_int (by simpa [PyData.showable] using h1) ⟨.str _, H, I.tok _, ⟨_, rfl⟩, q⟩
  | str x t => exact PySem.P.repr_of_str ⟨.str _, H, I.tok _, ⟨_, rfl⟩, q⟩ h4
  | list a1 a2 a3 a4 => exact repr_of_reads' (.list a1 a2 a3 a4) h1 (PyData.noDict_hsm h2) hgd (by omega) (fun b o e => e) (fun h' u tk hk => ⟨.str _, H, I.kept hk, ⟨_, rfl⟩, q⟩) h4
  | tuple a1 a2 a3 a4 => exact repr_of_reads' (.tuple a1 a2 a3 a4) h1 (PyData.noDict_hsm h2) hgd (by omega) (fun b o e => e) (fun h' u tk hk => ⟨.str _, H, I.kept hk, ⟨_, rfl⟩, q⟩) h4
  | dict a1 a2 a3 a4 a5 => simp [PyData.hasDict] at h2
end
section
variable {w : Wd} {Ex : Nat → D → C → Prop} {Φ : Fns} {X : Cx} {x : Expr} {es : List E} {l : List Expr} {p pos : Pos}
theorem repr_ok (hK : X.K = w.K) (hu : X.A.units + 65 < cLine) (hgd : X.A.guards = some []) : CallOk w Ex X (.builtin "repr") (bltD .repr) := by
  refine ⟨_, call_reprD hu hgd, fun {c0 c Q vs ds} r st h q => ?_⟩
  obtain ⟨dv, e, q⟩ := q.opt0
  rcases ds with _ | ⟨d, _ | ⟨d2, ds⟩⟩
  · cases e
  · obtain ⟨v, rfl, lk⟩ := h.one
    have e' : (if shp d && PyData.showable d.py && decide ((PyData.shown d.py).length ≤ lim) then some (DV.f (.str (PyData.shown d.py))) else none) = some dv := e
    split at e'
    · rename_i z
      cases e'
      simp only [Bool.and_eq_true, decide_eq_true_eq] at z
      obtain ⟨⟨z1, z2⟩, z3⟩ := z
      refine ⟨v, d.py, rfl, by rw [hK]; exact lk.dp r z1, z2, PyData.hasDict_of_canLay _ (PySem.SeqAt.canLay_of_shaped z1), PySem.SeqAt.depth_of_shaped z1, by rw [← lim_eq]; exact z3, ?_⟩
      exact q.fin st r rfl trivial
    · cases e'
  · cases e
theorem q_repr (g : Gx w X) (f : Fr X "repr") (ha : PA X (x :: l) (tEs w Ex Φ es)) (hg : Gl X "repr" := by rfl) (hst : starEach (x :: l) X.env = (false, eval x X.env) :: starEach l X.env := by rfl) (hpl : (backTo pos (starEach l X.env)).any (·.1) = false := by rfl) : PE X (.Call (.Name "repr" p) (x :: l) [] pos) (tE w Ex Φ (.blt .repr es)) :=
  j_bltB ⟨hg, f, rfl, by decide, by decide⟩ (repr_ok g.hK g.hu g.gd) ha hst hpl
end
end DI

set_option Elab.async false
set_option linter.all false
set_option maxRecDepth 100000
set_option maxHeartbeats 4000000
/-! DI21: len(set(..)), chains, index. Own text. -/
namespace DI
open PySem PySem.Spec PyProof.Rows L2
theorem firsts_spec : ∀ (ns acc : List Int), acc.Nodup → (ns.foldl (fun acc x => if acc.any (· == x) then acc else acc ++ [x]) acc).Nodup ∧ ∀ y, y ∈ ns.foldl (fun acc x => if acc.any (· == x) then acc else acc ++ [x]) acc ↔ y ∈ acc ∨ y ∈ ns
  | [], acc, h => ⟨h, fun y => by simp⟩
  | x :: ns, acc, h => by
    rw [List.foldl_cons]
    by_cases hx : acc.any (· == x) = true
    · rw [if_pos hx]
      obtain ⟨h1, h2⟩ := firsts_spec ns acc h
      have hm : x ∈ acc := by simpa using hx
      refine ⟨h1, fun y => (h2 y).trans ?_⟩
      constructor
      · rintro (z | z)
        · exact .inl z
        · exact .inr (List.mem_cons_of_mem _ z)
      · rintro (z | z)
        · exact .inl z
        · rcases List.mem_cons.mp z with rfl | z
          · exact .inl hm
          · exact .inr z
    · rw [if_neg hx]
      have hm : x ∉ acc := by simpa using hx
      have nd : (acc ++ [x]).Nodup := by
        rw [List.nodup_append]
        exact ⟨h, by simp, fun a ha b hb => by
          rw [List.mem_singleton] at hb
          subst hb
          exact fun e => hm (e ▸ ha)⟩
      obtain ⟨h1, h2⟩ := firsts_spec ns (acc ++ [x]) nd
      refine ⟨h1, fun y => (h2 y).trans ?_⟩
      simp only [List.mem_append, List.mem_cons, or_assoc, List.not_mem_nil, false_or]
theorem firsts_nodup (ns : List Int) : (firsts ns).Nodup := (firsts_spec ns [] List.nodup_nil).1
theorem mem_firsts {ns : List Int} {y : Int} : y ∈ firsts ns ↔ y ∈ ns := ((firsts_spec ns [] List.nodup_nil).2 y).trans (by simp)
theorem firsts_met (ns : List Int) : firstMet (fun i => ns.getD i 0) ns.length = firsts ns := by
  unfold firstMet firsts
  have e : (List.range ns.length).map (fun i => ns.getD i 0) = ns := by
    refine List.ext_getElem (by simp) fun i h1 h2 => ?_
    simp at h1
    simp [h1]
  rw [e]
  rfl
def rSetN (K : PySem.W.Frag) (ta : TE) : TE := fun σ H Q => ta σ H fun x H1 => ∃ (l : Addr) (ns : List Int), x = V.ref l ∧ (SqL K H1 l (ns.map V.int) ∨ SqT K H1 l (ns.map V.int)) ∧ ns.length ≤ 4000 ∧ Q (.int (firsts ns).length) H1
theorem pe_lenSetN {X : Cx} {a : Expr} {ta : TE} {p p2 q pos : Pos} (hc : X.calm = true) (hg : Gl X "len") (hm : X.mg "len" = none) (hg2 : Gl X "set") (hm2 : X.mg "set" = none) (ha : PE X a ta)
    (na : starEach [a] X.env = (false, eval a X.env) :: starEach [] X.env) : PE X (.Call (.Name "len" p) [.Call (.Name "set" p2) [a] [] q] [] pos) (rSetN X.K ta) := ⟨fun pins s σ H Q I h => by
  refine Call_ (ld_blt I hg hm boot_len (PyProof.Rows.callWith_builtin1 (PyProof.Rows.args_cons ?_ rfl) rfl rfl))
  refine Call_ (ld_blt I hg2 hm2 boot_set (PyProof.Rows.callWith_type1 (PyProof.Rows.args_cons (thn (ha.run pins s σ H _ I h) fun v s1 z => PyProof.Rows.args_nil ?_) na) na rfl))
  obtain ⟨x, H1, I1, r1, l, ns, rfl, hq, hl, q1⟩ := z
  cases r1
  rcases hq with hq | hq
  · obtain ⟨its, r, pl, hz⟩ := I1.list hq
    have hn : its.toArray.size = ns.length := by rw [List.size_toArray, ← r.length, List.length_map]
    refine call_set_list (I1.ok.hd hc) pl.isList (ns := ns) (by simpa using RZ.intsAre_vals r) (by rw [hn]; unfold scanBound; omega) fun h2 tk hS hk => PyProof.Rows.args_nil ?_
    rw [hn, firsts_met] at hS
    obtain ⟨o, es, ep, t, ho, hex, hd, _, _, hb, hf, e⟩ := hS
    have I2 : Inv X pins σ H1 { s1 with heap := h2, toks := tk } := I1.kept fun b o e => hk b o (Heap.lt_size e) e
    exact call_len_set ho hex hd hf (by unfold scanBound at hb; omega) ⟨.int (firsts ns).length, H1, I2.tok _, ⟨_, by rw [e]⟩, q1⟩
  · obtain ⟨its, r, pl, hz⟩ := I1.tuple hq
    refine call_set_tupI (s := s1) ns (I1.ok.hd hc) (show s1.heap.IsTuple l its.toArray from pl) (by simpa using RZ.intsAre_vals r) (by unfold scanBound; omega) fun h2 tk c hS _ hk => PyProof.Rows.args_nil ?_
    obtain ⟨o, es, ep, t, ho, hex, hd, _, nd, hm, hb, hf, e, _⟩ := hS
    have pm : (es.toList.map keyOf).Perm (firsts ns) := (List.perm_ext_iff_of_nodup nd (firsts_nodup ns)).mpr fun k => by
      rw [← hm k, decide_eq_true_eq, mem_firsts]
    have e2 : es.size = (firsts ns).length := by
      have := pm.length_eq
      rw [List.length_map, Array.length_toList] at this
      exact this
    have I2 : Inv X pins σ H1 { s1 with heap := h2, toks := tk } := I1.kept hk
    exact call_len_set ho hex hd hf (by unfold scanBound at hb; omega) ⟨.int (firsts ns).length, H1, I2.tok _, ⟨_, by rw [e2]⟩, q1⟩⟩
section
variable {w : Wd} {Ex : Nat → D → C → Prop} {Φ : Fns} {X : Cx} {x y z : Expr} {a b c : E} {p p2 q pos apos npos : Pos}
theorem q_lenset (g : Gx w X) (f : Fr X "len") (f2 : Fr X "set") (ha : PE X x (tE w Ex Φ a)) (hg : Gl X "len" := by rfl) (hg2 : Gl X "set" := by rfl) (na : starEach [x] X.env = (false, eval x X.env) :: starEach [] X.env := by rfl) :
    PE X (.Call (.Name "len" p) [.Call (.Name "set" p2) [x] [] q] [] pos) (tE w Ex Φ (.blt .lenset [a])) := (pe_lenSetN g.hc hg f hg2 f2 ha na).imp fun σ H Q h => by
  obtain ⟨c, rfl, rfl, r, h⟩ := tE_in h
  have e : ev w Φ (.blt .lenset [a]) = bnd (ev w Φ a) fun v => bnd (look v) fun d => opt (bltD .lenset [d]) := by
    show bnd (bnd (ev w Φ a) fun v => bnd (ret []) fun vs => ret (v :: vs)) (fun vs => bnd (looks vs) fun ds => opt (bltD .lenset ds)) = _
    rw [bnd_assoc]
    congr 1
    funext v
    show bnd (bnd (look v) fun d => bnd (ret []) fun ds => ret (d :: ds)) (fun ds => opt (bltD .lenset ds)) = _
    rw [bnd_assoc]
    rfl
  rw [e] at h
  refine tE_seq h (SStep.refl c) r fun c2 u du r2 x2 x02 hσ rel fr fr0 h2 => ?_
  obtain ⟨d, lk, h3⟩ := h2.look r2 rel
  obtain ⟨dv, e1, h4⟩ := h3.opt0
  cases d <;> first | (cases e1; done) | skip
  · obtain ⟨ns, e2, e3⟩ := Option.bind_eq_some_iff.mp (show (DI.intsD _).bind _ = some dv from e1)
    split at e3
    · rename_i hz
      cases e3
      obtain ⟨A, us, rfl, s1, rep⟩ := lk.seqT r2
      obtain ⟨e4, _⟩ := rep.intsD e2
      subst e4
      exact ⟨A, ns, rfl, .inr (by rw [g.hK]; exact s1), hz, h4.fin x02 r2 rfl trivial⟩
    · cases e3
  · obtain ⟨ns, e2, e3⟩ := Option.bind_eq_some_iff.mp (show (DI.intsD _).bind _ = some dv from e1)
    split at e3
    · rename_i hz
      cases e3
      obtain ⟨A, us, rfl, s1, rep⟩ := lk.seqL
      obtain ⟨e4, _⟩ := rep.intsD e2
      subst e4
      exact ⟨A, ns, rfl, .inl (by rw [g.hK]; exact s1), hz, h4.fin x02 r2 rfl trivial⟩
    · cases e3
end
end DI

set_option Elab.async false
set_option linter.all false
set_option maxRecDepth 100000
set_option maxHeartbeats 4000000
/-! DI22: the draw of a deal's number. Own text. -/
namespace DI
open PySem PySem.Spec PyProof.Rows L2
section
variable (K : PySem.W.Frag)
def tDeal0 : TE := tOp (rIx K) (tVar 0) (tC (.int 0))
def tDeal1 : TE := tOp (rIx K) (tVar 0) (tC (.int 1))
def tNe0 : TT := tTest (tOp (rNeD K) (tDeal0 K) (tLst tNil))
def tLast0 : TT := tTest (tOp (rEqD K) (tOp (rIx K) (tDeal0 K) (tUn (rU fun i => .int (-i)) (tC (.int 1)))) (tC (.int 0)))
def rInt1 : List V → Hp → VK → Prop := fun xs H Q => (∃ i, xs = [.int i] ∧ Q (.int i) H) ∨ ∃ k, xs = [.bl k] ∧ Q (.int (if k then 1 else 0)) H
def tPop0 : TE := tBM0 K "list" rPop (tDeal0 K)
/-- what _law_any's body reads -/
def tAny : TS := tSeq (tWhile (tAnd (tNe0 K) (tLast0 K)) (tDrop (tPop0 K)))
  (tSeq (tIfS (tNe0 K) (tSeq (tAsg (tCB rInt1 (tCons (tPop0 K) tNil)) (gName 2)) (tSeq (tDrop (tBM K "list" rAppend (tDeal0 K) (tCons (tOp (rI CDivW fun i j => .int (i / j)) (tVar 2) (tVar 1)) tNil))) (tRet (tOp (rI (fun _ j => 0 < j) fun i j => .int (i % j)) (tVar 2) (tVar 1))))) tNext)
  (tSeq (tAsg (tOp (rI (fun _ j => 0 < j) fun i j => .int (i % j)) (tCB rInt1 (tCons (tOp (rI0 fun i j => .int (i + j)) (tOp (rI CMul fun i j => .int (i * j)) (tDeal1 K) (tC (.int 40693))) (tC (.int 71))) tNil)) (tC (.int 2147483647))) (gSub (tVar 0) (tC (.int 1)) rSetL))
    (tRet (tOp (rI (fun _ j => 0 < j) fun i j => .int (i % j)) (tCB rInt1 (tCons (tOp (rI CDivW fun i j => .int (i / j)) (tDeal1 K) (tC (.int 64))) tNil)) (tVar 1)))))
end
section
variable {w : Wd} {p : Addr × Addr} {cs : List Int} {b : Int} {H : Hp} {K : PySem.W.Frag}
/-- a deal in the heap -/
structure DlH (p : Addr × Addr) (cs : List Int) (b : Int) (H : Hp) : Prop where
  ne : p.1 ≠ p.2
  h1 : H p.1 = some (.lst [.ref p.2, .int b])
  h2 : H p.2 = some (.lst (cs.map V.int))
theorem deal0_in {σ : L2.St} {Q : VK} (d : DlH p cs b H) (h0 : σ[(0 : Nat)]? = some (some (.ref p.1))) (q : Q (.ref p.2) H) : tDeal0 K σ H Q :=
  ⟨.ref p.1, h0, .inl ⟨p.1, [.ref p.2, .int b], 0, .ref p.2, rfl, rfl, SqL.of d.h1, rfl, q⟩⟩
theorem deal1_in {σ : L2.St} {Q : VK} (d : DlH p cs b H) (h0 : σ[(0 : Nat)]? = some (some (.ref p.1))) (q : Q (.int b) H) : tDeal1 K σ H Q :=
  ⟨.ref p.1, h0, .inl ⟨p.1, [.ref p.2, .int b], 1, .int b, rfl, rfl, SqL.of d.h1, rfl, q⟩⟩
theorem dpInts : ∀ ns : List Int, DpAll K H (ns.map V.int) (ns.map PyData.int)
  | [] => .nil
  | n :: ns => .cons (.int n) (dpInts ns)
theorem canLayInts : ∀ ns : List Int, PyData.canLayAll0 (ns.map PyData.int) = true
  | [] => rfl
  | n :: ns => by
    show (PyData.canLay0 (.int n) && PyData.canLayAll0 (ns.map PyData.int)) = true
    rw [canLayInts ns]
    rfl
theorem depthInts : ∀ ns : List Int, PyData.depthAll (ns.map PyData.int) ≤ 1
  | [] => by simp [PyData.depthAll]
  | n :: ns => by
    have := depthInts ns
    simp only [List.map_cons, PyData.depthAll, PyData.depth]
    omega
theorem shapedInts (ns : List Int) : SeqAt.shaped (.list (ns.map PyData.int)) = true := by
  unfold SeqAt.shaped
  rw [Bool.and_eq_true]
  refine ⟨by rw [PyData.canLay0]; exact canLayInts ns, decide_eq_true ?_⟩
  have := depthInts ns
  rw [PyData.depth]
  omega
theorem upd_keep {a c : Addr} {o u : HO} (h : H a = some o) (hc : H c = none) : upd H c u a = some o := by
  rw [upd_ne (fun z => by rw [z, hc] at h; cases h)]
  exact h
theorem DlH.lay (d : DlH p cs b H) {c : Addr} {u : HO} (hc : H c = none) : DlH p cs b (upd H c u) := ⟨d.ne, upd_keep d.h1 hc, upd_keep d.h2 hc⟩
theorem eqv_nil (cs : List Int) : PyData.eqv (.list (cs.map PyData.int)) (.list []) = decide (cs = []) := by
  cases cs with
  | nil => simp [PyData.eqv, PyData.eqvAll]
  | cons c cs => simp [PyData.eqv, PyData.eqvAll]
/-- deal[0] != []: a new empty list comes -/
theorem ne0_in {σ : L2.St} {Q : Bool → Hp → Prop} (d : DlH p cs b H) (h0 : σ[(0 : Nat)]? = some (some (.ref p.1))) (q : ∀ e, H e = none → Q (!decide (cs = [])) (upd H e (.lst []))) : tNe0 K σ H Q := by
  refine deal0_in d h0 ⟨Nat.zero_le _, fun e he => ?_⟩
  have d' := d.lay (u := .lst []) he
  refine ⟨.list (cs.map PyData.int), .list [], .lst (SqL.of d'.h2) (dpInts cs), .lst (SqL.of upd_same) .nil, shapedInts cs, shapedInts [], _, rfl, ?_⟩
  rw [eqv_nil]
  exact q e he
theorem last0_in {σ : L2.St} {Q : Bool → Hp → Prop} {x : Int} {ds : List Int} (d : DlH p (ds ++ [x]) b H) (h0 : σ[(0 : Nat)]? = some (some (.ref p.1))) (q : Q (decide (x = 0)) H) : tLast0 K σ H Q := by
  refine deal0_in d h0 ⟨1, rfl, .inl ⟨p.2, (ds ++ [x]).map V.int, -1, .int x, rfl, rfl, SqL.of d.h2, ?_, .int x, .int 0, .int x, .int 0, rfl, rfl, _, rfl, ?_⟩⟩
  · unfold L2.atI L2.ixN
    rw [if_neg (by decide), if_pos (by rw [List.length_map, List.length_append]; simp; omega)]
    show ((ds ++ [x]).map V.int)[_]? = _
    rw [List.length_map, List.length_append, List.map_append]
    have e : ((-1 : Int) + ((ds.length + [x].length : Nat) : Int)).toNat = ds.length := by simp; omega
    rw [e, List.getElem?_append_right (by simp)]
    simp
  · have e : PyData.eqv (.int x) (.int 0) = decide (x = 0) := by
      simp only [PyData.eqv]
      rfl
    rw [e]
    exact q
theorem pop0_in {σ : L2.St} {Q : VK} {x : Int} {ds : List Int} (d : DlH p (ds ++ [x]) b H) (h0 : σ[(0 : Nat)]? = some (some (.ref p.1))) (q : ∀ H', DlH p ds b H' → H' = upd H p.2 (.lst (ds.map V.int)) → Q (.int x) H') : tPop0 K σ H Q := by
  refine deal0_in d h0 ⟨.inl ⟨rfl, _, SqL.of d.h2⟩, p.2, (ds ++ [x]).map V.int, .int x, rfl, rfl, d.h2, ?_, ?_⟩
  · rw [List.length_map, List.length_append, List.map_append]
    simp
  · have e : ((ds ++ [x]).map V.int).dropLast = ds.map V.int := by rw [List.map_append]; simp
    rw [e]
    exact q _ ⟨d.ne, (upd_ne d.ne).trans d.h1, upd_same⟩ rfl
end
/-- only the deal has changed -/
structure DlS (p : Addr × Addr) (H H' : Hp) : Prop where
  keep : ∀ a o, H a = some o → a ≠ p.1 → a ≠ p.2 → H' a = some o
  live : ∀ a, H' a = none → H a = none
theorem DlS.refl (p : Addr × Addr) (H : Hp) : DlS p H H := ⟨fun _ _ h _ _ => h, fun _ h => h⟩
theorem DlS.lay {p : Addr × Addr} {H H' : Hp} (s : DlS p H H') {e : Addr} {u : HO} (he : H' e = none) : DlS p H (upd H' e u) := ⟨fun a o h n1 n2 => upd_keep (s.keep a o h n1 n2) he, fun a h => by
  by_cases z : a = e
  · rw [z]
    exact s.live e he
  · rw [upd_ne z] at h
    exact s.live a h⟩
theorem DlS.wr {p : Addr × Addr} {H H' : Hp} (s : DlS p H H') {e : Addr} {u : HO} (he : e = p.1 ∨ e = p.2) (hs : ∃ o, H' e = some o) : DlS p H (upd H' e u) := ⟨fun a o h n1 n2 => by
  rw [upd_ne (fun z => he.elim (fun he => n1 (z.trans he)) fun he => n2 (z.trans he))]
  exact s.keep a o h n1 n2, fun a h => by
  by_cases z : a = e
  · rw [z, upd_same] at h
    cases h
  · rw [upd_ne z] at h
    exact s.live a h⟩
theorem dropZ_snoc (ds : List Int) : ∀ x : Int, dropZ (ds ++ [x]) = if x = 0 then dropZ ds else ds ++ [x] := by
  induction ds with
  | nil =>
    intro x
    by_cases h : x = 0 <;> simp [dropZ, h]
  | cons d ds ih =>
    intro x
    show dropZ (d :: (ds ++ [x])) = _
    unfold dropZ
    rw [ih x]
    by_cases h : x = 0
    · simp only [h, if_true]
    · simp only [h, if_false]
      cases ds <;> simp
theorem anyD_eq (k : Int) (cs : List Int) (b : Int) : anyD k (cs, b) = (match (dropZ cs).getLast? with
  | some x => (x % k, (dropZ cs).dropLast ++ [x / k], b)
  | none => ((b * 40693 + 71) % 2147483647 / 64 % k, [], (b * 40693 + 71) % 2147483647)) := rfl
theorem dropZ_len : ∀ cs : List Int, (dropZ cs).length ≤ cs.length
  | [] => Nat.le_refl _
  | x :: r => by
    have ih := dropZ_len r
    unfold dropZ
    split
    · split
      · simp
      · simp
    · rename_i y r' e
      rw [e] at ih
      simpa using ih
section
variable {p : Addr × Addr} {cs : List Int} {b k : Int} {H : Hp} {K : PySem.W.Frag}
/-- what the body does -/
theorem any_reads {σ : L2.St} {Q : VK} {Nx : L2.St → Hp → Prop} (d : DlH p cs b H) (h0 : σ[(0 : Nat)]? = some (some (.ref p.1))) (h1 : σ[(1 : Nat)]? = some (some (.int k))) (hl : 3 ≤ σ.length) (hk : 0 < k) (hk2 : k.natAbs.log2 < 9000) (hc : cs.length ≤ 100)
    (q : ∀ H', DlH p (anyD k (cs, b)).2.1 (anyD k (cs, b)).2.2 H' → DlS p H H' → Q (.int (anyD k (cs, b)).1) H') : tAny K { nx := Nx, rt := Q } σ H := by
  refine ⟨fun m σ' H' => σ' = σ ∧ ∃ ds, m = ds.length ∧ DlH p ds b H' ∧ DlS p H H' ∧ dropZ ds = dropZ cs, ⟨cs.length, rfl, cs, rfl, d, DlS.refl p H, rfl⟩, ?_⟩
  rintro m σ' H' ⟨rfl, ds, rfl, d1, s1, hz⟩
  have rest : ∀ {ds : List Int} {H' : Hp}, DlH p ds b H' → DlS p H H' → ds = dropZ cs → tSeq (tIfS (tNe0 K) (tSeq (tAsg (tCB rInt1 (tCons (tPop0 K) tNil)) (gName 2)) (tSeq (tDrop (tBM K "list" rAppend (tDeal0 K) (tCons (tOp (rI CDivW fun i j => .int (i / j)) (tVar 2) (tVar 1)) tNil))) (tRet (tOp (rI (fun _ j => 0 < j) fun i j => .int (i % j)) (tVar 2) (tVar 1))))) tNext)
      (tSeq (tAsg (tOp (rI (fun _ j => 0 < j) fun i j => .int (i % j)) (tCB rInt1 (tCons (tOp (rI0 fun i j => .int (i + j)) (tOp (rI CMul fun i j => .int (i * j)) (tDeal1 K) (tC (.int 40693))) (tC (.int 71))) tNil)) (tC (.int 2147483647))) (gSub (tVar 0) (tC (.int 1)) rSetL))
        (tRet (tOp (rI (fun _ j => 0 < j) fun i j => .int (i % j)) (tCB rInt1 (tCons (tOp (rI CDivW fun i j => .int (i / j)) (tDeal1 K) (tC (.int 64))) tNil)) (tVar 1)))) { nx := Nx, rt := Q } σ' H' := by
    intro ds H' d1 s1 hds
    refine ne0_in d1 h0 fun e he => ?_
    have d2 := d1.lay (u := .lst []) he
    have s2 := s1.lay (u := .lst []) he
    rcases List.eq_nil_or_concat ds with rfl | ⟨ds', x, rfl⟩
    · rw [show (!decide (([] : List Int) = [])) = false from rfl, if_neg Bool.false_ne_true]
      -- the blend
      have ea : anyD k (cs, b) = ((b * 40693 + 71) % 2147483647 / 64 % k, [], (b * 40693 + 71) % 2147483647) := by
        rw [anyD_eq, ← hds]
        rfl
      refine deal1_in d2 h0 ⟨b, 40693, rfl, rfl, .inr ⟨by decide, by decide⟩, b * 40693, 71, rfl, rfl, .inl ⟨b * 40693 + 71, rfl, b * 40693 + 71, 2147483647, rfl, rfl, (by show (0 : Int) < 2147483647; decide), .ref p.1, h0, p.1, [.ref p.2, .int b], 1, 1, rfl, rfl, d2.h1, rfl, ?_⟩⟩
      have d3 : DlH p [] ((b * 40693 + 71) % 2147483647) (upd (upd H' e (.lst [])) p.1 (.lst [.ref p.2, .int ((b * 40693 + 71) % 2147483647)])) := ⟨d2.ne, upd_same, (upd_ne d2.ne.symm).trans d2.h2⟩
      have s3 : DlS p H (upd (upd H' e (.lst [])) p.1 (.lst [.ref p.2, .int ((b * 40693 + 71) % 2147483647)])) := s2.wr (.inl rfl) ⟨_, d2.h1⟩
      refine deal1_in d3 h0 ⟨_, 64, rfl, rfl, ⟨by decide, by decide⟩, .inl ⟨_, rfl, .int k, h1, _, k, rfl, rfl, hk, ?_⟩⟩
      rw [ea] at q
      exact q _ d3 s3
    · rw [List.concat_eq_append] at *
      have e1 : (!decide (ds' ++ [x] = [])) = true := by simp
      rw [e1, if_pos rfl]
      have ea : anyD k (cs, b) = (x % k, ds' ++ [x / k], b) := by
        rw [anyD_eq, ← hds]
        simp
      refine pop0_in d2 h0 fun H3 d3 e3 => .inl ⟨x, rfl, ?_⟩
      have s3 : DlS p H H3 := by
        rw [e3]
        exact s2.wr (.inr rfl) ⟨_, d2.h2⟩
      have hσ : ∀ j : Nat, j ≠ 2 → (σ'.set 2 (some (.int x)))[j]? = σ'[j]? := fun j hj => List.getElem?_set_ne (fun z => hj z.symm)
      have h2 : (σ'.set 2 (some (V.int x)))[(2 : Nat)]? = some (some (.int x)) := List.getElem?_set_self (by omega)
      have g0 : (σ'.set 2 (some (V.int x)))[(0 : Nat)]? = some (some (.ref p.1)) := (hσ 0 (by decide)).trans h0
      have g1 : (σ'.set 2 (some (V.int x)))[(1 : Nat)]? = some (some (.int k)) := (hσ 1 (by decide)).trans h1
      have hlen : ds'.length < 100 := by
        have := dropZ_len cs
        rw [← hds, List.length_append] at this
        simp at this
        omega
      refine deal0_in d3 g0 ⟨.inl ⟨rfl, _, SqL.of d3.h2⟩, .int x, h2, .int k, g1, x, k, rfl, rfl, ⟨hk, hk2⟩, p.2, ds'.map V.int, .int (x / k), rfl, rfl, d3.h2, by rw [List.length_map, sizeLine_eq]; omega, ?_⟩
      have d4 : DlH p (ds' ++ [x / k]) b (upd H3 p.2 (.lst (ds'.map V.int ++ [.int (x / k)]))) := ⟨d3.ne, (upd_ne d3.ne).trans d3.h1, by rw [List.map_append]; exact upd_same⟩
      have s4 : DlS p H (upd H3 p.2 (.lst (ds'.map V.int ++ [.int (x / k)]))) := s3.wr (.inr rfl) ⟨_, d3.h2⟩
      refine ⟨.int x, h2, .int k, g1, x, k, rfl, rfl, hk, ?_⟩
      rw [ea] at q
      exact q _ d4 s4
  refine ne0_in d1 h0 fun e he => ?_
  have d2 := d1.lay (u := .lst []) he
  have s2 := s1.lay (u := .lst []) he
  rcases List.eq_nil_or_concat ds with rfl | ⟨ds', x, rfl⟩
  · rw [show (!decide (([] : List Int) = [])) = false from rfl]
    simp only [Bool.false_eq_true, if_false]
    exact rest d2 s2 hz
  · rw [List.concat_eq_append] at *
    have e1 : (!decide (ds' ++ [x] = [])) = true := by simp
    rw [e1, if_pos rfl]
    refine last0_in d2 h0 ?_
    by_cases hx : x = 0
    · rw [decide_eq_true hx]
      simp only [if_true]
      refine ⟨fun σ3 H3 => σ3 = σ' ∧ ∃ es, es.length = ds'.length ∧ DlH p es b H3 ∧ DlS p H H3 ∧ dropZ es = dropZ cs, fun σ3 H3 ⟨e3, es, hes, q1, q2, q3⟩ => ⟨es.length, by rw [hes, List.length_append]; simp, e3, es, rfl, q1, q2, q3⟩, ?_⟩
      refine pop0_in d2 h0 fun H3 d3 e3 => ⟨rfl, ds', rfl, d3, ?_, ?_⟩
      · rw [e3]
        exact s2.wr (.inr rfl) ⟨_, d2.h2⟩
      · rw [← hz, dropZ_snoc, if_pos hx]
    · rw [decide_eq_false hx]
      simp only [Bool.false_eq_true, if_false]
      refine rest d2 s2 ?_
      rw [← hz, dropZ_snoc, if_neg hx]
end
end DI

set_option Elab.async false
set_option linter.all false
set_option maxRecDepth 100000
set_option maxHeartbeats 4000000
/-! DI23: the deal: its number drawn, made. Own text. -/
namespace DI
open PySem PySem.Spec PyProof.Rows L2
section
variable {w : Wd} {EF : XK → Nat → D → C → Prop} {T : Tab} {Φ : Fns} {vs : List V} {H : Hp} {Q : VK} {E : XK} {K : PySem.W.Frag} {N : List Str}
theorem any_len (h : spF w EF (runFn T Φ .any) vs H Q E) : vs.length = 2 := by
  obtain ⟨c, ds, hσ, hρ, rfl, r, rep, h⟩ := h
  rcases ds with _ | ⟨d1, _ | ⟨d2, _ | ⟨d3, ds⟩⟩⟩
  · exact h.elim
  · cases d1 <;> exact h.elim
  · exact rep.length
  · cases d1 <;> first | exact h.elim | skip
    all_goals (cases d2 <;> exact h.elim)
theorem any_in (hN : N.length = 3) (h : spF w EF (runFn T Φ .any) vs H Q E) : tAny K { nx := fun _ H' => Q .non H', rt := Q } (start N vs) H := by
  obtain ⟨c, ds, hσ, hρ, rfl, r, rep, h⟩ := h
  rcases ds with _ | ⟨d1, _ | ⟨d2, _ | ⟨d3, ds⟩⟩⟩
  · exact h.elim
  · cases d1 <;> exact h.elim
  · obtain ⟨v1, r1, rfl, q1, v2, r2, rfl, q2, q3⟩ := rep
    rw [show r2 = [] from q3]
    cases d1 <;> first | exact h.elim | skip
    cases d2 <;> first | exact h.elim | skip
    rename_i k
    cases eg : c.g with
    | none => rw [eg] at h; exact h.elim
    | some g =>
      rw [eg] at h
      obtain ⟨cs, b⟩ := g
      have h' : AftF w EF c E (if 0 < k ∧ k.natAbs.log2 < 9000 then .ok (.f (.int (anyD k (cs, b)).1)) ⟨[], some (anyD k (cs, b)).2⟩ else .stuck) Q := h
      by_cases hk : 0 < k ∧ k.natAbs.log2 < 9000
      · rw [if_pos hk] at h'
        obtain ⟨p, hp, rfl⟩ := q1
        have q2' : v2 = .int k := q2
        subst q2'
        have dd : DealAt c.F c.H (some p) (some (cs, b)) := by
          have := r.deal
          unfold DealOk at this
          rw [hp, eg] at this
          exact this
        obtain ⟨z1, z2, z3, z4, z5, z6⟩ := dd
        refine any_reads (p := p) (cs := cs) (b := b) (k := k) ⟨z1, z4, z5⟩ (start_at rfl) (start_at rfl) (by rw [start_len (by rw [hN]; show 2 ≤ 3; decide), hN]; exact Nat.le_refl _) hk.1 hk.2 z6 fun H' d s => ?_
        have hT : ∀ a, Touch c a → a = p.1 ∨ a = p.2 := fun a t => by
          rcases t with ⟨i, t, _⟩ | ⟨q, t1, t2⟩
          · rw [hσ] at t
            simp at t
          · rw [hp] at t1
            cases t1
            exact t2
        have hT' : ∀ a, a = p.1 ∨ a = p.2 → Touch c a := fun a t => .inr ⟨p, hp, t⟩
        have hlen : (anyD k (cs, b)).2.1.length ≤ 100 := by
          rw [anyD_eq]
          have z7 : cs.length ≤ 100 := z6
          have := dropZ_len cs
          cases e : (dropZ cs).getLast? with
          | none => simp
          | some x =>
            have hne : dropZ cs ≠ [] := fun z => by rw [z] at e; simp at e
            have := List.length_pos_iff.mpr hne
            simp
            omega
        have re : R w ⟨c.dl, c.F, H', c.σ, c.ρ, some (anyD k (cs, b)).2⟩ := by
          refine ⟨fun a o ha => s.keep a o (r.sub a o ha) (fun z => ?_) fun z => ?_, r.len, fun i dv hi => ?_, fun i j a hi => ?_, fun i a q hi => ?_, ?_⟩
          · have ha' : c.F a = some o := ha
            rw [z, z2] at ha'
            cases ha'
          · have ha' : c.F a = some o := ha
            rw [z, z3] at ha'
            cases ha'
          · have hi' : c.ρ[i]? = _ := hi
            rw [hρ] at hi'
            simp at hi'
          · have hi' : c.σ[i]? = _ := hi.1
            rw [hσ] at hi'
            simp at hi'
          · have hi' : c.σ[i]? = _ := hi.1
            rw [hσ] at hi'
            simp at hi'
          · show DealAt c.F H' c.dl (some (anyD k (cs, b)).2)
            rw [hp]
            exact ⟨z1, z2, z3, d.h1, d.h2, hlen⟩
        have st : SStep c ⟨c.dl, c.F, H', c.σ, c.ρ, some (anyD k (cs, b)).2⟩ := by
          refine ⟨⟨Le.refl _, fun a o ha n => s.keep a o ha (fun z => n (hT' a (.inl z))) fun z => n (hT' a (.inr z)), s.live, fun a ha => .inl ha, fun a ha => .inl ?_, DlLe.refl _⟩, rfl, fun i dv hi => ⟨dv, hi⟩, fun i k fs hi => ⟨fs, hi⟩⟩
          rcases ha with ⟨i, ha, _⟩ | ha
          · have ha' : c.σ[i]? = _ := ha
            rw [hσ] at ha'
            simp at ha'
          · exact .inr ha
        exact h' _ rfl re st (.int _) rfl trivial
      · rw [if_neg hk] at h'
        exact h'.elim
  · cases d1 <;> first | exact h.elim | skip
    all_goals (cases d2 <;> exact h.elim)
end
/-- the def _law_any, by its body's reading -/
theorem fn_any {P : Program} {W : World} {K : PySem.W.Frag} {mg : Str → Option Value} {base : Heap} {CX : CXT} {w : Wd} {EF : XK → Nat → D → C → Prop} {T : Tab} {Φ : Fns} {x qual : Str} {params : Arguments} {body : List Stmt} {scope : Scope} {f : Addr} {fd : FuncData} {kws : List (Str × V)} {N ps : List Str} {k : Nat}
    (F : FunD K x qual params body scope [] kws f fd) (S : FnScope N ps scope) (hN : N.length = 3) (hp : ps.length = 2)
    (h : ∀ (cdv : Value) (A : Around) (outer : List Env) (s : Shared) (H : Hp) (E : XK), Room k (A.deeper (envOfC qual scope s.heap.objs.size f cdv)) → A.guards = some [] → PSs (cxOf CX P W K mg base N qual scope f cdv A outer s H E) body (tAny K)) :
    FnG P W K mg base CX (k + 1) f fd ps (spF w EF (runFn T Φ .any)) :=
  okG F S (fun h => (any_len h).trans hp.symm) fun cdv A outer s H vs Q E hr hgd hs => ⟨_, h cdv A outer s H E hr hgd, any_in hN hs⟩
end DI

set_option Elab.async false
set_option linter.all false
set_option maxRecDepth 100000
set_option maxHeartbeats 4000000
/-! DP: plain laws of data programs. Own text. -/
namespace DI
open PySem (Str PyData)
theorem bnd_of {α β : Type} {m : M α} {f : α → M β} {s s' : S} {a : α} (h : m s = .ok a s') : bnd m f s = f a s' := by
  unfold bnd
  rw [h]
theorem set_none_set {r : List (Option DV)} {i : Nat} {x y : Option DV} : (r.set i x).set i y = r.set i y := List.set_set ..
section
variable {i : Nat} {r : List (Option DV)} {g : G}
theorem lcGo_pure (hi : i < r.length) {cnd : M Bool} {el : M D} {p : D → Bool} {f : D → D} : ∀ (ds acc : List D) (x : Option DV),
    (∀ d ∈ ds, cnd ⟨r.set i (some (.f d)), g⟩ = .ok (p d) ⟨r.set i (some (.f d)), g⟩ ∧ (p d = true → el ⟨r.set i (some (.f d)), g⟩ = .ok (f d) ⟨r.set i (some (.f d)), g⟩)) → acc.length + ds.length ≤ lim →
    ∃ x', lcGo [i] (asgT (.nm i)) cnd el ds acc ⟨r.set i x, g⟩ = .ok (acc ++ (ds.filter p).map f) ⟨r.set i x', g⟩
  | [], acc, x, _, _ => ⟨x, by simp [lcGo, ret]⟩
  | d :: ds, acc, x, h, hl => by
    obtain ⟨h1, h2⟩ := h d List.mem_cons_self
    rw [List.length_cons] at hl
    have e0 : asgT (.nm i) d { (⟨r.set i x, g⟩ : S) with r := wipeR (r.set i x) [i] } = .ok () ⟨r.set i (some (.f d)), g⟩ := by
      show setR i (.f d) ⟨(r.set i x).set i none, g⟩ = _
      unfold setR
      rw [if_pos (by simpa using hi)]
      simp only [set_none_set]
    by_cases hp : p d = true
    · obtain ⟨x', e⟩ := lcGo_pure hi ds (acc ++ [f d]) (some (.f d)) (fun d' hd => h d' (List.mem_cons_of_mem _ hd)) (by simp; omega)
      refine ⟨x', ?_⟩
      show bnd (asgT (.nm i) d) _ _ = _
      rw [bnd_of e0, bnd_of h1, if_pos hp, bnd_of (h2 hp), if_pos (by omega), e]
      simp [List.filter_cons, hp]
    · have hp' : p d = false := by simpa using hp
      obtain ⟨x', e⟩ := lcGo_pure hi ds acc (some (.f d)) (fun d' hd => h d' (List.mem_cons_of_mem _ hd)) (by omega)
      refine ⟨x', ?_⟩
      show bnd (asgT (.nm i) d) _ _ = _
      rw [bnd_of e0, bnd_of h1, hp', if_neg Bool.false_ne_true, e]
      simp [List.filter_cons, hp']
theorem backR_set {x : Option DV} : backR r (r.set i x) [i] = r := by
  unfold backR
  cases e : r[i]? with
  | none =>
    show (r.set i x) = r
    exact List.set_eq_of_length_le (List.getElem?_eq_none_iff.mp e)
  | some v =>
    show ((r.set i x).set i v) = r
    rw [List.set_set]
    obtain ⟨h, e'⟩ := List.getElem?_eq_some_iff.mp e
    rw [← e', List.set_getElem_self]
theorem lc_pure {T : Tab} {Φ : Fns} {k : ItK} {a b c e : E} {xs : D} {y : DV} {v : DV} {ds : List D} {p : D → Bool} {f : D → D} (hi : i < r.length)
    (h1 : evE T Φ a ⟨r, g⟩ = .ok v ⟨r, g⟩) (h2 : srcM b (evE T Φ b) ⟨r, g⟩ = .ok y ⟨r, g⟩) {dy : D} (hv : frz v ⟨r, g⟩ = .ok xs ⟨r, g⟩) (hy : frz y ⟨r, g⟩ = .ok dy ⟨r, g⟩) (h3 : itemsD k xs dy = some ds)
    (h : ∀ d ∈ ds, tstM c (evE T Φ c) ⟨r.set i (some (.f d)), g⟩ = .ok (p d) ⟨r.set i (some (.f d)), g⟩ ∧ (p d = true → bnd (evE T Φ e) frz ⟨r.set i (some (.f d)), g⟩ = .ok (f d) ⟨r.set i (some (.f d)), g⟩)) (hl : ds.length ≤ lim) :
    evE T Φ (.lc [i] (.nm i) k a b c e) ⟨r, g⟩ = .ok (.o ((ds.filter p).map f)) ⟨r, g⟩ := by
  have hr : r.set i r[i] = r := List.set_getElem_self hi
  obtain ⟨x', e'⟩ := lcGo_pure hi ds [] r[i] h (by simpa using hl)
  rw [hr, List.nil_append] at e'
  show bnd (evE T Φ a) _ _ = _
  rw [bnd_of h1, bnd_of h2, bnd_of hv, bnd_of hy, h3]
  show (match noExc (lcGo [i] (asgT (.nm i)) (tstM c (evE T Φ c)) (bnd (evE T Φ e) frz) ds []) ⟨r, g⟩ with
    | .ok ys s' => Res.ok (DV.o ys) { s' with r := backR r s'.r [i] }
    | _ => .stuck) = _
  unfold noExc
  rw [e']
  show Res.ok _ (S.mk (backR r (r.set i x') [i]) g) = _
  rw [backR_set]
end
section
variable {T : Tab} {Φ : Fns} {s : S} {a b : E} {da db : D} {v : DV} {o : BOp}
theorem ev_bin (ha : evE T Φ a s = .ok (.f da) s) (hb : evE T Φ b s = .ok (.f db) s) (h : binD o da db = some v) : evE T Φ (.bin o a b) s = .ok v s := by
  show bnd (evE T Φ a) _ _ = _
  rw [bnd_of ha, bnd_of hb]
  show opt (binD o da db) s = _
  rw [h]
  rfl
theorem ev_cmp1 {o : COp} {k : Bool} (ha : evE T Φ a s = .ok (.f da) s) (hb : evE T Φ b s = .ok (.f db) s) (h : cmpD o da db = some k) : evE T Φ (.cmp o a b) s = .ok (.f (.bl k)) s := by
  show bnd (evE T Φ a) _ _ = _
  rw [bnd_of ha, bnd_of hb]
  show bnd (opt (cmpD o da db)) _ s = _
  rw [h]
  rfl
theorem ev_blt1 {f : Blt} (ha : evE T Φ a s = .ok (.f da) s) (h : bltD f [da] = some v) : evE T Φ (.blt f [a]) s = .ok v s := by
  show bnd (bnd (evE T Φ a) _) _ _ = _
  have e : bnd (evE T Φ a) (fun x => bnd (evEs T Φ []) fun vs => ret (x :: vs)) s = .ok [.f da] s := by
    rw [bnd_of ha]
    rfl
  rw [bnd_of e]
  show opt (bltD f [da]) s = _
  rw [h]
  rfl
theorem evS_set {i : Nat} {d : D} (ha : evE T Φ a s = .ok (.f d) s) (hi : i < s.r.length) : evS T Φ (.set i a) s = .ok .nx ⟨s.r.set i (some (.f d)), s.g⟩ := by
  show bnd (evE T Φ a) _ _ = _
  rw [bnd_of ha]
  show bnd (setR i (.f d)) _ s = _
  have e : setR i (.f d) s = .ok () ⟨s.r.set i (some (.f d)), s.g⟩ := by
    unfold setR
    rw [if_pos hi]
  rw [bnd_of e]
  rfl
end
/-- a loop by an invariant of what is left -/
theorem forGo_inv {st : D → M Unit} {body : M Fl} (I : List D → S → Prop) (h : ∀ d ds s, I (d :: ds) s → ∃ s1 s2, st d s = .ok () s1 ∧ body s1 = .ok .nx s2 ∧ I ds s2) : ∀ (ds : List D) (s : S), I ds s → ∃ s', forGo st body ds s = .ok .nx s' ∧ I [] s'
  | [], s, hI => ⟨s, rfl, hI⟩
  | d :: ds, s, hI => by
    obtain ⟨s1, s2, e1, e2, h2⟩ := h d ds s hI
    obtain ⟨s', e3, h3⟩ := forGo_inv I h ds s2 h2
    refine ⟨s', ?_, h3⟩
    show bnd (st d) _ s = _
    rw [bnd_of e1, bnd_of e2]
    exact e3
/-- a while by a measure -/
theorem whileGo_inv {c : M Bool} {body : M Fl} (I : Nat → S → Prop) (h : ∀ m s, I m s → (∃ s1, c s = .ok false s1 ∧ I 0 s1) ∨ ∃ s1 s2 m', c s = .ok true s1 ∧ body s1 = .ok .nx s2 ∧ m' < m ∧ I m' s2) (P : S → Prop)
    (hP : ∀ m s s1, I m s → c s = .ok false s1 → P s1) : ∀ (n m : Nat) (s : S), m < n → I m s → ∃ s', whileGo c body n s = .ok .nx s' ∧ P s'
  | 0, m, s, hm, _ => absurd hm (Nat.not_lt_zero _)
  | n + 1, m, s, hm, hI => by
    rcases h m s hI with ⟨s1, e, _⟩ | ⟨s1, s2, m', e1, e2, hlt, h2⟩
    · refine ⟨s1, ?_, hP m s s1 hI e⟩
      show bnd c _ s = _
      rw [bnd_of e]
      rfl
    · obtain ⟨s', e3, h3⟩ := whileGo_inv I h P hP n m' s2 (by omega) h2
      refine ⟨s', ?_, h3⟩
      show bnd c _ s = _
      rw [bnd_of e1, if_pos rfl, bnd_of e2]
      exact e3
/-! ### a calculus -/
/-- a def gives v from ds, the deal going from g to g' -/
def Ret (T : Tab) (fns : List Fn) (n f : Nat) (ds : List D) (g : G) (v : DV) (g' : G) : Prop := ∃ r, callD T fns n f ds g = .ok v ⟨r, g'⟩
section
variable {T : Tab} {fns : List Fn} {Φ : Fns} {s s1 s2 : S} {a b e : E} {d da db : D} {v w x : DV} {n f m p : Nat} {ds : List D} {g g' : G} {st : Sm} {ss : List Sm} {es : List E}
theorem evS_ret (h : evE T Φ e s = .ok v s1) (h2 : moveOut v s1 = .ok w s1) : evS T Φ (.ret e) s = .ok (.rt w) s1 := by
  show bnd (evE T Φ e) _ _ = _
  rw [bnd_of h, bnd_of h2]
  rfl
theorem evSs_nx (h : evS T Φ st s = .ok .nx s1) : evSs T Φ (st :: ss) s = evSs T Φ ss s1 := by
  show bnd (evS T Φ st) _ _ = _
  rw [bnd_of h]
theorem evSs_rt (h : evS T Φ st s = .ok (.rt v) s1) : evSs T Φ (st :: ss) s = .ok (.rt v) s1 := by
  show bnd (evS T Φ st) _ _ = _
  rw [bnd_of h]
  rfl
theorem ev_blt {fb : Blt} (h : evE T Φ a s = .ok x s1) (h2 : look x s1 = .ok d s1) (h3 : bltD fb [d] = some v) : evE T Φ (.blt fb [a]) s = .ok v s1 := by
  have e : evEs T Φ [a] s = .ok [x] s1 := by
    show bnd (evE T Φ a) _ _ = _
    rw [bnd_of h]
    rfl
  have e2 : looks [x] s1 = .ok [d] s1 := by
    show bnd (look x) _ _ = _
    rw [bnd_of h2]
    rfl
  show bnd (evEs T Φ [a]) _ _ = _
  rw [bnd_of e, bnd_of e2, h3]
  rfl
theorem ev_ix {i : E} {di : D} (h : evE T Φ a s = .ok x s1) (h2 : evE T Φ i s1 = .ok w s2) (h3 : look x s2 = .ok da s2) (h4 : look w s2 = .ok di s2) (h5 : ixD da di = some d) : evE T Φ (.ix a i) s = .ok (.f d) s2 := by
  show bnd (evE T Φ a) _ _ = _
  rw [bnd_of h, bnd_of h2, bnd_of h3, bnd_of h4, h5]
  rfl
theorem ev_cmp {o : COp} {k : Bool} (h : evE T Φ a s = .ok x s1) (h2 : evE T Φ b s1 = .ok w s2) (h3 : look x s2 = .ok da s2) (h4 : look w s2 = .ok db s2) (h5 : cmpD o da db = some k) : evE T Φ (.cmp o a b) s = .ok (.f (.bl k)) s2 := by
  show bnd (evE T Φ a) _ _ = _
  rw [bnd_of h, bnd_of h2, bnd_of h3, bnd_of h4, h5]
  rfl
theorem ev_bin2 {o : BOp} (h : evE T Φ a s = .ok x s1) (h2 : evE T Φ b s1 = .ok w s2) (h3 : look x s2 = .ok da s2) (h4 : look w s2 = .ok db s2) (h5 : binD o da db = some v) : evE T Φ (.bin o a b) s = .ok v s2 := by
  show bnd (evE T Φ a) _ _ = _
  rw [bnd_of h, bnd_of h2, bnd_of h3, bnd_of h4, h5]
  rfl
theorem evEs_nil : evEs T Φ [] s = .ok [] s := rfl
theorem evEs_cons {vs : List DV} (h : evE T Φ e s = .ok v s1) (h2 : evEs T Φ es s1 = .ok vs s2) : evEs T Φ (e :: es) s = .ok (v :: vs) s2 := by
  show bnd (evE T Φ e) _ _ = _
  rw [bnd_of h, bnd_of h2]
  rfl
theorem ev_call {vs : List DV} (h : evEs T (callD T fns n) es s = .ok vs s1) (h2 : frzs vs s1 = .ok ds s2) (h3 : Ret T fns n f ds s2.g v g') : evE T (callD T fns n) (.call f es) s = .ok v { s2 with g := g' } := by
  obtain ⟨r, h3⟩ := h3
  show bnd (evEs T (callD T fns n) es) _ _ = _
  rw [bnd_of h, bnd_of h2]
  show callM (callD T fns n) f ds s2 = _
  unfold callM
  rw [h3]
theorem ev_make {vs : List DV} (h : evEs T (callD T fns n) es s = .ok vs s1) (h2 : frzs vs s1 = .ok ds s2) (h3 : Ret T fns n f ds s2.g v g') : evE T (callD T fns n) (.make f es) s = .ok v { s2 with g := g' } := ev_call h h2 h3
theorem ev_callk {js : List Nat} {ds' : List D} {vs : List DV} (h : evEs T (callD T fns n) es s = .ok vs s1) (h2 : frzs vs s1 = .ok ds s2) (hp : permD js ds = some ds') (h3 : Ret T fns n f ds' s2.g v g') : evE T (callD T fns n) (.callk f js es) s = .ok v { s2 with g := g' } := by
  obtain ⟨r, h3⟩ := h3
  show bnd (evEs T (callD T fns n) es) _ _ = _
  rw [bnd_of h, bnd_of h2, hp]
  show callM (callD T fns n) f ds' s2 = _
  unfold callM
  rw [h3]
theorem ret_body {bd : List Sm} (hf : fns[f]? = some (.body m p bd)) (hl : ds.length = p) (hp : p ≤ m) {r : List (Option DV)} (h : evSs T (callD T fns n) bd ⟨startR m ds, g⟩ = .ok (.rt v) ⟨r, g'⟩) : Ret T fns (n + 1) f ds g v g' := by
  refine ⟨r, ?_⟩
  show (match fns[f]? with | some fn => runFn T (callD T fns n) fn ds g | none => .stuck) = _
  rw [hf]
  show (if ds.length = p ∧ p ≤ m then _ else _) = _
  rw [if_pos ⟨hl, hp⟩, h]
theorem ret_body_nx {bd : List Sm} (hf : fns[f]? = some (.body m p bd)) (hl : ds.length = p) (hp : p ≤ m) {r : List (Option DV)} (h : evSs T (callD T fns n) bd ⟨startR m ds, g⟩ = .ok .nx ⟨r, g'⟩) : Ret T fns (n + 1) f ds g (.f .non) g' := by
  refine ⟨r, ?_⟩
  show (match fns[f]? with | some fn => runFn T (callD T fns n) fn ds g | none => .stuck) = _
  rw [hf]
  show (if ds.length = p ∧ p ≤ m then _ else _) = _
  rw [if_pos ⟨hl, hp⟩, h]
theorem ret_any {k : Int} {gg : List Int × Int} (hf : fns[f]? = some .any) (hk : 0 < k) (hk2 : k.natAbs.log2 < 9000) : Ret T fns (n + 1) f [.deal, .int k] (some gg) (.f (.int (anyD k gg).1)) (some (anyD k gg).2) := by
  refine ⟨[], ?_⟩
  show (match fns[f]? with | some fn => runFn T (callD T fns n) fn [.deal, .int k] (some gg) | none => .stuck) = _
  rw [hf]
  show (if 0 < k ∧ k.natAbs.log2 < 9000 then _ else _) = _
  rw [if_pos ⟨hk, hk2⟩]
theorem anyD_lt {k : Int} (hk : 0 < k) (gg : List Int × Int) : 0 ≤ (anyD k gg).1 ∧ (anyD k gg).1 < k := by
  obtain ⟨cs, b⟩ := gg
  have hk' : k ≠ 0 := by omega
  show 0 ≤ (match (dropZ cs).getLast? with
    | some x => (x % k, (dropZ cs).dropLast ++ [x / k], b)
    | none => ((b * 40693 + 71) % 2147483647 / 64 % k, [], (b * 40693 + 71) % 2147483647)).1 ∧ (match (dropZ cs).getLast? with
    | some x => (x % k, (dropZ cs).dropLast ++ [x / k], b)
    | none => ((b * 40693 + 71) % 2147483647 / 64 % k, [], (b * 40693 + 71) % 2147483647)).1 < k
  cases (dropZ cs).getLast? with
  | none => exact ⟨Int.emod_nonneg _ hk', Int.emod_lt_of_pos _ hk⟩
  | some x => exact ⟨Int.emod_nonneg _ hk', Int.emod_lt_of_pos _ hk⟩
end
end DI

set_option Elab.async false
set_option linter.all false
set_option maxRecDepth 100000
set_option maxHeartbeats 4000000
/-! DP2: plain laws of data programs, more. Own text. -/
namespace DI
open PySem (Str PyData)
theorem FU_gt {k : Nat} (h : k ≤ 2 ^ 100) : k < FU := by
  have : (2 : Nat) ^ 100 < 2 ^ 200 := by decide
  unfold FU
  omega
theorem cnd_of {T : Tab} {Φ : Fns} {e : E} {s s1 : S} {k : Bool} (h : evE T Φ e s = .ok (.f (.bl k)) s1) : bnd (evE T Φ e) bool? s = .ok k s1 := by
  rw [bnd_of h]
  rfl
theorem while_go {C : M Bool} {B : M Fl} (st : Nat → S) {b : Nat} (hb : C (st b) = .ok false (st b)) : ∀ (n k : Nat), b - k < n → k ≤ b → (∀ j, k ≤ j → j < b → C (st j) = .ok true (st j) ∧ B (st j) = .ok .nx (st (j + 1))) → whileGo C B n (st k) = .ok .nx (st b)
  | 0, k, hn, _, _ => absurd hn (Nat.not_lt_zero _)
  | n + 1, k, hn, hk, h => by
    by_cases e : k = b
    · subst e
      show bnd C _ _ = _
      rw [bnd_of hb]
      rfl
    · have h1 := h k (Nat.le_refl _) (by omega)
      show bnd C _ _ = _
      rw [bnd_of h1.1, if_pos rfl, bnd_of h1.2]
      exact while_go st hb n (k + 1) (by omega) (by omega) fun j hj => h j (by omega)
/-- a while that counts up -/
theorem while_up {T : Tab} {Φ : Fns} {c : E} {body : List Sm} (st : Nat → S) {a b : Nat} (hab : a ≤ b) (hF : b - a < FU) (hb : evE T Φ c (st b) = .ok (.f (.bl false)) (st b))
    (h : ∀ k, a ≤ k → k < b → evE T Φ c (st k) = .ok (.f (.bl true)) (st k) ∧ evSs T Φ body (st k) = .ok .nx (st (k + 1))) : evS T Φ (.while c body) (st a) = .ok .nx (st b) :=
  while_go st (cnd_of hb) FU a hF hab fun j h1 h2 => ⟨cnd_of (h j h1 h2).1, (h j h1 h2).2⟩
/-- a store of several names, all frozen -/
theorem evS_par {T : Tab} {Φ : Fns} {ts : List TX} {es : List E} {vs ws : List DV} {s s1 s2 s3 : S} (h : evEs T Φ es s = .ok vs s1) (h2 : settle vs s1 = .ok ws s2) (h3 : asgXs T Φ ts ws s2 = .ok () s3) : evS T Φ (.par ts es) s = .ok .nx s3 := by
  show bnd (evEs T Φ es) _ _ = _
  rw [bnd_of h, bnd_of h2, bnd_of h3]
  rfl
theorem evS_setK {T : Tab} {Φ : Fns} {i : Nat} {e : E} {v : DV} {s s1 s2 : S} (h : evE T Φ e s = .ok v s1) (h2 : keep i v s1 = .ok () s2) : evS T Φ (.set i e) s = .ok .nx s2 := by
  show bnd (evE T Φ e) _ _ = _
  rw [bnd_of h, bnd_of h2]
  rfl
theorem evS_expr {T : Tab} {Φ : Fns} {e : E} {v : DV} {s s1 : S} (h : evE T Φ e s = .ok v s1) : evS T Φ (.expr e) s = .ok .nx s1 := by
  show bnd (evE T Φ e) _ _ = _
  rw [bnd_of h]
  rfl
theorem evS_ifs {T : Tab} {Φ : Fns} {c : E} {a b : List Sm} {k : Bool} {s s1 : S} (h : evE T Φ c s = .ok (.f (.bl k)) s1) : evS T Φ (.ifs c a b) s = if k then evSs T Φ a s1 else evSs T Φ b s1 := by
  show bnd (evE T Φ c) _ _ = _
  rw [bnd_of h]
  show bnd (ret k) _ _ = _
  rw [bnd_of (show ret k s1 = .ok k s1 from rfl)]
  cases k <;> rfl
theorem evS_for {T : Tab} {Φ : Fns} {t : Tg} {k : ItK} {a b : E} {body : List Sm} {s s1 s2 s3 s4 : S} {v y : DV} {dx dy : D} {ds : List D} (ha : evE T Φ a s = .ok v s1) (hb : srcM b (evE T Φ b) s1 = .ok y s2) (hv : frz v s2 = .ok dx s3) (hy : frz y s3 = .ok dy s4) (hi : itemsD k dx dy = some ds) :
    evS T Φ (.for t k a b body) s = forGo (asgT t) (evSs T Φ body) ds s4 := by
  show bnd (evE T Φ a) _ _ = _
  rw [bnd_of ha, bnd_of hb, bnd_of hv, bnd_of hy, hi]
  rfl
/-- a for, turn by turn; what the names of the turn hold does not matter -/
theorem forGo_st {σ : Type} {st : D → M Unit} {body : M Fl} (f : Nat → σ → S) : ∀ (ds : List D) (j : Nat) (x : σ), (∀ k (h : k < ds.length) x, ∃ s1 x', st ds[k] (f (j + k) x) = .ok () s1 ∧ body s1 = .ok .nx (f (j + k + 1) x')) → ∃ x', forGo st body ds (f j x) = .ok .nx (f (j + ds.length) x')
  | [], j, x, _ => ⟨x, rfl⟩
  | d :: ds, j, x, h => by
    obtain ⟨s1, x1, e1, e2⟩ := h 0 (Nat.zero_lt_succ _) x
    obtain ⟨x2, e3⟩ := forGo_st f ds (j + 1) x1 (fun k hk y => by
      have := h (k + 1) (Nat.succ_lt_succ hk) y
      rw [show j + (k + 1) = j + 1 + k by omega] at this
      exact this)
    refine ⟨x2, ?_⟩
    show bnd (st d) _ _ = _
    have e1' : st d (f j x) = .ok () s1 := e1
    have e2' : body s1 = .ok .nx (f (j + 1) x1) := e2
    rw [bnd_of e1', bnd_of e2', List.length_cons, show j + (ds.length + 1) = j + 1 + ds.length by omega]
    exact e3
theorem rngI_eq (m : Nat) : rngI 0 (m : Int) = (List.range m).map fun (i : Nat) => D.int (i : Int) := by
  unfold rngI
  rw [show ((m : Int) - 0).toNat = m by omega]
  exact List.map_congr_left fun i _ => by rw [Int.zero_add]
theorem items_rng {m : Int} (h0 : -100 ≤ m) (h : m ≤ 2 ^ 61) : itemsD .rng (.int 0) (.int m) = some (rngI 0 m) := by
  have e : (bnd62 0 && bnd62 m) = true := by
    simp only [bnd62, Bool.and_eq_true, decide_eq_true_eq]
    omega
  show (if bnd62 0 && bnd62 m then some (rngI 0 m) else none) = _
  rw [if_pos e]
/-- for i in range(m), i a plain name -/
theorem for_rng {σ : Type} {T : Tab} {Φ : Fns} {t : Tg} {a b : E} {body : List Sm} (f : Nat → σ → S) {m : Nat} (x : σ) (hm : m ≤ 2 ^ 61) {s : S} {v y : DV} (ha : evE T Φ a s = .ok v s) (hb : srcM b (evE T Φ b) s = .ok y (f 0 x)) (hv : frz v (f 0 x) = .ok (.int 0) (f 0 x)) (hy : frz y (f 0 x) = .ok (.int (m : Int)) (f 0 x))
    (h : ∀ k x, k < m → ∃ s1 x', asgT t (.int (k : Int)) (f k x) = .ok () s1 ∧ evSs T Φ body s1 = .ok .nx (f (k + 1) x')) : ∃ x', evS T Φ (.for t .rng a b body) s = .ok .nx (f m x') := by
  obtain ⟨x', e⟩ := forGo_st (st := asgT t) (body := evSs T Φ body) f ((List.range m).map fun (i : Nat) => D.int (i : Int)) 0 x (fun k hk y => by
    rw [List.length_map, List.length_range] at hk
    rw [List.getElem_map, List.getElem_range, Nat.zero_add]
    exact h k y hk)
  rw [List.length_map, List.length_range, Nat.zero_add] at e
  exact ⟨x', (evS_for ha hb hv hy (by rw [items_rng (by omega) (by omega), rngI_eq])).trans e⟩
/-- a comprehension whose source is frozen as it is read -/
theorem lc_pure2 {i : Nat} {r : List (Option DV)} {g : G} {T : Tab} {Φ : Fns} {k : ItK} {a b c e : E} {xs : D} {y : DV} {v : DV} {ds : List D} {p : D → Bool} {f : D → D} {s0 s1 s2 s3 : S} (hi : i < r.length)
    (h1 : evE T Φ a s0 = .ok v s1) (h2 : srcM b (evE T Φ b) s1 = .ok y s2) {dy : D} (hv : frz v s2 = .ok xs s3) (hy : frz y s3 = .ok dy ⟨r, g⟩) (h3 : itemsD k xs dy = some ds)
    (h : ∀ d ∈ ds, tstM c (evE T Φ c) ⟨r.set i (some (.f d)), g⟩ = .ok (p d) ⟨r.set i (some (.f d)), g⟩ ∧ (p d = true → bnd (evE T Φ e) frz ⟨r.set i (some (.f d)), g⟩ = .ok (f d) ⟨r.set i (some (.f d)), g⟩)) (hl : ds.length ≤ lim) :
    evE T Φ (.lc [i] (.nm i) k a b c e) s0 = .ok (.o ((ds.filter p).map f)) ⟨r, g⟩ := by
  have hr : r.set i r[i] = r := List.set_getElem_self hi
  obtain ⟨x', e'⟩ := lcGo_pure hi ds [] r[i] h (by simpa using hl)
  rw [hr, List.nil_append] at e'
  show bnd (evE T Φ a) _ _ = _
  rw [bnd_of h1, bnd_of h2, bnd_of hv, bnd_of hy, h3]
  show (match noExc (lcGo [i] (asgT (.nm i)) (tstM c (evE T Φ c)) (bnd (evE T Φ e) frz) ds []) ⟨r, g⟩ with
    | .ok ys s' => Res.ok (DV.o ys) { s' with r := backR r s'.r [i] }
    | _ => .stuck) = _
  unfold noExc
  rw [e']
  show Res.ok _ (S.mk (backR r (r.set i x') [i]) g) = _
  rw [backR_set]
theorem whileGo_start {C : M Bool} {B : M Fl} {s s' : S} (h : C s = C s') : ∀ n, whileGo C B n s = whileGo C B n s'
  | 0 => rfl
  | n + 1 => by
    show bnd C _ s = bnd C _ s'
    unfold bnd
    rw [h]
/-- a while that counts up, its list frozen by the first test -/
theorem while_up2 {T : Tab} {Φ : Fns} {c : E} {body : List Sm} (st : Nat → S) {s : S} {a b : Nat} (hs : evE T Φ c s = evE T Φ c (st a)) (hab : a ≤ b) (hF : b - a < FU) (hb : evE T Φ c (st b) = .ok (.f (.bl false)) (st b))
    (h : ∀ k, a ≤ k → k < b → evE T Φ c (st k) = .ok (.f (.bl true)) (st k) ∧ evSs T Φ body (st k) = .ok .nx (st (k + 1))) : evS T Φ (.while c body) s = .ok .nx (st b) :=
  (whileGo_start (by unfold bnd; rw [hs]) FU).trans (while_up st hab hF hb h)
end DI

set_option Elab.async false
set_option linter.all false
set_option maxRecDepth 100000
set_option maxHeartbeats 4000000
/-! DI24: the deal made. Own text. -/
namespace DI
open PySem PySem.Spec PyProof.Rows L2
def drI1 : Sm := .set 2 (.lc [4] (.nm 4) .val (.sl (.var 0) .nop (.int 48)) .nop .nop (.blt .abs [(.blt .int [(.var 4)])]))
def drI2 : Sm := .set 3 (.bin .add (.int 7919) (.bin .mul (.int 104729) (.var 1)))
def drI3 : Sm := .for (.nm 4) .val (.var 2) .nop [.set 3 (.bin .mod (.blt .int [(.bin .add (.bin .add (.bin .mul (.var 3) (.int 48271)) (.bin .mod (.var 4) (.int 2147483549))) (.int 11))]) (.int 2147483647))]
def drE : E := .rev (.lc [4] (.nm 4) .val (.var 2) .nop (.cmp .ge (.var 4) (.bin .pow (.int 10) (.int 18))) (.var 4))
/-- what _law_draw's body reads -/
def tDraw (w : Wd) (Φ : Fns) : TS := tSeq (tS w noEx Φ drI1) (tSeq (tS w noEx Φ drI2) (tSeq (tS w noEx Φ drI3) (tRet (tLst (tCons (tE w noEx Φ drE) (tCons (tE w noEx Φ (.var 3)) tNil))))))
section
variable {T : Tab} {Φ : Fns}
def stD (ns : List Int) (salt : Int) (a b x : Option DV) : S := ⟨[some (.f (.scr ns)), some (.f (.int salt)), a, b, x], none⟩
def absL (ns : List Int) : List Int := (ns.take 48).map fun (i : Int) => (i.natAbs : Int)
def blStep (b c : Int) : Int := (b * 48271 + c % 2147483549 + 11) % 2147483647
theorem cut48 (xs : List D) : cutD xs none (some 48) = xs.take 48 := by
  show (xs.drop 0).take ((if (48 : Int) < 0 then ((48 : Int) + xs.length).toNat else min (48 : Int).toNat xs.length) - 0) = _
  rw [if_neg (by decide), List.drop_zero, Nat.sub_zero, List.take_eq_take_iff]
  show min (min 48 xs.length) xs.length = min 48 xs.length
  omega
theorem dr1 (ns : List Int) (salt : Int) : evS T Φ drI1 (stD ns salt none none none) = .ok .nx (stD ns salt (some (.o ((absL ns).map D.int))) none none) := by
  have e : evE T Φ (.lc [4] (.nm 4) .val (.sl (.var 0) .nop (.int 48)) .nop .nop (.blt .abs [(.blt .int [(.var 4)])])) (stD ns salt none none none) = .ok (.o ((((ns.take 48).map D.int).filter fun _ => true).map fun d => match d with | .int i => .int (i.natAbs : Int) | d => d)) (stD ns salt none none none) := by
    refine lc_pure (i := 4) (r := (stD ns salt none none none).r) (g := none) (v := .o ((ns.take 48).map D.int)) (xs := .lst ((ns.take 48).map D.int)) (y := .f .non) (dy := .non) (ds := (ns.take 48).map D.int) (by show 4 < 5; decide) ?_ rfl rfl rfl rfl (fun d hd => ?_) ?_
    · show Res.ok (DV.o (cutD (ns.map .int) none (some 48))) _ = _
      rw [cut48, List.map_take]
    · obtain ⟨i, _, rfl⟩ := List.mem_map.mp hd
      exact ⟨rfl, fun _ => rfl⟩
    · rw [List.length_map, List.length_take]
      have : (48 : Nat) ≤ lim := by decide
      omega
  show bnd (evE T Φ _) _ _ = _
  rw [bnd_of e]
  have e2 : (((ns.take 48).map D.int).filter fun _ => true).map (fun d => match d with | .int i => D.int (i.natAbs : Int) | d => d) = (absL ns).map D.int := by
    rw [List.filter_eq_self.mpr (fun _ _ => rfl)]
    unfold absL
    rw [List.map_map, List.map_map]
    rfl
  rw [e2]
  rfl
theorem dr2 (ns : List Int) (salt : Int) (a : DV) : evS T Φ drI2 (stD ns salt (some a) none none) = .ok .nx (stD ns salt (some a) (some (.f (.int (7919 + 104729 * salt)))) none) := rfl
theorem dr3 (ns : List Int) (salt b : Int) (cs : List Int) : ∃ x, evS T Φ drI3 (stD ns salt (some (.o (cs.map D.int))) (some (.f (.int b))) none) = .ok .nx (stD ns salt (some (.f (.lst (cs.map D.int)))) (some (.f (.int (cs.foldl blStep b)))) x) := by
  show ∃ x, forGo (asgT (.nm 4)) _ (cs.map D.int) (stD ns salt (some (.f (.lst (cs.map D.int)))) (some (.f (.int b))) none) = _
  have key := forGo_inv (st := asgT (.nm 4)) (body := evSs T Φ [.set 3 (.bin .mod (.blt .int [(.bin .add (.bin .add (.bin .mul (.var 3) (.int 48271)) (.bin .mod (.var 4) (.int 2147483549))) (.int 11))]) (.int 2147483647))])
    (fun ds s => ∃ (es : List Int) (b' : Int) (x : Option DV), ds = es.map D.int ∧ es.foldl blStep b' = cs.foldl blStep b ∧ s = stD ns salt (some (.f (.lst (cs.map D.int)))) (some (.f (.int b'))) x) (fun d ds s hI => by
      obtain ⟨es, b', x, h1, h2, rfl⟩ := hI
      cases es with
      | nil => cases h1
      | cons c es =>
        cases h1
        refine ⟨stD ns salt (some (.f (.lst (cs.map D.int)))) (some (.f (.int b'))) (some (.f (.int c))), stD ns salt (some (.f (.lst (cs.map D.int)))) (some (.f (.int (blStep b' c)))) (some (.f (.int c))), rfl, ?_, es, blStep b' c, _, rfl, h2, rfl⟩
        have hm : mulOk b' 48271 = true := by
          unfold mulOk
          rw [show small64 48271 = true from by decide]
          simp
        have e : evE T Φ (.bin .mul (.var 3) (.int 48271)) (stD ns salt (some (.f (.lst (cs.map D.int)))) (some (.f (.int b'))) (some (.f (.int c)))) = .ok (.f (.int (b' * 48271))) (stD ns salt (some (.f (.lst (cs.map D.int)))) (some (.f (.int b'))) (some (.f (.int c)))) := by
          show opt (if mulOk b' 48271 then some (DV.f (.int (b' * 48271))) else none) _ = _
          rw [if_pos hm]
          rfl
        have e3 : evE T Φ (.bin .mod (.blt .int [(.bin .add (.bin .add (.bin .mul (.var 3) (.int 48271)) (.bin .mod (.var 4) (.int 2147483549))) (.int 11))]) (.int 2147483647)) (stD ns salt (some (.f (.lst (cs.map D.int)))) (some (.f (.int b'))) (some (.f (.int c)))) = .ok (.f (.int (blStep b' c))) (stD ns salt (some (.f (.lst (cs.map D.int)))) (some (.f (.int b'))) (some (.f (.int c)))) := by
          exact ev_bin (ev_blt1 (ev_bin (ev_bin e (ev_bin rfl rfl rfl) rfl) rfl rfl) rfl) rfl rfl
        show bnd (evS T Φ (.set 3 _)) _ _ = _
        rw [bnd_of (evS_set e3 (by show 3 < 5; decide))]
        rfl)
  obtain ⟨s', h1, es, b', x, h2, h3, rfl⟩ := key (cs.map D.int) (stD ns salt (some (.f (.lst (cs.map D.int)))) (some (.f (.int b))) none) ⟨cs, b, none, rfl, rfl, rfl⟩
  have he : es = [] := by simpa using h2.symm
  subst he
  refine ⟨x, ?_⟩
  rw [← h3]
  exact h1
theorem dr4 (ns : List Int) (salt b : Int) (cs : List Int) (x : Option DV) (hl : cs.length ≤ lim) : evE T Φ drE (stD ns salt (some (.f (.lst (cs.map D.int)))) (some (.f (.int b))) x) = .ok (.o (((cs.filter fun c => decide ((10 : Int) ^ 18 ≤ c)).reverse).map D.int)) (stD ns salt (some (.f (.lst (cs.map D.int)))) (some (.f (.int b))) x) := by
  have e : evE T Φ (.lc [4] (.nm 4) .val (.var 2) .nop (.cmp .ge (.var 4) (.bin .pow (.int 10) (.int 18))) (.var 4)) (stD ns salt (some (.f (.lst (cs.map D.int)))) (some (.f (.int b))) x) = .ok (.o (((cs.map D.int).filter fun d => match d with | .int c => decide ((10 : Int) ^ 18 ≤ c) | _ => false).map id)) (stD ns salt (some (.f (.lst (cs.map D.int)))) (some (.f (.int b))) x) := by
    refine lc_pure (i := 4) (r := (stD ns salt (some (.f (.lst (cs.map D.int)))) (some (.f (.int b))) x).r) (g := none) (v := .f (.lst (cs.map D.int))) (xs := .lst (cs.map D.int)) (y := .f .non) (dy := .non) (ds := cs.map D.int) (by show 4 < 5; decide) rfl rfl rfl rfl rfl (fun d hd => ?_) (by rw [List.length_map]; exact hl)
    obtain ⟨i, _, rfl⟩ := List.mem_map.mp hd
    exact ⟨rfl, fun _ => rfl⟩
  show bnd (evE T Φ _) _ _ = _
  rw [bnd_of e]
  have e2 : ((cs.map D.int).filter fun d => match d with | .int c => decide ((10 : Int) ^ 18 ≤ c) | _ => false).map id = (cs.filter fun c => decide ((10 : Int) ^ 18 ≤ c)).map D.int := by
    rw [List.map_id, List.filter_map]
    rfl
  rw [e2]
  show Res.ok (DV.o (((cs.filter fun c => decide ((10 : Int) ^ 18 ≤ c)).map D.int).reverse)) _ = _
  rw [List.map_reverse]
end
theorem ints_map : ∀ ns : List Int, DI.intsD (ns.map D.int) = some ns
  | [] => rfl
  | n :: ns => by
    show (DI.intsD (ns.map D.int)).map (n :: ·) = _
    rw [ints_map ns]
    rfl
section
variable {w : Wd} {T : Tab} {Φ : Fns} {vs : List V} {H : Hp} {Q : VK} {E : XK} {N : List Str}
theorem draw_len (h : spF w noEF (runFn T Φ .draw) vs H Q E) : vs.length = 2 := by
  obtain ⟨c, ds, hσ, hρ, rfl, r, rep, h⟩ := h
  rcases ds with _ | ⟨d1, _ | ⟨d2, _ | ⟨d3, ds⟩⟩⟩
  · exact h.elim
  · cases d1 <;> exact h.elim
  · exact rep.length
  · cases d1 <;> first | exact h.elim | skip
    all_goals (cases d2 <;> exact h.elim)
theorem draw_in (hN : N.length = 5) (h : spF w noEF (runFn w.T Φ .draw) vs H Q E) : tDraw w Φ { nx := fun _ H' => Q .non H', rt := Q } (start N vs) H := by
  obtain ⟨c, ds, hσ, hρ, rfl, r, rep, h⟩ := h
  rcases ds with _ | ⟨d1, _ | ⟨d2, _ | ⟨d3, ds⟩⟩⟩
  · exact h.elim
  · cases d1 <;> exact h.elim
  · cases d1 <;> first | exact h.elim | skip
    cases d2 <;> first | exact h.elim | skip
    rename_i ns salt
    cases eg : c.g with
    | some g => rw [eg] at h; exact h.elim
    | none =>
      rw [eg] at h
      have h' : AftF w noEF c E (if 0 ≤ salt ∧ salt < 1000000 then .ok (.f .deal) ⟨[], some (drawD salt ns)⟩ else .stuck) Q := h
      by_cases hk : 0 ≤ salt ∧ salt < 1000000
      · rw [if_pos hk] at h'
        have nd : c.dl = none := by
          have := r.deal
          unfold DealOk at this
          rw [eg] at this
          cases e : c.dl with
          | none => rfl
          | some p => rw [e] at this; exact this.elim
        have r1 := r.enter (N := N) rep (by rw [hN]; show 2 ≤ 5; decide)
        have e1 : (c.enter N [.scr ns, .int salt] vs).s = stD ns salt none none none := by
          show S.mk (startR N.length [.scr ns, .int salt]) c.g = _
          rw [hN, eg]
          rfl
        have hT : ∀ a, Touch (c.enter N [.scr ns, .int salt] vs) a → Touch c a := fun a t => by
          rcases t with ⟨i, _, dv, h2, h3⟩ | t
          · obtain ⟨d, _, rfl⟩ := startR_at h2
            cases h3
          · exact .inr t
        refine ⟨c.enter N [.scr ns, .int salt] vs, rfl, rfl, r1, ?_⟩
        rw [e1, dr1]
        intro c2 e2 r2 x2
        refine ⟨c2, rfl, rfl, r2, ?_⟩
        rw [e2, dr2]
        intro c3 e3 r3 x3
        refine ⟨c3, rfl, rfl, r3, ?_⟩
        obtain ⟨x, ex⟩ := dr3 (T := w.T) (Φ := Φ) ns salt (7919 + 104729 * salt) (absL ns)
        rw [e3, ex]
        intro c4 e4 r4 x4
        have hlen : (absL ns).length ≤ 48 := by
          unfold absL
          rw [List.length_map, List.length_take]
          omega
        have hl : (absL ns).length ≤ lim := Nat.le_trans hlen (by decide)
        have x14 := (x2.trans x3).trans x4
        refine ⟨c4, rfl, rfl, r4, ?_⟩
        show Aft w noEx c4 (evE w.T Φ drE c4.s) _
        rw [e4, dr4 _ _ _ _ _ hl]
        intro c5 e5 r5 x5 v rel fr
        refine ⟨c5, x5.σ, rfl, r5, ?_⟩
        show Aft w noEx c5 (evE w.T Φ (.var 3) c5.s) _
        rw [e5]
        intro c6 e6 r6 x6 v2 rel2 fr2
        obtain ⟨a, us, rfl, f1, f2, f3, f4⟩ := rel
        obtain ⟨a', ea, f5⟩ := fr
        cases ea
        obtain ⟨f6, _⟩ := f3.intsD (ints_map _)
        subst f6
        have hv2 : v2 = .int ((absL ns).foldl blStep (7919 + 104729 * salt)) := rel2
        subst hv2
        refine ⟨by show 2 ≤ sizeLine; decide, fun q hq => ?_⟩
        have g2 := x6.keep a _ f2 f4
        have g1 := x6.toStep.noF f2 f1 f4
        have hqa : q ≠ a := fun z => by rw [z, g2] at hq; cases hq
        have x16 : LStep (c.enter N [.scr ns, .int salt] vs) c6 := x14.trans (x5.l.trans x6.l)
        have la : c.H a = none := x14.live a f5
        have lq : c.H q = none := x16.live q hq
        have hcl : ((absL ns).filter fun c => decide ((10 : Int) ^ 18 ≤ c)).reverse.length ≤ 100 := by
          rw [List.length_reverse]
          exact Nat.le_trans (List.length_filter_le _ _) (by omega)
        have re : R w ⟨some (q, a), c6.F, upd c6.H q (.lst [.ref a, .int ((absL ns).foldl blStep (7919 + 104729 * salt))]), [], [], some (((absL ns).filter fun c => decide ((10 : Int) ^ 18 ≤ c)).reverse, (absL ns).foldl blStep (7919 + 104729 * salt))⟩ := by
          refine ⟨fun b o hb => upd_keep (r6.sub b o hb) hq, rfl, fun i dv hi => by simp at hi, fun i j b hi => by simp [Own] at hi, fun i b p hi => by simp [Own] at hi, ?_⟩
          exact ⟨hqa, r6.noF hq, g1, upd_same, (upd_ne (fun z => hqa z.symm)).trans g2, hcl⟩
        have st : SStep c ⟨some (q, a), c6.F, upd c6.H q (.lst [.ref a, .int ((absL ns).foldl blStep (7919 + 104729 * salt))]), [], [], some (((absL ns).filter fun c => decide ((10 : Int) ^ 18 ≤ c)).reverse, (absL ns).foldl blStep (7919 + 104729 * salt))⟩ := by
          refine ⟨⟨x16.mono, fun b o hb n => upd_keep (x16.keep b o hb fun t => n (hT b t)) hq, fun b hb => ?_, fun b hb => ?_, fun b hb => ?_, fun p hp => by rw [nd] at hp; cases hp⟩, hσ.symm, fun i dv hi => by rw [hρ] at hi; simp at hi, fun i k fs hi => by simp at hi⟩
          · by_cases z : b = q
            · rw [z]; exact lq
            · have hb' : upd c6.H q _ b = none := hb
              rw [upd_ne z] at hb'
              exact x16.live b hb'
          · rcases x16.newF b hb with z | z | z
            · exact .inl z
            · exact .inr (.inl (hT b z))
            · exact .inr (.inr z)
          · rcases hb with ⟨i, hb⟩ | ⟨p, hp, hb⟩
            · simp [Own] at hb
            · cases hp
              rcases hb with rfl | rfl
              · exact .inr lq
              · exact .inr la
        exact h' _ rfl re st (.ref q) ⟨(q, a), rfl, rfl⟩ trivial
      · rw [if_neg hk] at h'
        exact h'.elim
  · cases d1 <;> first | exact h.elim | skip
    all_goals (cases d2 <;> exact h.elim)
end
/-- the def _law_draw, by its body's reading -/
theorem fn_draw {P : Program} {W : World} {K : PySem.W.Frag} {mg : Str → Option Value} {base : Heap} {CX : CXT} {w : Wd} {Φ : Fns} {x qual : Str} {params : Arguments} {body : List Stmt} {scope : Scope} {f : Addr} {fd : FuncData} {kws : List (Str × V)} {N ps : List Str} {k : Nat}
    (F : FunD K x qual params body scope [] kws f fd) (S : FnScope N ps scope) (hN : N.length = 5) (hp : ps.length = 2)
    (h : ∀ (cdv : Value) (A : Around) (outer : List Env) (s : Shared) (H : Hp) (E : XK), Room k (A.deeper (envOfC qual scope s.heap.objs.size f cdv)) → A.guards = some [] → PSs (cxOf CX P W K mg base N qual scope f cdv A outer s H E) body (tDraw w Φ)) :
    FnG P W K mg base CX (k + 1) f fd ps (spF w noEF (runFn w.T Φ .draw)) :=
  okG F S (fun h => (draw_len h).trans hp.symm) fun cdv A outer s H vs Q E hr hgd hs => ⟨_, h cdv A outer s H E hr hgd, draw_in hN hs⟩
end DI

set_option Elab.async false
set_option linter.all false
set_option maxRecDepth 100000
set_option maxHeartbeats 4000000
/-! DI25: a law's end over FnG. Own text, after the layer's ends. -/
namespace DI
open PySem PySem.Spec PyProof.Rows L2
section
variable {P : Program} {w : World} {K : PySem.W.Frag} {mg mb : Str → Option Value} {k : Nat} {fa a : Addr} {fd : FuncData} {x : Str} {sp : Sp} {s1 : Shared} {vs : List Value} {ns : List Int}
abbrev LawEnd (s1 : Shared) : Result → Shared → Prop := fun r s' => r = .ok (.ret (.bool true)) ∧ OldK s1.heap s'.heap ∧ s'.os = s1.os ∧ AllBare s'.gens
/-- from an abstract heap that tracks the script at the most -/
theorem lawFrom (kx : K.In s1.heap) (hns : s1.heap.Ns mainGlobals mg) (hb : s1.heap.Ns builtinsNs mb) (hbb : ∀ x : Str, x ≠ "__name__" → mb x = bootBuiltins x) (lim : s1.heap.NoLimit) (bare : s1.gens = #[])
    (ha : s1.heap.get? a = some { cls := .type "list", data := .seq vs.toArray }) (hr : Room k callerA) (F : ∀ base : Heap, K.In base → base.Ns mainGlobals mg → FnG P w K mg base CX0 k fa fd [x] sp) (bd : ∀ (s : Shared) (u : Value), BindsTo s fd ⟨[u], []⟩ [(x, u)])
    {H : Hp} (one : ∀ b, H b = none ∨ b = a) (frz : ∀ b u, H b = some u → ∃ o xs, u = .frz o (.lst xs)) (nk : H a ≠ none → K.lookup a = none) (hok : HOk P w H s1.heap) (hs : sp [.ref a] H (fun v _ => v = .bl true) fun _ _ _ => False) :
    codeAny (model P w) callerA (.call (.ref fa) ⟨[.ref a], []⟩) (LawEnd s1) s1 := by
  have keepB : ∀ {b : Addr} {o : Obj}, s1.heap.get? b = some o → H b = none → (hidT s1.heap H).get? b = some o := fun e n => hidT_get e n
  have away : ∀ {b : Addr} {o : Obj} {es : Array DictEntry} {n : Nat}, s1.heap.get? b = some o → o.data = .dict es n → H b = none := by
    intro b o es n e d
    rcases one b with z | rfl
    · exact z
    · rw [ha] at e
      cases e
      have d2 : Data.seq vs.toArray _ = Data.dict es n := d
      cases d2
  have nsB : ∀ {b : Addr} {m : Str → Option Value}, s1.heap.Ns b m → (hidT s1.heap H).Ns b m := by
    rintro b m ⟨o, es, n, e, d, r⟩
    exact ⟨o, es, n, keepB e (away e d), d, r⟩
  have inB : K.In (hidT s1.heap H) := by
    intro b o e
    refine keepB (kx b o e) ?_
    rcases one b with z | rfl
    · exact z
    · cases q : H b with
      | none => rfl
      | some u =>
        rw [nk (by rw [q]; simp)] at e
        cases e
  have md : Mod K mg (hidT s1.heap H) := by
    refine ⟨inB, nsB hns, ⟨mb, nsB hb, hbb⟩, ?_⟩
    obtain ⟨mc, c1, c2⟩ := lim
    exact ⟨mc, nsB c1, c2⟩
  have env : Env0 P w K mg (hidT s1.heap H) callerA [] s1 H := by
    refine ⟨rfl, md, fun b o e => of_hidT e, Nat.le_of_eq (hidT_size _ _), trivial, fun b z => ?_, hok, .of_eq bare⟩
    simp [frs] at z
  refine codeAny_mono ((F _ inB (nsB hns)).go (us := [.ref a]) (vs := [V.ref a]) hr rfl env (bd s1 (.ref a)) (.cons (show RelV (V.ref a) (Value.ref a) from rfl) .nil) hs) fun r s2 h => ?_
  match r, h with
  | .ok (.ret u), h =>
    obtain ⟨v, H2, os, br, un, ok2, rv, rfl⟩ := h
    obtain rfl : u = Value.bool true := rv
    refine ⟨rfl, OldK.of_keep fun b o e => ?_, os, br⟩
    cases q : H b with
    | none => exact un.keep b o e q (by simp [frs]) (by simp)
    | some u =>
      obtain ⟨ob, xs, rfl⟩ := frz b u q
      obtain ⟨e1, _⟩ := hok b _ q
      obtain ⟨e2, _⟩ := ok2 b _ (un.frzs b ob _ q)
      rw [e] at e1
      cases e1
      exact e2
theorem lawG (kx : K.In s1.heap) (hns : s1.heap.Ns mainGlobals mg) (hb : s1.heap.Ns builtinsNs mb) (hbb : ∀ x : Str, x ≠ "__name__" → mb x = bootBuiltins x) (lim : s1.heap.NoLimit) (bare : s1.gens = #[])
    (ha : s1.heap.get? a = some { cls := .type "list", data := .seq vs.toArray }) (hi : IntsAre vs ns) (hl : ns.length ≤ sizeLine) (hr : Room k callerA) (F : ∀ base : Heap, K.In base → base.Ns mainGlobals mg → FnG P w K mg base CX0 k fa fd [x] sp)
    (bd : ∀ (s : Shared) (u : Value), BindsTo s fd ⟨[u], []⟩ [(x, u)]) (hs : ∀ H : Hp, SqL K H a (ns.map V.int) → sp [.ref a] H (fun v _ => v = .bl true) fun _ _ _ => False) :
    codeAny (model P w) callerA (.call (.ref fa) ⟨[.ref a], []⟩) (LawEnd s1) s1 := by
  have rv := vals_ints hi
  have ln := hi.length
  cases hk : K.lookup a with
  | some o =>
    have e := kx a o hk
    rw [ha] at e
    cases e
    refine lawFrom kx hns hb hbb lim bare ha hr F bd (H := fun _ => none) (fun _ => .inl rfl) (fun b u z => by cases z) (fun z => absurd rfl z) (fun b u z => by cases z) (hs _ (.inr ⟨_, vs.toArray, _, hk, rfl, rfl, rfl, ?_, by simpa using rv⟩))
    rw [List.size_toArray, ln]
    exact hl
  | none =>
    have at_a : (fun b => if b = a then some (HO.frz { cls := .type "list", data := .seq vs.toArray } (.lst (ns.map V.int))) else none) a = some (HO.frz { cls := .type "list", data := .seq vs.toArray } (.lst (ns.map V.int))) := if_pos rfl
    have only : ∀ {b : Addr} {u : HO}, (fun b => if b = a then some (HO.frz { cls := .type "list", data := .seq vs.toArray } (.lst (ns.map V.int))) else none) b = some u → b = a ∧ u = HO.frz { cls := .type "list", data := .seq vs.toArray } (.lst (ns.map V.int)) := by
      intro b u z
      by_cases q : b = a
      · subst q
        rw [at_a] at z
        cases z
        exact ⟨rfl, rfl⟩
      · have z' := (if_neg q).symm.trans z
        cases z'
    refine lawFrom kx hns hb hbb lim bare ha hr F bd (H := fun b => if b = a then some (HO.frz { cls := .type "list", data := .seq vs.toArray } (.lst (ns.map V.int))) else none) (fun b => ?_) (fun b u z => ⟨_, _, (only z).2⟩) (fun _ => hk) (fun b u z => ?_) (hs _ (.inl (.inr ⟨_, at_a⟩)))
    · by_cases q : b = a
      · exact .inr q
      · exact .inl (if_neg q)
    · obtain ⟨rfl, rfl⟩ := only z
      exact ⟨ha, by rw [List.length_map]; exact hl, vs, _, rv, ha⟩
end
/-- a law's def: F gives the written part, the function object, the promise over every base -/
theorem walkG {l : PySem.W.OpenLaw} {n k : Nat} {q : Program} {loose : List Str} {XP : (Str → Option Value) → Heap → Prop} {YP : World → Heap → Prop} {d : DefRec} {x : Str}
    (hn : l.most = some n) (hn2 : n ≤ sizeLine) (hdf : d.params.defaults = []) (hr : Room k callerA)
    (F : ∀ (w : World) (mg : Str → Option Value) (fa : Addr) (h : Heap), YP w h → h.Ns mainGlobals mg → mg d.name = some (.ref fa) → ∃ (K : PySem.W.Frag) (fd : FuncData) (sp : Sp), K.In h ∧ (∀ (s : Shared) (u : Value), BindsTo s fd ⟨[u], []⟩ [(x, u)]) ∧
      (∀ (H : Hp) (a : Addr) (ns : List Int), ns.length ≤ n → SqL K H a (ns.map V.int) → sp [.ref a] H (fun v _ => v = .bl true) fun _ _ _ => False) ∧ ∀ base : Heap, K.In base → base.Ns mainGlobals mg → FnG l.prog w K mg base CX0 k fa fd [x] sp) :
    PySem.W.WalkO q loose XP YP l.row.toRowW d [] (fun f vs => PySem.call f vs) :=
  Att.attach_call hn hdf fun w s₀ s₁ mg mb fa o pm cd doc a vs ns G Y ho hd hcd hmg hobj hints hlen hg => by
    obtain ⟨K, fd, sp, kx, bd, hs, hF⟩ := F w mg fa _ Y G.T.g hmg
    exact lawG kx G.T.g G.T.b G.T.builtins G.T.nolimit hg hobj hints (Nat.le_trans hlen hn2) hr hF bd fun H hS => hs H a ns hlen hS
/-- what is left: the data program of the law's def -/
theorem law_sp {w : Wd} {φ : List D → G → Res DV} {H : Hp} {a : Addr} {ns : List Int} {E : XK} (h : SqL w.K H a (ns.map V.int)) (s' : S) (e : φ [.scr ns] none = .ok (.f (.bl true)) s') : spF w noEF φ [.ref a] H (fun v _ => v = .bl true) E := by
  refine ⟨⟨none, H, H, [], [], none⟩, [.scr ns], rfl, rfl, rfl, ⟨Le.refl _, rfl, fun i dv hi => by simp at hi, fun i j b hi => by simp [Own] at hi, fun i b p hi => by simp [Own] at hi, trivial⟩, ⟨.ref a, [], rfl, ⟨a, rfl, h⟩, rfl⟩, ?_⟩
  show AftF w noEF _ E (φ [.scr ns] none) _
  rw [e]
  exact fun c _ _ _ v rel _ => rel
end DI

set_option Elab.async false
set_option linter.all false
set_option maxRecDepth 100000
set_option maxHeartbeats 4000000
/-! DI26: levels. Own text. -/
namespace DI
open PySem PySem.Spec PyProof.Rows L2
section
variable {P : Program} {W : World} {K : PySem.W.Frag} {mg : Str → Option Value} {base : Heap} {w : Wd} {n qual : Str} {pr : Arguments} {bd : List Stmt} {sc : Scope} {f : Addr} {fd : FuncData} {ps : List Str} {k k0 : Nat} {φ : List D → G → Res DV}
theorem tf0 (F : FunD K n n pr bd sc [] [] f fd) (m : mg n = some (.ref f)) (b : Binds K fd ps []) (h : ∀ ds g, φ ds g = .stuck) : TF P W K mg base w n pr ps φ k :=
  ⟨f, fd, bd, sc, ⟨fun {vs H Q E} z => by
    obtain ⟨c, ds, _, _, _, _, _, z⟩ := z
    rw [h] at z
    exact z.elim, fun {A out s H ar us vs Q E} _ _ _ _ _ z => by
    obtain ⟨c, ds, _, _, _, _, _, z⟩ := z
    rw [h] at z
    exact z.elim⟩, F, m, b⟩
theorem tfS (F : FunD K n n pr bd sc [] [] f fd) (m : mg n = some (.ref f)) (b : Binds K fd ps []) (ok : FnG P W K mg base CX0 k f fd ps (spF w noEF φ)) : TF P W K mg base w n pr ps φ k := ⟨f, fd, bd, sc, ok, F, m, b⟩
theorem mf0 (M : Mk K (w.ca k0) f) (m : mg n = some (.ref (w.ca k0))) (b : Binds K fd ps []) (h : ∀ ds g, φ ds g = .stuck) : MF P W K mg base w n ps k0 φ k :=
  ⟨f, fd, ⟨fun {vs H Q E} z => by
    obtain ⟨c, ds, x, us, _, _, _, _, _, _, z⟩ := z
    rw [h] at z
    exact z.elim, fun {A out s H ar us vs Q E} _ _ _ _ _ z => by
    obtain ⟨c, ds, x, us, _, _, _, _, _, _, z⟩ := z
    rw [h] at z
    exact z.elim⟩, M, m, b⟩
theorem mfS (M : Mk K (w.ca k0) f) (m : mg n = some (.ref (w.ca k0))) (b : Binds K fd ps []) (ok : FnG P W K mg base CX0 k f fd ps (spI w noEF k0 φ)) : MF P W K mg base w n ps k0 φ k := ⟨f, fd, ok, M, m, b⟩
end
end DI

set_option Elab.async false
set_option linter.all false
set_option maxRecDepth 100000
set_option maxHeartbeats 4000000
/-! PM: one-to-one tables of states, as lists. Plain Lean, own text. -/
namespace PM
/-- first one, then other -/
def comp (one other : List Nat) : List Nat := one.map fun s => other.getD s 0
structure IsP (m : Nat) (xs : List Nat) : Prop where
  len : xs.length = m
  lt : ∀ s ∈ xs, s < m
  nd : xs.Nodup
def idP (m : Nat) : List Nat := List.range m
theorem card_le : ∀ (N : Nat) (l : List Nat), l.Nodup → (∀ x ∈ l, x < N) → l.length ≤ N
  | 0, l, _, h => by
    cases l with
    | nil => exact Nat.le_refl _
    | cons x l => exact absurd (h x List.mem_cons_self) (Nat.not_lt_zero _)
  | N + 1, l, nd, h => by
    have ih := card_le N (l.erase N) (nd.erase N) fun x hx => by
      have h1 := (List.Nodup.mem_erase_iff nd).mp hx
      have h2 := h x h1.2
      omega
    by_cases hm : N ∈ l
    · rw [List.length_erase_of_mem hm] at ih
      omega
    · rw [List.erase_of_not_mem hm] at ih
      omega
theorem IsP.id (m : Nat) : IsP m (idP m) := ⟨List.length_range, fun s hs => List.mem_range.mp hs, List.nodup_range⟩
/-- every state is met -/
theorem IsP.all {m : Nat} {xs : List Nat} (h : IsP m xs) {s : Nat} (hs : s < m) : s ∈ xs := by
  by_cases hm : s ∈ xs
  · exact hm
  · exfalso
    have q := card_le m (s :: xs) (List.nodup_cons.mpr ⟨hm, h.nd⟩) fun x hx => by
      rcases List.mem_cons.mp hx with rfl | hx
      · exact hs
      · exact h.lt x hx
    rw [List.length_cons, h.len] at q
    omega
theorem getD_eq {xs : List Nat} {i : Nat} (h : i < xs.length) : xs.getD i 0 = xs[i] := by
  rw [List.getD_eq_getElem?_getD, List.getElem?_eq_getElem h]
  rfl
theorem IsP.get_lt {m : Nat} {xs : List Nat} (h : IsP m xs) {s : Nat} (hs : s < m) : xs.getD s 0 < m := by
  rw [getD_eq (by rw [h.len]; exact hs)]
  exact h.lt _ (List.getElem_mem _)
theorem IsP.inj {m : Nat} {xs : List Nat} (h : IsP m xs) {s t : Nat} (hs : s < m) (ht : t < m) (e : xs.getD s 0 = xs.getD t 0) : s = t := by
  have hs' : s < xs.length := by rw [h.len]; exact hs
  have ht' : t < xs.length := by rw [h.len]; exact ht
  rw [getD_eq hs', getD_eq ht'] at e
  exact (List.getElem_inj h.nd).mp e
theorem comp_len {a b : List Nat} : (comp a b).length = a.length := List.length_map ..
theorem comp_get {a b : List Nat} {i : Nat} (h : i < a.length) : (comp a b).getD i 0 = b.getD (a.getD i 0) 0 := by
  rw [getD_eq (by rw [comp_len]; exact h), getD_eq h]
  unfold comp
  rw [List.getElem_map]
theorem ext {a b : List Nat} (hl : a.length = b.length) (h : ∀ i, i < a.length → a.getD i 0 = b.getD i 0) : a = b := by
  refine List.ext_getElem hl fun i h1 h2 => ?_
  have q := h i h1
  rw [getD_eq h1, getD_eq h2] at q
  exact q
theorem IsP.comp {m : Nat} {a b : List Nat} (ha : IsP m a) (hb : IsP m b) : IsP m (comp a b) := by
  refine ⟨by rw [comp_len, ha.len], fun s hs => ?_, ?_⟩
  · obtain ⟨t, ht, rfl⟩ := List.mem_map.mp hs
    exact hb.get_lt (ha.lt t ht)
  · unfold PM.comp
    exact List.pairwise_map.mpr (List.Pairwise.imp_of_mem (fun hx hy ne e => ne (hb.inj (ha.lt _ hx) (ha.lt _ hy) e)) ha.nd)
theorem comp_assoc {m : Nat} {a b c : List Nat} (ha : IsP m a) (hb : IsP m b) : comp (comp a b) c = comp a (comp b c) := by
  refine ext (by rw [comp_len, comp_len, comp_len]) fun i hi => ?_
  rw [comp_len, comp_len] at hi
  have h1 : a.getD i 0 < m := ha.get_lt (by rw [← ha.len]; exact hi)
  rw [comp_get (by rw [comp_len]; exact hi), comp_get hi, comp_get hi, comp_get (by rw [hb.len]; exact h1)]
theorem id_get {m i : Nat} (h : i < m) : (idP m).getD i 0 = i := by
  rw [getD_eq (by rw [(IsP.id m).len]; exact h)]
  unfold idP
  rw [List.getElem_range]
theorem id_comp {m : Nat} {a : List Nat} (ha : IsP m a) : comp (idP m) a = a := by
  refine ext (by rw [comp_len, (IsP.id m).len, ha.len]) fun i hi => ?_
  rw [comp_len, (IsP.id m).len] at hi
  rw [comp_get (by rw [(IsP.id m).len]; exact hi), id_get hi]
theorem comp_id {m : Nat} {a : List Nat} (ha : IsP m a) : comp a (idP m) = a := by
  refine ext comp_len fun i hi => ?_
  rw [comp_len] at hi
  rw [comp_get hi, id_get (ha.get_lt (by rw [← ha.len]; exact hi))]
theorem cancel_r {m : Nat} {a b c : List Nat} (ha : IsP m a) (hb : IsP m b) (hc : IsP m c) (e : comp a c = comp b c) : a = b := by
  refine ext (by rw [ha.len, hb.len]) fun i hi => ?_
  have hi' : i < m := by rw [← ha.len]; exact hi
  have q : (PM.comp a c).getD i 0 = (PM.comp b c).getD i 0 := by rw [e]
  rw [comp_get hi, comp_get (by rw [hb.len]; exact hi')] at q
  exact hc.inj (ha.get_lt hi') (hb.get_lt hi') q
theorem cancel_l {m : Nat} {a b c : List Nat} (ha : IsP m a) (hb : IsP m b) (hc : IsP m c) (e : comp c a = comp c b) : a = b := by
  refine ext (by rw [ha.len, hb.len]) fun i hi => ?_
  have hi' : i < m := by rw [← ha.len]; exact hi
  obtain ⟨j, hj, ej⟩ := List.getElem_of_mem (hc.all hi')
  have q : (PM.comp c a).getD j 0 = (PM.comp c b).getD j 0 := by rw [e]
  rw [comp_get hj, comp_get hj, getD_eq hj, ej] at q
  exact q
/-! ### powers -/
def pow (m : Nat) (x : List Nat) : Nat → List Nat
  | 0 => idP m
  | k + 1 => comp (pow m x k) x
section
variable {m : Nat} {x y : List Nat}
theorem IsP.pow (h : IsP m x) : ∀ k, IsP m (pow m x k)
  | 0 => IsP.id m
  | k + 1 => (IsP.pow h k).comp h
theorem pow_add (h : IsP m x) (a : Nat) : ∀ b, pow m x (a + b) = comp (pow m x a) (pow m x b)
  | 0 => (comp_id (h.pow a)).symm
  | b + 1 => by
    show comp (pow m x (a + b)) x = comp (pow m x a) (comp (pow m x b) x)
    rw [pow_add h a b, comp_assoc (h.pow a) (h.pow b)]
theorem pow_one (h : IsP m x) : pow m x 1 = x := id_comp h
theorem pow_comm (h : IsP m x) (a b : Nat) : comp (pow m x a) (pow m x b) = comp (pow m x b) (pow m x a) := by
  rw [← pow_add h, ← pow_add h, Nat.add_comm]
/-- a table as a number -/
def enc (m : Nat) : List Nat → Nat
  | [] => 0
  | s :: r => s + m * enc m r
theorem enc_lt : ∀ l : List Nat, (∀ s ∈ l, s < m) → enc m l < m ^ l.length
  | [], _ => by simp [enc]
  | s :: r, h => by
    have ih := enc_lt r fun t ht => h t (List.mem_cons_of_mem _ ht)
    have hs := h s List.mem_cons_self
    have h1 : enc m r + 1 ≤ m ^ r.length := ih
    have h2 : m * (enc m r + 1) ≤ m * m ^ r.length := Nat.mul_le_mul_left _ h1
    rw [List.length_cons, Nat.pow_succ, Nat.mul_comm (m ^ r.length) m]
    show s + m * enc m r < _
    rw [Nat.mul_add, Nat.mul_one] at h2
    omega
theorem enc_inj : ∀ {l k : List Nat}, l.length = k.length → (∀ s ∈ l, s < m) → (∀ s ∈ k, s < m) → enc m l = enc m k → l = k
  | [], [], _, _, _, _ => rfl
  | s :: r, t :: q, hl, h1, h2, e => by
    have a1 := h1 s List.mem_cons_self
    have a2 := h2 t List.mem_cons_self
    have e' : s + m * enc m r = t + m * enc m q := e
    have hm : 0 < m := by omega
    have e1 : s = t := by
      have := congrArg (· % m) e'
      simp only [Nat.add_mul_mod_self_left] at this
      rw [Nat.mod_eq_of_lt a1, Nat.mod_eq_of_lt a2] at this
      exact this
    subst e1
    have e2 : enc m r = enc m q := Nat.eq_of_mul_eq_mul_left hm (by omega)
    rw [enc_inj (by simpa using hl) (fun u hu => h1 u (List.mem_cons_of_mem _ hu)) (fun u hu => h2 u (List.mem_cons_of_mem _ hu)) e2]
  | [], _ :: _, h, _, _, _ => by simp at h
  | _ :: _, [], h, _, _, _ => by simp at h
/-- some power is the identity -/
theorem has_order (h : IsP m x) : ∃ k, 0 < k ∧ k ≤ m ^ m ∧ pow m x k = idP m := by
  by_cases hn : ((List.range (m ^ m + 1)).map fun k => enc m (pow m x k)).Nodup
  · exfalso
    have q := card_le (m ^ m) _ hn fun y hy => by
      obtain ⟨k, _, rfl⟩ := List.mem_map.mp hy
      have := enc_lt (m := m) (pow m x k) (h.pow k).lt
      rw [(h.pow k).len] at this
      exact this
    rw [List.length_map, List.length_range] at q
    omega
  · -- two powers coincide
    have hex : ∃ i j, i < j ∧ j < m ^ m + 1 ∧ enc m (pow m x i) = enc m (pow m x j) := by
      by_cases hc : ∃ i j, i < j ∧ j < m ^ m + 1 ∧ enc m (pow m x i) = enc m (pow m x j)
      · exact hc
      · exfalso
        refine hn (List.pairwise_iff_getElem.mpr fun i j hi hj hij e => hc ⟨i, j, hij, by simpa using hj, ?_⟩)
        simpa using e
    obtain ⟨i, j, hij, hj, e⟩ := hex
    have e2 := enc_inj (by rw [(h.pow i).len, (h.pow j).len]) (h.pow i).lt (h.pow j).lt e
    refine ⟨j - i, by omega, by omega, ?_⟩
    have e3 : j = i + (j - i) := by omega
    rw [e3, pow_add h] at e2
    exact (cancel_l (IsP.id m) (h.pow _) (h.pow i) (by rw [comp_id (h.pow i)]; exact e2)).symm
end
end PM

set_option Elab.async false
set_option linter.all false
set_option maxRecDepth 100000
set_option maxHeartbeats 4000000
/-! PM2: orders, whole powers, what commutes. Plain Lean, own text. -/
namespace PM
theorem least {P : Nat → Prop} : ∀ n, P n → ∃ k, P k ∧ k ≤ n ∧ ∀ j, j < k → ¬ P j := by
  intro n
  induction n using Nat.strongRecOn with
  | ind n ih =>
    intro hn
    by_cases h : ∃ j, j < n ∧ P j
    · obtain ⟨j, hj, hp⟩ := h
      obtain ⟨k, h1, h2, h3⟩ := ih j hj hp
      exact ⟨k, h1, by omega, h3⟩
    · exact ⟨n, hn, Nat.le_refl _, fun j hj hp => h ⟨j, hj, hp⟩⟩
structure Ord (m : Nat) (x : List Nat) (o : Nat) : Prop where
  pos : 0 < o
  le : o ≤ m ^ m
  one : pow m x o = idP m
  min : ∀ j, 0 < j → j < o → pow m x j ≠ idP m
theorem ord_ex {m : Nat} {x : List Nat} (h : IsP m x) : ∃ o, Ord m x o := by
  obtain ⟨k, h1, h2, h3⟩ := has_order h
  obtain ⟨o, ⟨q1, q2⟩, q3, q4⟩ := least (P := fun k => 0 < k ∧ pow m x k = idP m) k ⟨h1, h3⟩
  exact ⟨o, q1, by omega, q2, fun j hj hlt e => q4 j hlt ⟨hj, e⟩⟩
section
variable {m o : Nat} {x : List Nat}
theorem pow_mul_o (h : IsP m x) (O : Ord m x o) : ∀ q, pow m x (o * q) = idP m
  | 0 => rfl
  | q + 1 => by
    rw [Nat.mul_succ, pow_add h, pow_mul_o h O q, O.one, id_comp (IsP.id m)]
theorem pow_mod (h : IsP m x) (O : Ord m x o) (k : Nat) : pow m x (k % o) = pow m x k := by
  have e : k = o * (k / o) + k % o := (Nat.div_add_mod k o).symm
  have e2 : pow m x k = pow m x (o * (k / o) + k % o) := by rw [← e]
  rw [e2, pow_add h, pow_mul_o h O, id_comp (h.pow _)]
/-- a whole power -/
def pz (m o : Nat) (x : List Nat) (n : Int) : List Nat := pow m x (n % (o : Int)).toNat
theorem IsP.pz (h : IsP m x) (n : Int) : IsP m (pz m o x n) := h.pow _
theorem pz_nat (h : IsP m x) (O : Ord m x o) (k : Nat) : pz m o x k = pow m x k := by
  unfold PM.pz
  rw [show ((k : Int) % (o : Int)).toNat = k % o from by rw [← Int.natCast_emod]; rfl]
  exact pow_mod h O k
theorem pz_add (h : IsP m x) (O : Ord m x o) (a b : Int) : comp (pz m o x a) (pz m o x b) = pz m o x (a + b) := by
  have ho : (0 : Int) < o := by have := O.pos; omega
  have ha := Int.emod_nonneg a (show (o : Int) ≠ 0 by omega)
  have hb := Int.emod_nonneg b (show (o : Int) ≠ 0 by omega)
  unfold PM.pz
  rw [← pow_add h, ← pow_mod h O]
  congr 1
  have e : ((a + b) % (o : Int)) = (((a % o).toNat + (b % o).toNat : Nat) : Int) % o := by
    rw [Int.natCast_add, Int.toNat_of_nonneg ha, Int.toNat_of_nonneg hb, ← Int.add_emod]
  rw [e, ← Int.natCast_emod]
  rfl
theorem pz_zero : pz m o x 0 = idP m := by
  unfold PM.pz
  rw [Int.zero_emod]
  rfl
theorem pz_o (h : IsP m x) (O : Ord m x o) : pz m o x o = idP m := by rw [pz_nat h O, O.one]
/-! ### a row of shifts -/
def shiftP (m o : Nat) (x c : List Nat) (i : Int) : List Nat := comp (comp (pz m o x i) c) (pz m o x (-i - 1))
def prodP (m : Nat) : List (List Nat) → List Nat → List Nat
  | [], a => a
  | c :: cs, a => prodP m cs (comp a c)
def accP (m o : Nat) (x : List Nat) : List (List Nat) → Nat → List Nat → List Nat
  | [], _, a => a
  | c :: cs, i, a => accP m o x cs (i + 1) (comp a (shiftP m o x c i))
theorem shiftP_isP (h : IsP m x) {c : List Nat} (hc : IsP m c) (i : Int) : IsP m (shiftP m o x c i) := ((h.pz _).comp hc).comp (h.pz _)
theorem acc_prod (h : IsP m x) (O : Ord m x o) : ∀ (cs : List (List Nat)) (i : Nat) (a : List Nat), (∀ c ∈ cs, IsP m c) → IsP m a →
    comp (accP m o x cs i (comp a (pz m o x (-(i : Int))))) (pz m o x ((i + cs.length : Nat) : Int)) = prodP m cs a
  | [], i, a, _, ha => by
    show comp (comp a (pz m o x (-(i : Int)))) (pz m o x ((i + 0 : Nat) : Int)) = a
    rw [comp_assoc ha (h.pz _), pz_add h O, show (-(i : Int) + ((i + 0 : Nat) : Int)) = 0 by omega, pz_zero, comp_id ha]
  | c :: cs, i, a, hc, ha => by
    have h1 := hc c List.mem_cons_self
    show comp (accP m o x cs (i + 1) (comp (comp a (pz m o x (-(i : Int)))) (shiftP m o x c i))) _ = prodP m cs (comp a c)
    have e : comp (comp a (pz m o x (-(i : Int)))) (shiftP m o x c i) = comp (comp a c) (pz m o x (-((i + 1 : Nat) : Int))) := by
      unfold shiftP
      rw [comp_assoc ha (h.pz _), ← comp_assoc (h.pz _) ((h.pz _).comp h1), ← comp_assoc (h.pz _) (h.pz _), pz_add h O, show (-(i : Int) + (i : Int)) = 0 by omega, pz_zero, id_comp h1, ← comp_assoc ha h1]
      congr 2
      omega
    rw [e, show i + (c :: cs).length = (i + 1) + cs.length by simp; omega]
    exact acc_prod h O cs (i + 1) (comp a c) (fun d hd => hc d (List.mem_cons_of_mem _ hd)) (ha.comp h1)
/-! ### what commutes -/
def Com (a : List Nat) (cs : List (List Nat)) : Prop := ∀ c ∈ cs, comp a c = comp c a
theorem com_id {cs : List (List Nat)} (hc : ∀ c ∈ cs, IsP m c) : Com (idP m) cs := fun c h => by rw [id_comp (hc c h), comp_id (hc c h)]
theorem com_comp {cs : List (List Nat)} (hc : ∀ c ∈ cs, IsP m c) {a b : List Nat} (ha : IsP m a) (hb : IsP m b) (h1 : Com a cs) (h2 : Com b cs) : Com (comp a b) cs := fun c h => by
  rw [comp_assoc ha hb, h2 c h, ← comp_assoc ha (hc c h), h1 c h, comp_assoc (hc c h) ha]
theorem com_left {cs : List (List Nat)} (hc : ∀ c ∈ cs, IsP m c) {a b : List Nat} (ha : IsP m a) (hb : IsP m b) (h1 : Com a cs) (h2 : Com (comp a b) cs) : Com b cs := fun c h => by
  refine cancel_l (hb.comp (hc c h)) ((hc c h).comp hb) ha ?_
  rw [← comp_assoc ha hb, h2 c h, ← comp_assoc ha (hc c h), h1 c h, comp_assoc (hc c h) ha]
structure Stp (m : Nat) (x : List Nat) (cs : List (List Nat)) (d : Nat) : Prop where
  pos : 0 < d
  com : Com (pow m x d) cs
  min : ∀ j, 0 < j → j < d → ¬ Com (pow m x j) cs
theorem stp_ex (h : IsP m x) (O : Ord m x o) {cs : List (List Nat)} (hc : ∀ c ∈ cs, IsP m c) : ∃ d, Stp m x cs d ∧ d ≤ o := by
  obtain ⟨d, ⟨q1, q2⟩, q3, q4⟩ := least (P := fun k => 0 < k ∧ Com (pow m x k) cs) o ⟨O.pos, by rw [O.one]; exact com_id hc⟩
  exact ⟨d, ⟨q1, q2, fun j hj hlt e => q4 j hlt ⟨hj, e⟩⟩, q3⟩
theorem com_mul (h : IsP m x) (O : Ord m x o) {cs : List (List Nat)} (hc : ∀ c ∈ cs, IsP m c) {d : Int} (hd : Com (pz m o x d) cs) : ∀ q : Nat, Com (pz m o x (d * q)) cs
  | 0 => by
    rw [show d * ((0 : Nat) : Int) = 0 by simp, pz_zero]
    exact com_id hc
  | q + 1 => by
    rw [show d * ((q + 1 : Nat) : Int) = d * (q : Int) + d by rw [Int.natCast_add, Int.mul_add]; simp, ← pz_add h O]
    exact com_comp hc (h.pz _) (h.pz _) (com_mul h O hc hd q) hd
theorem com_neg (h : IsP m x) (O : Ord m x o) {cs : List (List Nat)} (hc : ∀ c ∈ cs, IsP m c) {d : Int} (hd : Com (pz m o x d) cs) : Com (pz m o x (-d)) cs := by
  refine com_left hc (h.pz d) (h.pz _) hd ?_
  rw [pz_add h O, show d + -d = 0 by omega, pz_zero]
  exact com_id hc
/-- a whole power commutes where its exponent is a multiple of the least one, and there alone -/
theorem com_iff (h : IsP m x) (O : Ord m x o) {cs : List (List Nat)} (hc : ∀ c ∈ cs, IsP m c) {d : Nat} (S : Stp m x cs d) (n : Int) : Com (pz m o x n) cs ↔ n % (d : Int) = 0 := by
  have hd : Com (pz m o x (d : Int)) cs := by rw [pz_nat h O]; exact S.com
  have hdp : (0 : Int) < d := by have := S.pos; omega
  have mult : ∀ q : Int, Com (pz m o x ((d : Int) * q)) cs := fun q => by
    by_cases hq : 0 ≤ q
    · have := com_mul h O hc hd q.toNat
      rw [Int.toNat_of_nonneg hq] at this
      exact this
    · have := com_neg h O hc (com_mul h O hc hd (-q).toNat)
      rw [Int.toNat_of_nonneg (by omega)] at this
      rw [show (d : Int) * q = -((d : Int) * -q) by rw [Int.mul_neg, Int.neg_neg]]
      exact this
  constructor
  · intro hn
    by_cases hz : n % (d : Int) = 0
    · exact hz
    · exfalso
      have h0 := Int.emod_nonneg n (show (d : Int) ≠ 0 by omega)
      have h1 := Int.emod_lt_of_pos n hdp
      refine S.min (n % d).toNat (by omega) (by omega) ?_
      rw [← pz_nat h O, Int.toNat_of_nonneg h0]
      refine com_left hc (h.pz ((d : Int) * (n / d))) (h.pz _) (mult _) ?_
      rw [pz_add h O, Int.mul_ediv_add_emod]
      exact hn
  · intro hz
    have e : n = (d : Int) * (n / d) := by
      have := Int.mul_ediv_add_emod n d
      omega
    rw [e]
    exact mult _
theorem step_dvd (h : IsP m x) (O : Ord m x o) {cs : List (List Nat)} (hc : ∀ c ∈ cs, IsP m c) {d : Nat} (S : Stp m x cs d) : (o : Int) % (d : Int) = 0 := by
  rw [← com_iff h O hc S, pz_o h O]
  exact com_id hc
theorem shift_eq_iff (h : IsP m x) (O : Ord m x o) {c : List Nat} (hc : IsP m c) (i j : Int) : shiftP m o x c i = shiftP m o x c j ↔ comp (pz m o x (i - j)) c = comp c (pz m o x (i - j)) := by
  have key : ∀ k : Int, comp (pz m o x (-j)) (comp (shiftP m o x c k) (pz m o x (i + 1))) = comp (comp (pz m o x (k - j)) c) (pz m o x (i - k)) := fun k => by
    unfold shiftP
    rw [comp_assoc ((h.pz _).comp hc) (h.pz _), pz_add h O, ← comp_assoc (h.pz _) ((h.pz _).comp hc), ← comp_assoc (h.pz _) (h.pz _), pz_add h O]
    congr 2
    · congr 1
      omega
    · omega
  constructor
  · intro e
    have q := key i
    rw [e, key j] at q
    rw [show j - j = 0 by omega, show i - i = 0 by omega, pz_zero, id_comp hc, comp_id ((h.pz _).comp hc)] at q
    exact q.symm
  · intro e
    have q : comp (pz m o x (-j)) (comp (shiftP m o x c i) (pz m o x (i + 1))) = comp (pz m o x (-j)) (comp (shiftP m o x c j) (pz m o x (i + 1))) := by
      rw [key, key, show j - j = 0 by omega, show i - i = 0 by omega, pz_zero, id_comp hc, comp_id ((h.pz _).comp hc)]
      exact e
    exact cancel_r (shiftP_isP h hc _) (shiftP_isP h hc _) (h.pz _) (cancel_l ((shiftP_isP h hc _).comp (h.pz _)) ((shiftP_isP h hc _).comp (h.pz _)) (h.pz _) q)
end
end PM

set_option Elab.async false
set_option linter.all false
set_option maxRecDepth 100000
set_option maxHeartbeats 4000000
namespace LK
open PySem (Str)
open DI
/-! ### the defs as data -/
def flds : List Str := ["commands", "states", "steps", "machine", "start", "answers", "reorderings", "_entered", "_row", "_past", "log"]
def tab : Tab := ⟨fun c => ([[0, 1, 2]] : List (List Nat)).getD c []⟩
/-- is_integer -/
def b0 : List Sm := [.ret (.and (.isI (.var 0) .int) (.not (.isI (.var 0) .bool)))]
/-- is_number -/
def b1 : List Sm := [.ret (.and (.call 0 [(.var 0)]) (.cmp .ge (.var 0) (.int 0)))]
/-- is_index -/
def b2 : List Sm := [.ret (.and (.call 1 [(.var 0)]) (.cmp .lt (.var 0) (.var 1)))]
/-- is_sequence -/
def b3 : List Sm := [.ret (.isI (.var 0) .seq)]
/-- Machine -/
def b4 : List Sm := [.ifs (.or (.not (.call 0 [(.var 1)])) (.cmp .lt (.var 1) (.int 1))) [.expr .nop] [],
  .ifs (.or (.not (.call 3 [(.var 2)])) (.cmp .eq (.blt .len [(.var 2)]) (.int 0))) [.expr .nop] [],
  .set 3 (.blt .len [(.var 2)]),
  .for (.tp [(.nm 4), (.nm 5)]) .enum (.var 2) .nop [.ifs (.or (.not (.call 3 [(.var 5)])) (.or (.cmp .ne (.blt .len [(.var 5)]) (.var 1)) (.not (.blt .all [(.lc [6] (.nm 6) .val (.var 5) .nop .nop (.call 2 [(.var 6), (.var 3)]))])))) [.expr .nop] []],
  .fset 0 (.var 1),
  .fset 1 (.var 3),
  .fset 2 (.blt .tuple [(.lc [5] (.nm 5) .val (.var 2) .nop .nop (.blt .tuple [(.var 5)]))])]
/-- _law_after -/
def b5 : List Sm := [.ret (.blt .tuple [(.lc [2] (.nm 2) .val (.var 0) .nop .nop (.ix (.var 1) (.var 2)))])]
/-- _law_column -/
def b7 : List Sm := [.ret (.blt .tuple [(.lc [2] (.nm 2) .val (.var 0) .nop .nop (.ix (.var 2) (.var 1)))])]
/-- _law_end -/
def b9 : List Sm := [.for (.nm 3) .val (.var 2) .nop [.set 1 (.ix (.ix (.var 0) (.var 1)) (.var 3))],
  .ret (.var 1)]
/-- _law_effect -/
def b10 : List Sm := [.ret (.blt .tuple [(.lc [2] (.nm 2) .rng (.int 0) (.blt .len [(.var 0)]) .nop (.call 9 [(.var 0), (.var 2), (.var 1)]))])]
/-- _law_of -/
def b11 : List Sm := [.ret (.ix (.var 1) (.call 6 [(.var 0), (.blt .len [(.var 1)])]))]
/-- _law_mixed -/
def b12 : List Sm := [.par [.nm 2, .nm 3] [(.blt .list [(.var 1)]), (.lst [])],
  .while (.cmp .ne (.var 2) (.lst [])) [.expr (.append 3 (.popAt 2 (.call 6 [(.var 0), (.blt .len [(.var 2)])])))],
  .ret (.var 3)]
/-- _law_named -/
def b13 : List Sm := [.par [.nm 2, .nm 3] [(.call 12 [(.var 0), (.lrg .nop (.blt .len [(.var 1)]))]), (.lc [5] (.nm 5) .val (.var 1) .nop .nop (.lst []))],
  .for (.tp [(.nm 4), (.nm 5)]) .enum (.var 1) .nop [.setIx 3 (.ix (.var 2) (.var 4)) (.lc [6] (.nm 6) .val (.var 5) .nop .nop (.ix (.var 2) (.var 6)))],
  .ret (.var 3)]
/-- _law_wheel -/
def b14 : List Sm := [.set 4 (.lst []),
  .for (.nm 5) .rng (.int 0) (.var 1) [.for (.nm 6) .rng (.int 0) (.var 2) [.set 7 (.lc [8] (.nm 8) .val (.var 0) .nop .nop (.ite (.cmp .eq (.var 5) (.int 0)) (.var 8) (.int 0))),
  .expr (.append 4 (.lc [8] (.nm 8) .val (.var 7) .nop .nop (.bin .add (.bin .add (.var 3) (.bin .mul (.bin .mod (.blt .int [(.bin .add (.var 5) (.int 1))]) (.var 1)) (.var 2))) (.bin .mod (.blt .int [(.bin .add (.var 6) (.var 8))]) (.var 2)))))]],
  .ret (.var 4)]
/-- _law_reversible -/
def b15 : List Sm := [.par [.nm 1, .nm 2, .nm 3] [(.call 6 [(.var 0), (.int 4)]), (.call 11 [(.var 0), (.lst [(.int 2), (.int 2), (.int 3), (.int 1), (.int 3)])]), (.lst [])],
  .ifs (.cmp .eq (.var 1) (.int 0)) [.unp [(.nm 7), (.nm 8)] (.call 11 [(.var 0), (.lst [(.tup [(.int 1), (.int 2)]), (.tup [(.int 2), (.int 2)]), (.tup [(.int 3), (.int 2)]), (.tup [(.int 4), (.int 2)]), (.tup [(.int 1), (.int 3)]), (.tup [(.int 2), (.int 3)])])]),
  .ret (.tup [(.var 2), (.call 13 [(.var 0), (.call 14 [(.lc [13] (.nm 13) .rng (.int 0) (.var 2) .nop (.call 6 [(.var 0), (.var 8)])), (.var 7), (.var 8), (.int 0)])])])] [],
  .set 4 (.bin .add (.int 1) (.call 6 [(.var 0), (.int 6)])),
  .set 5 (.call 12 [(.var 0), (.lrg .nop (.var 4))]),
  .for (.nm 6) .rng (.int 0) (.var 2) [.set 9 (.ite (.cmp .eq (.var 1) (.int 1)) (.call 12 [(.var 0), (.lrg .nop (.var 4))]) (.var 5)),
  .ifs (.cmp .eq (.var 1) (.int 2)) [.set 10 (.call 6 [(.var 0), (.var 4)]),
  .set 9 (.lc [12] (.nm 12) .rng (.int 0) (.var 4) .nop (.bin .mod (.blt .int [(.bin .add (.var 12) (.var 10))]) (.var 4)))] [],
  .ifs (.cmp .eq (.var 1) (.int 3)) [.for (.nm 11) .rng (.int 0) (.call 6 [(.var 0), (.int 4)]) [.set 9 (.lc [12] (.nm 12) .val (.var 9) .nop .nop (.ix (.var 5) (.var 12)))]] [],
  .expr (.append 3 (.var 9))],
  .ret (.tup [(.var 2), (.lc [12] (.nm 12) .rng (.int 0) (.var 4) .nop (.lc [9] (.nm 9) .val (.var 3) .nop .nop (.ix (.var 9) (.var 12))))])]
/-- _law_row -/
def b16 : List Sm := [.ret (.blt .tuple [(.lc [3] (.nm 3) .rng (.int 0) (.var 2) .nop (.call 6 [(.var 0), (.var 1)]))])]
/-- _law_order -/
def b17 : List Sm := [.par [.nm 1, .nm 2] [(.int 1), (.var 0)],
  .while (.cmp .ne (.var 2) (.trg .nop (.blt .len [(.var 0)]))) [.par [.nm 1, .nm 2] [(.bin .add (.var 1) (.int 1)), (.call 5 [(.var 2), (.var 0)])]],
  .ret (.var 1)]
/-- _law_times -/
def b18 : List Sm := [.set 2 (.trg .nop (.blt .len [(.var 0)])),
  .for (.nm 3) .rng (.int 0) (.bin .mod (.blt .int [(.var 1)]) (.call 17 [(.var 0)])) [.set 2 (.call 5 [(.var 2), (.var 0)])],
  .ret (.var 2)]
/-- _law_shift -/
def b19 : List Sm := [.set 4 (.call 7 [(.var 0), (.var 1)]),
  .ret (.call 5 [(.call 5 [(.call 18 [(.var 4), (.var 3)]), (.call 7 [(.var 0), (.var 2)])]), (.call 18 [(.var 4), (.bin .sub (.bin .sub (.int 0) (.var 3)) (.int 1))])])]
/-- _law_step -/
def b20 : List Sm := [.par [.nm 3, .nm 4] [(.call 7 [(.var 1), (.var 2)]), (.int 1)],
  .set 5 (.lc [6] (.nm 6) .rng (.int 0) (.var 0) .nop (.call 7 [(.var 1), (.var 6)])),
  .while (.cmp .ne (.lc [7] (.nm 7) .val (.var 5) .nop (.cmp .ne (.call 5 [(.call 18 [(.var 3), (.var 4)]), (.var 7)]) (.call 5 [(.var 7), (.call 18 [(.var 3), (.var 4)])])) (.var 7)) (.lst [])) [.set 4 (.bin .add (.var 4) (.int 1))],
  .ret (.var 4)]
/-- checked_row -/
def b21 : List Sm := [.ifs (.not (.call 3 [(.var 1)])) [.expr .nop] [],
  .for (.tp [(.nm 2), (.nm 3)]) .enum (.var 1) .nop [.ifs (.not (.call 2 [(.var 3), (.var 0)])) [.expr .nop] []],
  .ret (.blt .tuple [(.var 1)])]
/-- led -/
def b22 : List Sm := [.set 3 (.var 1),
  .for (.nm 4) .val (.var 2) .nop [.set 3 (.ix (.ix (.fld (.var 0) 2) (.var 3)) (.var 4))],
  .ret (.var 3)]
/-- effect -/
def b23 : List Sm := [.set 2 (.call 21 [(.fld (.var 0) 0), (.var 1)]),
  .ret (.blt .tuple [(.lc [3] (.nm 3) .rng (.int 0) (.fld (.var 0) 1) .nop (.call 22 [(.var 0), (.var 3), (.var 2)]))])]
/-- followed -/
def b24 : List Sm := [.ret (.blt .tuple [(.lc [2] (.nm 2) .val (.var 0) .nop .nop (.ix (.var 1) (.var 2)))])]
/-- exchange_freely -/
def b25 : List Sm := [.ret (.cmp .eq (.call 24 [(.var 0), (.var 1)]) (.call 24 [(.var 1), (.var 0)]))]
/-- single_effects -/
def b26 : List Sm := [.ret (.lc [1] (.nm 1) .rng (.int 0) (.fld (.var 0) 0) .nop (.blt .tuple [(.lc [2] (.nm 2) .val (.fld (.var 0) 2) .nop .nop (.ix (.var 2) (.var 1)))]))]
/-- first_merging -/
def b27 : List Sm := [.for (.tp [(.nm 1), (.nm 2)]) .enum (.call 26 [(.var 0)]) .nop [.ifs (.cmp .lt (.blt .lenset [(.var 2)]) (.fld (.var 0) 1)) [.ret (.var 1)] []],
  .ret .non]
/-- need_reversible -/
def b28 : List Sm := [.set 1 (.call 27 [(.var 0)]),
  .ifs (.notN (.var 1)) [.expr .nop] []]
/-- free_step -/
def b29 : List Sm := [.expr (.call 28 [(.var 0)]),
  .set 2 (.call 26 [(.var 0)]),
  .par [.nm 3, .nm 4] [(.int 1), (.ix (.var 2) (.var 1))],
  .while (.not (.blt .all [(.lc [5] (.nm 5) .val (.var 2) .nop .nop (.call 25 [(.var 4), (.var 5)]))])) [.par [.nm 3, .nm 4] [(.bin .add (.var 3) (.int 1)), (.call 24 [(.var 4), (.ix (.var 2) (.var 1))])]],
  .ret (.var 3)]
/-- order_of_effect -/
def b30 : List Sm := [.par [.nm 1, .nm 2] [(.var 0), (.int 1)],
  .while (.cmp .ne (.var 1) (.trg .nop (.blt .len [(.var 0)]))) [.par [.nm 1, .nm 2] [(.call 24 [(.var 1), (.var 0)]), (.bin .add (.var 2) (.int 1))]],
  .ret (.var 2)]
/-- order_of -/
def b31 : List Sm := [.expr (.call 28 [(.var 0)]),
  .ret (.call 30 [(.ix (.call 26 [(.var 0)]) (.var 1))])]
/-- effect_times -/
def b32 : List Sm := [.set 2 (.trg .nop (.blt .len [(.var 0)])),
  .for (.nm 3) .rng (.int 0) (.bin .mod (.var 1) (.call 30 [(.var 0)])) [.set 2 (.call 24 [(.var 2), (.var 0)])],
  .ret (.var 2)]
/-- shift -/
def b33 : List Sm := [.expr (.call 28 [(.var 0)]),
  .set 4 (.call 26 [(.var 0)]),
  .set 5 (.call 24 [(.call 32 [(.ix (.var 4) (.var 1)), (.var 3)]), (.ix (.var 4) (.var 2))]),
  .ret (.call 24 [(.var 5), (.call 32 [(.ix (.var 4) (.var 1)), (.bin .sub (.neg (.var 3)) (.int 1))])])]
/-- law -/
def b34 : List Sm := [.set 1 (.call 8 [(.var 0), (.int 29)]),
  .for (.nm 2) .rng (.int 0) (.int 2) [.unp [(.nm 3), (.nm 4)] (.call 15 [(.var 1)]),
  .par [.nm 5, .nm 6] [(.make 4 [(.var 3), (.var 4)]), (.call 6 [(.var 1), (.var 3)])],
  .for (.nm 7) .rng (.int 0) (.int 3) [.par [.nm 11, .nm 13] [(.call 6 [(.var 1), (.var 3)]), (.call 11 [(.var 1), (.lst [(.call 6 [(.var 1), (.int 12)]), (.bin .sub (.int 0) (.call 6 [(.var 1), (.int 9)])), (.call 6 [(.var 1), (.bin .pow (.int 10) (.int 18))])])])],
  .set 16 (.call 19 [(.var 4), (.var 6), (.var 11), (.var 13)]),
  .ifs (.or (.cmp .ne (.blt .repr [(.call 33 [(.var 5), (.var 6), (.var 11), (.var 13)])]) (.blt .repr [(.var 16)])) (.cmp .ne (.blt .repr [(.callk 33 [3, 2, 1, 0] [(.var 13), (.var 11), (.var 6), (.var 5)])]) (.blt .repr [(.var 16)]))) [.ret (.bl false)] []],
  .par [.nm 8, .nm 9] [(.call 16 [(.var 1), (.var 3), (.call 6 [(.var 1), (.int 21)])]), (.trg .nop (.blt .len [(.var 4)]))],
  .for (.tp [(.nm 10), (.nm 11)]) .enum (.var 8) .nop [.set 9 (.call 5 [(.var 9), (.call 33 [(.var 5), (.var 6), (.var 11), (.var 10)])])],
  .set 9 (.call 5 [(.var 9), (.call 18 [(.call 7 [(.var 4), (.var 6)]), (.blt .len [(.var 8)])])]),
  .ifs (.or (.cmp .ne (.var 9) (.call 10 [(.var 4), (.var 8)])) (.cmp .ne (.call 23 [(.var 5), (.var 8)]) (.var 9))) [.ret (.bl false)] [],
  .set 12 (.call 20 [(.var 3), (.var 4), (.var 6)]),
  .ifs (.or (.cmp .ne (.blt .repr [(.call 29 [(.var 5), (.var 6)])]) (.blt .repr [(.var 12)])) (.cmp .ne (.blt .repr [(.callk 29 [1, 0] [(.var 6), (.var 5)])]) (.blt .repr [(.var 12)]))) [.ret (.bl false)] [],
  .ifs (.cmp .ne (.bin .mod (.blt .int [(.call 31 [(.var 5), (.var 6)])]) (.var 12)) (.int 0)) [.ret (.bl false)] [],
  .par [.nm 13, .nm 14] [(.call 6 [(.var 1), (.int 12)]), (.call 6 [(.var 1), (.int 12)])],
  .set 15 (.cmp .eq (.lc [17] (.nm 17) .rng (.int 0) (.var 3) (.cmp .ne (.call 19 [(.var 4), (.var 6), (.var 17), (.var 13)]) (.call 19 [(.var 4), (.var 6), (.var 17), (.var 14)])) (.var 17)) (.lst [])),
  .ifs (.cmp .ne (.var 15) (.cmp .eq (.bin .mod (.blt .int [(.bin .sub (.var 13) (.var 14))]) (.var 12)) (.int 0))) [.ret (.bl false)] []],
  .ret (.bl true)]
def fns : List Fn := [.body 1 1 b0, .body 1 1 b1, .body 2 2 b2, .body 1 1 b3, .init 0 7 3 b4, .body 3 2 b5, .any, .body 3 2 b7, .draw, .body 4 3 b9, .body 3 2 b10, .body 2 2 b11, .body 4 2 b12, .body 7 2 b13, .body 9 4 b14, .body 14 1 b15, .body 4 3 b16, .body 3 1 b17, .body 4 2 b18, .body 5 4 b19, .body 8 3 b20, .body 4 2 b21, .body 5 3 b22, .body 4 2 b23, .body 3 2 b24, .body 2 2 b25, .body 3 1 b26, .body 3 1 b27, .body 2 1 b28, .body 6 2 b29, .body 3 1 b30, .body 2 2 b31, .body 4 2 b32, .body 6 4 b33, .body 18 1 b34]
end LK

set_option Elab.async false
set_option linter.all false
set_option maxRecDepth 100000
set_option maxHeartbeats 4000000
/-! K29a: the plain law of k29, its small defs. Own text. -/
namespace LK
open PySem (Str)
open DI PM
abbrev Rt (n f : Nat) (ds : List D) (g : G) (v : DV) (g' : G) : Prop := Ret tab fns n f ds g v g'
/-- states as data -/
def tn (xs : List Nat) : D := .tup (xs.map fun (n : Nat) => .int n)
theorem ixD_tn {xs : List Nat} {s : Nat} (h : s < xs.length) : ixD (tn xs) (.int s) = some (.int (xs.getD s 0 : Nat)) := by
  show atI (xs.map fun (n : Nat) => D.int n) s = _
  unfold atI
  rw [if_pos (by omega), Int.toNat_natCast, List.getElem?_map, List.getElem?_eq_getElem h, List.getD_eq_getElem?_getD, List.getElem?_eq_getElem h]
  rfl
theorem comp_lc {Φ : Fns} {g : G} {one other : List Nat} (h : ∀ s ∈ one, s < other.length) (hl : one.length ≤ lim) :
    evSs tab Φ [.ret (.blt .tuple [(.lc [2] (.nm 2) .val (.var 0) .nop .nop (.ix (.var 1) (.var 2)))])] ⟨[some (.f (tn one)), some (.f (tn other)), none], g⟩ = .ok (.rt (.f (tn (comp one other)))) ⟨[some (.f (tn one)), some (.f (tn other)), none], g⟩ := by
  have e := lc_pure (T := tab) (Φ := Φ) (i := 2) (r := [some (.f (tn one)), some (.f (tn other)), none]) (g := g) (k := .val) (a := .var 0) (b := .nop) (c := .nop) (e := .ix (.var 1) (.var 2)) (v := .f (tn one)) (xs := tn one) (y := .f .non) (dy := .non) (ds := one.map fun (n : Nat) => .int n)
    (p := fun _ => true) (f := fun d => match d with | .int s => .int (other.getD s.toNat 0 : Nat) | d => d) (by show 2 < 3; decide) rfl rfl rfl rfl rfl (fun d hd => by
      obtain ⟨s, hs, rfl⟩ := List.mem_map.mp hd
      refine ⟨rfl, fun _ => ?_⟩
      rw [bnd_of (ev_ix (T := tab) (Φ := Φ) (a := .var 1) (i := .var 2) rfl rfl rfl rfl (ixD_tn (h s hs)))]
      rfl) (by rw [List.length_map]; exact hl)
  have e2 : ((one.map fun (n : Nat) => D.int n).filter fun _ => true).map (fun d => match d with | .int s => .int (other.getD s.toNat 0 : Nat) | d => d) = (comp one other).map fun (n : Nat) => D.int n := by
    rw [List.filter_eq_self.mpr (fun _ _ => rfl)]
    unfold comp
    rw [List.map_map, List.map_map]
    rfl
  rw [e2] at e
  exact evSs_rt (evS_ret (ev_blt e rfl rfl) rfl)
theorem ret_after {n : Nat} {g : G} {one other : List Nat} (h : ∀ s ∈ one, s < other.length) (hl : one.length ≤ lim) : Rt (n + 1) 5 [tn one, tn other] g (.f (tn (comp one other))) g :=
  ret_body (bd := b5) rfl rfl (by decide) (comp_lc h hl)
theorem ret_followed {n : Nat} {g : G} {one other : List Nat} (h : ∀ s ∈ one, s < other.length) (hl : one.length ≤ lim) : Rt (n + 1) 24 [tn one, tn other] g (.f (tn (comp one other))) g :=
  ret_body (bd := b24) rfl rfl (by decide) (comp_lc h hl)
/-! ### equality of tables -/
theorem py_tn (xs : List Nat) : (tn xs).py = .tuple (xs.map fun (n : Nat) => PySem.PyData.int n) := by
  have e : ∀ l : List Nat, pyAll (l.map fun (n : Nat) => D.int n) = l.map fun (n : Nat) => PySem.PyData.int n := by
    intro l
    induction l with
    | nil => rfl
    | cons x r ih =>
      show D.py (.int x) :: pyAll _ = _
      rw [ih]
      rfl
  show PySem.PyData.tuple (pyAll _) = _
  rw [e]
theorem canLay_tn (xs : List Nat) : PySem.PyData.canLayAll0 (xs.map fun (n : Nat) => PySem.PyData.int n) = true := by
  induction xs with
  | nil => rfl
  | cons x r ih =>
    show (PySem.PyData.canLay0 (.int x) && PySem.PyData.canLayAll0 _) = true
    rw [ih]
    rfl
theorem depth_tn (xs : List Nat) : PySem.PyData.depthAll (xs.map fun (n : Nat) => PySem.PyData.int n) ≤ 1 := by
  induction xs with
  | nil => simp [PySem.PyData.depthAll]
  | cons x r ih =>
    simp only [List.map_cons, PySem.PyData.depthAll, PySem.PyData.depth]
    omega
theorem shp_tn (xs : List Nat) : shp (tn xs) = true := by
  unfold shp PySem.SeqAt.shaped
  rw [py_tn, Bool.and_eq_true]
  refine ⟨by rw [PySem.PyData.canLay0]; exact canLay_tn xs, decide_eq_true ?_⟩
  have := depth_tn xs
  rw [PySem.PyData.depth]
  omega
theorem eqv_tn : ∀ a b : List Nat, PySem.PyData.eqvAll (a.map fun (n : Nat) => PySem.PyData.int n) (b.map fun (n : Nat) => PySem.PyData.int n) = decide (a = b)
  | [], [] => rfl
  | [], _ :: _ => by simp [PySem.PyData.eqvAll]
  | _ :: _, [] => by simp [PySem.PyData.eqvAll]
  | x :: a, y :: b => by
    have ih := eqv_tn a b
    simp only [List.map_cons, PySem.PyData.eqvAll, PySem.PyData.eqv, ih]
    by_cases h : x = y
    · subst h
      simp
    · have h2 : ((x : Int) == (y : Int)) = false := by
        rw [beq_eq_false_iff_ne]
        omega
      simp [h, h2]
theorem eqD_tn (a b : List Nat) : eqD (tn a) (tn b) = some (decide (a = b)) := by
  unfold eqD
  rw [shp_tn, shp_tn]
  show some (PySem.PyData.eqv (tn a).py (tn b).py) = _
  rw [py_tn, py_tn, PySem.PyData.eqv, eqv_tn]
theorem rng_tn (m : Nat) : D.tup (rngI 0 m) = tn (idP m) := by
  unfold rngI tn idP
  rw [show ((m : Int) - 0).toNat = m by omega]
  congr 1
  exact List.map_congr_left fun i _ => by rw [Int.zero_add]
theorem rngD_m {m : Nat} (h : m ≤ 1000) : rngD 0 (m : Int) = some (rngI 0 m) := by
  have e : (bnd62 0 && bnd62 (m : Int) && decide (((m : Int) - 0).toNat ≤ lim)) = true := by
    have hl : lim = 16777216 := rfl
    simp only [bnd62, Bool.and_eq_true, decide_eq_true_eq, hl]
    omega
  unfold rngD
  rw [if_pos e]
theorem opt_some {α : Type} (x : α) (s : S) : opt (some x) s = .ok x s := rfl
/-- tuple(range(len(x))) -/
theorem ev_idP {Φ : Fns} {s : S} {i m : Nat} {xs : List Nat} (hx : evE tab Φ (.var i) s = .ok (.f (tn xs)) s) (hm : xs.length = m) (h : m ≤ 1000) : evE tab Φ (.trg .nop (.blt .len [(.var i)])) s = .ok (.f (tn (idP m))) s := by
  have e := ev_blt (fb := .len) (v := .f (.int (m : Int))) hx rfl (by
    show some (DV.f (.int ((xs.map fun (n : Nat) => D.int n).length : Int))) = _
    rw [List.length_map, hm])
  show bnd (ret (DV.f (.int 0))) _ _ = _
  rw [bnd_of (show ret (DV.f (.int 0)) s = .ok (DV.f (.int 0)) s from rfl)]
  rw [bnd_of e]
  rw [bnd_of (show look (DV.f (.int 0)) s = .ok (.int 0) s from rfl)]
  rw [bnd_of (show look (DV.f (.int (m : Int))) s = .ok (.int (m : Int)) s from rfl)]
  rw [bnd_of (show int? (.int 0) s = .ok 0 s from rfl)]
  rw [bnd_of (show int? (.int (m : Int)) s = .ok (m : Int) s from rfl)]
  rw [rngD_m h, bnd_of (opt_some (rngI 0 m) s)]
  exact congrArg (fun d => Res.ok (DV.f d) s) (rng_tn m)
end LK

set_option Elab.async false
set_option linter.all false
set_option maxRecDepth 100000
set_option maxHeartbeats 4000000
/-! K29b: orders and whole powers, as the text computes them. Own text. -/
namespace LK
open PySem (Str)
open DI PM
section
variable {m o n : Nat} {x : List Nat} {g : G}
def stO (m : Nat) (x : List Nat) (g : G) (k : Nat) : S := ⟨[some (.f (tn x)), some (.f (.int (k : Int))), some (.f (tn (pow m x k)))], g⟩
theorem cond_O {Φ : Fns} (hx : IsP m x) (hm : m ≤ 8) (k : Nat) {b : Bool} (hb : decide (pow m x k = idP m) = b) : evE tab Φ (.cmp .ne (.var 2) (.trg .nop (.blt .len [(.var 0)]))) (stO m x g k) = .ok (.f (.bl (!b))) (stO m x g k) :=
  ev_cmp (da := tn (pow m x k)) (db := tn (idP m)) rfl (ev_idP rfl hx.len (by omega)) rfl rfl (by
    show (eqD _ _).map not = _
    rw [eqD_tn, hb]
    rfl)
/-- the loop of _law_order -/
theorem ret_order (hx : IsP m x) (O : Ord m x o) (hm : m ≤ 8) : Rt (n + 2) 17 [tn x] g (.f (.int (o : Int))) g := by
  have hlim : (8 : Nat) ≤ lim := by decide
  have hlt : ∀ k, ∀ s ∈ pow m x k, s < x.length := fun k s hs => by rw [hx.len]; exact (hx.pow k).lt s hs
  have loop : evS tab (callD tab fns (n + 1)) (.while (.cmp .ne (.var 2) (.trg .nop (.blt .len [(.var 0)]))) [.par [.nm 1, .nm 2] [(.bin .add (.var 1) (.int 1)), (.call 5 [(.var 2), (.var 0)])]]) (stO m x g 1) = .ok .nx (stO m x g o) :=
    while_up (stO m x g) O.pos (FU_gt (by
      have h1 := O.le
      have h2 : m ^ m ≤ 8 ^ 8 := Nat.le_trans (Nat.pow_le_pow_left hm m) (Nat.pow_le_pow_right (by decide) hm)
      have h3 : (8 : Nat) ^ 8 ≤ 2 ^ 100 := by decide
      omega)) (cond_O hx hm o (decide_eq_true O.one)) fun k h1 h2 => ⟨cond_O hx hm k (decide_eq_false (O.min k h1 h2)), by
        have e5 : evE tab (callD tab fns (n + 1)) (.call 5 [(.var 2), (.var 0)]) (stO m x g k) = .ok (.f (tn (pow m x (k + 1)))) (stO m x g k) :=
          ev_call (s1 := stO m x g k) (s2 := stO m x g k) (evEs_cons rfl (evEs_cons rfl evEs_nil)) rfl (ret_after (hlt k) (by rw [(hx.pow k).len]; omega))
        have e6 : evE tab (callD tab fns (n + 1)) (.bin .add (.var 1) (.int 1)) (stO m x g k) = .ok (.f (.int ((k + 1 : Nat) : Int))) (stO m x g k) := rfl
        exact (evSs_nx (evS_par (evEs_cons e6 (evEs_cons e5 evEs_nil)) rfl rfl)).trans rfl⟩
  refine ret_body (bd := b17) (m := 3) (p := 1) rfl rfl (by decide) (r := [some (.f (tn x)), some (.f (.int (o : Int))), some (.f (tn (pow m x o)))]) ?_
  refine (evSs_nx (s1 := stO m x g 1) ?_).trans ((evSs_nx loop).trans (evSs_rt (evS_ret rfl rfl)))
  show _ = Res.ok Fl.nx (⟨[some (.f (tn x)), some (.f (.int ((1 : Nat) : Int))), some (.f (tn (pow m x 1)))], g⟩ : S)
  rw [pow_one hx]
  rfl
end
end LK

set_option Elab.async false
set_option linter.all false
set_option maxRecDepth 100000
set_option maxHeartbeats 4000000
/-! K29c: orders and powers, the program's and the law's. Own text. -/
namespace LK
open PySem (Str)
open DI PM
section
variable {m o n : Nat} {x : List Nat} {g : G}
theorem ord_small (O : Ord m x o) (hm : m ≤ 8) : o ≤ 2 ^ 30 := by
  have h1 := O.le
  have h2 : m ^ m ≤ 8 ^ 8 := Nat.le_trans (Nat.pow_le_pow_left hm m) (Nat.pow_le_pow_right (by decide) hm)
  have h3 : (8 : Nat) ^ 8 ≤ 2 ^ 30 := by decide
  omega
theorem pow_lim (hx : IsP m x) (hm : m ≤ 8) (k : Nat) : (pow m x k).length ≤ lim := by
  have hlim : (8 : Nat) ≤ lim := by decide
  rw [(hx.pow k).len]
  omega
def stE (m : Nat) (x : List Nat) (g : G) (k : Nat) : S := ⟨[some (.f (tn x)), some (.f (tn (pow m x k))), some (.f (.int (k : Int)))], g⟩
theorem cond_E {Φ : Fns} (hx : IsP m x) (hm : m ≤ 8) (k : Nat) {b : Bool} (hb : decide (pow m x k = idP m) = b) : evE tab Φ (.cmp .ne (.var 1) (.trg .nop (.blt .len [(.var 0)]))) (stE m x g k) = .ok (.f (.bl (!b))) (stE m x g k) :=
  ev_cmp (da := tn (pow m x k)) (db := tn (idP m)) rfl (ev_idP rfl hx.len (by omega)) rfl rfl (by
    show (eqD _ _).map not = _
    rw [eqD_tn, hb]
    rfl)
/-- order_of_effect -/
theorem ret_order30 (hx : IsP m x) (O : Ord m x o) (hm : m ≤ 8) : Rt (n + 2) 30 [tn x] g (.f (.int (o : Int))) g := by
  have hlt : ∀ k, ∀ s ∈ pow m x k, s < x.length := fun k s hs => by rw [hx.len]; exact (hx.pow k).lt s hs
  have loop : evS tab (callD tab fns (n + 1)) (.while (.cmp .ne (.var 1) (.trg .nop (.blt .len [(.var 0)]))) [.par [.nm 1, .nm 2] [(.call 24 [(.var 1), (.var 0)]), (.bin .add (.var 2) (.int 1))]]) (stE m x g 1) = .ok .nx (stE m x g o) :=
    while_up (stE m x g) O.pos (FU_gt (by have := ord_small O hm; omega)) (cond_E hx hm o (decide_eq_true O.one)) fun k h1 h2 => ⟨cond_E hx hm k (decide_eq_false (O.min k h1 h2)), by
        have e5 : evE tab (callD tab fns (n + 1)) (.call 24 [(.var 1), (.var 0)]) (stE m x g k) = .ok (.f (tn (pow m x (k + 1)))) (stE m x g k) :=
          ev_call (s1 := stE m x g k) (s2 := stE m x g k) (evEs_cons rfl (evEs_cons rfl evEs_nil)) rfl (ret_followed (hlt k) (pow_lim hx hm k))
        have e6 : evE tab (callD tab fns (n + 1)) (.bin .add (.var 2) (.int 1)) (stE m x g k) = .ok (.f (.int ((k + 1 : Nat) : Int))) (stE m x g k) := rfl
        exact (evSs_nx (evS_par (evEs_cons e5 (evEs_cons e6 evEs_nil)) rfl rfl)).trans rfl⟩
  refine ret_body (bd := b30) (m := 3) (p := 1) rfl rfl (by decide) (r := [some (.f (tn x)), some (.f (tn (pow m x o))), some (.f (.int (o : Int)))]) ?_
  refine (evSs_nx (s1 := stE m x g 1) ?_).trans ((evSs_nx loop).trans (evSs_rt (evS_ret rfl rfl)))
  show _ = Res.ok Fl.nx (⟨[some (.f (tn x)), some (.f (tn (pow m x 1))), some (.f (.int ((1 : Nat) : Int)))], g⟩ : S)
  rw [pow_one hx]
  rfl
/-! ### powers -/
def stT (m : Nat) (x : List Nat) (i : Int) (g : G) (k : Nat) (y : Option DV) : S := ⟨[some (.f (tn x)), some (.f (.int i)), some (.f (tn (pow m x k))), y], g⟩
theorem times_loop {c q : Nat} {e : E} {i : Int} (hc : ∀ k, Rt n c [tn (pow m x k), tn x] g (.f (tn (pow m x (k + 1)))) g) (he : srcM e (evE tab (callD tab fns n) e) (stT m x i g 0 none) = .ok (.f (.int (q : Int))) (stT m x i g 0 none)) (hq : q ≤ 2 ^ 61) :
    ∃ y, evS tab (callD tab fns n) (.for (.nm 3) .rng (.int 0) e [.set 2 (.call c [(.var 2), (.var 0)])]) (stT m x i g 0 none) = .ok .nx (stT m x i g q y) :=
  for_rng (stT m x i g) none hq rfl he rfl rfl fun k y hk => ⟨stT m x i g k (some (.f (.int (k : Int)))), some (.f (.int (k : Int))), rfl,
    (evSs_nx (evS_setK (ev_call (s1 := stT m x i g k (some (.f (.int (k : Int))))) (s2 := stT m x i g k (some (.f (.int (k : Int))))) (evEs_cons rfl (evEs_cons rfl evEs_nil)) rfl (hc k)) rfl)).trans rfl⟩
theorem mod_toNat (O : Ord m x o) (i : Int) : ((i % (o : Int)).toNat : Int) = i % (o : Int) := by
  have := Int.emod_nonneg i (show (o : Int) ≠ 0 by have := O.pos; omega)
  omega
theorem mod_small (O : Ord m x o) (hm : m ≤ 8) (i : Int) : (i % (o : Int)).toNat ≤ 2 ^ 61 := by
  have := Int.emod_lt_of_pos i (show 0 < (o : Int) by have := O.pos; omega)
  have := ord_small O hm
  omega
theorem mod_bin (O : Ord m x o) (i : Int) : binD .mod (.int i) (.int (o : Int)) = some (.f (.int ((i % (o : Int)).toNat : Int))) := by
  show (if 0 < (o : Int) then some (DV.f (.int (i % (o : Int)))) else none) = _
  rw [if_pos (by have := O.pos; omega), mod_toNat O]
theorem idP_set {Φ : Fns} {i : Int} (hx : IsP m x) (hm : m ≤ 8) : evS tab Φ (.set 2 (.trg .nop (.blt .len [(.var 0)]))) ⟨[some (.f (tn x)), some (.f (.int i)), none, none], g⟩ = .ok .nx (stT m x i g 0 none) :=
  evS_setK (ev_idP (s := ⟨[some (.f (tn x)), some (.f (.int i)), none, none], g⟩) rfl hx.len (by omega)) rfl
/-- _law_times -/
theorem ret_times (hx : IsP m x) (O : Ord m x o) (hm : m ≤ 8) (i : Int) : Rt (n + 3) 18 [tn x, .int i] g (.f (tn (pz m o x i))) g := by
  have hlt : ∀ k, ∀ s ∈ pow m x k, s < x.length := fun k s hs => by rw [hx.len]; exact (hx.pow k).lt s hs
  obtain ⟨y, e⟩ := times_loop (n := n + 2) (m := m) (x := x) (i := i) (g := g) (c := 5) (e := .bin .mod (.blt .int [(.var 1)]) (.call 17 [(.var 0)])) (fun k => ret_after (n := n + 1) (hlt k) (pow_lim hx hm k))
    (show evE tab (callD tab fns (n + 2)) (.bin .mod (.blt .int [(.var 1)]) (.call 17 [(.var 0)])) _ = _ from
      ev_bin2 (s1 := stT m x i g 0 none) (s2 := stT m x i g 0 none) (x := .f (.int i)) (da := .int i) rfl (ev_call (s1 := stT m x i g 0 none) (s2 := stT m x i g 0 none) (evEs_cons rfl evEs_nil) rfl (ret_order hx O hm)) rfl rfl (mod_bin O i)) (mod_small O hm i)
  exact ret_body (bd := b18) (m := 4) (p := 2) rfl rfl (by decide) ((evSs_nx (idP_set hx hm)).trans ((evSs_nx e).trans (evSs_rt (evS_ret rfl rfl))))
/-- effect_times -/
theorem ret_times32 (hx : IsP m x) (O : Ord m x o) (hm : m ≤ 8) (i : Int) : Rt (n + 3) 32 [tn x, .int i] g (.f (tn (pz m o x i))) g := by
  have hlt : ∀ k, ∀ s ∈ pow m x k, s < x.length := fun k s hs => by rw [hx.len]; exact (hx.pow k).lt s hs
  obtain ⟨y, e⟩ := times_loop (n := n + 2) (m := m) (x := x) (i := i) (g := g) (c := 24) (e := .bin .mod (.var 1) (.call 30 [(.var 0)])) (fun k => ret_followed (n := n + 1) (hlt k) (pow_lim hx hm k))
    (show evE tab (callD tab fns (n + 2)) (.bin .mod (.var 1) (.call 30 [(.var 0)])) _ = _ from
      ev_bin2 (s1 := stT m x i g 0 none) (s2 := stT m x i g 0 none) (x := .f (.int i)) (da := .int i) rfl (ev_call (s1 := stT m x i g 0 none) (s2 := stT m x i g 0 none) (evEs_cons rfl evEs_nil) rfl (ret_order30 hx O hm)) rfl rfl (mod_bin O i)) (mod_small O hm i)
  exact ret_body (bd := b32) (m := 4) (p := 2) rfl rfl (by decide) ((evSs_nx (idP_set hx hm)).trans ((evSs_nx e).trans (evSs_rt (evS_ret rfl rfl))))
end
end LK

set_option Elab.async false
set_option linter.all false
set_option maxRecDepth 100000
set_option maxHeartbeats 4000000
/-! K29d: rows, columns, machines. Own text. -/
namespace LK
open PySem (Str)
open DI PM
def col (rs : List (List Nat)) (c : Nat) : List Nat := rs.map fun r => r.getD c 0
def cols (K : Nat) (rs : List (List Nat)) : List (List Nat) := (List.range K).map (col rs)
def tl (r : List Nat) : D := .lst (r.map fun (n : Nat) => .int n)
def rowsL (rs : List (List Nat)) : D := .lst (rs.map tl)
def rowsT (rs : List (List Nat)) : D := .tup (rs.map tn)
def mc (K m : Nat) (rs : List (List Nat)) : D := .ins 0 [.int (K : Int), .int (m : Int), rowsT rs]
structure Rev (K m : Nat) (rs : List (List Nat)) : Prop where
  kpos : 0 < K
  kle : K ≤ 3
  mpos : 0 < m
  mle : m ≤ 8
  len : rs.length = m
  row : ∀ r ∈ rs, r.length = K
  col : ∀ c, c < K → IsP m (col rs c)
theorem at_nat {xs : List D} {i : Nat} (h : i < xs.length) : atI xs (i : Int) = some xs[i] := by
  unfold atI
  rw [if_pos (by omega), Int.toNat_natCast, List.getElem?_eq_getElem h]
theorem ix_tl {r : List Nat} {c : Nat} (h : c < r.length) : ixD (tl r) (.int (c : Int)) = some (.int (r.getD c 0 : Nat)) := by
  show atI (r.map fun (n : Nat) => D.int n) c = _
  rw [at_nat (by rw [List.length_map]; exact h), List.getElem_map, List.getD_eq_getElem?_getD, List.getElem?_eq_getElem h]
  rfl
theorem filt_true {α β : Type} (l : List α) (f : α → β) : (l.filter fun _ => true).map f = l.map f := by
  rw [List.filter_eq_self.mpr (fun _ _ => rfl)]
section
variable {K m o n : Nat} {rs : List (List Nat)} {g : G}
theorem mlim (R : Rev K m rs) : rs.length ≤ lim := by
  have hlim : (8 : Nat) ≤ lim := by decide
  have := R.mle
  rw [R.len]
  omega
/-- _law_column -/
theorem ret_col (R : Rev K m rs) {c : Nat} (hc : c < K) : Rt (n + 1) 7 [rowsL rs, .int (c : Int)] g (.f (tn (col rs c))) g := by
  refine ret_body (bd := b7) (m := 3) (p := 2) rfl rfl (by decide) (r := [some (.f (rowsL rs)), some (.f (.int (c : Int))), none]) ?_
  have e := lc_pure (T := tab) (Φ := callD tab fns n) (i := 2) (r := [some (.f (rowsL rs)), some (.f (.int (c : Int))), none]) (g := g) (k := .val) (a := .var 0) (b := .nop) (c := .nop) (e := .ix (.var 2) (.var 1)) (v := .f (rowsL rs)) (xs := rowsL rs) (y := .f .non) (dy := .non) (ds := rs.map tl)
    (p := fun _ => true) (f := fun d => match ixD d (.int (c : Int)) with | some v => v | none => d) (by show 2 < 3; decide) rfl rfl rfl rfl rfl (fun d hd => by
      obtain ⟨r, hr, rfl⟩ := List.mem_map.mp hd
      refine ⟨rfl, fun _ => ?_⟩
      have h1 := ix_tl (r := r) (c := c) (by rw [R.row r hr]; exact hc)
      rw [bnd_of (ev_ix (T := tab) (a := .var 2) (i := .var 1) rfl rfl rfl rfl h1), h1]
      rfl) (by rw [List.length_map]; exact mlim R)
  rw [filt_true, List.map_map] at e
  have e2 : rs.map ((fun d => match ixD d (.int (c : Int)) with | some v => v | none => d) ∘ tl) = (col rs c).map fun (n : Nat) => D.int n := by
    unfold col
    rw [List.map_map]
    refine List.map_congr_left fun r hr => ?_
    show (match ixD (tl r) (.int (c : Int)) with | some v => v | none => tl r) = D.int (r.getD c 0 : Nat)
    rw [ix_tl (by rw [R.row r hr]; exact hc)]
  rw [e2] at e
  exact evSs_rt (evS_ret (ev_blt e rfl rfl) rfl)
theorem fld0 {Φ : Fns} {s : S} {i : Nat} (h : evE tab Φ (.var i) s = .ok (.f (mc K m rs)) s) : evE tab Φ (.fld (.var i) 0) s = .ok (.f (.int (K : Int))) s := by
  show bnd (evE tab Φ (.var i)) _ _ = _
  rw [bnd_of h]
  rfl
theorem fld1 {Φ : Fns} {s : S} {i : Nat} (h : evE tab Φ (.var i) s = .ok (.f (mc K m rs)) s) : evE tab Φ (.fld (.var i) 1) s = .ok (.f (.int (m : Int))) s := by
  show bnd (evE tab Φ (.var i)) _ _ = _
  rw [bnd_of h]
  rfl
theorem fld2 {Φ : Fns} {s : S} {i : Nat} (h : evE tab Φ (.var i) s = .ok (.f (mc K m rs)) s) : evE tab Φ (.fld (.var i) 2) s = .ok (.f (rowsT rs)) s := by
  show bnd (evE tab Φ (.var i)) _ _ = _
  rw [bnd_of h]
  rfl
theorem ev_tcol {Φ : Fns} (R : Rev K m rs) {c : Nat} (hc : c < K) : evE tab Φ (.blt .tuple [(.lc [2] (.nm 2) .val (.fld (.var 0) 2) .nop .nop (.ix (.var 2) (.var 1)))]) ⟨[some (.f (mc K m rs)), some (.f (.int (c : Int))), none], g⟩ = .ok (.f (tn (col rs c))) ⟨[some (.f (mc K m rs)), some (.f (.int (c : Int))), none], g⟩ := by
  have e := lc_pure (T := tab) (Φ := Φ) (i := 2) (r := [some (.f (mc K m rs)), some (.f (.int (c : Int))), none]) (g := g) (k := .val) (a := .fld (.var 0) 2) (b := .nop) (c := .nop) (e := .ix (.var 2) (.var 1)) (v := .f (rowsT rs)) (xs := rowsT rs) (y := .f .non) (dy := .non) (ds := rs.map tn)
    (p := fun _ => true) (f := fun d => match ixD d (.int (c : Int)) with | some v => v | none => d) (by show 2 < 3; decide) (fld2 rfl) rfl rfl rfl rfl (fun d hd => by
      obtain ⟨r, hr, rfl⟩ := List.mem_map.mp hd
      refine ⟨rfl, fun _ => ?_⟩
      have h1 := ixD_tn (xs := r) (s := c) (by rw [R.row r hr]; exact hc)
      rw [bnd_of (ev_ix (T := tab) (a := .var 2) (i := .var 1) rfl rfl rfl rfl h1), h1]
      rfl) (by rw [List.length_map]; exact mlim R)
  rw [filt_true, List.map_map] at e
  have e2 : rs.map ((fun d => match ixD d (.int (c : Int)) with | some v => v | none => d) ∘ tn) = (col rs c).map fun (n : Nat) => D.int n := by
    unfold col
    rw [List.map_map]
    refine List.map_congr_left fun r hr => ?_
    show (match ixD (tn r) (.int (c : Int)) with | some v => v | none => tn r) = D.int (r.getD c 0 : Nat)
    rw [ixD_tn (by rw [R.row r hr]; exact hc)]
  rw [e2] at e
  exact ev_blt e rfl rfl
/-- single_effects -/
theorem ret_singles (R : Rev K m rs) : Rt (n + 1) 26 [mc K m rs] g (.o ((cols K rs).map tn)) g := by
  refine ret_body (bd := b26) (m := 3) (p := 1) rfl rfl (by decide) (r := [some (.f (mc K m rs)), none, none]) ?_
  have e := lc_pure (T := tab) (Φ := callD tab fns n) (i := 1) (r := [some (.f (mc K m rs)), none, none]) (g := g) (k := .rng) (a := .int 0) (b := .fld (.var 0) 0) (c := .nop) (e := .blt .tuple [(.lc [2] (.nm 2) .val (.fld (.var 0) 2) .nop .nop (.ix (.var 2) (.var 1)))]) (v := .f (.int 0)) (xs := .int 0) (y := .f (.int (K : Int))) (dy := .int (K : Int)) (ds := (List.range K).map fun (i : Nat) => D.int (i : Int))
    (p := fun _ => true) (f := fun d => match d with | .int c => tn (col rs c.toNat) | d => d) (by show 1 < 3; decide) rfl (fld0 (m := m) (rs := rs) rfl) rfl rfl (by rw [items_rng (by omega) (by have := R.kle; omega), rngI_eq]) (fun d hd => by
      obtain ⟨c, hc, rfl⟩ := List.mem_map.mp hd
      refine ⟨rfl, fun _ => ?_⟩
      have h1 := ev_tcol (Φ := callD tab fns n) (g := g) R (List.mem_range.mp hc)
      exact (bnd_of h1).trans rfl) (by
        have hlim : (8 : Nat) ≤ lim := by decide
        have := R.kle
        rw [List.length_map, List.length_range]
        omega)
  rw [filt_true, List.map_map] at e
  have e2 : (List.range K).map ((fun d => match d with | .int c => tn (col rs c.toNat) | d => d) ∘ fun (i : Nat) => D.int (i : Int)) = (cols K rs).map tn := by
    unfold cols
    rw [List.map_map]
    rfl
  rw [e2] at e
  exact evSs_rt (evS_ret e rfl)
end
end LK

set_option Elab.async false
set_option linter.all false
set_option maxRecDepth 100000
set_option maxHeartbeats 4000000
/-! K29e: reversible or not, the shift. Own text. -/
namespace LK
open PySem (Str)
open DI PM
theorem firsts_go : ∀ (l acc : List Int), (acc ++ l).Nodup → l.foldl (fun acc x => if acc.any (· == x) then acc else acc ++ [x]) acc = acc ++ l
  | [], acc, _ => by simp
  | x :: l, acc, h => by
    have hx : acc.any (· == x) = false := by
      rw [List.any_eq_false]
      intro y hy
      have := (List.nodup_append.mp h).2.2 y hy x List.mem_cons_self
      simpa using this
    rw [List.foldl_cons, hx, if_neg Bool.false_ne_true, firsts_go l (acc ++ [x]) (by simpa using h)]
    simp
theorem firsts_nodup {l : List Int} (h : l.Nodup) : firsts l = l := firsts_go l [] (by simpa using h)
theorem ints_nat : ∀ l : List Nat, intsD (l.map fun (n : Nat) => D.int n) = some (l.map fun (n : Nat) => (n : Int))
  | [] => rfl
  | x :: l => by
    show (intsD (l.map fun (n : Nat) => D.int n)).map ((x : Int) :: ·) = _
    rw [ints_nat l]
    rfl
section
variable {K m o n : Nat} {rs : List (List Nat)} {g : G}
theorem lenset_P {x : List Nat} (hx : IsP m x) (hm : m ≤ 8) : bltD .lenset [tn x] = some (.f (.int (m : Int))) := by
  show (intsD (x.map fun (n : Nat) => D.int n)).bind _ = _
  rw [ints_nat]
  show (if (x.map fun (n : Nat) => (n : Int)).length ≤ 4000 then some (DV.f (.int ((firsts (x.map fun (n : Nat) => (n : Int))).length : Int))) else none) = _
  have hnd : (x.map fun (n : Nat) => (n : Int)).Nodup := by
    refine List.Pairwise.map _ (fun a b h => ?_) hx.nd
    omega
  rw [firsts_nodup hnd, List.length_map, if_pos (by rw [hx.len]; omega), hx.len]
theorem cols_get {c : Nat} (h : c < (cols K rs).length) : (cols K rs)[c] = col rs c := by
  simp only [cols, List.getElem_map, List.getElem_range]
theorem cols_len : (cols K rs).length = K := by
  unfold cols
  rw [List.length_map, List.length_range]
def stF (K m : Nat) (rs : List (List Nat)) (g : G) (p : Option DV × Option DV) : S := ⟨[some (.f (mc K m rs)), p.1, p.2], g⟩
/-- first_merging -/
theorem ret_first (R : Rev K m rs) : Rt (n + 2) 27 [mc K m rs] g (.f .non) g := by
  obtain ⟨y, e⟩ := forGo_st (σ := Option DV × Option DV) (st := asgT (.tp [(.nm 1), (.nm 2)])) (body := evSs tab (callD tab fns (n + 1)) [.ifs (.cmp .lt (.blt .lenset [(.var 2)]) (.fld (.var 0) 1)) [.ret (.var 1)] []]) (fun _ => stF K m rs g) ((((cols K rs).map tn).zipIdx).map fun p => D.tup [.int p.2, p.1]) 0 (none, none) (fun k hk y => by
    rw [List.length_map, List.length_zipIdx, List.length_map, cols_len] at hk
    rw [List.getElem_map, List.getElem_zipIdx, List.getElem_map, cols_get]
    refine ⟨stF K m rs g (some (.f (.int ((0 + k : Nat) : Int))), some (.f (tn (col rs k)))), (some (.f (.int ((0 + k : Nat) : Int))), some (.f (tn (col rs k)))), rfl, ?_⟩
    have e1 : evE tab (callD tab fns (n + 1)) (.cmp .lt (.blt .lenset [(.var 2)]) (.fld (.var 0) 1)) (stF K m rs g (some (.f (.int ((0 + k : Nat) : Int))), some (.f (tn (col rs k))))) = .ok (.f (.bl false)) (stF K m rs g (some (.f (.int ((0 + k : Nat) : Int))), some (.f (tn (col rs k))))) :=
      ev_cmp (x := .f (.int (m : Int))) (w := .f (.int (m : Int))) (ev_blt (x := .f (tn (col rs k))) (d := tn (col rs k)) rfl rfl (lenset_P (R.col k hk) R.mle)) (fld1 (K := K) (rs := rs) rfl) rfl rfl (by
        show some (decide ((m : Int) < m)) = _
        rw [decide_eq_false (Int.lt_irrefl _)])
    exact (evSs_nx ((evS_ifs e1).trans rfl)).trans rfl)
  have e2 : evS tab (callD tab fns (n + 1)) (.for (.tp [(.nm 1), (.nm 2)]) .enum (.call 26 [(.var 0)]) .nop [.ifs (.cmp .lt (.blt .lenset [(.var 2)]) (.fld (.var 0) 1)) [.ret (.var 1)] []]) (stF K m rs g (none, none)) = .ok .nx (stF K m rs g y) :=
    (evS_for (ev_call (s1 := stF K m rs g (none, none)) (s2 := stF K m rs g (none, none)) (evEs_cons rfl evEs_nil) rfl (ret_singles R)) rfl rfl rfl rfl).trans e
  exact ret_body (bd := b27) (m := 3) (p := 1) rfl rfl (by decide) ((evSs_nx e2).trans (evSs_rt (evS_ret rfl rfl)))
/-- need_reversible -/
theorem ret_need (R : Rev K m rs) : Rt (n + 3) 28 [mc K m rs] g (.f .non) g := by
  have e1 : evS tab (callD tab fns (n + 2)) (.set 1 (.call 27 [(.var 0)])) ⟨[some (.f (mc K m rs)), none], g⟩ = .ok .nx ⟨[some (.f (mc K m rs)), some (.f .non)], g⟩ :=
    evS_setK (ev_call (s1 := ⟨[some (.f (mc K m rs)), none], g⟩) (s2 := ⟨[some (.f (mc K m rs)), none], g⟩) (evEs_cons rfl evEs_nil) rfl (ret_first R)) rfl
  exact ret_body_nx (bd := b28) (m := 2) (p := 1) rfl rfl (by decide) ((evSs_nx e1).trans rfl)
/-- _law_shift -/
theorem ret_lshift (R : Rev K m rs) {b c : Nat} (hb : b < K) (hc : c < K) (O : Ord m (col rs b) o) (i : Int) : Rt (n + 4) 19 [rowsL rs, .int (b : Int), .int (c : Int), .int i] g (.f (tn (shiftP m o (col rs b) (col rs c) i))) g := by
  have hx := R.col b hb
  have hcc := R.col c hc
  have e1 : evS tab (callD tab fns (n + 3)) (.set 4 (.call 7 [(.var 0), (.var 1)])) ⟨[some (.f (rowsL rs)), some (.f (.int (b : Int))), some (.f (.int (c : Int))), some (.f (.int i)), none], g⟩ = .ok .nx ⟨[some (.f (rowsL rs)), some (.f (.int (b : Int))), some (.f (.int (c : Int))), some (.f (.int i)), some (.f (tn (col rs b)))], g⟩ :=
    evS_setK (ev_call (s1 := ⟨[some (.f (rowsL rs)), some (.f (.int (b : Int))), some (.f (.int (c : Int))), some (.f (.int i)), none], g⟩) (s2 := ⟨[some (.f (rowsL rs)), some (.f (.int (b : Int))), some (.f (.int (c : Int))), some (.f (.int i)), none], g⟩) (evEs_cons rfl (evEs_cons rfl evEs_nil)) rfl (ret_col R hb)) rfl
  generalize hs : (⟨[some (.f (rowsL rs)), some (.f (.int (b : Int))), some (.f (.int (c : Int))), some (.f (.int i)), some (.f (tn (col rs b)))], g⟩ : S) = s at e1
  have hg : s.g = g := by rw [← hs]
  have v0 : evE tab (callD tab fns (n + 3)) (.var 0) s = .ok (.f (rowsL rs)) s := by rw [← hs]; rfl
  have v2 : evE tab (callD tab fns (n + 3)) (.var 2) s = .ok (.f (.int (c : Int))) s := by rw [← hs]; rfl
  have v3 : evE tab (callD tab fns (n + 3)) (.var 3) s = .ok (.f (.int i)) s := by rw [← hs]; rfl
  have v4 : evE tab (callD tab fns (n + 3)) (.var 4) s = .ok (.f (tn (col rs b))) s := by rw [← hs]; rfl
  have cl : ∀ {f : Nat} {e1 e2 : E} {d1 d2 d : D}, evE tab (callD tab fns (n + 3)) e1 s = .ok (.f d1) s → evE tab (callD tab fns (n + 3)) e2 s = .ok (.f d2) s → Rt (n + 3) f [d1, d2] g (.f d) g → evE tab (callD tab fns (n + 3)) (.call f [e1, e2]) s = .ok (.f d) s := fun h1 h2 h3 => by
    have := ev_call (s1 := s) (s2 := s) (evEs_cons h1 (evEs_cons h2 evEs_nil)) rfl (by rw [hg]; exact h3)
    rw [this, ← hg]
  have a1 := cl v4 v3 (ret_times (n := n) hx O R.mle i)
  have a2 := cl v0 v2 (ret_col (n := n + 2) R hc)
  have a3 := cl a1 a2 (ret_after (n := n + 2) (fun s hs => by rw [hcc.len]; exact (hx.pow _).lt s hs) (pow_lim hx R.mle _))
  have b1 : evE tab (callD tab fns (n + 3)) (.bin .sub (.bin .sub (.int 0) (.var 3)) (.int 1)) s = .ok (.f (.int (-i - 1))) s :=
    ev_bin (da := .int (0 - i)) (db := .int 1) (ev_bin (da := .int 0) (db := .int i) rfl v3 rfl) rfl (by
      show some (DV.f (.int (0 - i - 1))) = _
      rw [Int.zero_sub])
  have a4 := cl v4 b1 (ret_times (n := n) hx O R.mle (-i - 1))
  have hcp : IsP m (comp (pz m o (col rs b) i) (col rs c)) := (hx.pz i).comp hcc
  have a5 := cl a3 a4 (ret_after (n := n + 2) (fun s hs => by rw [(hx.pz (-i - 1)).len]; exact hcp.lt s hs) (by
    have hlim : (8 : Nat) ≤ lim := by decide
    have := R.mle
    rw [hcp.len]
    omega))
  obtain ⟨rr, gg⟩ := s
  cases hg
  exact ret_body (bd := b19) (m := 5) (p := 4) rfl rfl (by decide) ((evSs_nx e1).trans (evSs_rt (evS_ret a5 rfl)))
end
end LK

set_option Elab.async false
set_option linter.all false
set_option maxRecDepth 100000
set_option maxHeartbeats 4000000
/-! K29f: the program's shift, effects of rows. Own text. -/
namespace LK
open PySem (Str)
open DI PM
section
variable {K m o n : Nat} {rs : List (List Nat)} {g : G}
theorem call1 {s : S} {f : Nat} {e1 : E} {d1 : D} {v : DV} (h1 : evE tab (callD tab fns n) e1 s = .ok (.f d1) s) (h3 : Rt n f [d1] s.g v s.g) : evE tab (callD tab fns n) (.call f [e1]) s = .ok v s :=
  ev_call (s1 := s) (s2 := s) (evEs_cons h1 evEs_nil) rfl h3
theorem call2 {s : S} {f : Nat} {e1 e2 : E} {d1 d2 : D} {v : DV} (h1 : evE tab (callD tab fns n) e1 s = .ok (.f d1) s) (h2 : evE tab (callD tab fns n) e2 s = .ok (.f d2) s) (h3 : Rt n f [d1, d2] s.g v s.g) : evE tab (callD tab fns n) (.call f [e1, e2]) s = .ok v s :=
  ev_call (s1 := s) (s2 := s) (evEs_cons h1 (evEs_cons h2 evEs_nil)) rfl h3
theorem call3 {s : S} {f : Nat} {e1 e2 e3 : E} {d1 d2 d3 : D} {v : DV} (h1 : evE tab (callD tab fns n) e1 s = .ok (.f d1) s) (h2 : evE tab (callD tab fns n) e2 s = .ok (.f d2) s) (h4 : evE tab (callD tab fns n) e3 s = .ok (.f d3) s) (h3 : Rt n f [d1, d2, d3] s.g v s.g) : evE tab (callD tab fns n) (.call f [e1, e2, e3]) s = .ok v s :=
  ev_call (s1 := s) (s2 := s) (evEs_cons h1 (evEs_cons h2 (evEs_cons h4 evEs_nil))) rfl h3
theorem call4 {s : S} {f : Nat} {e1 e2 e3 e4 : E} {d1 d2 d3 d4 : D} {v : DV} (h1 : evE tab (callD tab fns n) e1 s = .ok (.f d1) s) (h2 : evE tab (callD tab fns n) e2 s = .ok (.f d2) s) (h4 : evE tab (callD tab fns n) e3 s = .ok (.f d3) s) (h5 : evE tab (callD tab fns n) e4 s = .ok (.f d4) s) (h3 : Rt n f [d1, d2, d3, d4] s.g v s.g) : evE tab (callD tab fns n) (.call f [e1, e2, e3, e4]) s = .ok v s :=
  ev_call (s1 := s) (s2 := s) (evEs_cons h1 (evEs_cons h2 (evEs_cons h4 (evEs_cons h5 evEs_nil)))) rfl h3
theorem ix_cols {c : Nat} (h : c < K) : ixD (.lst ((cols K rs).map tn)) (.int (c : Int)) = some (tn (col rs c)) := by
  show atI _ _ = _
  rw [at_nat (by rw [List.length_map, cols_len]; exact h), List.getElem_map, cols_get]
theorem isP_lim {x : List Nat} (hx : IsP m x) (hm : m ≤ 8) : x.length ≤ lim := by
  have hlim : (8 : Nat) ≤ lim := by decide
  rw [hx.len]
  omega
theorem ret_after' {x y : List Nat} (hx : IsP m x) (hy : IsP m y) (hm : m ≤ 8) : Rt (n + 1) 5 [tn x, tn y] g (.f (tn (comp x y))) g :=
  ret_after (fun s hs => by rw [hy.len]; exact hx.lt s hs) (isP_lim hx hm)
theorem ret_followed' {x y : List Nat} (hx : IsP m x) (hy : IsP m y) (hm : m ≤ 8) : Rt (n + 1) 24 [tn x, tn y] g (.f (tn (comp x y))) g :=
  ret_followed (fun s hs => by rw [hy.len]; exact hx.lt s hs) (isP_lim hx hm)
/-- shift -/
theorem ret_shift (R : Rev K m rs) {b c : Nat} (hb : b < K) (hc : c < K) (O : Ord m (col rs b) o) (i : Int) : Rt (n + 4) 33 [mc K m rs, .int (b : Int), .int (c : Int), .int i] g (.f (tn (shiftP m o (col rs b) (col rs c) i))) g := by
  have hx := R.col b hb
  have hcc := R.col c hc
  let st : Option DV → Option DV → S := fun y z => ⟨[some (.f (mc K m rs)), some (.f (.int (b : Int))), some (.f (.int (c : Int))), some (.f (.int i)), y, z], g⟩
  have e1 : evS tab (callD tab fns (n + 3)) (.expr (.call 28 [(.var 0)])) (st none none) = .ok .nx (st none none) :=
    evS_expr (call1 (s := st none none) rfl (ret_need R))
  have e2 : evS tab (callD tab fns (n + 3)) (.set 4 (.call 26 [(.var 0)])) (st none none) = .ok .nx (st (some (.o ((cols K rs).map tn))) none) :=
    evS_setK (call1 (s := st none none) rfl (ret_singles R)) rfl
  have i1 : ∀ z, evE tab (callD tab fns (n + 3)) (.ix (.var 4) (.var 1)) (st (some (.o ((cols K rs).map tn))) z) = .ok (.f (tn (col rs b))) (st (some (.o ((cols K rs).map tn))) z) := fun z =>
    ev_ix (x := .b 4) (da := .lst ((cols K rs).map tn)) rfl rfl rfl rfl (ix_cols hb)
  have i2 : ∀ z, evE tab (callD tab fns (n + 3)) (.ix (.var 4) (.var 2)) (st (some (.o ((cols K rs).map tn))) z) = .ok (.f (tn (col rs c))) (st (some (.o ((cols K rs).map tn))) z) := fun z =>
    ev_ix (x := .b 4) (da := .lst ((cols K rs).map tn)) rfl rfl rfl rfl (ix_cols hc)
  have hcp : IsP m (comp (pz m o (col rs b) i) (col rs c)) := (hx.pz i).comp hcc
  have e3 : evS tab (callD tab fns (n + 3)) (.set 5 (.call 24 [(.call 32 [(.ix (.var 4) (.var 1)), (.var 3)]), (.ix (.var 4) (.var 2))])) (st (some (.o ((cols K rs).map tn))) none) = .ok .nx (st (some (.o ((cols K rs).map tn))) (some (.f (tn (comp (pz m o (col rs b) i) (col rs c)))))) :=
    evS_setK (call2 (call2 (i1 none) rfl (ret_times32 hx O R.mle i)) (i2 none) (ret_followed' (hx.pz i) hcc R.mle)) rfl
  have e4 : evE tab (callD tab fns (n + 3)) (.bin .sub (.neg (.var 3)) (.int 1)) (st (some (.o ((cols K rs).map tn))) (some (.f (tn (comp (pz m o (col rs b) i) (col rs c)))))) = .ok (.f (.int (-i - 1))) (st (some (.o ((cols K rs).map tn))) (some (.f (tn (comp (pz m o (col rs b) i) (col rs c)))))) := rfl
  have e5 := call2 (n := n + 3) (f := 24) (e1 := .var 5) (d1 := tn (comp (pz m o (col rs b) i) (col rs c))) (s := st (some (.o ((cols K rs).map tn))) (some (.f (tn (comp (pz m o (col rs b) i) (col rs c)))))) rfl (call2 (i1 _) e4 (ret_times32 hx O R.mle (-i - 1))) (ret_followed' hcp (hx.pz (-i - 1)) R.mle)
  exact ret_body (bd := b33) (m := 6) (p := 4) rfl rfl (by decide) ((evSs_nx e1).trans ((evSs_nx e2).trans ((evSs_nx e3).trans (evSs_rt (evS_ret e5 rfl)))))
end
end LK

set_option Elab.async false
set_option linter.all false
set_option maxRecDepth 100000
set_option maxHeartbeats 4000000
/-! K29g: effects of rows. Own text. -/
namespace LK
open PySem (Str)
open DI PM
def led (rs : List (List Nat)) (s : Nat) (row : List Nat) : Nat := row.foldl (fun s c => (col rs c).getD s 0) s
section
variable {K m o n : Nat} {rs : List (List Nat)} {g : G}
theorem col_getD {c s : Nat} (h : s < rs.length) : (col rs c).getD s 0 = (rs.getD s []).getD c 0 := by
  unfold col
  rw [List.getD_eq_getElem?_getD, List.getElem?_map, List.getElem?_eq_getElem h, List.getD_eq_getElem?_getD (l := rs), List.getElem?_eq_getElem h]
  rfl
theorem ix_rowsL {s : Nat} (h : s < rs.length) : ixD (rowsL rs) (.int (s : Int)) = some (tl (rs.getD s [])) := by
  show atI _ _ = _
  rw [at_nat (by rw [List.length_map]; exact h), List.getElem_map, List.getD_eq_getElem?_getD, List.getElem?_eq_getElem h]
  rfl
theorem ix_rowsT {s : Nat} (h : s < rs.length) : ixD (rowsT rs) (.int (s : Int)) = some (tn (rs.getD s [])) := by
  show atI _ _ = _
  rw [at_nat (by rw [List.length_map]; exact h), List.getElem_map, List.getD_eq_getElem?_getD, List.getElem?_eq_getElem h]
  rfl
theorem row_len (R : Rev K m rs) {s : Nat} (h : s < m) : (rs.getD s []).length = K := by
  have h' : s < rs.length := by rw [R.len]; exact h
  rw [List.getD_eq_getElem?_getD, List.getElem?_eq_getElem h']
  exact R.row _ (List.getElem_mem h')
theorem getD_lt {x : List Nat} (hx : IsP m x) {s : Nat} (h : s < m) : x.getD s 0 < m := by
  have h' : s < x.length := by rw [hx.len]; exact h
  rw [List.getD_eq_getElem?_getD, List.getElem?_eq_getElem h']
  exact hx.lt _ (List.getElem_mem h')
theorem led_lt (R : Rev K m rs) : ∀ (row : List Nat) (s : Nat), (∀ c ∈ row, c < K) → s < m → led rs s row < m
  | [], s, _, hs => hs
  | c :: row, s, h, hs => led_lt R row _ (fun c' hc => h c' (List.mem_cons_of_mem _ hc)) (getD_lt (R.col c (h c List.mem_cons_self)) hs)
theorem led_take {row : List Nat} {s k : Nat} (h : k < row.length) : led rs s (row.take (k + 1)) = (col rs row[k]).getD (led rs s (row.take k)) 0 := by
  unfold led
  rw [List.take_succ_eq_append_getElem h, List.foldl_append]
  rfl
def stL (rs : List (List Nat)) (row : List Nat) (s : Nat) (g : G) (k : Nat) (y : Option DV) : S := ⟨[some (.f (rowsL rs)), some (.f (.int (led rs s (row.take k) : Nat))), some (.f (tn row)), y], g⟩
/-- _law_end -/
theorem ret_end (R : Rev K m rs) {row : List Nat} (hr : ∀ c ∈ row, c < K) {s : Nat} (hs : s < m) : Rt (n + 1) 9 [rowsL rs, .int (s : Int), tn row] g (.f (.int (led rs s row : Nat))) g := by
  obtain ⟨y, e⟩ := forGo_st (σ := Option DV) (st := asgT (.nm 3)) (body := evSs tab (callD tab fns n) [.set 1 (.ix (.ix (.var 0) (.var 1)) (.var 3))]) (stL rs row s g) (row.map fun (n : Nat) => D.int n) 0 none (fun k hk y => by
    rw [List.length_map] at hk
    rw [List.getElem_map, Nat.zero_add]
    refine ⟨stL rs row s g k (some (.f (.int (row[k] : Nat)))), some (.f (.int (row[k] : Nat))), rfl, ?_⟩
    have hc : row[k] < K := hr _ (List.getElem_mem hk)
    have hlt : led rs s (row.take k) < m := led_lt R _ s (fun c hc => hr c (List.mem_of_mem_take hc)) hs
    have hlt' : led rs s (row.take k) < rs.length := by rw [R.len]; exact hlt
    have e1 := ev_ix (T := tab) (Φ := callD tab fns n) (s := stL rs row s g k (some (.f (.int (row[k] : Nat))))) (a := .var 0) (i := .var 1) (x := .f (rowsL rs)) (da := rowsL rs) rfl rfl rfl rfl (ix_rowsL hlt')
    have e2 := ev_ix (i := .var 3) e1 rfl rfl rfl (ix_tl (c := row[k]) (by rw [row_len R hlt]; exact hc))
    rw [← col_getD hlt', ← led_take hk] at e2
    exact (evSs_nx (evS_setK e2 rfl)).trans rfl)
  rw [List.length_map, Nat.zero_add] at e
  have e2 : evS tab (callD tab fns n) (.for (.nm 3) .val (.var 2) .nop [.set 1 (.ix (.ix (.var 0) (.var 1)) (.var 3))]) (stL rs row s g 0 none) = .ok .nx (stL rs row s g row.length y) :=
    (evS_for rfl rfl rfl rfl rfl).trans e
  have e3 : evSs tab (callD tab fns n) [.ret (.var 1)] (stL rs row s g row.length y) = .ok (.rt (.f (.int (led rs s row : Nat)))) (stL rs row s g row.length y) := by
    have := evSs_rt (T := tab) (Φ := callD tab fns n) (ss := []) (evS_ret (e := .var 1) (s := stL rs row s g row.length y) rfl rfl)
    rw [List.take_length] at this
    exact this
  exact ret_body (bd := b9) (m := 4) (p := 3) rfl rfl (by decide) ((evSs_nx e2).trans e3)
def stM (K m : Nat) (rs : List (List Nat)) (row : List Nat) (s : Nat) (g : G) (k : Nat) (y : Option DV) : S := ⟨[some (.f (mc K m rs)), some (.f (.int (s : Int))), some (.f (tn row)), some (.f (.int (led rs s (row.take k) : Nat))), y], g⟩
/-- led -/
theorem ret_led (R : Rev K m rs) {row : List Nat} (hr : ∀ c ∈ row, c < K) {s : Nat} (hs : s < m) : Rt (n + 1) 22 [mc K m rs, .int (s : Int), tn row] g (.f (.int (led rs s row : Nat))) g := by
  obtain ⟨y, e⟩ := forGo_st (σ := Option DV) (st := asgT (.nm 4)) (body := evSs tab (callD tab fns n) [.set 3 (.ix (.ix (.fld (.var 0) 2) (.var 3)) (.var 4))]) (stM K m rs row s g) (row.map fun (n : Nat) => D.int n) 0 none (fun k hk y => by
    rw [List.length_map] at hk
    rw [List.getElem_map, Nat.zero_add]
    refine ⟨stM K m rs row s g k (some (.f (.int (row[k] : Nat)))), some (.f (.int (row[k] : Nat))), rfl, ?_⟩
    have hc : row[k] < K := hr _ (List.getElem_mem hk)
    have hlt : led rs s (row.take k) < m := led_lt R _ s (fun c hc => hr c (List.mem_of_mem_take hc)) hs
    have hlt' : led rs s (row.take k) < rs.length := by rw [R.len]; exact hlt
    have e1 := ev_ix (T := tab) (Φ := callD tab fns n) (s := stM K m rs row s g k (some (.f (.int (row[k] : Nat))))) (a := .fld (.var 0) 2) (i := .var 3) (x := .f (rowsT rs)) (da := rowsT rs) (fld2 (K := K) (m := m) rfl) rfl rfl rfl (ix_rowsT hlt')
    have e2 := ev_ix (i := .var 4) e1 rfl rfl rfl (ixD_tn (s := row[k]) (by rw [row_len R hlt]; exact hc))
    rw [← col_getD hlt', ← led_take hk] at e2
    exact (evSs_nx (evS_setK e2 rfl)).trans rfl)
  rw [List.length_map, Nat.zero_add] at e
  have e0 : evS tab (callD tab fns n) (.set 3 (.var 1)) ⟨[some (.f (mc K m rs)), some (.f (.int (s : Int))), some (.f (tn row)), none, none], g⟩ = .ok .nx (stM K m rs row s g 0 none) := rfl
  have e2 : evS tab (callD tab fns n) (.for (.nm 4) .val (.var 2) .nop [.set 3 (.ix (.ix (.fld (.var 0) 2) (.var 3)) (.var 4))]) (stM K m rs row s g 0 none) = .ok .nx (stM K m rs row s g row.length y) :=
    (evS_for rfl rfl rfl rfl rfl).trans e
  have e3 : evSs tab (callD tab fns n) [.ret (.var 3)] (stM K m rs row s g row.length y) = .ok (.rt (.f (.int (led rs s row : Nat)))) (stM K m rs row s g row.length y) := by
    have := evSs_rt (T := tab) (Φ := callD tab fns n) (ss := []) (evS_ret (e := .var 3) (s := stM K m rs row s g row.length y) rfl rfl)
    rw [List.take_length] at this
    exact this
  exact ret_body (bd := b22) (m := 5) (p := 3) rfl rfl (by decide) ((evSs_nx e0).trans ((evSs_nx e2).trans e3))
def effP (m : Nat) (rs : List (List Nat)) (row : List Nat) : List Nat := (List.range m).map fun s => led rs s row
/-- _law_effect -/
theorem ret_leffect (R : Rev K m rs) {row : List Nat} (hr : ∀ c ∈ row, c < K) : Rt (n + 2) 10 [rowsL rs, tn row] g (.f (tn (effP m rs row))) g := by
  refine ret_body (bd := b10) (m := 3) (p := 2) rfl rfl (by decide) (r := [some (.f (rowsL rs)), some (.f (tn row)), none]) ?_
  have e := lc_pure (T := tab) (Φ := callD tab fns (n + 1)) (i := 2) (r := [some (.f (rowsL rs)), some (.f (tn row)), none]) (g := g) (k := .rng) (a := .int 0) (b := .blt .len [(.var 0)]) (c := .nop) (e := .call 9 [(.var 0), (.var 2), (.var 1)]) (v := .f (.int 0)) (xs := .int 0) (y := .f (.int (m : Int))) (dy := .int (m : Int)) (ds := (List.range m).map fun (i : Nat) => D.int (i : Int))
    (p := fun _ => true) (f := fun d => match d with | .int c => .int (led rs c.toNat row : Nat) | d => d) (by show 2 < 3; decide) rfl (ev_blt (x := .f (rowsL rs)) (d := rowsL rs) rfl rfl (by
      show some (DV.f (.int ((rs.map tl).length : Int))) = _
      rw [List.length_map, R.len])) rfl rfl (by rw [items_rng (by omega) (by have := R.mle; omega), rngI_eq]) (fun d hd => by
      obtain ⟨s, hs, rfl⟩ := List.mem_map.mp hd
      refine ⟨rfl, fun _ => ?_⟩
      have h1 := call3 (n := n + 1) (f := 9) (s := ⟨[some (.f (rowsL rs)), some (.f (tn row)), some (.f (.int (s : Int)))], g⟩) (e1 := .var 0) (e2 := .var 2) (e3 := .var 1) rfl rfl rfl (ret_end (n := n) R hr (List.mem_range.mp hs))
      exact (bnd_of h1).trans rfl) (by
        have hlim : (8 : Nat) ≤ lim := by decide
        have := R.mle
        rw [List.length_map, List.length_range]
        omega)
  rw [filt_true, List.map_map] at e
  have e2 : (List.range m).map ((fun d => match d with | .int c => D.int (led rs c.toNat row : Nat) | d => d) ∘ fun (i : Nat) => D.int (i : Int)) = (effP m rs row).map fun (n : Nat) => D.int n := by
    unfold effP
    rw [List.map_map]
    rfl
  rw [e2] at e
  exact evSs_rt (evS_ret (ev_blt e rfl rfl) rfl)
end
end LK

set_option Elab.async false
set_option linter.all false
set_option maxRecDepth 100000
set_option maxHeartbeats 4000000
/-! K29h: the program's checks of rows, its effect. Own text. -/
namespace LK
open PySem (Str)
open DI PM
section
variable {K m o n : Nat} {rs : List (List Nat)} {g : G}
theorem prod_led (R : Rev K m rs) : ∀ (row : List Nat) (a : List Nat), (∀ c ∈ row, c < K) → prodP m (row.map (col rs)) a = a.map fun s => led rs s row
  | [], a, _ => by
    show a = _
    exact (List.map_id' a).symm
  | c :: row, a, h => by
    show prodP m (row.map (col rs)) (comp a (col rs c)) = _
    rw [prod_led R row _ fun c' hc => h c' (List.mem_cons_of_mem _ hc)]
    unfold comp
    rw [List.map_map]
    rfl
theorem eff_prod (R : Rev K m rs) {row : List Nat} (h : ∀ c ∈ row, c < K) : effP m rs row = prodP m (row.map (col rs)) (idP m) := by
  rw [prod_led R row _ h]
  rfl
/-- is_integer of an integer -/
theorem ret_isint {i : Int} : Rt (n + 1) 0 [.int i] g (.f (.bl true)) g := ⟨_, rfl⟩
theorem ev_and {T : Tab} {Φ : Fns} {a b : E} {s s1 : S} {k : Bool} (h : evE T Φ a s = .ok (.f (.bl k)) s1) : evE T Φ (.and a b) s = if k then evE T Φ b s1 else .ok (.f (.bl false)) s1 := by
  show bnd (evE T Φ a) _ _ = _
  rw [bnd_of h]
  show bnd (ret k) _ _ = _
  rw [bnd_of (show ret k s1 = .ok k s1 from rfl)]
  cases k <;> rfl
theorem ev_or {T : Tab} {Φ : Fns} {a b : E} {s s1 : S} {k : Bool} (h : evE T Φ a s = .ok (.f (.bl k)) s1) : evE T Φ (.or a b) s = if k then .ok (.f (.bl true)) s1 else evE T Φ b s1 := by
  show bnd (evE T Φ a) _ _ = _
  rw [bnd_of h]
  show bnd (ret k) _ _ = _
  rw [bnd_of (show ret k s1 = .ok k s1 from rfl)]
  cases k <;> rfl
theorem ev_not {T : Tab} {Φ : Fns} {a : E} {s s1 : S} {k : Bool} (h : evE T Φ a s = .ok (.f (.bl k)) s1) : evE T Φ (.not a) s = .ok (.f (.bl (!k))) s1 := by
  show bnd (evE T Φ a) _ _ = _
  rw [bnd_of h]
  rfl
theorem cmp_int {Φ : Fns} {o : COp} {a b : E} {s : S} {i j : Int} {k : Bool} (ha : evE tab Φ a s = .ok (.f (.int i)) s) (hb : evE tab Φ b s = .ok (.f (.int j)) s) (h : cmpD o (.int i) (.int j) = some k) : evE tab Φ (.cmp o a b) s = .ok (.f (.bl k)) s := ev_cmp ha hb rfl rfl h
theorem ret_isnum {i : Nat} : Rt (n + 2) 1 [.int (i : Int)] g (.f (.bl true)) g := by
  have e1 : evE tab (callD tab fns (n + 1)) (.and (.call 0 [(.var 0)]) (.cmp .ge (.var 0) (.int 0))) ⟨[some (.f (.int (i : Int)))], g⟩ = .ok (.f (.bl true)) ⟨[some (.f (.int (i : Int)))], g⟩ :=
    (ev_and (call1 (s := ⟨[some (.f (.int (i : Int)))], g⟩) rfl (ret_isint (n := n)))).trans (cmp_int (i := i) (j := 0) rfl rfl (by
      show some (decide ((0 : Int) ≤ i)) = _
      rw [decide_eq_true (Int.natCast_nonneg i)]))
  exact ret_body (bd := b1) (m := 1) (p := 1) rfl rfl (by decide) (evSs_rt (evS_ret e1 rfl))
theorem ret_isix {i k : Nat} (h : i < k) : Rt (n + 3) 2 [.int (i : Int), .int (k : Int)] g (.f (.bl true)) g := by
  have e1 : evE tab (callD tab fns (n + 2)) (.and (.call 1 [(.var 0)]) (.cmp .lt (.var 0) (.var 1))) ⟨[some (.f (.int (i : Int))), some (.f (.int (k : Int)))], g⟩ = .ok (.f (.bl true)) ⟨[some (.f (.int (i : Int))), some (.f (.int (k : Int)))], g⟩ :=
    (ev_and (call1 (s := ⟨[some (.f (.int (i : Int))), some (.f (.int (k : Int)))], g⟩) rfl (ret_isnum (n := n)))).trans (cmp_int (i := i) (j := k) rfl rfl (by
      show some (decide ((i : Int) < k)) = _
      rw [decide_eq_true (by omega)]))
  exact ret_body (bd := b2) (m := 2) (p := 2) rfl rfl (by decide) (evSs_rt (evS_ret e1 rfl))
theorem ret_isseq_t {xs : List D} : Rt (n + 1) 3 [.tup xs] g (.f (.bl true)) g := ⟨_, rfl⟩
theorem ret_isseq_l {xs : List D} : Rt (n + 1) 3 [.lst xs] g (.f (.bl true)) g := ⟨_, rfl⟩
def stC (K : Nat) (row : List Nat) (g : G) (p : Option DV × Option DV) : S := ⟨[some (.f (.int (K : Int))), some (.f (tn row)), p.1, p.2], g⟩
/-- checked_row -/
theorem ret_checked {row : List Nat} (hr : ∀ c ∈ row, c < K) : Rt (n + 4) 21 [.int (K : Int), tn row] g (.f (tn row)) g := by
  obtain ⟨y, e⟩ := forGo_st (σ := Option DV × Option DV) (st := asgT (.tp [(.nm 2), (.nm 3)])) (body := evSs tab (callD tab fns (n + 3)) [.ifs (.not (.call 2 [(.var 3), (.var 0)])) [.expr .nop] []]) (fun _ => stC K row g) (((row.map fun (n : Nat) => D.int n).zipIdx).map fun p => D.tup [.int p.2, p.1]) 0 (none, none) (fun k hk y => by
    rw [List.length_map, List.length_zipIdx, List.length_map] at hk
    rw [List.getElem_map, List.getElem_zipIdx, List.getElem_map]
    have hc : row[k] < K := hr _ (List.getElem_mem hk)
    refine ⟨stC K row g (some (.f (.int ((0 + k : Nat) : Int))), some (.f (.int (row[k] : Nat)))), (some (.f (.int ((0 + k : Nat) : Int))), some (.f (.int (row[k] : Nat)))), rfl, ?_⟩
    have e1 := ev_not (call2 (n := n + 3) (f := 2) (e1 := .var 3) (e2 := .var 0) (s := stC K row g (some (.f (.int ((0 + k : Nat) : Int))), some (.f (.int (row[k] : Nat))))) rfl rfl (ret_isix (n := n) hc))
    exact (evSs_nx ((evS_ifs e1).trans rfl)).trans rfl)
  have e0 : evS tab (callD tab fns (n + 3)) (.ifs (.not (.call 3 [(.var 1)])) [.expr .nop] []) (stC K row g (none, none)) = .ok .nx (stC K row g (none, none)) :=
    (evS_ifs (ev_not (call1 (f := 3) (s := stC K row g (none, none)) rfl (ret_isseq_t (n := n + 2))))).trans rfl
  have e2 : evS tab (callD tab fns (n + 3)) (.for (.tp [(.nm 2), (.nm 3)]) .enum (.var 1) .nop [.ifs (.not (.call 2 [(.var 3), (.var 0)])) [.expr .nop] []]) (stC K row g (none, none)) = .ok .nx (stC K row g y) :=
    (evS_for rfl rfl rfl rfl rfl).trans e
  exact ret_body (bd := b21) (m := 4) (p := 2) rfl rfl (by decide) ((evSs_nx e0).trans ((evSs_nx e2).trans (evSs_rt (evS_ret rfl rfl))))
/-- effect -/
theorem ret_effect (R : Rev K m rs) {row : List Nat} (hr : ∀ c ∈ row, c < K) : Rt (n + 5) 23 [mc K m rs, tn row] g (.f (tn (effP m rs row))) g := by
  have e0 : evS tab (callD tab fns (n + 4)) (.set 2 (.call 21 [(.fld (.var 0) 0), (.var 1)])) ⟨[some (.f (mc K m rs)), some (.f (tn row)), none, none], g⟩ = .ok .nx ⟨[some (.f (mc K m rs)), some (.f (tn row)), some (.f (tn row)), none], g⟩ :=
    evS_setK (call2 (s := ⟨[some (.f (mc K m rs)), some (.f (tn row)), none, none], g⟩) (fld0 (m := m) (rs := rs) rfl) rfl (ret_checked (n := n) hr)) rfl
  refine ret_body (bd := b23) (m := 4) (p := 2) rfl rfl (by decide) (r := [some (.f (mc K m rs)), some (.f (tn row)), some (.f (tn row)), none]) ((evSs_nx e0).trans ?_)
  have e := lc_pure (T := tab) (Φ := callD tab fns (n + 4)) (i := 3) (r := [some (.f (mc K m rs)), some (.f (tn row)), some (.f (tn row)), none]) (g := g) (k := .rng) (a := .int 0) (b := .fld (.var 0) 1) (c := .nop) (e := .call 22 [(.var 0), (.var 3), (.var 2)]) (v := .f (.int 0)) (xs := .int 0) (y := .f (.int (m : Int))) (dy := .int (m : Int)) (ds := (List.range m).map fun (i : Nat) => D.int (i : Int))
    (p := fun _ => true) (f := fun d => match d with | .int c => .int (led rs c.toNat row : Nat) | d => d) (by show 3 < 4; decide) rfl (fld1 (K := K) (rs := rs) rfl) rfl rfl (by rw [items_rng (by omega) (by have := R.mle; omega), rngI_eq]) (fun d hd => by
      obtain ⟨s, hs, rfl⟩ := List.mem_map.mp hd
      refine ⟨rfl, fun _ => ?_⟩
      have h1 := call3 (n := n + 4) (f := 22) (s := ⟨[some (.f (mc K m rs)), some (.f (tn row)), some (.f (tn row)), some (.f (.int (s : Int)))], g⟩) (e1 := .var 0) (e2 := .var 3) (e3 := .var 2) rfl rfl rfl (ret_led (n := n + 3) R hr (List.mem_range.mp hs))
      exact (bnd_of h1).trans rfl) (by
        have hlim : (8 : Nat) ≤ lim := by decide
        have := R.mle
        rw [List.length_map, List.length_range]
        omega)
  rw [filt_true, List.map_map] at e
  have e2 : (List.range m).map ((fun d => match d with | .int c => D.int (led rs c.toNat row : Nat) | d => d) ∘ fun (i : Nat) => D.int (i : Int)) = (effP m rs row).map fun (n : Nat) => D.int n := by
    unfold effP
    rw [List.map_map]
    rfl
  rw [e2] at e
  exact evSs_rt (evS_ret (ev_blt e rfl rfl) rfl)
end
end LK

set_option Elab.async false
set_option linter.all false
set_option maxRecDepth 100000
set_option maxHeartbeats 4000000
/-! K29i: steps, the program's. Own text. -/
namespace LK
open PySem (Str)
open DI PM
def unT : D → List Nat
  | .tup ds => ds.map fun d => match d with | .int i => i.toNat | _ => 0
  | _ => []
theorem unT_tn (x : List Nat) : unT (tn x) = x := by
  show (x.map fun (n : Nat) => D.int n).map _ = x
  rw [List.map_map]
  exact List.map_id' x
theorem bools_map {α : Type} (q : α → Bool) : ∀ l : List α, bools (l.map fun c => D.bl (q c)) = some (l.map q)
  | [] => rfl
  | c :: l => by
    show (bools (l.map fun c => D.bl (q c))).map (q c :: ·) = _
    rw [bools_map q l]
    rfl
section
variable {K m o n d : Nat} {rs : List (List Nat)} {g : G}
/-- exchange_freely -/
theorem ret_exch {x y : List Nat} (hx : IsP m x) (hy : IsP m y) (hm : m ≤ 8) : Rt (n + 2) 25 [tn x, tn y] g (.f (.bl (decide (comp x y = comp y x)))) g := by
  have e1 : evE tab (callD tab fns (n + 1)) (.cmp .eq (.call 24 [(.var 0), (.var 1)]) (.call 24 [(.var 1), (.var 0)])) ⟨[some (.f (tn x)), some (.f (tn y))], g⟩ = .ok (.f (.bl (decide (comp x y = comp y x)))) ⟨[some (.f (tn x)), some (.f (tn y))], g⟩ :=
    ev_cmp (call2 (s := ⟨[some (.f (tn x)), some (.f (tn y))], g⟩) rfl rfl (ret_followed' hx hy hm)) (call2 (s := ⟨[some (.f (tn x)), some (.f (tn y))], g⟩) rfl rfl (ret_followed' hy hx hm)) rfl rfl (eqD_tn _ _)
  exact ret_body (bd := b25) (m := 2) (p := 2) rfl rfl (by decide) (evSs_rt (evS_ret e1 rfl))
theorem cols_isP (R : Rev K m rs) : ∀ c ∈ cols K rs, IsP m c := fun c hc => by
  obtain ⟨i, hi, rfl⟩ := List.mem_map.mp hc
  exact R.col i (List.mem_range.mp hi)
theorem cols_lim (R : Rev K m rs) : ((cols K rs).map tn).length ≤ lim := by
  have hlim : (8 : Nat) ≤ lim := by decide
  have := R.kle
  rw [List.length_map, cols_len]
  omega
def stG (K m : Nat) (rs : List (List Nat)) (b : Nat) (g : G) (k : Nat) : S := ⟨[some (.f (mc K m rs)), some (.f (.int (b : Int))), some (.f (.lst ((cols K rs).map tn))), some (.f (.int (k : Int))), some (.f (tn (pow m (col rs b) k))), none], g⟩
def stG0 (K m : Nat) (rs : List (List Nat)) (b : Nat) (g : G) (k : Nat) : S := ⟨[some (.f (mc K m rs)), some (.f (.int (b : Int))), some (.o ((cols K rs).map tn)), some (.f (.int (k : Int))), some (.f (tn (pow m (col rs b) k))), none], g⟩
theorem all_com {a : List Nat} {k : Bool} {cs : List (List Nat)} (h : Com a cs ↔ k = true) : ((cs.map fun c => decide (comp a c = comp c a)).all id) = k := by
  rw [Bool.eq_iff_iff, ← h]
  simp [Com]
theorem cond_G (R : Rev K m rs) {b k : Nat} (hb : b < K) {s0 : S} {v : DV} {t : Bool} (h1 : evE tab (callD tab fns (n + 2)) (.var 2) s0 = .ok v s0) (hv : frz v s0 = .ok (.lst ((cols K rs).map tn)) (stG K m rs b g k)) (ht : Com (pow m (col rs b) k) (cols K rs) ↔ t = true) :
    evE tab (callD tab fns (n + 2)) (.not (.blt .all [(.lc [5] (.nm 5) .val (.var 2) .nop .nop (.call 25 [(.var 4), (.var 5)]))])) s0 = .ok (.f (.bl (!t))) (stG K m rs b g k) := by
  have e := lc_pure2 (T := tab) (Φ := callD tab fns (n + 2)) (i := 5) (r := (stG K m rs b g k).r) (g := g) (k := .val) (a := .var 2) (b := .nop) (c := .nop) (e := .call 25 [(.var 4), (.var 5)]) (y := .f .non) (dy := .non) (ds := (cols K rs).map tn)
    (p := fun _ => true) (f := fun d => .bl (decide (comp (pow m (col rs b) k) (unT d) = comp (unT d) (pow m (col rs b) k)))) (by show 5 < 6; decide) h1 rfl hv rfl rfl (fun d hd => by
      obtain ⟨c, hc, rfl⟩ := List.mem_map.mp hd
      refine ⟨rfl, fun _ => ?_⟩
      rw [unT_tn]
      have h1 := call2 (n := n + 2) (f := 25) (s := ⟨(stG K m rs b g k).r.set 5 (some (.f (tn c))), g⟩) (e1 := .var 4) (e2 := .var 5) rfl rfl (ret_exch (n := n) ((R.col b hb).pow k) (cols_isP R c hc) R.mle)
      exact (bnd_of h1).trans rfl) (cols_lim R)
  rw [filt_true, List.map_map] at e
  have e2 : (cols K rs).map ((fun d => D.bl (decide (comp (pow m (col rs b) k) (unT d) = comp (unT d) (pow m (col rs b) k)))) ∘ tn) = (cols K rs).map fun c => D.bl (decide (comp (pow m (col rs b) k) c = comp c (pow m (col rs b) k))) :=
    List.map_congr_left fun c _ => by
      show D.bl (decide (comp (pow m (col rs b) k) (unT (tn c)) = comp (unT (tn c)) (pow m (col rs b) k))) = _
      rw [unT_tn]
  rw [e2] at e
  refine ev_not (ev_blt (x := .o ((cols K rs).map fun c => D.bl (decide (comp (pow m (col rs b) k) c = comp c (pow m (col rs b) k))))) e rfl ?_)
  show (bools ((cols K rs).map fun c => D.bl (decide (comp (pow m (col rs b) k) c = comp c (pow m (col rs b) k))))).bind _ = _
  rw [bools_map]
  show some (DV.f (.bl (((cols K rs).map fun c => decide (comp (pow m (col rs b) k) c = comp c (pow m (col rs b) k))).all id))) = _
  rw [all_com ht]
/-- free_step -/
theorem ret_free (R : Rev K m rs) {b : Nat} (hb : b < K) (Sd : Stp m (col rs b) (cols K rs) d) (hd : d ≤ 2 ^ 90) : Rt (n + 4) 29 [mc K m rs, .int (b : Int)] g (.f (.int (d : Int))) g := by
  have hx := R.col b hb
  let st : Option DV → Option DV → Option DV → S := fun y z w => ⟨[some (.f (mc K m rs)), some (.f (.int (b : Int))), y, z, w, none], g⟩
  have e1 : evS tab (callD tab fns (n + 3)) (.expr (.call 28 [(.var 0)])) (st none none none) = .ok .nx (st none none none) :=
    evS_expr (call1 (s := st none none none) rfl (ret_need R))
  have e2 : evS tab (callD tab fns (n + 3)) (.set 2 (.call 26 [(.var 0)])) (st none none none) = .ok .nx (st (some (.o ((cols K rs).map tn))) none none) :=
    evS_setK (call1 (s := st none none none) rfl (ret_singles R)) rfl
  have i1 : evE tab (callD tab fns (n + 3)) (.ix (.var 2) (.var 1)) (st (some (.o ((cols K rs).map tn))) none none) = .ok (.f (tn (pow m (col rs b) 1))) (st (some (.o ((cols K rs).map tn))) none none) := by
    rw [pow_one hx]
    exact ev_ix (x := .b 2) (da := .lst ((cols K rs).map tn)) rfl rfl rfl rfl (ix_cols hb)
  have e3 : evS tab (callD tab fns (n + 3)) (.par [.nm 3, .nm 4] [(.int 1), (.ix (.var 2) (.var 1))]) (st (some (.o ((cols K rs).map tn))) none none) = .ok .nx (stG0 K m rs b g 1) :=
    evS_par (evEs_cons rfl (evEs_cons i1 evEs_nil)) rfl rfl
  have ct : ∀ k, 0 < k → k < d → (Com (pow m (col rs b) k) (cols K rs) ↔ false = true) := fun k h1 h2 => ⟨fun h => absurd h (Sd.min k h1 h2), fun h => absurd h Bool.false_ne_true⟩
  have cd : Com (pow m (col rs b) d) (cols K rs) ↔ true = true := ⟨fun _ => rfl, fun _ => Sd.com⟩
  have e4 : evS tab (callD tab fns (n + 3)) (.while (.not (.blt .all [(.lc [5] (.nm 5) .val (.var 2) .nop .nop (.call 25 [(.var 4), (.var 5)]))])) [.par [.nm 3, .nm 4] [(.bin .add (.var 3) (.int 1)), (.call 24 [(.var 4), (.ix (.var 2) (.var 1))])]]) (stG0 K m rs b g 1) = .ok .nx (stG K m rs b g d) := by
    refine while_up2 (stG K m rs b g) ?_ Sd.pos (FU_gt (by omega)) (cond_G (n := n + 1) R hb rfl rfl cd) fun k h1 h2 => ⟨cond_G (n := n + 1) R hb rfl rfl (ct k h1 h2), ?_⟩
    · have hp := Sd.pos
      by_cases h : d = 1
      · have cd1 := cd
        rw [h] at cd1
        rw [cond_G (n := n + 1) (k := 1) (g := g) R hb (s0 := stG0 K m rs b g 1) rfl rfl cd1, cond_G (n := n + 1) (k := 1) (g := g) R hb (s0 := stG K m rs b g 1) rfl rfl cd1]
      · have c1 := ct 1 (by omega) (by omega)
        rw [cond_G (n := n + 1) (k := 1) (g := g) R hb (s0 := stG0 K m rs b g 1) rfl rfl c1, cond_G (n := n + 1) (k := 1) (g := g) R hb (s0 := stG K m rs b g 1) rfl rfl c1]
    · have i2 : evE tab (callD tab fns (n + 3)) (.ix (.var 2) (.var 1)) (stG K m rs b g k) = .ok (.f (tn (col rs b))) (stG K m rs b g k) :=
        ev_ix (x := .f (.lst ((cols K rs).map tn))) (da := .lst ((cols K rs).map tn)) rfl rfl rfl rfl (ix_cols hb)
      have i3 : evE tab (callD tab fns (n + 3)) (.bin .add (.var 3) (.int 1)) (stG K m rs b g k) = .ok (.f (.int ((k + 1 : Nat) : Int))) (stG K m rs b g k) := rfl
      have i4 : evE tab (callD tab fns (n + 3)) (.call 24 [(.var 4), (.ix (.var 2) (.var 1))]) (stG K m rs b g k) = .ok (.f (tn (pow m (col rs b) (k + 1)))) (stG K m rs b g k) :=
        call2 rfl i2 (ret_followed' (hx.pow k) hx R.mle)
      exact (evSs_nx (evS_par (evEs_cons i3 (evEs_cons i4 evEs_nil)) rfl rfl)).trans rfl
  exact ret_body (bd := b29) (m := 6) (p := 2) rfl rfl (by decide) ((evSs_nx e1).trans ((evSs_nx e2).trans ((evSs_nx e3).trans ((evSs_nx e4).trans (evSs_rt (evS_ret rfl rfl))))))
/-- order_of -/
theorem ret_orderof (R : Rev K m rs) {b : Nat} (hb : b < K) (O : Ord m (col rs b) o) : Rt (n + 4) 31 [mc K m rs, .int (b : Int)] g (.f (.int (o : Int))) g := by
  have e1 : evS tab (callD tab fns (n + 3)) (.expr (.call 28 [(.var 0)])) ⟨[some (.f (mc K m rs)), some (.f (.int (b : Int)))], g⟩ = .ok .nx ⟨[some (.f (mc K m rs)), some (.f (.int (b : Int)))], g⟩ :=
    evS_expr (call1 (s := ⟨[some (.f (mc K m rs)), some (.f (.int (b : Int)))], g⟩) rfl (ret_need R))
  have i1 : evE tab (callD tab fns (n + 3)) (.ix (.call 26 [(.var 0)]) (.var 1)) ⟨[some (.f (mc K m rs)), some (.f (.int (b : Int)))], g⟩ = .ok (.f (tn (col rs b))) ⟨[some (.f (mc K m rs)), some (.f (.int (b : Int)))], g⟩ :=
    ev_ix (da := .lst ((cols K rs).map tn)) (call1 (s := ⟨[some (.f (mc K m rs)), some (.f (.int (b : Int)))], g⟩) rfl (ret_singles R)) rfl rfl rfl (ix_cols hb)
  exact ret_body (bd := b31) (m := 2) (p := 2) rfl rfl (by decide) ((evSs_nx e1).trans (evSs_rt (evS_ret (call1 i1 (ret_order30 (R.col b hb) O R.mle)) rfl)))
end
end LK

set_option Elab.async false
set_option linter.all false
set_option maxRecDepth 100000
set_option maxHeartbeats 4000000
/-! K29j: steps, the law's. Own text. -/
namespace LK
open PySem (Str)
open DI PM
theorem pyAll_tn (l : List (List Nat)) : pyAll (l.map tn) = l.map fun x => (tn x).py := by
  induction l with
  | nil => rfl
  | cons x r ih =>
    show D.py (tn x) :: pyAll (r.map tn) = _
    rw [ih]
    rfl
theorem canLay_ltn (l : List (List Nat)) : PySem.PyData.canLayAll0 (l.map fun x => (tn x).py) = true := by
  induction l with
  | nil => rfl
  | cons x r ih =>
    show (PySem.PyData.canLay0 (tn x).py && PySem.PyData.canLayAll0 _) = true
    rw [ih, py_tn, PySem.PyData.canLay0, canLay_tn]
    rfl
theorem depth_ltn (l : List (List Nat)) : PySem.PyData.depthAll (l.map fun x => (tn x).py) ≤ 2 := by
  induction l with
  | nil => simp [PySem.PyData.depthAll]
  | cons x r ih =>
    have := depth_tn x
    simp only [List.map_cons, PySem.PyData.depthAll]
    rw [py_tn, PySem.PyData.depth]
    omega
theorem shp_ltn (l : List (List Nat)) : shp (.lst (l.map tn)) = true := by
  unfold shp PySem.SeqAt.shaped
  have e : (D.lst (l.map tn)).py = .list (l.map fun x => (tn x).py) := by
    show PySem.PyData.list (pyAll _) = _
    rw [pyAll_tn]
  rw [e, Bool.and_eq_true]
  refine ⟨by rw [PySem.PyData.canLay0]; exact canLay_ltn l, decide_eq_true ?_⟩
  have := depth_ltn l
  rw [PySem.PyData.depth]
  omega
theorem eqD_nil (l : List (List Nat)) : eqD (.lst (l.map tn)) (.lst []) = some (decide (l = [])) := by
  unfold eqD
  rw [shp_ltn, show shp (.lst []) = true from shp_ltn []]
  show some (PySem.PyData.eqv (.list (pyAll (l.map tn))) (.list [])) = _
  rw [pyAll_tn, PySem.PyData.eqv]
  cases l with
  | nil => simp [PySem.PyData.eqvAll]
  | cons x r => simp [PySem.PyData.eqvAll]
section
variable {K m o n d : Nat} {rs : List (List Nat)} {g : G}
def stH (K : Nat) (rs : List (List Nat)) (b : Nat) (g : G) (k : Nat) : S := ⟨[some (.f (.int (K : Int))), some (.f (rowsL rs)), some (.f (.int (b : Int))), some (.f (tn (col rs b))), some (.f (.int (k : Int))), some (.f (.lst ((cols K rs).map tn))), none, none], g⟩
def stH0 (K : Nat) (rs : List (List Nat)) (b : Nat) (g : G) (k : Nat) : S := ⟨[some (.f (.int (K : Int))), some (.f (rowsL rs)), some (.f (.int (b : Int))), some (.f (tn (col rs b))), some (.f (.int (k : Int))), some (.o ((cols K rs).map tn)), none, none], g⟩
theorem none_com {a : List Nat} {k : Bool} {cs : List (List Nat)} (h : Com a cs ↔ k = true) : decide ((cs.filter fun c => !decide (comp a c = comp c a)) = []) = k := by
  rw [Bool.eq_iff_iff, ← h, decide_eq_true_iff, List.filter_eq_nil_iff]
  simp [Com]
theorem cond_H (R : Rev K m rs) {b k : Nat} (hb : b < K) (O : Ord m (col rs b) o) {s0 : S} {v : DV} {t : Bool} (h1 : evE tab (callD tab fns (n + 3)) (.var 5) s0 = .ok v s0) (hv : frz v s0 = .ok (.lst ((cols K rs).map tn)) (stH K rs b g k)) (ht : Com (pow m (col rs b) k) (cols K rs) ↔ t = true) :
    evE tab (callD tab fns (n + 3)) (.cmp .ne (.lc [7] (.nm 7) .val (.var 5) .nop (.cmp .ne (.call 5 [(.call 18 [(.var 3), (.var 4)]), (.var 7)]) (.call 5 [(.var 7), (.call 18 [(.var 3), (.var 4)])])) (.var 7)) (.lst [])) s0 = .ok (.f (.bl (!t))) (stH K rs b g k) := by
  have e := lc_pure2 (T := tab) (Φ := callD tab fns (n + 3)) (i := 7) (r := (stH K rs b g k).r) (g := g) (k := .val) (a := .var 5) (b := .nop) (c := (.cmp .ne (.call 5 [(.call 18 [(.var 3), (.var 4)]), (.var 7)]) (.call 5 [(.var 7), (.call 18 [(.var 3), (.var 4)])]))) (e := .var 7) (y := .f .non) (dy := .non) (ds := (cols K rs).map tn)
    (p := fun d => !decide (comp (pow m (col rs b) k) (unT d) = comp (unT d) (pow m (col rs b) k))) (f := fun d => d) (by show 7 < 8; decide) h1 rfl hv rfl rfl (fun d hd => by
      obtain ⟨c, hc, rfl⟩ := List.mem_map.mp hd
      have hP := (R.col b hb).pow k
      have hC := cols_isP R c hc
      rw [unT_tn]
      have t1 := call2 (n := n + 3) (f := 18) (s := ⟨(stH K rs b g k).r.set 7 (some (.f (tn c))), g⟩) (e1 := .var 3) (e2 := .var 4) rfl rfl (ret_times (n := n) (R.col b hb) O R.mle (k : Int))
      rw [pz_nat (R.col b hb) O k] at t1
      have t2 := call2 (n := n + 3) (f := 5) (s := ⟨(stH K rs b g k).r.set 7 (some (.f (tn c))), g⟩) (e2 := .var 7) t1 rfl (ret_after' (n := n + 2) hP hC R.mle)
      have t3 := call2 (n := n + 3) (f := 5) (s := ⟨(stH K rs b g k).r.set 7 (some (.f (tn c))), g⟩) (e1 := .var 7) rfl t1 (ret_after' (n := n + 2) hC hP R.mle)
      have t4 := ev_cmp (o := .ne) (k := !decide (comp (pow m (col rs b) k) c = comp c (pow m (col rs b) k))) t2 t3 rfl rfl (by
        show (eqD _ _).map not = _
        rw [eqD_tn]
        rfl)
      refine ⟨(show tstM (.cmp .ne (.call 5 [(.call 18 [(.var 3), (.var 4)]), (.var 7)]) (.call 5 [(.var 7), (.call 18 [(.var 3), (.var 4)])])) (evE tab (callD tab fns (n + 3)) (.cmp .ne (.call 5 [(.call 18 [(.var 3), (.var 4)]), (.var 7)]) (.call 5 [(.var 7), (.call 18 [(.var 3), (.var 4)])]))) ⟨(stH K rs b g k).r.set 7 (some (.f (tn c))), g⟩ = bnd (evE tab (callD tab fns (n + 3)) (.cmp .ne (.call 5 [(.call 18 [(.var 3), (.var 4)]), (.var 7)]) (.call 5 [(.var 7), (.call 18 [(.var 3), (.var 4)])]))) bool? ⟨(stH K rs b g k).r.set 7 (some (.f (tn c))), g⟩ from rfl).trans (cnd_of t4), fun _ => rfl⟩) (cols_lim R)
  rw [List.map_id', List.filter_map] at e
  have e2 : (cols K rs).filter ((fun d => !decide (comp (pow m (col rs b) k) (unT d) = comp (unT d) (pow m (col rs b) k))) ∘ tn) = (cols K rs).filter fun c => !decide (comp (pow m (col rs b) k) c = comp c (pow m (col rs b) k)) :=
    List.filter_congr fun c _ => by
      show (!decide (comp (pow m (col rs b) k) (unT (tn c)) = comp (unT (tn c)) (pow m (col rs b) k))) = _
      rw [unT_tn]
  rw [e2] at e
  refine ev_cmp (w := .o []) (db := .lst []) e rfl rfl rfl ?_
  show (eqD _ _).map not = _
  rw [eqD_nil, none_com ht]
  rfl
/-- _law_step -/
theorem ret_lstep (R : Rev K m rs) {b : Nat} (hb : b < K) (O : Ord m (col rs b) o) (Sd : Stp m (col rs b) (cols K rs) d) (hd : d ≤ 2 ^ 90) : Rt (n + 4) 20 [.int (K : Int), rowsL rs, .int (b : Int)] g (.f (.int (d : Int))) g := by
  have hx := R.col b hb
  let st : Option DV → Option DV → Option DV → S := fun y z w => ⟨[some (.f (.int (K : Int))), some (.f (rowsL rs)), some (.f (.int (b : Int))), y, z, w, none, none], g⟩
  have e1 : evS tab (callD tab fns (n + 3)) (.par [.nm 3, .nm 4] [(.call 7 [(.var 1), (.var 2)]), (.int 1)]) (st none none none) = .ok .nx (st (some (.f (tn (col rs b)))) (some (.f (.int 1))) none) :=
    evS_par (evEs_cons (call2 (s := st none none none) rfl rfl (ret_col R hb)) (evEs_cons rfl evEs_nil)) rfl rfl
  have lc := lc_pure (T := tab) (Φ := callD tab fns (n + 3)) (i := 6) (r := (st (some (.f (tn (col rs b)))) (some (.f (.int 1))) none).r) (g := g) (k := .rng) (a := .int 0) (b := .var 0) (c := .nop) (e := .call 7 [(.var 1), (.var 6)]) (v := .f (.int 0)) (xs := .int 0) (y := .f (.int (K : Int))) (dy := .int (K : Int)) (ds := (List.range K).map fun (i : Nat) => D.int (i : Int))
    (p := fun _ => true) (f := fun d => match d with | .int c => tn (col rs c.toNat) | d => d) (by show 6 < 8; decide) rfl rfl rfl rfl (by rw [items_rng (by omega) (by have := R.kle; omega), rngI_eq]) (fun d hd => by
      obtain ⟨c, hc, rfl⟩ := List.mem_map.mp hd
      refine ⟨rfl, fun _ => ?_⟩
      have h1 := call2 (n := n + 3) (f := 7) (s := ⟨(st (some (.f (tn (col rs b)))) (some (.f (.int 1))) none).r.set 6 (some (.f (.int (c : Int)))), g⟩) (e1 := .var 1) (e2 := .var 6) rfl rfl (ret_col R (List.mem_range.mp hc))
      exact (bnd_of h1).trans rfl) (by
        have hlim : (8 : Nat) ≤ lim := by decide
        have := R.kle
        rw [List.length_map, List.length_range]
        omega)
  rw [filt_true, List.map_map] at lc
  have lc2 : (List.range K).map ((fun d => match d with | .int c => tn (col rs c.toNat) | d => d) ∘ fun (i : Nat) => D.int (i : Int)) = (cols K rs).map tn := by
    unfold cols
    rw [List.map_map]
    rfl
  rw [lc2] at lc
  have e2 : evS tab (callD tab fns (n + 3)) (.set 5 (.lc [6] (.nm 6) .rng (.int 0) (.var 0) .nop (.call 7 [(.var 1), (.var 6)]))) (st (some (.f (tn (col rs b)))) (some (.f (.int 1))) none) = .ok .nx (stH0 K rs b g 1) :=
    evS_setK lc rfl
  have ct : ∀ k, 0 < k → k < d → (Com (pow m (col rs b) k) (cols K rs) ↔ false = true) := fun k h1 h2 => ⟨fun h => absurd h (Sd.min k h1 h2), fun h => absurd h Bool.false_ne_true⟩
  have cd : Com (pow m (col rs b) d) (cols K rs) ↔ true = true := ⟨fun _ => rfl, fun _ => Sd.com⟩
  have e4 : evS tab (callD tab fns (n + 3)) (.while (.cmp .ne (.lc [7] (.nm 7) .val (.var 5) .nop (.cmp .ne (.call 5 [(.call 18 [(.var 3), (.var 4)]), (.var 7)]) (.call 5 [(.var 7), (.call 18 [(.var 3), (.var 4)])])) (.var 7)) (.lst [])) [.set 4 (.bin .add (.var 4) (.int 1))]) (stH0 K rs b g 1) = .ok .nx (stH K rs b g d) := by
    refine while_up2 (stH K rs b g) ?_ Sd.pos (FU_gt (by omega)) (cond_H (n := n) R hb O rfl rfl cd) fun k h1 h2 => ⟨cond_H (n := n) R hb O rfl rfl (ct k h1 h2), rfl⟩
    have hp := Sd.pos
    by_cases h : d = 1
    · have cd1 := cd
      rw [h] at cd1
      rw [cond_H (n := n) (k := 1) (g := g) R hb O (s0 := stH0 K rs b g 1) rfl rfl cd1, cond_H (n := n) (k := 1) (g := g) R hb O (s0 := stH K rs b g 1) rfl rfl cd1]
    · have c1 := ct 1 (by omega) (by omega)
      rw [cond_H (n := n) (k := 1) (g := g) R hb O (s0 := stH0 K rs b g 1) rfl rfl c1, cond_H (n := n) (k := 1) (g := g) R hb O (s0 := stH K rs b g 1) rfl rfl c1]
  exact ret_body (bd := b20) (m := 8) (p := 3) rfl rfl (by decide) ((evSs_nx e1).trans ((evSs_nx e2).trans ((evSs_nx e4).trans (evSs_rt (evS_ret rfl rfl)))))
end
end LK

set_option Elab.async false
set_option linter.all false
set_option maxRecDepth 100000
set_option maxHeartbeats 4000000
/-! K29k: a machine is made. Own text. -/
namespace LK
open PySem (Str)
open DI PM
theorem ret_init {T : Tab} {fns : List Fn} {n f c q p : Nat} {ds fs : List D} {g g' : G} {bd : List Sm} {r : List (Option DV)} (hf : fns[f]? = some (.init c q p bd)) (hl : ds.length + 1 = p) (hp : p ≤ q) (h : evSs T (callD T fns n) bd ⟨some (.n c []) :: startR (q - 1) ds, g⟩ = .ok .nx ⟨some (.n c fs) :: r, g'⟩) (hfs : fs.length = (T.fl c).length) : Ret T fns (n + 1) f ds g (.f (.ins c fs)) g' := by
  refine ⟨some (.n c fs) :: r, ?_⟩
  show (match fns[f]? with | some fn => runFn T (callD T fns n) fn ds g | none => .stuck) = _
  rw [hf]
  show (if ds.length + 1 = p ∧ p ≤ q then _ else _) = _
  rw [if_pos ⟨hl, hp⟩, h]
  show (if c = c ∧ fs.length = (T.fl c).length then _ else _) = _
  rw [if_pos ⟨rfl, hfs⟩]
theorem eqD_int (a b : Int) : eqD (.int a) (.int b) = some (decide (a = b)) := by
  unfold eqD
  rw [show shp (.int a) = true from rfl, show shp (.int b) = true from rfl]
  show some (PySem.PyData.eqv (.int a) (.int b)) = _
  rw [PySem.PyData.eqv]
  rfl
section
variable {K m o n d : Nat} {rs : List (List Nat)} {g : G}
theorem or_f {Φ : Fns} {a b : E} {s : S} {w : Bool} (h : evE tab Φ a s = .ok (.f (.bl false)) s) (h2 : evE tab Φ b s = .ok (.f (.bl w)) s) : evE tab Φ (.or a b) s = .ok (.f (.bl w)) s := (ev_or h).trans h2
theorem not_t {Φ : Fns} {a : E} {s : S} (h : evE tab Φ a s = .ok (.f (.bl true)) s) : evE tab Φ (.not a) s = .ok (.f (.bl false)) s := ev_not h
theorem entry_lt (R : Rev K m rs) {r : List Nat} (hr : r ∈ rs) {x : Nat} (hx : x ∈ r) : x < m := by
  obtain ⟨c, hc, rfl⟩ := List.getElem_of_mem hx
  have hK : c < K := by rw [← R.row r hr]; exact hc
  refine (R.col c hK).lt _ ?_
  unfold col
  refine List.mem_map.mpr ⟨r, hr, ?_⟩
  rw [List.getD_eq_getElem?_getD, List.getElem?_eq_getElem hc]
  rfl
def stN (fs : List D) (K m : Nat) (rs : List (List Nat)) (g : G) (q : Option DV) (p : Option DV × Option DV) : S := ⟨[some (.n 0 fs), some (.f (.int (K : Int))), some (.f (rowsL rs)), q, p.1, p.2, none], g⟩
theorem ret_machine (R : Rev K m rs) : Rt (n + 4) 4 [.int (K : Int), rowsL rs] g (.f (mc K m rs)) g := by
  have M0 : evE tab (callD tab fns (n + 3)) (.blt .len [(.var 2)]) (stN [] K m rs g none (none, none)) = .ok (.f (.int (m : Int))) (stN [] K m rs g none (none, none)) :=
    ev_blt (x := .f (rowsL rs)) (d := rowsL rs) rfl rfl (by
      show some (DV.f (.int ((rs.map tl).length : Int))) = _
      rw [List.length_map, R.len])
  have e1 : evS tab (callD tab fns (n + 3)) (.ifs (.or (.not (.call 0 [(.var 1)])) (.cmp .lt (.var 1) (.int 1))) [.expr .nop] []) (stN [] K m rs g none (none, none)) = .ok .nx (stN [] K m rs g none (none, none)) :=
    (evS_ifs (k := false) (or_f (not_t (call1 (f := 0) (s := stN [] K m rs g none (none, none)) rfl (ret_isint (n := n + 2)))) (cmp_int (i := K) (j := 1) rfl rfl (by
      show some (decide ((K : Int) < 1)) = _
      rw [decide_eq_false (by have := R.kpos; omega)])))).trans rfl
  have e2 : evS tab (callD tab fns (n + 3)) (.ifs (.or (.not (.call 3 [(.var 2)])) (.cmp .eq (.blt .len [(.var 2)]) (.int 0))) [.expr .nop] []) (stN [] K m rs g none (none, none)) = .ok .nx (stN [] K m rs g none (none, none)) :=
    (evS_ifs (k := false) (or_f (not_t (call1 (f := 3) (s := stN [] K m rs g none (none, none)) rfl (ret_isseq_l (n := n + 2)))) (cmp_int (i := m) (j := 0) M0 rfl (by
      show eqD _ _ = _
      rw [eqD_int, decide_eq_false (by have := R.mpos; omega)])))).trans rfl
  have e3 : evS tab (callD tab fns (n + 3)) (.set 3 (.blt .len [(.var 2)])) (stN [] K m rs g none (none, none)) = .ok .nx (stN [] K m rs g (some (.f (.int (m : Int)))) (none, none)) :=
    evS_setK M0 rfl
  obtain ⟨y, e⟩ := forGo_st (σ := Option DV × Option DV) (st := asgT (.tp [(.nm 4), (.nm 5)])) (body := evSs tab (callD tab fns (n + 3)) [.ifs (.or (.not (.call 3 [(.var 5)])) (.or (.cmp .ne (.blt .len [(.var 5)]) (.var 1)) (.not (.blt .all [(.lc [6] (.nm 6) .val (.var 5) .nop .nop (.call 2 [(.var 6), (.var 3)]))])))) [.expr .nop] []]) (fun _ => stN [] K m rs g (some (.f (.int (m : Int))))) (((rs.map tl).zipIdx).map fun p => D.tup [.int p.2, p.1]) 0 (none, none) (fun k hk y => by
    rw [List.length_map, List.length_zipIdx, List.length_map] at hk
    rw [List.getElem_map, List.getElem_zipIdx, List.getElem_map]
    have hr : rs[k] ∈ rs := List.getElem_mem hk
    generalize rs[k] = r at hr
    refine ⟨stN [] K m rs g (some (.f (.int (m : Int)))) (some (.f (.int ((0 + k : Nat) : Int))), some (.f (tl r))), (some (.f (.int ((0 + k : Nat) : Int))), some (.f (tl r))), rfl, ?_⟩
    have rl : r.length ≤ lim := by
      have hlim : (8 : Nat) ≤ lim := by decide
      have := R.kle
      rw [R.row r hr]
      omega
    generalize hs : stN [] K m rs g (some (.f (.int (m : Int)))) (some (.f (.int ((0 + k : Nat) : Int))), some (.f (tl r))) = s
    have v5 : evE tab (callD tab fns (n + 3)) (.var 5) s = .ok (.f (tl r)) s := by rw [← hs]; rfl
    have v1 : evE tab (callD tab fns (n + 3)) (.var 1) s = .ok (.f (.int (K : Int))) s := by rw [← hs]; rfl
    have a1 := not_t (call1 (f := 3) (s := s) v5 (ret_isseq_l (n := n + 2)))
    have a2 : evE tab (callD tab fns (n + 3)) (.cmp .ne (.blt .len [(.var 5)]) (.var 1)) s = .ok (.f (.bl false)) s :=
      cmp_int (i := K) (j := K) (ev_blt v5 rfl (by
        show some (DV.f (.int ((r.map fun (n : Nat) => D.int n).length : Int))) = _
        rw [List.length_map, R.row r hr])) v1 (by
        show (eqD (.int (K : Int)) (.int (K : Int))).map not = some false
        rw [eqD_int, decide_eq_true rfl]
        rfl)
    have a3 : evE tab (callD tab fns (n + 3)) (.lc [6] (.nm 6) .val (.var 5) .nop .nop (.call 2 [(.var 6), (.var 3)])) s = .ok (.o (r.map fun _ => D.bl true)) s := by
      have e := lc_pure (T := tab) (Φ := callD tab fns (n + 3)) (i := 6) (r := s.r) (g := s.g) (k := .val) (a := .var 5) (b := .nop) (c := .nop) (e := .call 2 [(.var 6), (.var 3)]) (v := .f (tl r)) (xs := tl r) (y := .f .non) (dy := .non) (ds := r.map fun (n : Nat) => D.int n)
        (p := fun _ => true) (f := fun _ => .bl true) (by rw [← hs]; show 6 < 7; decide) v5 rfl rfl rfl rfl (fun d hd => by
          obtain ⟨x, hx, rfl⟩ := List.mem_map.mp hd
          refine ⟨rfl, fun _ => ?_⟩
          have h1 := call2 (n := n + 3) (f := 2) (s := ⟨s.r.set 6 (some (.f (.int (x : Int)))), s.g⟩) (e1 := .var 6) (e2 := .var 3) (d1 := .int (x : Int)) (d2 := .int (m : Int)) (by rw [← hs]; rfl) (by rw [← hs]; rfl) (ret_isix (n := n) (entry_lt R hr hx))
          exact (bnd_of h1).trans rfl) (by rw [List.length_map]; exact rl)
      rw [filt_true, List.map_map] at e
      exact e
    have a4 : evE tab (callD tab fns (n + 3)) (.not (.blt .all [(.lc [6] (.nm 6) .val (.var 5) .nop .nop (.call 2 [(.var 6), (.var 3)]))])) s = .ok (.f (.bl false)) s := by
      refine not_t (ev_blt a3 rfl ?_)
      show (bools (r.map fun _ => D.bl true)).bind _ = _
      rw [bools_map (fun _ => true)]
      show some (DV.f (.bl ((r.map fun _ => true).all id))) = _
      rw [show ((r.map fun _ => true).all id) = true by simp]
    exact (evSs_nx ((evS_ifs (k := false) (or_f a1 (or_f a2 a4))).trans rfl)).trans (by rw [← hs]; rfl))
  have e4 : evS tab (callD tab fns (n + 3)) (.for (.tp [(.nm 4), (.nm 5)]) .enum (.var 2) .nop [.ifs (.or (.not (.call 3 [(.var 5)])) (.or (.cmp .ne (.blt .len [(.var 5)]) (.var 1)) (.not (.blt .all [(.lc [6] (.nm 6) .val (.var 5) .nop .nop (.call 2 [(.var 6), (.var 3)]))])))) [.expr .nop] []]) (stN [] K m rs g (some (.f (.int (m : Int)))) (none, none)) = .ok .nx (stN [] K m rs g (some (.f (.int (m : Int)))) y) :=
    (evS_for rfl rfl rfl rfl rfl).trans e
  have e5 : evS tab (callD tab fns (n + 3)) (.fset 0 (.var 1)) (stN [] K m rs g (some (.f (.int (m : Int)))) y) = .ok .nx (stN [.int (K : Int)] K m rs g (some (.f (.int (m : Int)))) y) := rfl
  have e6 : evS tab (callD tab fns (n + 3)) (.fset 1 (.var 3)) (stN [.int (K : Int)] K m rs g (some (.f (.int (m : Int)))) y) = .ok .nx (stN [.int (K : Int), .int (m : Int)] K m rs g (some (.f (.int (m : Int)))) y) := rfl
  have a7 : evE tab (callD tab fns (n + 3)) (.blt .tuple [(.lc [5] (.nm 5) .val (.var 2) .nop .nop (.blt .tuple [(.var 5)]))]) (stN [.int (K : Int), .int (m : Int)] K m rs g (some (.f (.int (m : Int)))) y) = .ok (.f (rowsT rs)) (stN [.int (K : Int), .int (m : Int)] K m rs g (some (.f (.int (m : Int)))) y) := by
    have e := lc_pure (T := tab) (Φ := callD tab fns (n + 3)) (i := 5) (r := (stN [.int (K : Int), .int (m : Int)] K m rs g (some (.f (.int (m : Int)))) y).r) (g := g) (k := .val) (a := .var 2) (b := .nop) (c := .nop) (e := .blt .tuple [(.var 5)]) (v := .f (rowsL rs)) (xs := rowsL rs) (y := .f .non) (dy := .non) (ds := rs.map tl)
      (p := fun _ => true) (f := fun d => match d with | .lst xs => .tup xs | d => d) (by show 5 < 7; decide) rfl rfl rfl rfl rfl (fun d hd => by
        obtain ⟨r, hr, rfl⟩ := List.mem_map.mp hd
        exact ⟨rfl, fun _ => rfl⟩) (by rw [List.length_map]; exact mlim R)
    rw [filt_true, List.map_map] at e
    exact ev_blt e rfl rfl
  have e7 : evS tab (callD tab fns (n + 3)) (.fset 2 (.blt .tuple [(.lc [5] (.nm 5) .val (.var 2) .nop .nop (.blt .tuple [(.var 5)]))])) (stN [.int (K : Int), .int (m : Int)] K m rs g (some (.f (.int (m : Int)))) y) = .ok .nx (stN [.int (K : Int), .int (m : Int), rowsT rs] K m rs g (some (.f (.int (m : Int)))) y) := by
    show bnd (evE tab (callD tab fns (n + 3)) _) _ _ = _
    rw [bnd_of a7]
    rfl
  exact ret_init (bd := b4) (q := 7) (p := 3) rfl rfl (by decide) ((evSs_nx e1).trans ((evSs_nx e2).trans ((evSs_nx e3).trans ((evSs_nx e4).trans ((evSs_nx e5).trans ((evSs_nx e6).trans ((evSs_nx e7).trans rfl))))))) rfl
end
end LK

set_option Elab.async false
set_option linter.all false
set_option maxRecDepth 100000
set_option maxHeartbeats 4000000
/-! K29l: deals, mixed lists. Own text. -/
namespace LK
open PySem (Str)
open DI PM
abbrev GG := List Int × Int
section
variable {K m o n d : Nat}
theorem anyN {k : Nat} (hk : 0 < k) (hk2 : k < 2 ^ 100) (gg : GG) : ∃ (a : Nat) (gg' : GG), a < k ∧ Rt (n + 1) 6 [.deal, .int (k : Int)] (some gg) (.f (.int (a : Int))) (some gg') := by
  have h0 : 0 < (k : Int) := by omega
  have hl : (k : Int).natAbs.log2 < 9000 := by
    rw [Int.natAbs_natCast]
    have : k.log2 < 100 := (Nat.log2_lt (by omega)).mpr hk2
    omega
  obtain ⟨h1, h2⟩ := anyD_lt h0 gg
  refine ⟨(anyD (k : Int) gg).1.toNat, (anyD (k : Int) gg).2, by omega, ?_⟩
  rw [Int.toNat_of_nonneg h1]
  exact ret_any rfl h0 hl
theorem call2g {s : S} {f : Nat} {e1 e2 : E} {d1 d2 : D} {v : DV} {g' : G} (h1 : evE tab (callD tab fns n) e1 s = .ok (.f d1) s) (h2 : evE tab (callD tab fns n) e2 s = .ok (.f d2) s) (h3 : Rt n f [d1, d2] s.g v g') : evE tab (callD tab fns n) (.call f [e1, e2]) s = .ok v ⟨s.r, g'⟩ :=
  ev_call (s1 := s) (s2 := s) (evEs_cons h1 (evEs_cons h2 evEs_nil)) rfl h3
/-- _law_of -/
theorem ret_of {xs : List D} (h : 0 < xs.length) (hl : xs.length < 2 ^ 100) (gg : GG) : ∃ (j : Nat) (hj : j < xs.length) (gg' : GG), Rt (n + 2) 11 [.deal, .lst xs] (some gg) (.f xs[j]) (some gg') := by
  obtain ⟨j, gg', hj, hr⟩ := anyN (n := n) h hl gg
  refine ⟨j, hj, gg', ?_⟩
  have e1 : evE tab (callD tab fns (n + 1)) (.ix (.var 1) (.call 6 [(.var 0), (.blt .len [(.var 1)])])) ⟨[some (.f .deal), some (.f (.lst xs))], some gg⟩ = .ok (.f xs[j]) ⟨[some (.f .deal), some (.f (.lst xs))], some gg'⟩ :=
    ev_ix (s1 := ⟨[some (.f .deal), some (.f (.lst xs))], some gg⟩) (s2 := ⟨[some (.f .deal), some (.f (.lst xs))], some gg'⟩) (x := .f (.lst xs)) (da := .lst xs) rfl (call2g (s := ⟨[some (.f .deal), some (.f (.lst xs))], some gg⟩) rfl (ev_blt (x := .f (.lst xs)) (d := .lst xs) rfl rfl rfl) hr) rfl rfl (at_nat hj)
  exact ret_body (bd := b11) (m := 2) (p := 2) rfl rfl (by decide) (evSs_rt (evS_ret e1 rfl))
theorem shp_tl (xs : List Nat) : shp (tl xs) = true := by
  unfold shp PySem.SeqAt.shaped
  have e : (tl xs).py = .list (xs.map fun (n : Nat) => PySem.PyData.int n) := by
    have := py_tn xs
    injection this with this
    show PySem.PyData.list (pyAll _) = _
    rw [this]
  rw [e, Bool.and_eq_true]
  refine ⟨by rw [PySem.PyData.canLay0]; exact canLay_tn xs, decide_eq_true ?_⟩
  have := depth_tn xs
  rw [PySem.PyData.depth]
  omega
theorem eqD_tl_nil (xs : List Nat) : eqD (tl xs) (.lst []) = some (decide (xs = [])) := by
  unfold eqD
  rw [shp_tl, show shp (.lst []) = true from shp_tl []]
  show some (PySem.PyData.eqv (.list (pyAll (xs.map fun (n : Nat) => D.int n))) (.list [])) = _
  have := py_tn xs
  injection this with this
  rw [this, PySem.PyData.eqv]
  cases xs with
  | nil => simp [PySem.PyData.eqvAll]
  | cons x r => simp [PySem.PyData.eqvAll]
def il (xs : List Nat) : List D := xs.map fun (n : Nat) => .int n
theorem il_erase : ∀ (l : List Nat) (j : Nat), (il l).eraseIdx j = il (l.eraseIdx j)
  | [], _ => rfl
  | _ :: _, 0 => rfl
  | x :: l, j + 1 => by
    show D.int (x : Int) :: (il l).eraseIdx j = _
    rw [il_erase l j]
    rfl
def stX (src : D) (l f : List Nat) (gg : GG) : S := ⟨[some (.f .deal), some (.f src), some (.o (il l)), some (.o (il f))], some gg⟩
theorem cond_X {src : D} {l f : List Nat} {gg : GG} : evE tab (callD tab fns n) (.cmp .ne (.var 2) (.lst [])) (stX src l f gg) = .ok (.f (.bl (!decide (l = [])))) (stX src l f gg) :=
  ev_cmp (x := .b 2) (w := .o []) (da := tl l) (db := .lst []) rfl rfl rfl rfl (by
    show (eqD (tl l) (.lst [])).map not = _
    rw [eqD_tl_nil]
    rfl)
theorem pop_X {src : D} {l f : List Nat} {gg : GG} (hl : l ≠ []) (hlm : l.length ≤ 1000) : ∃ (j : Nat) (hj : j < l.length) (gg' : GG), evE tab (callD tab fns (n + 1)) (.popAt 2 (.call 6 [(.var 0), (.blt .len [(.var 2)])])) (stX src l f gg) = .ok (.f (.int (l[j] : Nat))) (stX src (l.eraseIdx j) f gg') := by
  have h0 : 0 < l.length := List.length_pos_iff.mpr hl
  obtain ⟨j, gg', hj, hr⟩ := anyN (n := n) h0 (by omega) gg
  refine ⟨j, hj, gg', ?_⟩
  have e1 : evE tab (callD tab fns (n + 1)) (.call 6 [(.var 0), (.blt .len [(.var 2)])]) (stX src l f gg) = .ok (.f (.int (j : Int))) (stX src l f gg') :=
    call2g (s := stX src l f gg) rfl (ev_blt (x := .b 2) (d := tl l) (v := .f (.int (l.length : Int))) rfl rfl (by
      show some (DV.f (.int ((l.map fun (n : Nat) => D.int n).length : Int))) = _
      rw [List.length_map])) hr
  have o1 : ∀ g, ownAt 2 (stX src l f g) = .ok (il l) (stX src l f g) := fun g => rfl
  show bnd (ownAt 2) _ _ = _
  rw [bnd_of (o1 gg), bnd_of e1, bnd_of (show look (DV.f (.int (j : Int))) (stX src l f gg') = .ok (.int (j : Int)) (stX src l f gg') from rfl), bnd_of (show int? (.int (j : Int)) (stX src l f gg') = .ok (j : Int) (stX src l f gg') from rfl), bnd_of (o1 gg')]
  have hjl : j < (il l).length := by unfold il; rw [List.length_map]; exact hj
  rw [if_pos (by omega), Int.toNat_natCast, List.getElem?_eq_getElem hjl]
  have e2 : (il l)[j] = .int (l[j] : Nat) := by simp [il]
  have e3 : (il l).eraseIdx j = il (l.eraseIdx j) := il_erase l j
  rw [e2, bnd_of (opt_some _ _), e3]
  rfl
end
end LK

set_option Elab.async false
set_option linter.all false
set_option maxRecDepth 100000
set_option maxHeartbeats 4000000
/-! K29m: mixed lists. Own text. -/
namespace LK
open PySem (Str)
open DI PM
theorem erase_perm : ∀ (l : List Nat) (j : Nat) (h : j < l.length), l.Perm (l[j] :: l.eraseIdx j)
  | [], j, h => absurd h (Nat.not_lt_zero _)
  | x :: l, 0, _ => List.Perm.refl _
  | x :: l, j + 1, h => ((erase_perm l j (Nat.lt_of_succ_lt_succ h)).cons x).trans (List.Perm.swap _ _ _)
theorem isP_perm {m : Nat} {f : List Nat} (h : f.Perm (List.range m)) : IsP m f :=
  ⟨by rw [h.length_eq, List.length_range], fun s hs => List.mem_range.mp (h.mem_iff.mp hs), h.nodup_iff.mpr List.nodup_range⟩
section
variable {K m o n d : Nat}
theorem body_X {src : D} {l f : List Nat} {gg : GG} (hl : l ≠ []) (hlm : l.length ≤ 1000) (hf : f.length ≤ 1000) : ∃ (j : Nat) (hj : j < l.length) (gg' : GG), evSs tab (callD tab fns (n + 1)) [.expr (.append 3 (.popAt 2 (.call 6 [(.var 0), (.blt .len [(.var 2)])])))] (stX src l f gg) = .ok .nx (stX src (l.eraseIdx j) (f ++ [l[j]]) gg') := by
  obtain ⟨j, hj, gg', e⟩ := pop_X (n := n) (src := src) (f := f) (gg := gg) hl hlm
  refine ⟨j, hj, gg', ?_⟩
  have o1 : ownAt 3 (stX src l f gg) = .ok (il f) (stX src l f gg) := rfl
  have o2 : ownAt 3 (stX src (l.eraseIdx j) f gg') = .ok (il f) (stX src (l.eraseIdx j) f gg') := rfl
  have hlim : (1000 : Nat) < lim := by decide
  have e1 : evE tab (callD tab fns (n + 1)) (.append 3 (.popAt 2 (.call 6 [(.var 0), (.blt .len [(.var 2)])]))) (stX src l f gg) = .ok (.f .non) (stX src (l.eraseIdx j) (f ++ [l[j]]) gg') := by
    show bnd (ownAt 3) _ _ = _
    rw [bnd_of o1, bnd_of e, bnd_of (show frz (DV.f (.int (l[j] : Nat))) (stX src (l.eraseIdx j) f gg') = .ok (.int (l[j] : Nat)) (stX src (l.eraseIdx j) f gg') from rfl), bnd_of o2]
    have hx : (il f).length < lim := by
      unfold il
      rw [List.length_map]
      omega
    rw [if_pos hx]
    have e3 : il f ++ [D.int (l[j] : Nat)] = il (f ++ [l[j]]) := by simp [il]
    rw [e3]
    rfl
  exact (evSs_nx (evS_expr e1)).trans rfl
/-- _law_mixed -/
theorem ret_mixed (hm : m ≤ 1000) (gg : GG) : ∃ (q : List Nat) (gg' : GG), IsP m q ∧ Rt (n + 2) 12 [.deal, tl (idP m)] (some gg) (.o (il q)) (some gg') := by
  have e1 : evS tab (callD tab fns (n + 1)) (.par [.nm 2, .nm 3] [(.blt .list [(.var 1)]), (.lst [])]) ⟨[some (.f .deal), some (.f (tl (idP m))), none, none], some gg⟩ = .ok .nx (stX (tl (idP m)) (idP m) [] gg) :=
    evS_par (evEs_cons (ev_blt (x := .f (tl (idP m))) (d := tl (idP m)) (v := .o (il (idP m))) rfl rfl rfl) (evEs_cons (v := .o []) rfl evEs_nil)) rfl rfl
  obtain ⟨s', e2, f, gg', hs, hp⟩ := whileGo_inv (c := bnd (evE tab (callD tab fns (n + 1)) (.cmp .ne (.var 2) (.lst []))) bool?) (body := evSs tab (callD tab fns (n + 1)) [.expr (.append 3 (.popAt 2 (.call 6 [(.var 0), (.blt .len [(.var 2)])])))])
    (fun j s => ∃ (l f : List Nat) (gg : GG), s = stX (tl (idP m)) l f gg ∧ (l ++ f).Perm (List.range m) ∧ l.length = j)
    (fun j s ⟨l, f, gg, hs, hp, hl⟩ => by
      have hlen : l.length + f.length = m := by
        have := hp.length_eq
        rw [List.length_append, List.length_range] at this
        exact this
      subst hs
      by_cases h : l = []
      · left
        refine ⟨_, cnd_of (cond_X.trans (by rw [decide_eq_true h]; rfl)), l, f, gg, rfl, hp, by rw [h]; rfl⟩
      · right
        obtain ⟨i, hi, gg', e⟩ := body_X (n := n) (src := tl (idP m)) (f := f) (gg := gg) h (by omega) (by omega)
        refine ⟨_, _, (l.eraseIdx i).length, cnd_of (cond_X.trans (by rw [decide_eq_false h]; rfl)), e, by rw [List.length_eraseIdx, if_pos hi]; omega, l.eraseIdx i, f ++ [l[i]], gg', rfl, ?_, rfl⟩
        refine List.Perm.trans ?_ hp
        have h1 := erase_perm l i hi
        have h2 : (l.eraseIdx i ++ (f ++ [l[i]])).Perm (l[i] :: (l.eraseIdx i ++ f)) := by
          rw [← List.append_assoc]
          exact List.perm_append_comm
        exact h2.trans (h1.symm.append_right f))
    (fun s => ∃ (f : List Nat) (gg : GG), s = stX (tl (idP m)) [] f gg ∧ f.Perm (List.range m))
    (fun j s s1 ⟨l, f, gg, hs, hp, hl⟩ hc => by
      subst hs
      rw [cnd_of cond_X] at hc
      injection hc with q1 q2
      have h : l = [] := by simpa using q1
      subst h
      exact ⟨f, gg, q2.symm, hp⟩) FU m (stX (tl (idP m)) (idP m) [] gg) (FU_gt (by omega)) ⟨idP m, [], gg, rfl, by rw [List.append_nil]; exact List.Perm.refl _, by unfold idP; rw [List.length_range]⟩
  subst hs
  refine ⟨f, gg', isP_perm hp, ?_⟩
  have e3 : evS tab (callD tab fns (n + 1)) (.while (.cmp .ne (.var 2) (.lst [])) [.expr (.append 3 (.popAt 2 (.call 6 [(.var 0), (.blt .len [(.var 2)])])))]) (stX (tl (idP m)) (idP m) [] gg) = .ok .nx (stX (tl (idP m)) [] f gg') := e2
  have e4 : evSs tab (callD tab fns (n + 1)) [.ret (.var 3)] (stX (tl (idP m)) [] f gg') = .ok (.rt (.o (il f))) (stX (tl (idP m)) [] f gg') := evSs_rt (evS_ret (v := .b 3) (s1 := stX (tl (idP m)) [] f gg') rfl rfl)
  exact ret_body (bd := b12) (m := 4) (p := 2) rfl rfl (by decide) ((evSs_nx e1).trans ((evSs_nx e3).trans e4))
end
end LK

set_option Elab.async false
set_option linter.all false
set_option maxRecDepth 100000
set_option maxHeartbeats 4000000
/-! K29n: dealt rows. Own text. -/
namespace LK
open PySem (Str)
open DI PM
section
variable {K m o n d : Nat} {i : Nat} {r : List (Option DV)}
theorem lcGo_any (hi : i < r.length) {k : Nat} {el : M D} (h : ∀ (x : Option DV) (gg : GG), ∃ (a : Nat) (gg' : GG), a < k ∧ el ⟨r.set i x, some gg⟩ = .ok (.int (a : Int)) ⟨r.set i x, some gg'⟩) : ∀ (ds : List D) (acc : List D) (x : Option DV) (gg : GG), acc.length + ds.length ≤ lim →
    ∃ (q : List Nat) (x' : Option DV) (gg' : GG), q.length = ds.length ∧ (∀ a ∈ q, a < k) ∧ lcGo [i] (asgT (.nm i)) (ret true) el ds acc ⟨r.set i x, some gg⟩ = .ok (acc ++ il q) ⟨r.set i x', some gg'⟩
  | [], acc, x, gg, _ => ⟨[], x, gg, rfl, fun a ha => absurd ha List.not_mem_nil, by simp [lcGo, ret, il]⟩
  | d :: ds, acc, x, gg, hl => by
    rw [List.length_cons] at hl
    have e0 : asgT (.nm i) d { (⟨r.set i x, some gg⟩ : S) with r := wipeR (r.set i x) [i] } = .ok () ⟨r.set i (some (.f d)), some gg⟩ := by
      show setR i (.f d) ⟨(r.set i x).set i none, some gg⟩ = _
      unfold setR
      rw [if_pos (by simpa using hi)]
      simp only [set_none_set]
    obtain ⟨a, g1, ha, e1⟩ := h (some (.f d)) gg
    obtain ⟨q, x', gg', hq, hb, e⟩ := lcGo_any hi h ds (acc ++ [.int (a : Int)]) (some (.f d)) g1 (by simp; omega)
    refine ⟨a :: q, x', gg', by rw [List.length_cons, hq, List.length_cons], fun b hb' => ?_, ?_⟩
    · rcases List.mem_cons.mp hb' with rfl | hb'
      · exact ha
      · exact hb b hb'
    · show bnd (asgT (.nm i) d) _ _ = _
      rw [bnd_of e0, bnd_of (show ret true (⟨r.set i (some (.f d)), some gg⟩ : S) = .ok true _ from rfl), if_pos rfl, bnd_of e1, if_pos (by omega), e]
      simp [il]
theorem lc_any {Φ : Fns} (hi : i < r.length) {k L : Nat} {b e : E} {y : DV} {gg : GG} (hL : L ≤ 1000) (h2 : srcM b (evE tab Φ b) ⟨r, some gg⟩ = .ok y ⟨r, some gg⟩) (hy : frz y ⟨r, some gg⟩ = .ok (.int (L : Int)) ⟨r, some gg⟩)
    (h : ∀ (x : Option DV) (gg : GG), ∃ (a : Nat) (gg' : GG), a < k ∧ evE tab Φ e ⟨r.set i x, some gg⟩ = .ok (.f (.int (a : Int))) ⟨r.set i x, some gg'⟩) :
    ∃ (q : List Nat) (gg' : GG), q.length = L ∧ (∀ a ∈ q, a < k) ∧ evE tab Φ (.lc [i] (.nm i) .rng (.int 0) b .nop e) ⟨r, some gg⟩ = .ok (.o (il q)) ⟨r, some gg'⟩ := by
  have hr : r.set i r[i] = r := List.set_getElem_self hi
  have hlim : (1000 : Nat) ≤ lim := by decide
  obtain ⟨q, x', gg', hq, hb, e'⟩ := lcGo_any hi (el := bnd (evE tab Φ e) frz) (k := k) (fun x gg => by
    obtain ⟨a, g1, ha, e1⟩ := h x gg
    exact ⟨a, g1, ha, (bnd_of e1).trans rfl⟩) ((List.range L).map fun (i : Nat) => D.int (i : Int)) [] r[i] gg (by rw [List.length_map, List.length_range]; show 0 + L ≤ lim; omega)
  rw [hr, List.nil_append] at e'
  rw [List.length_map, List.length_range] at hq
  refine ⟨q, gg', hq, hb, ?_⟩
  have h3 : itemsD .rng (.int 0) (.int (L : Int)) = some ((List.range L).map fun (i : Nat) => D.int (i : Int)) := by rw [items_rng (by omega) (by omega), rngI_eq]
  show bnd (evE tab Φ (.int 0)) _ _ = _
  rw [bnd_of (show evE tab Φ (.int 0) ⟨r, some gg⟩ = .ok (.f (.int 0)) ⟨r, some gg⟩ from rfl), bnd_of h2, bnd_of (show frz (.f (.int 0)) ⟨r, some gg⟩ = .ok (.int 0) ⟨r, some gg⟩ from rfl), bnd_of hy, h3]
  show (match noExc (lcGo [i] (asgT (.nm i)) (ret true) (bnd (evE tab Φ e) frz) ((List.range L).map fun (i : Nat) => D.int (i : Int)) []) ⟨r, some gg⟩ with
    | .ok ys s' => Res.ok (DV.o ys) { s' with r := backR r s'.r [i] }
    | _ => .stuck) = _
  unfold noExc
  rw [e']
  show Res.ok _ (S.mk (backR r (r.set i x') [i]) (some gg')) = _
  rw [backR_set]
/-- _law_row -/
theorem ret_row {L : Nat} (hK : 0 < K) (hK2 : K ≤ 1000) (hL : L ≤ 1000) (gg : GG) : ∃ (q : List Nat) (gg' : GG), q.length = L ∧ (∀ a ∈ q, a < K) ∧ Rt (n + 2) 16 [.deal, .int (K : Int), .int (L : Int)] (some gg) (.f (tn q)) (some gg') := by
  obtain ⟨q, gg', h1, h2, e⟩ := lc_any (Φ := callD tab fns (n + 1)) (i := 3) (r := [some (.f .deal), some (.f (.int (K : Int))), some (.f (.int (L : Int))), none]) (k := K) (L := L) (b := .var 2) (e := .call 6 [(.var 0), (.var 1)]) (gg := gg) (by show 3 < 4; decide) hL rfl rfl (fun x gg => by
    obtain ⟨a, g1, ha, hr⟩ := anyN (n := n) hK (by omega) gg
    exact ⟨a, g1, ha, call2g (s := ⟨[some (.f .deal), some (.f (.int (K : Int))), some (.f (.int (L : Int))), x], some gg⟩) rfl rfl hr⟩)
  exact ⟨q, gg', h1, h2, ret_body (bd := b16) (m := 4) (p := 3) rfl rfl (by decide) (evSs_rt (evS_ret (ev_blt e rfl rfl) rfl))⟩
end
end LK

set_option Elab.async false
set_option linter.all false
set_option maxRecDepth 100000
set_option maxHeartbeats 4000000
/-! K29o: a turn of _law_reversible. Own text. -/
namespace LK
open PySem (Str)
open DI PM
/-- a list at hand: still owned, or frozen -/
def ow (b : Bool) (q : List Nat) : DV := if b then .o (il q) else .f (tl q)
section
variable {K m o n d a : Nat} {cs : List (List Nat)} {base q : List Nat} {b c : Bool} {x6 x9 x10 x11 : Option DV} {gg : GG}
def stR (a K m : Nat) (cs : List (List Nat)) (v5 : DV) (x6 x9 x10 x11 : Option DV) (gg : GG) : S :=
  ⟨[some (.f .deal), some (.f (.int (a : Int))), some (.f (.int (K : Int))), some (.o (cs.map tl)), some (.f (.int (m : Int))), some v5, x6, none, none, x9, x10, x11, none, none], some gg⟩
theorem cmp_a {Φ : Fns} {v5 : DV} {j : Nat} {t : Bool} (h : decide (a = j) = t) : evE tab Φ (.cmp .eq (.var 1) (.int (j : Int))) (stR a K m cs v5 x6 x9 x10 x11 gg) = .ok (.f (.bl t)) (stR a K m cs v5 x6 x9 x10 x11 gg) :=
  cmp_int (i := a) (j := j) rfl rfl (by
    show eqD (.int (a : Int)) (.int (j : Int)) = _
    rw [eqD_int, ← h]
    congr 1
    rw [decide_eq_decide]
    omega)
theorem ev_ite {T : Tab} {Φ : Fns} {e1 e2 e3 : E} {s s1 : S} {k : Bool} (h : evE T Φ e1 s = .ok (.f (.bl k)) s1) : evE T Φ (.ite e1 e2 e3) s = if k then evE T Φ e2 s1 else evE T Φ e3 s1 := by
  show bnd (evE T Φ e1) _ _ = _
  rw [bnd_of h]
  show bnd (ret k) _ _ = _
  rw [bnd_of (show ret k s1 = .ok k s1 from rfl)]
  cases k <;> rfl
theorem call_mixed {v5 : DV} (hm : m ≤ 1000) (gg : GG) : ∃ (q : List Nat) (gg' : GG), IsP m q ∧ evE tab (callD tab fns (n + 2)) (.call 12 [(.var 0), (.lrg .nop (.var 4))]) (stR a K m cs v5 x6 x9 x10 x11 gg) = .ok (.o (il q)) (stR a K m cs v5 x6 x9 x10 x11 gg') := by
  obtain ⟨q, gg', hq, hr⟩ := ret_mixed (n := n) hm gg
  refine ⟨q, gg', hq, ?_⟩
  have e1 : evE tab (callD tab fns (n + 2)) (.lrg .nop (.var 4)) (stR a K m cs v5 x6 x9 x10 x11 gg) = .ok (.o (il (idP m))) (stR a K m cs v5 x6 x9 x10 x11 gg) := by
    generalize hs : stR a K m cs v5 x6 x9 x10 x11 gg = s
    have v4 : evE tab (callD tab fns (n + 2)) (.var 4) s = .ok (.f (.int (m : Int))) s := by rw [← hs]; rfl
    show bnd (ret (DV.f (.int 0))) _ _ = _
    rw [bnd_of (show ret (DV.f (.int 0)) s = .ok (DV.f (.int 0)) s from rfl), bnd_of v4, bnd_of (show look (DV.f (.int 0)) s = .ok (.int 0) s from rfl), bnd_of (show look (DV.f (.int (m : Int))) s = .ok (.int (m : Int)) s from rfl),
      bnd_of (show int? (.int 0) s = .ok 0 s from rfl), bnd_of (show int? (.int (m : Int)) s = .ok (m : Int) s from rfl), rngD_m hm, bnd_of (opt_some (rngI 0 m) s), rngI_eq]
    rfl
  exact ev_call (s1 := stR a K m cs v5 x6 x9 x10 x11 gg) (s2 := stR a K m cs v5 x6 x9 x10 x11 gg) (ds := [.deal, tl (idP m)]) (evEs_cons (v := .f .deal) rfl (evEs_cons e1 evEs_nil)) rfl hr
theorem turn1 (hm : m ≤ 1000) (hb : IsP m base) (b : Bool) (x9 : Option DV) (gg : GG) : ∃ (b' c : Bool) (q : List Nat) (gg' : GG), IsP m q ∧ evS tab (callD tab fns (n + 2)) (.set 9 (.ite (.cmp .eq (.var 1) (.int 1)) (.call 12 [(.var 0), (.lrg .nop (.var 4))]) (.var 5))) (stR a K m cs (ow b base) x6 x9 x10 x11 gg) = .ok .nx (stR a K m cs (ow b' base) x6 (some (ow c q)) x10 x11 gg') := by
  by_cases h : a = 1
  · obtain ⟨q, gg', hq, e⟩ := call_mixed (n := n) (a := a) (K := K) (cs := cs) (x6 := x6) (x9 := x9) (x10 := x10) (x11 := x11) (v5 := ow b base) hm gg
    exact ⟨b, true, q, gg', hq, evS_setK ((ev_ite (cmp_a (j := 1) (t := true) (decide_eq_true h))).trans e) rfl⟩
  · refine ⟨false, false, base, gg, hb, ?_⟩
    cases b with
    | true => exact evS_setK (v := .b 5) ((ev_ite (cmp_a (j := 1) (t := false) (decide_eq_false h))).trans rfl) rfl
    | false => exact evS_setK (v := .f (tl base)) ((ev_ite (cmp_a (j := 1) (t := false) (decide_eq_false h))).trans rfl) rfl
end
end LK

set_option Elab.async false
set_option linter.all false
set_option maxRecDepth 100000
set_option maxHeartbeats 4000000
/-! K29p: a turn of _law_reversible, the second and third part. Own text. -/
namespace LK
open PySem (Str)
open DI PM
def rotP (m j : Nat) : List Nat := (List.range m).map fun s => (s + j) % m
theorem rot_isP {m j : Nat} (hm : 0 < m) : IsP m (rotP m j) := by
  refine ⟨by simp [rotP], fun s hs => ?_, ?_⟩
  · obtain ⟨t, _, rfl⟩ := List.mem_map.mp hs
    exact Nat.mod_lt _ hm
  · unfold rotP
    rw [List.nodup_iff_pairwise_ne, List.pairwise_map]
    refine List.Pairwise.imp_of_mem ?_ (List.nodup_iff_pairwise_ne.mp List.nodup_range)
    intro s t hs ht hne heq
    have h1 := List.mem_range.mp hs
    have h2 := List.mem_range.mp ht
    have e1 := Nat.div_add_mod (s + j) m
    have e2 := Nat.div_add_mod (t + j) m
    rw [heq] at e1
    have h3 : ∃ u v : Nat, m * u + (t + j) % m = s + j ∧ m * v + (t + j) % m = t + j := ⟨_, _, e1, e2⟩
    obtain ⟨u, v, h4, h5⟩ := h3
    rcases Nat.lt_trichotomy u v with h | h | h
    · have : m * (u + 1) ≤ m * v := Nat.mul_le_mul_left m h
      rw [Nat.mul_add] at this
      omega
    · subst h
      omega
    · have : m * (v + 1) ≤ m * u := Nat.mul_le_mul_left m h
      rw [Nat.mul_add] at this
      omega
section
variable {K m o n d a : Nat} {cs : List (List Nat)} {base q : List Nat} {b c : Bool} {x6 x9 x10 x11 : Option DV} {gg : GG} {v5 : DV}
theorem ev_rot {Φ : Fns} {j : Nat} (hm : 0 < m) (hm2 : m ≤ 1000) : evE tab Φ (.lc [12] (.nm 12) .rng (.int 0) (.var 4) .nop (.bin .mod (.blt .int [(.bin .add (.var 12) (.var 10))]) (.var 4))) (stR a K m cs v5 x6 x9 (some (.f (.int (j : Int)))) x11 gg) = .ok (.o (il (rotP m j))) (stR a K m cs v5 x6 x9 (some (.f (.int (j : Int)))) x11 gg) := by
  have hlim : (1000 : Nat) ≤ lim := by decide
  have e := lc_pure (T := tab) (Φ := Φ) (i := 12) (r := (stR a K m cs v5 x6 x9 (some (.f (.int (j : Int)))) x11 gg).r) (g := some gg) (k := .rng) (a := .int 0) (b := .var 4) (c := .nop) (e := .bin .mod (.blt .int [(.bin .add (.var 12) (.var 10))]) (.var 4)) (v := .f (.int 0)) (xs := .int 0) (y := .f (.int (m : Int))) (dy := .int (m : Int)) (ds := (List.range m).map fun (i : Nat) => D.int (i : Int))
    (p := fun _ => true) (f := fun d => match d with | .int s => .int (((s.toNat + j) % m : Nat) : Int) | d => d) (by show 12 < 14; decide) rfl rfl rfl rfl (by rw [items_rng (by omega) (by omega), rngI_eq]) (fun d hd => by
      obtain ⟨s, hs, rfl⟩ := List.mem_map.mp hd
      refine ⟨rfl, fun _ => ?_⟩
      have h1 : evE tab Φ (.bin .mod (.blt .int [(.bin .add (.var 12) (.var 10))]) (.var 4)) ⟨(stR a K m cs v5 x6 x9 (some (.f (.int (j : Int)))) x11 gg).r.set 12 (some (.f (.int (s : Int)))), some gg⟩ = .ok (.f (.int (((s + j) % m : Nat) : Int))) ⟨(stR a K m cs v5 x6 x9 (some (.f (.int (j : Int)))) x11 gg).r.set 12 (some (.f (.int (s : Int)))), some gg⟩ :=
        ev_bin2 (x := .f (.int ((s : Int) + j))) (w := .f (.int (m : Int))) (da := .int ((s : Int) + j)) (db := .int (m : Int)) (ev_blt (x := .f (.int ((s : Int) + j))) (d := .int ((s : Int) + j)) rfl rfl rfl) rfl rfl rfl (by
          show (if 0 < (m : Int) then some (DV.f (.int (((s : Int) + j) % m))) else none) = _
          rw [if_pos (by omega)]
          congr 3)
      exact (bnd_of h1).trans rfl) (by rw [List.length_map, List.length_range]; omega)
  rw [filt_true, List.map_map] at e
  have e2 : (List.range m).map ((fun d => match d with | .int s => D.int (((s.toNat + j) % m : Nat) : Int) | d => d) ∘ fun (i : Nat) => D.int (i : Int)) = il (rotP m j) := by
    unfold il rotP
    rw [List.map_map]
    rfl
  rw [e2] at e
  exact e
theorem call_any {k : Nat} {v5 : DV} {e : E} (hk : 0 < k) (hk2 : k < 2 ^ 100) (he : ∀ gg, evE tab (callD tab fns (n + 1)) e (stR a K m cs v5 x6 x9 x10 x11 gg) = .ok (.f (.int (k : Int))) (stR a K m cs v5 x6 x9 x10 x11 gg)) (gg : GG) : ∃ (j : Nat) (gg' : GG), j < k ∧ evE tab (callD tab fns (n + 1)) (.call 6 [(.var 0), e]) (stR a K m cs v5 x6 x9 x10 x11 gg) = .ok (.f (.int (j : Int))) (stR a K m cs v5 x6 x9 x10 x11 gg') := by
  obtain ⟨j, gg', hj, hr⟩ := anyN (n := n) hk hk2 gg
  exact ⟨j, gg', hj, call2g (s := stR a K m cs v5 x6 x9 x10 x11 gg) rfl (he gg) hr⟩
theorem turn2 (hm : 0 < m) (hm2 : m ≤ 1000) (hq : IsP m q) (c : Bool) (x10 : Option DV) (gg : GG) : ∃ (c' : Bool) (q' : List Nat) (x10' : Option DV) (gg' : GG), IsP m q' ∧ evS tab (callD tab fns (n + 1)) (.ifs (.cmp .eq (.var 1) (.int 2)) [.set 10 (.call 6 [(.var 0), (.var 4)]),
  .set 9 (.lc [12] (.nm 12) .rng (.int 0) (.var 4) .nop (.bin .mod (.blt .int [(.bin .add (.var 12) (.var 10))]) (.var 4)))] []) (stR a K m cs v5 x6 (some (ow c q)) x10 x11 gg) = .ok .nx (stR a K m cs v5 x6 (some (ow c' q')) x10' x11 gg') := by
  by_cases h : a = 2
  · obtain ⟨j, gg', hj, e⟩ := call_any (n := n) (a := a) (K := K) (cs := cs) (x6 := x6) (x9 := some (ow c q)) (x10 := x10) (x11 := x11) (v5 := v5) (e := .var 4) hm (by omega) (fun _ => rfl) gg
    refine ⟨true, rotP m j, some (.f (.int (j : Int))), gg', rot_isP hm, (evS_ifs (cmp_a (j := 2) (t := true) (decide_eq_true h))).trans ?_⟩
    rw [if_pos rfl]
    exact (evSs_nx (s1 := stR a K m cs v5 x6 (some (ow c q)) (some (.f (.int (j : Int)))) x11 gg') (evS_setK e rfl)).trans ((evSs_nx (evS_setK (ev_rot hm hm2) rfl)).trans rfl)
  · exact ⟨c, q, x10, gg, hq, (evS_ifs (cmp_a (j := 2) (t := false) (decide_eq_false h))).trans rfl⟩
end
end LK

set_option Elab.async false
set_option linter.all false
set_option maxRecDepth 100000
set_option maxHeartbeats 4000000
/-! K29q: a turn of _law_reversible, the third part. Own text. -/
namespace LK
open PySem (Str)
open DI PM
section
variable {K m o n d a : Nat} {cs : List (List Nat)} {base q : List Nat} {b c : Bool} {x6 x9 x10 x11 : Option DV} {gg : GG} {v5 : DV}
theorem ix_il {i : Nat} (h : i < base.length) : ixD (.lst (il base)) (.int (i : Int)) = some (.int (base.getD i 0 : Nat)) := ix_tl h
theorem ev_along {Φ : Fns} (hb : IsP m base) (hq : IsP m q) (hm2 : m ≤ 1000) : evE tab Φ (.lc [12] (.nm 12) .val (.var 9) .nop .nop (.ix (.var 5) (.var 12))) (stR a K m cs (ow b base) x6 (some (ow c q)) x10 x11 gg) = .ok (.o (il (comp q base))) (stR a K m cs (ow b base) x6 (some (ow false q)) x10 x11 gg) := by
  have hlim : (1000 : Nat) ≤ lim := by decide
  have go : ∀ {v : DV}, evE tab Φ (.var 9) (stR a K m cs (ow b base) x6 (some (ow c q)) x10 x11 gg) = .ok v (stR a K m cs (ow b base) x6 (some (ow c q)) x10 x11 gg) → frz v (stR a K m cs (ow b base) x6 (some (ow c q)) x10 x11 gg) = .ok (.lst (il q)) (stR a K m cs (ow b base) x6 (some (ow false q)) x10 x11 gg) → evE tab Φ (.lc [12] (.nm 12) .val (.var 9) .nop .nop (.ix (.var 5) (.var 12))) (stR a K m cs (ow b base) x6 (some (ow c q)) x10 x11 gg) = .ok (.o (il (comp q base))) (stR a K m cs (ow b base) x6 (some (ow false q)) x10 x11 gg) := fun {v} h1 hv => by
    have e := lc_pure2 (T := tab) (Φ := Φ) (i := 12) (r := (stR a K m cs (ow b base) x6 (some (ow false q)) x10 x11 gg).r) (g := some gg) (k := .val) (a := .var 9) (b := .nop) (c := .nop) (e := .ix (.var 5) (.var 12)) (y := .f .non) (dy := .non) (ds := il q)
      (p := fun _ => true) (f := fun d => match d with | .int s => .int (base.getD s.toNat 0 : Nat) | d => d) (by show 12 < 14; decide) h1 rfl hv rfl rfl (fun d hd => by
        obtain ⟨s, hs, rfl⟩ := List.mem_map.mp hd
        refine ⟨rfl, fun _ => ?_⟩
        have hlt : s < base.length := by rw [hb.len]; exact hq.lt s hs
        cases b with
        | true => exact (bnd_of (ev_ix (T := tab) (Φ := Φ) (a := .var 5) (i := .var 12) (x := .b 5) (da := .lst (il base)) rfl rfl rfl rfl (ix_il hlt))).trans rfl
        | false => exact (bnd_of (ev_ix (T := tab) (Φ := Φ) (a := .var 5) (i := .var 12) (x := .f (tl base)) (da := .lst (il base)) rfl rfl rfl rfl (ix_il hlt))).trans rfl) (by unfold il; rw [List.length_map, hq.len]; omega)
    rw [filt_true] at e
    have e2 : (il q).map (fun d => match d with | .int s => D.int (base.getD s.toNat 0 : Nat) | d => d) = il (comp q base) := by
      unfold il comp
      rw [List.map_map, List.map_map]
      rfl
    rw [e2] at e
    exact e
  cases c with
  | true => exact go (v := .b 9) rfl rfl
  | false => exact go (v := .f (tl q)) rfl rfl
theorem turn3 (hb : IsP m base) (hm2 : m ≤ 1000) (hq : IsP m q) (b c : Bool) (x11 : Option DV) (gg : GG) : ∃ (c' : Bool) (q' : List Nat) (x11' : Option DV) (gg' : GG), IsP m q' ∧ evS tab (callD tab fns (n + 1)) (.ifs (.cmp .eq (.var 1) (.int 3)) [.for (.nm 11) .rng (.int 0) (.call 6 [(.var 0), (.int 4)]) [.set 9 (.lc [12] (.nm 12) .val (.var 9) .nop .nop (.ix (.var 5) (.var 12)))]] []) (stR a K m cs (ow b base) x6 (some (ow c q)) x10 x11 gg) = .ok .nx (stR a K m cs (ow b base) x6 (some (ow c' q')) x10 x11' gg') := by
  by_cases h : a = 3
  · obtain ⟨j, gg', hj, e⟩ := call_any (n := n) (a := a) (K := K) (m := m) (cs := cs) (x6 := x6) (x9 := some (ow c q)) (x10 := x10) (x11 := x11) (v5 := ow b base) (e := .int 4) (k := 4) (by decide) (by decide) (fun _ => rfl) gg
    obtain ⟨⟨⟨c', q', x11'⟩, hq'⟩, e2⟩ := for_rng (σ := {p : Bool × List Nat × Option DV // IsP m p.2.1}) (T := tab) (Φ := callD tab fns (n + 1)) (t := .nm 11) (a := .int 0) (b := .call 6 [(.var 0), (.int 4)]) (body := [.set 9 (.lc [12] (.nm 12) .val (.var 9) .nop .nop (.ix (.var 5) (.var 12)))]) (fun _ p => stR a K m cs (ow b base) x6 (some (ow p.1.1 p.1.2.1)) x10 p.1.2.2 gg') (m := j) ⟨(c, q, x11), hq⟩ (s := stR a K m cs (ow b base) x6 (some (ow c q)) x10 x11 gg) (by omega) rfl e rfl rfl (fun k p hk => by
      obtain ⟨⟨c1, q1, y1⟩, hq1⟩ := p
      refine ⟨stR a K m cs (ow b base) x6 (some (ow c1 q1)) x10 (some (.f (.int (k : Int)))) gg', ⟨(true, comp q1 base, some (.f (.int (k : Int)))), IsP.comp hq1 hb⟩, rfl, ?_⟩
      exact (evSs_nx (evS_setK (ev_along hb hq1 hm2) rfl)).trans rfl)
    refine ⟨c', q', x11', gg', hq', (evS_ifs (cmp_a (j := 3) (t := true) (decide_eq_true h))).trans ?_⟩
    rw [if_pos rfl]
    exact (evSs_nx e2).trans rfl
  · exact ⟨c, q, x11, gg, hq, (evS_ifs (cmp_a (j := 3) (t := false) (decide_eq_false h))).trans rfl⟩
theorem turn4 (hcs : cs.length ≤ 1000) (c : Bool) (v5 : DV) : evS tab (callD tab fns (n + 1)) (.expr (.append 3 (.var 9))) (stR a K m cs v5 x6 (some (ow c q)) x10 x11 gg) = .ok .nx (stR a K m (cs ++ [q]) v5 x6 (some (ow false q)) x10 x11 gg) := by
  have hlim : (1000 : Nat) < lim := by decide
  have hx : (cs.map tl).length < lim := by rw [List.length_map]; omega
  have go : ∀ {v : DV}, evE tab (callD tab fns (n + 1)) (.var 9) (stR a K m cs v5 x6 (some (ow c q)) x10 x11 gg) = .ok v (stR a K m cs v5 x6 (some (ow c q)) x10 x11 gg) → frz v (stR a K m cs v5 x6 (some (ow c q)) x10 x11 gg) = .ok (tl q) (stR a K m cs v5 x6 (some (ow false q)) x10 x11 gg) → evE tab (callD tab fns (n + 1)) (.append 3 (.var 9)) (stR a K m cs v5 x6 (some (ow c q)) x10 x11 gg) = .ok (.f .non) (stR a K m (cs ++ [q]) v5 x6 (some (ow false q)) x10 x11 gg) := fun {v} h1 h2 => by
    show bnd (ownAt 3) _ _ = _
    rw [bnd_of (show ownAt 3 (stR a K m cs v5 x6 (some (ow c q)) x10 x11 gg) = .ok (cs.map tl) _ from rfl), bnd_of h1, bnd_of h2, bnd_of (show ownAt 3 (stR a K m cs v5 x6 (some (ow false q)) x10 x11 gg) = .ok (cs.map tl) _ from rfl), if_pos hx, show cs.map tl ++ [tl q] = (cs ++ [q]).map tl by simp]
    rfl
  cases c with
  | true => exact evS_expr (go (v := .b 9) rfl rfl)
  | false => exact evS_expr (go (v := .f (tl q)) rfl rfl)
end
end LK

set_option Elab.async false
set_option linter.all false
set_option maxRecDepth 100000
set_option maxHeartbeats 4000000
/-! K29r: the columns of _law_reversible. Own text. -/
namespace LK
open PySem (Str)
open DI PM
theorem backR_of {i : Nat} {rA rB : List (Option DV)} {x : Option DV} (h : rA[i]? = rB[i]?) : backR rA (rB.set i x) [i] = rB := by
  have := backR_set (i := i) (r := rB) (x := x)
  unfold backR at this ⊢
  rw [h]
  exact this
theorem lc_pre {T : Tab} {Φ : Fns} {i : Nat} {rA rB : List (Option DV)} {g : G} {k : ItK} {a b e : E} {xs dy : D} {y v : DV} {d0 : D} {ds : List D} {f : D → D} (hi : i < rB.length) (hl : rA.length = rB.length) (hAB : rA[i]? = rB[i]?)
    (h1 : evE T Φ a ⟨rA, g⟩ = .ok v ⟨rA, g⟩) (h2 : srcM b (evE T Φ b) ⟨rA, g⟩ = .ok y ⟨rA, g⟩) (hv : frz v ⟨rA, g⟩ = .ok xs ⟨rA, g⟩) (hy : frz y ⟨rA, g⟩ = .ok dy ⟨rA, g⟩) (h3 : itemsD k xs dy = some (d0 :: ds))
    (h0 : bnd (evE T Φ e) frz ⟨rA.set i (some (.f d0)), g⟩ = .ok (f d0) ⟨rB.set i (some (.f d0)), g⟩)
    (h : ∀ d ∈ ds, bnd (evE T Φ e) frz ⟨rB.set i (some (.f d)), g⟩ = .ok (f d) ⟨rB.set i (some (.f d)), g⟩) (hlm : ds.length + 1 ≤ lim) :
    evE T Φ (.lc [i] (.nm i) k a b .nop e) ⟨rA, g⟩ = .ok (.o ((d0 :: ds).map f)) ⟨rB, g⟩ := by
  obtain ⟨x', e'⟩ := lcGo_pure hi (cnd := ret true) (el := bnd (evE T Φ e) frz) (p := fun _ => true) (f := f) ds [f d0] (some (.f d0)) (fun d hd => ⟨rfl, fun _ => h d hd⟩) (by show 1 + ds.length ≤ lim; omega)
  rw [filt_true] at e'
  have e0 : asgT (.nm i) d0 { (⟨rA, g⟩ : S) with r := wipeR rA [i] } = .ok () ⟨rA.set i (some (.f d0)), g⟩ := by
    show setR i (.f d0) ⟨rA.set i none, g⟩ = _
    unfold setR
    rw [if_pos (by show i < (rA.set i none).length; rw [List.length_set, hl]; exact hi)]
    simp only [set_none_set]
  have e1 : lcGo [i] (asgT (.nm i)) (ret true) (bnd (evE T Φ e) frz) (d0 :: ds) [] ⟨rA, g⟩ = .ok ((d0 :: ds).map f) ⟨rB.set i x', g⟩ := by
    show bnd (asgT (.nm i) d0) _ _ = _
    rw [bnd_of e0, bnd_of (show ret true (⟨rA.set i (some (.f d0)), g⟩ : S) = .ok true _ from rfl), if_pos rfl, bnd_of h0, if_pos (by show 0 < lim; decide)]
    exact e'
  show bnd (evE T Φ a) _ _ = _
  rw [bnd_of h1, bnd_of h2, bnd_of hv, bnd_of hy, h3]
  show (match noExc (lcGo [i] (asgT (.nm i)) (ret true) (bnd (evE T Φ e) frz) (d0 :: ds) []) ⟨rA, g⟩ with
    | .ok ys s' => Res.ok (DV.o ys) { s' with r := backR rA s'.r [i] }
    | _ => .stuck) = _
  unfold noExc
  rw [e1]
  show Res.ok _ (S.mk (backR rA (rB.set i x') [i]) g) = _
  rw [backR_of hAB]
end LK

set_option Elab.async false
set_option linter.all false
set_option maxRecDepth 100000
set_option maxHeartbeats 4000000
/-! K29s: the columns of _law_reversible, the loop. Own text. -/
namespace LK
open PySem (Str)
open DI PM
section
variable {K m o n d a : Nat} {base : List Nat}
structure TS where
  b : Bool
  cs : Nat → List Nat
  x6 : Option DV
  x9 : Option DV
  x10 : Option DV
  x11 : Option DV
  gg : GG
def stV (a K m : Nat) (base : List Nat) (k : Nat) (t : TS) : S := stR a K m ((List.range k).map t.cs) (ow t.b base) t.x6 t.x9 t.x10 t.x11 t.gg
theorem loop_cols (hm : 0 < m) (hm2 : m ≤ 100) (hK : K ≤ 100) (hb : IsP m base) (gg : GG) : ∃ (t : TS), (∀ j, IsP m (t.cs j)) ∧ evS tab (callD tab fns (n + 2)) (.for (.nm 6) .rng (.int 0) (.var 2) [.set 9 (.ite (.cmp .eq (.var 1) (.int 1)) (.call 12 [(.var 0), (.lrg .nop (.var 4))]) (.var 5)),
  .ifs (.cmp .eq (.var 1) (.int 2)) [.set 10 (.call 6 [(.var 0), (.var 4)]),
  .set 9 (.lc [12] (.nm 12) .rng (.int 0) (.var 4) .nop (.bin .mod (.blt .int [(.bin .add (.var 12) (.var 10))]) (.var 4)))] [],
  .ifs (.cmp .eq (.var 1) (.int 3)) [.for (.nm 11) .rng (.int 0) (.call 6 [(.var 0), (.int 4)]) [.set 9 (.lc [12] (.nm 12) .val (.var 9) .nop .nop (.ix (.var 5) (.var 12)))]] [],
  .expr (.append 3 (.var 9))]) (stR a K m [] (ow true base) none none none none gg) = .ok .nx (stV a K m base K t) := by
  obtain ⟨⟨t, ht⟩, e⟩ := for_rng (σ := {t : TS // ∀ j, IsP m (t.cs j)}) (T := tab) (Φ := callD tab fns (n + 2)) (t := .nm 6) (a := .int 0) (b := .var 2) (body := [.set 9 (.ite (.cmp .eq (.var 1) (.int 1)) (.call 12 [(.var 0), (.lrg .nop (.var 4))]) (.var 5)),
  .ifs (.cmp .eq (.var 1) (.int 2)) [.set 10 (.call 6 [(.var 0), (.var 4)]),
  .set 9 (.lc [12] (.nm 12) .rng (.int 0) (.var 4) .nop (.bin .mod (.blt .int [(.bin .add (.var 12) (.var 10))]) (.var 4)))] [],
  .ifs (.cmp .eq (.var 1) (.int 3)) [.for (.nm 11) .rng (.int 0) (.call 6 [(.var 0), (.int 4)]) [.set 9 (.lc [12] (.nm 12) .val (.var 9) .nop .nop (.ix (.var 5) (.var 12)))]] [],
  .expr (.append 3 (.var 9))]) (fun k p => stV a K m base k p.1) (m := K) ⟨⟨true, fun _ => idP m, none, none, none, none, gg⟩, fun _ => isP_perm (List.Perm.refl _)⟩ (s := stR a K m [] (ow true base) none none none none gg) (by omega) rfl rfl rfl rfl (fun k p hk => by
    obtain ⟨⟨b, cs, x6, x9, x10, x11, gg⟩, hcs⟩ := p
    obtain ⟨b1, c1, q1, g1, h1, e1⟩ := turn1 (n := n) (a := a) (K := K) (cs := (List.range k).map cs) (x6 := some (.f (.int (k : Int)))) (x10 := x10) (x11 := x11) (by omega) hb b x9 gg
    obtain ⟨c2, q2, y10, g2, h2, e2⟩ := turn2 (n := n + 1) (a := a) (K := K) (cs := (List.range k).map cs) (x6 := some (.f (.int (k : Int)))) (x11 := x11) (v5 := ow b1 base) hm (by omega) h1 c1 x10 g1
    obtain ⟨c3, q3, y11, g3, h3, e3⟩ := turn3 (n := n + 1) (a := a) (K := K) (cs := (List.range k).map cs) (x6 := some (.f (.int (k : Int)))) (x10 := y10) hb (by omega) h2 b1 c2 x11 g2
    have e4 := turn4 (n := n + 1) (a := a) (K := K) (m := m) (cs := (List.range k).map cs) (q := q3) (x6 := some (.f (.int (k : Int)))) (x10 := y10) (x11 := y11) (gg := g3) (by rw [List.length_map, List.length_range]; omega) c3 (ow b1 base)
    refine ⟨stR a K m ((List.range k).map cs) (ow b base) (some (.f (.int (k : Int)))) x9 x10 x11 gg, ⟨⟨b1, fun j => if j = k then q3 else cs j, some (.f (.int (k : Int))), some (ow false q3), y10, y11, g3⟩, fun j => ?_⟩, rfl, ?_⟩
    · show IsP m (if j = k then q3 else cs j)
      by_cases h : j = k
      · rw [if_pos h]; exact h3
      · rw [if_neg h]; exact hcs j
    · refine (evSs_nx e1).trans ((evSs_nx e2).trans ((evSs_nx e3).trans ((evSs_nx e4).trans ?_)))
      show Res.ok Fl.nx _ = Res.ok Fl.nx (stR a K m ((List.range (k + 1)).map fun j => if j = k then q3 else cs j) _ _ _ _ _ _)
      have : (List.range (k + 1)).map (fun j => if j = k then q3 else cs j) = (List.range k).map cs ++ [q3] := by
        rw [List.range_succ, List.map_append]
        congr 1
        · refine List.map_congr_left fun j hj => ?_
          have := List.mem_range.mp hj
          rw [if_neg (by omega)]
        · simp
      rw [this])
  exact ⟨t, ht, e⟩
end
end LK

set_option Elab.async false
set_option linter.all false
set_option maxRecDepth 100000
set_option maxHeartbeats 4000000
/-! K29t: the columns of _law_reversible, turned to rows. Own text. -/
namespace LK
open PySem (Str)
open DI PM
def turned (m : Nat) (C : List (List Nat)) : List (List Nat) := (List.range m).map fun s => C.map fun q => q.getD s 0
section
variable {K m o n d a : Nat} {C : List (List Nat)} {x6 x9 x10 x11 : Option DV} {gg : GG} {v5 : DV}
theorem turned_col {c : Nat} (hc : c < C.length) (hC : ∀ q ∈ C, IsP m q) : col (turned m C) c = C[c] := by
  unfold col turned
  rw [List.map_map]
  have hl := (hC _ (List.getElem_mem hc)).len
  refine List.ext_getElem (by simp [hl]) fun s h1 h2 => ?_
  rw [List.getElem_map, List.getElem_range]
  show (C.map fun q => q.getD s 0).getD c 0 = _
  rw [List.getD_eq_getElem?_getD, List.getElem?_map, List.getElem?_eq_getElem hc]
  show (C[c]).getD s 0 = _
  rw [List.getD_eq_getElem?_getD, List.getElem?_eq_getElem h2]
  rfl
theorem turned_rev (hm : 0 < m) (hm8 : m ≤ 8) (hK : 0 < K) (hK3 : K ≤ 3) (hl : C.length = K) (hC : ∀ q ∈ C, IsP m q) : Rev K m (turned m C) where
  kpos := hK
  kle := hK3
  mpos := hm
  mle := hm8
  len := by simp [turned]
  row := fun r hr => by
    obtain ⟨s, _, rfl⟩ := List.mem_map.mp hr
    rw [List.length_map, hl]
  col := fun c hc => by
    rw [turned_col (by rw [hl]; exact hc) hC]
    exact hC _ (List.getElem_mem _)
def stB (a K m : Nat) (cs : List (List Nat)) (v5 : DV) (x6 x9 x10 x11 : Option DV) (gg : GG) : S :=
  ⟨[some (.f .deal), some (.f (.int (a : Int))), some (.f (.int (K : Int))), some (.f (.lst (cs.map tl))), some (.f (.int (m : Int))), some v5, x6, none, none, x9, x10, x11, none, none], some gg⟩
theorem ev_inner {Φ : Fns} (hC : ∀ q ∈ C, IsP m q) (hl : C.length ≤ 100) {s : Nat} (hs : s < m) {s0 : S} {v : DV} (h1 : evE tab Φ (.var 3) s0 = .ok v s0) (hv : frz v s0 = .ok (.lst (C.map tl)) ⟨(stB a K m C v5 x6 x9 x10 x11 gg).r.set 12 (some (.f (.int (s : Int)))), some gg⟩) :
    bnd (evE tab Φ (.lc [9] (.nm 9) .val (.var 3) .nop .nop (.ix (.var 9) (.var 12)))) frz s0 = .ok (tl (C.map fun q => q.getD s 0)) ⟨(stB a K m C v5 x6 x9 x10 x11 gg).r.set 12 (some (.f (.int (s : Int)))), some gg⟩ := by
  have hlim : (100 : Nat) ≤ lim := by decide
  have e := lc_pure2 (T := tab) (Φ := Φ) (i := 9) (r := (stB a K m C v5 x6 x9 x10 x11 gg).r.set 12 (some (.f (.int (s : Int))))) (g := some gg) (k := .val) (a := .var 3) (b := .nop) (c := .nop) (e := .ix (.var 9) (.var 12)) (y := .f .non) (dy := .non) (ds := C.map tl)
    (p := fun _ => true) (f := fun d => match ixD d (.int (s : Int)) with | some v => v | none => d) (by show 9 < 14; decide) h1 rfl hv rfl rfl (fun d hd => by
      obtain ⟨q, hq, rfl⟩ := List.mem_map.mp hd
      refine ⟨rfl, fun _ => ?_⟩
      have h1 := ix_tl (r := q) (c := s) (by rw [(hC q hq).len]; exact hs)
      rw [bnd_of (ev_ix (T := tab) (a := .var 9) (i := .var 12) (x := .f (tl q)) (da := tl q) rfl rfl rfl rfl h1), h1]
      rfl) (by rw [List.length_map]; omega)
  rw [filt_true, List.map_map] at e
  have e2 : C.map ((fun d => match ixD d (.int (s : Int)) with | some v => v | none => d) ∘ tl) = il (C.map fun q => q.getD s 0) := by
    unfold il
    rw [List.map_map]
    refine List.map_congr_left fun q hq => ?_
    show (match ixD (tl q) (.int (s : Int)) with | some v => v | none => tl q) = D.int (q.getD s 0 : Nat)
    rw [ix_tl (by rw [(hC q hq).len]; exact hs)]
  rw [e2] at e
  rw [bnd_of e]
  rfl
theorem ev_turned {Φ : Fns} (hm : 0 < m) (hm8 : m ≤ 8) (hC : ∀ q ∈ C, IsP m q) (hl : C.length ≤ 100) : evE tab Φ (.lc [12] (.nm 12) .rng (.int 0) (.var 4) .nop (.lc [9] (.nm 9) .val (.var 3) .nop .nop (.ix (.var 9) (.var 12)))) (stR a K m C v5 x6 x9 x10 x11 gg) = .ok (.o ((turned m C).map tl)) (stB a K m C v5 x6 x9 x10 x11 gg) := by
  have hlim : (100 : Nat) ≤ lim := by decide
  obtain ⟨m', rfl⟩ : ∃ m', m = m' + 1 := ⟨m - 1, by omega⟩
  have hr : (List.range (m' + 1)).map (fun (i : Nat) => D.int (i : Int)) = .int ((0 : Nat) : Int) :: (List.range m').map (fun (i : Nat) => D.int ((i + 1 : Nat) : Int)) := by
    rw [List.range_succ_eq_map, List.map_cons, List.map_map]
    rfl
  have e := lc_pre (T := tab) (Φ := Φ) (i := 12) (rA := (stR a K (m' + 1) C v5 x6 x9 x10 x11 gg).r) (rB := (stB a K (m' + 1) C v5 x6 x9 x10 x11 gg).r) (g := some gg) (k := .rng) (a := .int 0) (b := .var 4) (e := .lc [9] (.nm 9) .val (.var 3) .nop .nop (.ix (.var 9) (.var 12))) (v := .f (.int 0)) (xs := .int 0) (y := .f (.int ((m' + 1 : Nat) : Int))) (dy := .int ((m' + 1 : Nat) : Int)) (d0 := .int ((0 : Nat) : Int)) (ds := (List.range m').map (fun (i : Nat) => D.int ((i + 1 : Nat) : Int)))
    (f := fun d => match d with | .int s => tl (C.map fun q => q.getD s.toNat 0) | d => d) (by show 12 < 14; decide) rfl rfl rfl rfl rfl rfl (by rw [items_rng (by omega) (by omega), rngI_eq, hr])
    (ev_inner (v := .b 3) (s := 0) hC hl (by omega) rfl rfl) (fun d hd => by
      obtain ⟨s, hs, rfl⟩ := List.mem_map.mp hd
      exact ev_inner (v := .f (.lst (C.map tl))) (s := s + 1) hC hl (by have := List.mem_range.mp hs; omega) rfl rfl) (by rw [List.length_map, List.length_range]; omega)
  rw [← hr, List.map_map] at e
  have e2 : (List.range (m' + 1)).map ((fun d => match d with | .int s => tl (C.map fun q => q.getD s.toNat 0) | d => d) ∘ fun (i : Nat) => D.int (i : Int)) = (turned (m' + 1) C).map tl := by
    unfold turned
    rw [List.map_map]
    rfl
  rw [e2] at e
  exact e
end
end LK

set_option Elab.async false
set_option linter.all false
set_option maxRecDepth 100000
set_option maxHeartbeats 4000000
/-! K29u: _law_reversible, its head and its forms with columns. Own text. -/
namespace LK
open PySem (Str)
open DI PM
theorem pick5 : ∀ (j : Nat) (hj : j < ([.int 2, .int 2, .int 3, .int 1, .int 3] : List D).length), ∃ K : Nat, ([.int 2, .int 2, .int 3, .int 1, .int 3] : List D)[j] = .int (K : Int) ∧ 0 < K ∧ K ≤ 3
  | 0, _ => ⟨2, rfl, by decide, by decide⟩
  | 1, _ => ⟨2, rfl, by decide, by decide⟩
  | 2, _ => ⟨3, rfl, by decide, by decide⟩
  | 3, _ => ⟨1, rfl, by decide, by decide⟩
  | 4, _ => ⟨3, rfl, by decide, by decide⟩
  | j + 5, h => absurd h (by simp)
section
variable {K m o n d a : Nat} {gg : GG}
def stI (gg : GG) : S := ⟨[some (.f .deal), none, none, none, none, none, none, none, none, none, none, none, none, none], some gg⟩
def stJ (a K : Nat) (gg : GG) : S := ⟨[some (.f .deal), some (.f (.int (a : Int))), some (.f (.int (K : Int))), some (.o []), none, none, none, none, none, none, none, none, none, none], some gg⟩
theorem rev_head (gg : GG) : ∃ (a K : Nat) (gg' : GG), 0 < K ∧ K ≤ 3 ∧ evS tab (callD tab fns (n + 2)) (.par [.nm 1, .nm 2, .nm 3] [(.call 6 [(.var 0), (.int 4)]), (.call 11 [(.var 0), (.lst [(.int 2), (.int 2), (.int 3), (.int 1), (.int 3)])]), (.lst [])]) (stI gg) = .ok .nx (stJ a K gg') := by
  obtain ⟨a, g1, ha, h1⟩ := anyN (n := n + 1) (k := 4) (by decide) (by decide) gg
  obtain ⟨j, hj, g2, h2⟩ := ret_of (n := n) (xs := [.int 2, .int 2, .int 3, .int 1, .int 3]) (by decide) (by decide) g1
  obtain ⟨K, hK, hK0, hK3⟩ := pick5 j hj
  rw [hK] at h2
  refine ⟨a, K, g2, hK0, hK3, ?_⟩
  have e1 : evE tab (callD tab fns (n + 2)) (.call 6 [(.var 0), (.int 4)]) (stI gg) = .ok (.f (.int (a : Int))) (stI g1) := call2g (s := stI gg) rfl rfl h1
  have e2 : evE tab (callD tab fns (n + 2)) (.call 11 [(.var 0), (.lst [(.int 2), (.int 2), (.int 3), (.int 1), (.int 3)])]) (stI g1) = .ok (.f (.int (K : Int))) (stI g2) :=
    ev_call (s1 := stI g1) (s2 := stI g1) (vs := [.f .deal, .o [.int 2, .int 2, .int 3, .int 1, .int 3]]) (evEs_cons rfl (evEs_cons rfl evEs_nil)) rfl h2
  exact evS_par (evEs_cons e1 (evEs_cons e2 (evEs_cons (v := .o []) rfl evEs_nil))) rfl rfl
end
end LK

set_option Elab.async false
set_option linter.all false
set_option maxRecDepth 100000
set_option maxHeartbeats 4000000
/-! K29v: _law_reversible, its forms with columns. Own text. -/
namespace LK
open PySem (Str)
open DI PM
section
variable {K m o n d a : Nat} {gg : GG}
theorem mixed_at {r : List (Option DV)} (hm : m ≤ 1000) (v0 : ∀ gg, evE tab (callD tab fns (n + 2)) (.var 0) ⟨r, gg⟩ = .ok (.f .deal) ⟨r, gg⟩) (v4 : ∀ gg, evE tab (callD tab fns (n + 2)) (.var 4) ⟨r, gg⟩ = .ok (.f (.int (m : Int))) ⟨r, gg⟩) (gg : GG) : ∃ (q : List Nat) (gg' : GG), IsP m q ∧ evE tab (callD tab fns (n + 2)) (.call 12 [(.var 0), (.lrg .nop (.var 4))]) ⟨r, some gg⟩ = .ok (.o (il q)) ⟨r, some gg'⟩ := by
  obtain ⟨q, gg', hq, hr⟩ := ret_mixed (n := n) hm gg
  refine ⟨q, gg', hq, ?_⟩
  have e1 : evE tab (callD tab fns (n + 2)) (.lrg .nop (.var 4)) ⟨r, some gg⟩ = .ok (.o (il (idP m))) ⟨r, some gg⟩ := by
    have w4 := v4 (some gg)
    generalize (⟨r, some gg⟩ : S) = s at w4
    show bnd (ret (DV.f (.int 0))) _ _ = _
    rw [bnd_of (show ret (DV.f (.int 0)) s = .ok (DV.f (.int 0)) s from rfl), bnd_of w4, bnd_of (show look (DV.f (.int 0)) s = .ok (.int 0) s from rfl), bnd_of (show look (DV.f (.int (m : Int))) s = .ok (.int (m : Int)) s from rfl),
      bnd_of (show int? (.int 0) s = .ok 0 s from rfl), bnd_of (show int? (.int (m : Int)) s = .ok (m : Int) s from rfl), rngD_m hm, bnd_of (opt_some (rngI 0 m) s), rngI_eq]
    rfl
  exact ev_call (s1 := ⟨r, some gg⟩) (s2 := ⟨r, some gg⟩) (ds := [.deal, tl (idP m)]) (evEs_cons (v0 _) (evEs_cons e1 evEs_nil)) rfl hr
def stK (a K m : Nat) (gg : GG) : S := ⟨[some (.f .deal), some (.f (.int (a : Int))), some (.f (.int (K : Int))), some (.o []), some (.f (.int (m : Int))), none, none, none, none, none, none, none, none, none], some gg⟩
theorem rev_cols (hK0 : 0 < K) (hK3 : K ≤ 3) (gg : GG) : ∃ (m : Nat) (rs : List (List Nat)) (s : S) (gg' : GG), Rev K m rs ∧ s.g = some gg' ∧ evSs tab (callD tab fns (n + 2)) (b15.drop 2) (stJ a K gg) = .ok (.rt (.f (.tup [.int (K : Int), rowsL rs]))) s := by
  obtain ⟨j, g1, hj, h1⟩ := anyN (n := n + 1) (k := 6) (by decide) (by decide) gg
  have e1 : evS tab (callD tab fns (n + 2)) (.set 4 (.bin .add (.int 1) (.call 6 [(.var 0), (.int 6)]))) (stJ a K gg) = .ok .nx (stK a K (1 + j) g1) :=
    evS_setK (ev_bin2 (s1 := stJ a K gg) (s2 := stJ a K g1) (x := .f (.int 1)) (da := .int 1) (db := .int (j : Int)) (v := .f (.int ((1 + j : Nat) : Int))) rfl (call2g (s := stJ a K gg) rfl rfl h1) rfl rfl (by
      show some (DV.f (.int (1 + (j : Int)))) = _
      congr 3)) rfl
  generalize hm : 1 + j = m at e1
  obtain ⟨base, g2, hb, h2⟩ := mixed_at (n := n) (m := m) (r := (stK a K m g1).r) (by omega) (fun _ => rfl) (fun _ => rfl) g1
  have e2 : evS tab (callD tab fns (n + 2)) (.set 5 (.call 12 [(.var 0), (.lrg .nop (.var 4))])) (stK a K m g1) = .ok .nx (stR a K m [] (ow true base) none none none none g2) :=
    evS_setK (s1 := ⟨(stK a K m g1).r, some g2⟩) h2 rfl
  obtain ⟨t, ht, e3⟩ := loop_cols (n := n) (a := a) (K := K) (m := m) (base := base) (by omega) (by omega) (by omega) hb g2
  have hC : ∀ q ∈ (List.range K).map t.cs, IsP m q := fun q hq => by
    obtain ⟨i, _, rfl⟩ := List.mem_map.mp hq
    exact ht i
  have hl : ((List.range K).map t.cs).length = K := by simp
  have e4 := ev_turned (Φ := callD tab fns (n + 2)) (a := a) (K := K) (C := (List.range K).map t.cs) (x6 := t.x6) (x9 := t.x9) (x10 := t.x10) (x11 := t.x11) (gg := t.gg) (v5 := ow t.b base) (m := m) (by omega) (by omega) hC (by omega)
  generalize hCC : (List.range K).map t.cs = C at e4 hC hl
  have e5 : evE tab (callD tab fns (n + 2)) (.tup [(.var 2), (.lc [12] (.nm 12) .rng (.int 0) (.var 4) .nop (.lc [9] (.nm 9) .val (.var 3) .nop .nop (.ix (.var 9) (.var 12))))]) (stV a K m base K t) = .ok (.f (.tup [.int (K : Int), rowsL (turned m C)])) (stB a K m C (ow t.b base) t.x6 t.x9 t.x10 t.x11 t.gg) := by
    have e6 : evEs tab (callD tab fns (n + 2)) [(.var 2), (.lc [12] (.nm 12) .rng (.int 0) (.var 4) .nop (.lc [9] (.nm 9) .val (.var 3) .nop .nop (.ix (.var 9) (.var 12))))] (stV a K m base K t) = .ok [.f (.int (K : Int)), .o ((turned m C).map tl)] (stB a K m C (ow t.b base) t.x6 t.x9 t.x10 t.x11 t.gg) := by
      unfold stV
      rw [hCC]
      exact evEs_cons (v := .f (.int (K : Int))) rfl (evEs_cons e4 evEs_nil)
    show bnd (evEs tab (callD tab fns (n + 2)) _) _ _ = _
    rw [bnd_of e6]
    rfl
  exact ⟨m, turned m C, _, t.gg, turned_rev (by omega) (by omega) hK0 hK3 hl hC, rfl, (evSs_nx e1).trans ((evSs_nx e2).trans ((evSs_nx e3).trans (evSs_rt (evS_ret e5 rfl))))⟩
end
end LK

set_option Elab.async false
set_option linter.all false
set_option maxRecDepth 100000
set_option maxHeartbeats 4000000
/-! K29w: wheels. Own text. -/
namespace LK
open PySem (Str)
open DI PM
/-- where a wheel of t rings of M places takes state (p, s) -/
def wheelAt (t M p s one : Nat) : Nat := (p + 1) % t * M + (s + (if p = 0 then one else 0)) % M
def wheelCol (t M one : Nat) : List Nat := (List.range t).flatMap fun p => (List.range M).map fun s => wheelAt t M p s one
def wheels : List (Nat × Nat) := [(1, 2), (2, 2), (3, 2), (4, 2), (1, 3), (2, 3)]
theorem wheel_isP {t M one : Nat} (h : (t, M) ∈ wheels) (ho : one < M) : IsP (t * M) (wheelCol t M one) := by
  have key : ∀ w ∈ wheels, ∀ one ∈ List.range w.2, (wheelCol w.1 w.2 one).length = w.1 * w.2 ∧ (∀ s ∈ wheelCol w.1 w.2 one, s < w.1 * w.2) ∧ (wheelCol w.1 w.2 one).Nodup := by decide
  obtain ⟨h1, h2, h3⟩ := key (t, M) h one (List.mem_range.mpr ho)
  exact ⟨h1, h2, h3⟩
end LK

set_option Elab.async false
set_option linter.all false
set_option maxRecDepth 100000
set_option maxHeartbeats 4000000
/-! K29x: a wheel's row, as the text makes it. Own text. -/
namespace LK
open PySem (Str)
open DI PM
section
variable {K m o n d t M p st : Nat} {q : List Nat} {rows : List (List Nat)} {x5 x6 x7 : Option DV} {gg : GG}
def stW (q : List Nat) (t M : Nat) (rows : List (List Nat)) (x5 x6 x7 : Option DV) (gg : GG) : S :=
  ⟨[some (.f (tl q)), some (.f (.int (t : Int))), some (.f (.int (M : Int))), some (.f (.int 0)), some (.o (rows.map tl)), x5, x6, x7, none], some gg⟩
def addP (p : Nat) (q : List Nat) : List Nat := q.map fun one => if p = 0 then one else 0
theorem ev_add {Φ : Fns} (hq : q.length ≤ 100) : evE tab Φ (.lc [8] (.nm 8) .val (.var 0) .nop .nop (.ite (.cmp .eq (.var 5) (.int 0)) (.var 8) (.int 0))) (stW q t M rows (some (.f (.int (p : Int)))) x6 x7 gg) = .ok (.o (il (addP p q))) (stW q t M rows (some (.f (.int (p : Int)))) x6 x7 gg) := by
  have hlim : (100 : Nat) ≤ lim := by decide
  have e := lc_pure (T := tab) (Φ := Φ) (i := 8) (r := (stW q t M rows (some (.f (.int (p : Int)))) x6 x7 gg).r) (g := some gg) (k := .val) (a := .var 0) (b := .nop) (c := .nop) (e := .ite (.cmp .eq (.var 5) (.int 0)) (.var 8) (.int 0)) (v := .f (tl q)) (xs := tl q) (y := .f .non) (dy := .non) (ds := il q)
    (p := fun _ => true) (f := fun d => if p = 0 then d else .int 0) (by show 8 < 9; decide) rfl rfl rfl rfl rfl (fun d hd => by
      obtain ⟨s, hs, rfl⟩ := List.mem_map.mp hd
      refine ⟨rfl, fun _ => ?_⟩
      have c1 : evE tab Φ (.cmp .eq (.var 5) (.int 0)) ⟨(stW q t M rows (some (.f (.int (p : Int)))) x6 x7 gg).r.set 8 (some (.f (.int (s : Int)))), some gg⟩ = .ok (.f (.bl (decide (p = 0)))) ⟨(stW q t M rows (some (.f (.int (p : Int)))) x6 x7 gg).r.set 8 (some (.f (.int (s : Int)))), some gg⟩ :=
        cmp_int (i := p) (j := 0) rfl rfl (by
          show eqD (.int (p : Int)) (.int 0) = _
          rw [eqD_int]
          congr 1
          rw [decide_eq_decide]
          omega)
      by_cases h : p = 0
      · rw [decide_eq_true h] at c1
        rw [bnd_of ((ev_ite c1).trans (if_pos rfl)), if_pos h]
        rfl
      · rw [decide_eq_false h] at c1
        rw [bnd_of ((ev_ite c1).trans (if_neg Bool.false_ne_true)), if_neg h]
        rfl) (by unfold il; rw [List.length_map]; omega)
  rw [filt_true] at e
  have e2 : (il q).map (fun d => if p = 0 then d else .int 0) = il (addP p q) := by
    unfold il addP
    rw [List.map_map, List.map_map]
    refine List.map_congr_left fun s _ => ?_
    show (if p = 0 then D.int (s : Int) else .int 0) = D.int ((if p = 0 then s else 0 : Nat) : Int)
    by_cases h : p = 0
    · rw [if_pos h, if_pos h]
    · rw [if_neg h, if_neg h]
      rfl
  rw [e2] at e
  exact e
end
end LK

set_option Elab.async false
set_option linter.all false
set_option maxRecDepth 100000
set_option maxHeartbeats 4000000
/-! K29y: a wheel's row, whole. Own text. -/
namespace LK
open PySem (Str)
open DI PM
section
variable {K m o n d t M p st : Nat} {q l : List Nat} {rows : List (List Nat)} {x5 x6 x7 : Option DV} {gg : GG}
theorem ev_place {Φ : Fns} {s : S} {add : Nat} (ht : 0 < t) (hM : 0 < M) (hM2 : M ≤ 1000) (v1 : evE tab Φ (.var 1) s = .ok (.f (.int (t : Int))) s) (v2 : evE tab Φ (.var 2) s = .ok (.f (.int (M : Int))) s) (v3 : evE tab Φ (.var 3) s = .ok (.f (.int 0)) s) (v5 : evE tab Φ (.var 5) s = .ok (.f (.int (p : Int))) s) (v6 : evE tab Φ (.var 6) s = .ok (.f (.int (st : Int))) s) (v8 : evE tab Φ (.var 8) s = .ok (.f (.int (add : Int))) s) :
    evE tab Φ (.bin .add (.bin .add (.var 3) (.bin .mul (.bin .mod (.blt .int [(.bin .add (.var 5) (.int 1))]) (.var 1)) (.var 2))) (.bin .mod (.blt .int [(.bin .add (.var 6) (.var 8))]) (.var 2))) s = .ok (.f (.int (((p + 1) % t * M + (st + add) % M : Nat) : Int))) s := by
  have a1 : evE tab Φ (.bin .add (.var 5) (.int 1)) s = .ok (.f (.int ((p : Int) + 1))) s := ev_bin v5 rfl rfl
  have a2 : evE tab Φ (.bin .mod (.blt .int [(.bin .add (.var 5) (.int 1))]) (.var 1)) s = .ok (.f (.int (((p + 1) % t : Nat) : Int))) s :=
    ev_bin (da := .int ((p : Int) + 1)) (ev_blt a1 rfl rfl) v1 (by
      show (if 0 < (t : Int) then some (DV.f (.int (((p : Int) + 1) % t))) else none) = _
      rw [if_pos (by omega)]
      congr 3)
  have hsm : small64 (M : Int) = true := by
    simp only [small64, Bool.and_eq_true, decide_eq_true_eq]
    omega
  have a3 : evE tab Φ (.bin .mul (.bin .mod (.blt .int [(.bin .add (.var 5) (.int 1))]) (.var 1)) (.var 2)) s = .ok (.f (.int (((p + 1) % t * M : Nat) : Int))) s :=
    ev_bin a2 v2 (by
      show (if mulOk (((p + 1) % t : Nat) : Int) (M : Int) then some (DV.f (.int ((((p + 1) % t : Nat) : Int) * (M : Int)))) else none) = _
      rw [if_pos (by unfold mulOk; rw [hsm]; simp), Int.natCast_mul])
  have a4 : evE tab Φ (.bin .add (.var 3) (.bin .mul (.bin .mod (.blt .int [(.bin .add (.var 5) (.int 1))]) (.var 1)) (.var 2))) s = .ok (.f (.int (((p + 1) % t * M : Nat) : Int))) s :=
    ev_bin v3 a3 (by
      show some (DV.f (.int (0 + (((p + 1) % t * M : Nat) : Int)))) = _
      rw [Int.zero_add])
  have a5 : evE tab Φ (.bin .add (.var 6) (.var 8)) s = .ok (.f (.int ((st : Int) + add))) s := ev_bin v6 v8 rfl
  have a6 : evE tab Φ (.bin .mod (.blt .int [(.bin .add (.var 6) (.var 8))]) (.var 2)) s = .ok (.f (.int (((st + add) % M : Nat) : Int))) s :=
    ev_bin (da := .int ((st : Int) + add)) (ev_blt a5 rfl rfl) v2 (by
      show (if 0 < (M : Int) then some (DV.f (.int (((st : Int) + add) % M))) else none) = _
      rw [if_pos (by omega)]
      congr 3)
  exact ev_bin a4 a6 (by
    show some (DV.f (.int ((((p + 1) % t * M : Nat) : Int) + (((st + add) % M : Nat) : Int)))) = _
    rw [← Int.natCast_add])
end
end LK

set_option Elab.async false
set_option linter.all false
set_option maxRecDepth 100000
set_option maxHeartbeats 4000000
/-! K29z: a wheel's rows. Own text. -/
namespace LK
open PySem (Str)
open DI PM
section
variable {K m o n d t M p st : Nat} {q l : List Nat} {rows : List (List Nat)} {x5 x6 x7 : Option DV} {gg : GG}
def wrow (t M p st : Nat) (q : List Nat) : List Nat := q.map fun one => wheelAt t M p st one
theorem wheel_turn {Φ : Fns} (ht : 0 < t) (hM : 0 < M) (hM2 : M ≤ 1000) (hq : q.length ≤ 100) (hrows : rows.length ≤ 1000) : evSs tab Φ [.set 7 (.lc [8] (.nm 8) .val (.var 0) .nop .nop (.ite (.cmp .eq (.var 5) (.int 0)) (.var 8) (.int 0))),
  .expr (.append 4 (.lc [8] (.nm 8) .val (.var 7) .nop .nop (.bin .add (.bin .add (.var 3) (.bin .mul (.bin .mod (.blt .int [(.bin .add (.var 5) (.int 1))]) (.var 1)) (.var 2))) (.bin .mod (.blt .int [(.bin .add (.var 6) (.var 8))]) (.var 2)))))] (stW q t M rows (some (.f (.int (p : Int)))) (some (.f (.int (st : Int)))) x7 gg)
  = .ok .nx (stW q t M (rows ++ [wrow t M p st q]) (some (.f (.int (p : Int)))) (some (.f (.int (st : Int)))) (some (.f (tl (addP p q)))) gg) := by
  have hlim : (1000 : Nat) < lim := by decide
  refine (evSs_nx (s1 := stW q t M rows (some (.f (.int (p : Int)))) (some (.f (.int (st : Int)))) (some (.o (il (addP p q)))) gg) (evS_setK (ev_add hq) rfl)).trans ?_
  have e := lc_pure2 (T := tab) (Φ := Φ) (i := 8) (r := (stW q t M rows (some (.f (.int (p : Int)))) (some (.f (.int (st : Int)))) (some (.f (tl (addP p q)))) gg).r) (g := some gg) (k := .val) (a := .var 7) (b := .nop) (c := .nop) (e := (.bin .add (.bin .add (.var 3) (.bin .mul (.bin .mod (.blt .int [(.bin .add (.var 5) (.int 1))]) (.var 1)) (.var 2))) (.bin .mod (.blt .int [(.bin .add (.var 6) (.var 8))]) (.var 2)))) (v := .b 7) (xs := tl (addP p q)) (y := .f .non) (dy := .non) (ds := il (addP p q)) (s0 := stW q t M rows (some (.f (.int (p : Int)))) (some (.f (.int (st : Int)))) (some (.o (il (addP p q)))) gg)
    (p := fun _ => true) (f := fun d => match d with | .int a => .int (((p + 1) % t * M + (st + a.toNat) % M : Nat) : Int) | d => d) (by show 8 < 9; decide) rfl rfl rfl rfl rfl (fun d hd => by
      obtain ⟨s, hs, rfl⟩ := List.mem_map.mp hd
      refine ⟨rfl, fun _ => ?_⟩
      exact (bnd_of (ev_place (p := p) (st := st) (add := s) ht hM hM2 rfl rfl rfl rfl rfl rfl)).trans rfl) (by unfold il addP; rw [List.length_map, List.length_map]; omega)
  rw [filt_true] at e
  have e2 : (il (addP p q)).map (fun d => match d with | .int a => D.int (((p + 1) % t * M + (st + a.toNat) % M : Nat) : Int) | d => d) = il (wrow t M p st q) := by
    unfold il addP wrow wheelAt
    rw [List.map_map, List.map_map, List.map_map]
    rfl
  rw [e2] at e
  have e' : evE tab Φ (.lc [8] (.nm 8) .val (.var 7) .nop .nop (.bin .add (.bin .add (.var 3) (.bin .mul (.bin .mod (.blt .int [(.bin .add (.var 5) (.int 1))]) (.var 1)) (.var 2))) (.bin .mod (.blt .int [(.bin .add (.var 6) (.var 8))]) (.var 2)))) (stW q t M rows (some (.f (.int (p : Int)))) (some (.f (.int (st : Int)))) (some (.o (il (addP p q)))) gg) = .ok (.o (il (wrow t M p st q))) (stW q t M rows (some (.f (.int (p : Int)))) (some (.f (.int (st : Int)))) (some (.f (tl (addP p q)))) gg) := e
  have o1 : ownAt 4 (stW q t M rows (some (.f (.int (p : Int)))) (some (.f (.int (st : Int)))) (some (.o (il (addP p q)))) gg) = .ok (rows.map tl) (stW q t M rows (some (.f (.int (p : Int)))) (some (.f (.int (st : Int)))) (some (.o (il (addP p q)))) gg) := rfl
  have o2 : ownAt 4 (stW q t M rows (some (.f (.int (p : Int)))) (some (.f (.int (st : Int)))) (some (.f (tl (addP p q)))) gg) = .ok (rows.map tl) (stW q t M rows (some (.f (.int (p : Int)))) (some (.f (.int (st : Int)))) (some (.f (tl (addP p q)))) gg) := rfl
  have e3 : evE tab Φ (.append 4 (.lc [8] (.nm 8) .val (.var 7) .nop .nop (.bin .add (.bin .add (.var 3) (.bin .mul (.bin .mod (.blt .int [(.bin .add (.var 5) (.int 1))]) (.var 1)) (.var 2))) (.bin .mod (.blt .int [(.bin .add (.var 6) (.var 8))]) (.var 2))))) (stW q t M rows (some (.f (.int (p : Int)))) (some (.f (.int (st : Int)))) (some (.o (il (addP p q)))) gg) = .ok (.f .non) (stW q t M (rows ++ [wrow t M p st q]) (some (.f (.int (p : Int)))) (some (.f (.int (st : Int)))) (some (.f (tl (addP p q)))) gg) := by
    show bnd (ownAt 4) _ _ = _
    rw [bnd_of o1, bnd_of e', bnd_of (show frz (DV.o (il (wrow t M p st q))) (stW q t M rows (some (.f (.int (p : Int)))) (some (.f (.int (st : Int)))) (some (.f (tl (addP p q)))) gg) = .ok (D.lst (il (wrow t M p st q))) (stW q t M rows (some (.f (.int (p : Int)))) (some (.f (.int (st : Int)))) (some (.f (tl (addP p q)))) gg) from rfl), bnd_of o2, if_pos (by rw [List.length_map]; omega), show rows.map tl ++ [D.lst (il (wrow t M p st q))] = (rows ++ [wrow t M p st q]).map tl by rw [List.map_append]; rfl]
    rfl
  exact (evSs_nx (evS_expr e3)).trans rfl
end
end LK

set_option Elab.async false
set_option linter.all false
set_option maxRecDepth 100000
set_option maxHeartbeats 4000000
/-! K30a: a wheel's loops (still law k29). Own text. -/
namespace LK
open PySem (Str)
open DI PM
section
variable {K m o n d t M p st : Nat} {q l : List Nat} {rows : List (List Nat)} {x5 x6 x7 : Option DV} {gg : GG}
def ring (t M p : Nat) (q : List Nat) (k : Nat) : List (List Nat) := (List.range k).map fun s => wrow t M p s q
def wheelRows (t M : Nat) (q : List Nat) (k : Nat) : List (List Nat) := (List.range k).flatMap fun p => ring t M p q M
theorem ring_len : (ring t M p q l.length).length = l.length := by simp [ring]
theorem wheelRows_len : ∀ k, (wheelRows t M q k).length = k * M
  | 0 => by simp [wheelRows]
  | k + 1 => by
    have := wheelRows_len k
    unfold wheelRows at this ⊢
    rw [List.range_succ, List.flatMap_append, List.length_append, this]
    simp [ring, Nat.add_mul]
abbrev wBody : List Sm := [.set 7 (.lc [8] (.nm 8) .val (.var 0) .nop .nop (.ite (.cmp .eq (.var 5) (.int 0)) (.var 8) (.int 0))),
  .expr (.append 4 (.lc [8] (.nm 8) .val (.var 7) .nop .nop (.bin .add (.bin .add (.var 3) (.bin .mul (.bin .mod (.blt .int [(.bin .add (.var 5) (.int 1))]) (.var 1)) (.var 2))) (.bin .mod (.blt .int [(.bin .add (.var 6) (.var 8))]) (.var 2)))))]
theorem ring_loop {Φ : Fns} (ht : 0 < t) (hM : 0 < M) (hM2 : M ≤ 100) (hq : q.length ≤ 100) (hrows : rows.length ≤ 100) (x6 x7 : Option DV) : ∃ (y : Option DV × Option DV), evS tab Φ (.for (.nm 6) .rng (.int 0) (.var 2) wBody) (stW q t M rows (some (.f (.int (p : Int)))) x6 x7 gg) = .ok .nx (stW q t M (rows ++ ring t M p q M) (some (.f (.int (p : Int)))) y.1 y.2 gg) := by
  obtain ⟨y, e⟩ := for_rng (σ := Option DV × Option DV) (T := tab) (Φ := Φ) (t := .nm 6) (a := .int 0) (b := .var 2) (body := wBody) (fun k y => stW q t M (rows ++ ring t M p q k) (some (.f (.int (p : Int)))) y.1 y.2 gg) (m := M) (x6, x7) (s := stW q t M (rows ++ ring t M p q 0) (some (.f (.int (p : Int)))) x6 x7 gg) (by omega) rfl rfl rfl rfl (fun k y hk => by
    refine ⟨stW q t M (rows ++ ring t M p q k) (some (.f (.int (p : Int)))) (some (.f (.int (k : Int)))) y.2 gg, (some (.f (.int (k : Int))), some (.f (tl (addP p q)))), rfl, ?_⟩
    have e := wheel_turn (Φ := Φ) (t := t) (M := M) (p := p) (st := k) (q := q) (rows := rows ++ ring t M p q k) (x7 := y.2) (gg := gg) ht hM (by omega) hq (by simp [ring]; omega)
    have e2 : (rows ++ ring t M p q k) ++ [wrow t M p k q] = rows ++ ring t M p q (k + 1) := by
      unfold ring
      rw [List.append_assoc, List.range_succ, List.map_append]
      rfl
    rw [e2] at e
    exact e)
  refine ⟨y, ?_⟩
  have e0 : rows ++ ring t M p q 0 = rows := by simp [ring]
  rw [e0] at e
  exact e
/-- _law_wheel -/
theorem ret_wheel (ht : 0 < t) (ht2 : t ≤ 8) (hM : 0 < M) (hM2 : M ≤ 8) (hq : q.length ≤ 100) : Rt (n + 1) 14 [tl q, .int (t : Int), .int (M : Int), .int 0] (some gg) (.o ((wheelRows t M q t).map tl)) (some gg) := by
  obtain ⟨⟨y5, y6, y7⟩, e⟩ := for_rng (σ := Option DV × Option DV × Option DV) (T := tab) (Φ := callD tab fns n) (t := .nm 5) (a := .int 0) (b := .var 1) (body := [.for (.nm 6) .rng (.int 0) (.var 2) wBody]) (fun k y => stW q t M (wheelRows t M q k) y.1 y.2.1 y.2.2 gg) (m := t) (none, none, none) (s := stW q t M [] none none none gg) (by omega) rfl rfl rfl rfl (fun k y hk => by
    have hlen : (wheelRows t M q k).length ≤ 100 := by
      rw [wheelRows_len]
      have : k * M ≤ 8 * 8 := Nat.mul_le_mul (by omega) hM2
      omega
    obtain ⟨z, e⟩ := ring_loop (Φ := callD tab fns n) (t := t) (M := M) (p := k) (q := q) (rows := wheelRows t M q k) (gg := gg) ht hM (by omega) hq hlen y.2.1 y.2.2
    refine ⟨stW q t M (wheelRows t M q k) (some (.f (.int (k : Int)))) y.2.1 y.2.2 gg, (some (.f (.int (k : Int))), z.1, z.2), rfl, ?_⟩
    have e2 : wheelRows t M q k ++ ring t M k q M = wheelRows t M q (k + 1) := by
      unfold wheelRows
      rw [List.range_succ, List.flatMap_append]
      simp
    rw [e2] at e
    exact (evSs_nx e).trans rfl)
  have e1 : evS tab (callD tab fns n) (.set 4 (.lst [])) ⟨[some (.f (tl q)), some (.f (.int (t : Int))), some (.f (.int (M : Int))), some (.f (.int 0)), none, none, none, none, none], some gg⟩ = .ok .nx (stW q t M [] none none none gg) := rfl
  have e3 : evSs tab (callD tab fns n) [.ret (.var 4)] (stW q t M (wheelRows t M q t) y5 y6 y7 gg) = .ok (.rt (.o ((wheelRows t M q t).map tl))) (stW q t M (wheelRows t M q t) y5 y6 y7 gg) := evSs_rt (evS_ret (v := .b 4) (s1 := stW q t M (wheelRows t M q t) y5 y6 y7 gg) rfl rfl)
  exact ret_body (bd := b14) (m := 9) (p := 4) rfl rfl (by decide) ((evSs_nx e1).trans ((evSs_nx e).trans e3))
end
end LK

set_option Elab.async false
set_option linter.all false
set_option maxRecDepth 100000
set_option maxHeartbeats 4000000
/-! K30b: states called anew (still law k29). Own text. -/
namespace LK
open PySem (Str)
open DI PM
theorem isP_conj {m : Nat} {nu z y : List Nat} (hn : IsP m nu) (hz : IsP m z) (hy : y.length = m) (h : ∀ s, s < m → y.getD (nu.getD s 0) 0 = nu.getD (z.getD s 0) 0) : IsP m y := by
  have key : ∀ j, j < m → ∃ s, s < m ∧ nu.getD s 0 = j := fun j hj => by
    obtain ⟨s, hs, e⟩ := List.getElem_of_mem (hn.all hj)
    exact ⟨s, by rw [← hn.len]; exact hs, by rw [getD_eq hs]; exact e⟩
  refine ⟨hy, fun t ht => ?_, ?_⟩
  · obtain ⟨j, hj, e⟩ := List.getElem_of_mem ht
    obtain ⟨s, hs, es⟩ := key j (by rw [← hy]; exact hj)
    rw [← e, ← getD_eq hj, ← es, h s hs]
    exact hn.get_lt (hz.get_lt hs)
  · refine List.pairwise_iff_getElem.mpr fun i j hi hj hij e => ?_
    obtain ⟨s, hs, es⟩ := key i (by rw [← hy]; exact hi)
    obtain ⟨t, ht, et⟩ := key j (by rw [← hy]; exact hj)
    rw [← getD_eq hi, ← getD_eq hj, ← es, ← et, h s hs, h t ht] at e
    have h1 := hn.inj (hz.get_lt hs) (hz.get_lt ht) e
    have h2 := hz.inj hs ht h1
    subst h2
    omega
/-- rows named anew, step by step -/
def nmd (nu : List Nat) (rs : List (List Nat)) : Nat → List (List Nat)
  | 0 => List.replicate rs.length []
  | k + 1 => (nmd nu rs k).set (nu.getD k 0) (comp (rs.getD k []) nu)
section
variable {K m o n : Nat} {rs : List (List Nat)} {nu : List Nat} {gg : GG}
theorem nmd_len : ∀ k, (nmd nu rs k).length = rs.length
  | 0 => by simp [nmd]
  | k + 1 => by
    show ((nmd nu rs k).set _ _).length = _
    rw [List.length_set, nmd_len k]
theorem nmd_at (hn : IsP m nu) (hl : rs.length = m) : ∀ k, k ≤ m → ∀ s, s < k → (nmd nu rs k).getD (nu.getD s 0) [] = comp (rs.getD s []) nu
  | 0, _, s, hs => absurd hs (Nat.not_lt_zero _)
  | k + 1, hk, s, hs => by
    show ((nmd nu rs k).set (nu.getD k 0) (comp (rs.getD k []) nu)).getD (nu.getD s 0) [] = _
    rw [List.getD_eq_getElem?_getD, List.getElem?_set]
    by_cases e : s = k
    · subst e
      rw [if_pos rfl, if_pos (by rw [nmd_len, hl]; exact hn.get_lt (by omega))]
      rfl
    · rw [if_neg (fun e2 => e (hn.inj (by omega) (by omega) e2.symm)), ← List.getD_eq_getElem?_getD]
      exact nmd_at hn hl k (by omega) s (by omega)
theorem named_rev (R : Rev K m rs) (hn : IsP m nu) : Rev K m (nmd nu rs m) where
  kpos := R.kpos
  kle := R.kle
  mpos := R.mpos
  mle := R.mle
  len := by rw [nmd_len, R.len]
  row := fun r hr => by
    obtain ⟨j, hj, e⟩ := List.getElem_of_mem hr
    have hj' : j < m := by rw [nmd_len, R.len] at hj; exact hj
    obtain ⟨s, hs, es⟩ := List.getElem_of_mem (hn.all hj')
    rw [hn.len] at hs
    have h1 := nmd_at hn R.len m (Nat.le_refl _) s hs
    rw [getD_eq (by rw [hn.len]; exact hs), es, List.getD_eq_getElem?_getD, List.getElem?_eq_getElem hj] at h1
    have h2 : (nmd nu rs m)[j] = comp (rs.getD s []) nu := h1
    rw [← e, h2, comp_len, row_len R hs]
  col := fun c hc => by
    refine isP_conj hn (R.col c hc) (by unfold col; rw [List.length_map, nmd_len, R.len]) fun s hs => ?_
    have hs' : s < rs.length := by rw [R.len]; exact hs
    rw [col_getD (by rw [nmd_len, R.len]; exact hn.get_lt hs), nmd_at hn R.len m (Nat.le_refl _) s hs, comp_get (by rw [row_len R hs]; exact hc), col_getD hs']
theorem ev_lrg {Φ : Fns} {s : S} {b : E} (h : evE tab Φ b s = .ok (.f (.int (m : Int))) s) (hm : m ≤ 1000) : evE tab Φ (.lrg .nop b) s = .ok (.o (il (idP m))) s := by
  show bnd (ret (DV.f (.int 0))) _ _ = _
  rw [bnd_of (show ret (DV.f (.int 0)) s = .ok (DV.f (.int 0)) s from rfl), bnd_of h, bnd_of (show look (DV.f (.int 0)) s = .ok (.int 0) s from rfl), bnd_of (show look (DV.f (.int (m : Int))) s = .ok (.int (m : Int)) s from rfl),
    bnd_of (show int? (.int 0) s = .ok 0 s from rfl), bnd_of (show int? (.int (m : Int)) s = .ok (m : Int) s from rfl), rngD_m hm, bnd_of (opt_some (rngI 0 m) s), rngI_eq]
  rfl
def stZ (rs : List (List Nat)) (nu : List Nat) (X : List (List Nat)) (gg : GG) (y : Option DV × Option DV) : S := ⟨[some (.f .deal), some (.f (rowsL rs)), some (.o (il nu)), some (.o (X.map tl)), y.1, y.2, none], some gg⟩
theorem ev_ren {Φ : Fns} {r : List Nat} {X : List (List Nat)} {k : Nat} (hn : IsP m nu) (hr : ∀ x ∈ r, x < m) (hl : r.length ≤ 1000) :
    evE tab Φ (.lc [6] (.nm 6) .val (.var 5) .nop .nop (.ix (.var 2) (.var 6))) (stZ rs nu X gg (some (.f (.int (k : Int))), some (.f (tl r)))) = .ok (.o (il (comp r nu))) (stZ rs nu X gg (some (.f (.int (k : Int))), some (.f (tl r)))) := by
  have hlim : (1000 : Nat) ≤ lim := by decide
  have e := lc_pure (T := tab) (Φ := Φ) (i := 6) (r := (stZ rs nu X gg (some (.f (.int (k : Int))), some (.f (tl r)))).r) (g := some gg) (k := .val) (a := .var 5) (b := .nop) (c := .nop) (e := .ix (.var 2) (.var 6)) (v := .f (tl r)) (xs := tl r) (y := .f .non) (dy := .non) (ds := il r)
    (p := fun _ => true) (f := fun d => match ixD (tl nu) d with | some v => v | none => d) (by show 6 < 7; decide) rfl rfl rfl rfl rfl (fun d hd => by
      obtain ⟨x, hx, rfl⟩ := List.mem_map.mp hd
      refine ⟨rfl, fun _ => ?_⟩
      have h1 := ix_tl (r := nu) (c := x) (by rw [hn.len]; exact hr x hx)
      rw [bnd_of (ev_ix (T := tab) (a := .var 2) (i := .var 6) (x := .b 2) (da := tl nu) rfl rfl rfl rfl h1), h1]
      rfl) (by unfold il; rw [List.length_map]; omega)
  rw [filt_true] at e
  have e2 : (il r).map (fun d => match ixD (tl nu) d with | some v => v | none => d) = il (comp r nu) := by
    unfold il comp
    rw [List.map_map, List.map_map]
    refine List.map_congr_left fun x hx => ?_
    show (match ixD (tl nu) (.int (x : Int)) with | some v => v | none => D.int (x : Int)) = D.int (nu.getD x 0 : Nat)
    rw [ix_tl (by rw [hn.len]; exact hr x hx)]
  rw [e2] at e
  exact e
/-- _law_named -/
theorem ret_named (R : Rev K m rs) (gg : GG) : ∃ (rs' : List (List Nat)) (gg' : GG), Rev K m rs' ∧ Rt (n + 3) 13 [.deal, rowsL rs] (some gg) (.o (rs'.map tl)) (some gg') := by
  have hm := R.mle
  obtain ⟨nu, g1, hn, h1⟩ := ret_mixed (n := n) (m := m) (by omega) gg
  refine ⟨nmd nu rs m, g1, named_rev R hn, ?_⟩
  have c1 : evE tab (callD tab fns (n + 2)) (.call 12 [(.var 0), (.lrg .nop (.blt .len [(.var 1)]))]) ⟨[some (.f .deal), some (.f (rowsL rs)), none, none, none, none, none], some gg⟩ = .ok (.o (il nu)) ⟨[some (.f .deal), some (.f (rowsL rs)), none, none, none, none, none], some g1⟩ := by
    refine ev_call (s1 := ⟨[some (.f .deal), some (.f (rowsL rs)), none, none, none, none, none], some gg⟩) (s2 := ⟨[some (.f .deal), some (.f (rowsL rs)), none, none, none, none, none], some gg⟩) (ds := [.deal, tl (idP m)]) (evEs_cons rfl (evEs_cons (ev_lrg (ev_blt (x := .f (rowsL rs)) (d := rowsL rs) rfl rfl ?_) (by omega)) evEs_nil)) rfl h1
    show some (DV.f (.int ((rs.map tl).length : Nat))) = _
    rw [List.length_map, R.len]
  have c2 : evE tab (callD tab fns (n + 2)) (.lc [5] (.nm 5) .val (.var 1) .nop .nop (.lst [])) ⟨[some (.f .deal), some (.f (rowsL rs)), none, none, none, none, none], some g1⟩ = .ok (.o ((nmd nu rs 0).map tl)) ⟨[some (.f .deal), some (.f (rowsL rs)), none, none, none, none, none], some g1⟩ := by
    have e := lc_pure (T := tab) (Φ := callD tab fns (n + 2)) (i := 5) (r := [some (.f .deal), some (.f (rowsL rs)), none, none, none, none, none]) (g := some g1) (k := .val) (a := .var 1) (b := .nop) (c := .nop) (e := .lst []) (v := .f (rowsL rs)) (xs := rowsL rs) (y := .f .non) (dy := .non) (ds := rs.map tl)
      (p := fun _ => true) (f := fun _ => .lst []) (by show 5 < 7; decide) rfl rfl rfl rfl rfl (fun d hd => ⟨rfl, fun _ => rfl⟩) (by rw [List.length_map]; exact mlim R)
    rw [filt_true] at e
    have e2 : (rs.map tl).map (fun _ => D.lst []) = (nmd nu rs 0).map tl := by
      show (rs.map tl).map (fun _ => D.lst []) = (List.replicate rs.length []).map tl
      rw [List.map_replicate, List.map_const', List.length_map]
      rfl
    rw [e2] at e
    exact e
  have e1 : evS tab (callD tab fns (n + 2)) (.par [.nm 2, .nm 3] [(.call 12 [(.var 0), (.lrg .nop (.blt .len [(.var 1)]))]), (.lc [5] (.nm 5) .val (.var 1) .nop .nop (.lst []))]) ⟨[some (.f .deal), some (.f (rowsL rs)), none, none, none, none, none], some gg⟩ = .ok .nx (stZ rs nu (nmd nu rs 0) g1 (none, none)) :=
    evS_par (evEs_cons c1 (evEs_cons c2 evEs_nil)) rfl rfl
  obtain ⟨y, e2⟩ := forGo_st (σ := Option DV × Option DV) (st := asgT (.tp [(.nm 4), (.nm 5)])) (body := evSs tab (callD tab fns (n + 2)) [.setIx 3 (.ix (.var 2) (.var 4)) (.lc [6] (.nm 6) .val (.var 5) .nop .nop (.ix (.var 2) (.var 6)))]) (fun k => stZ rs nu (nmd nu rs k) g1) (((rs.map tl).zipIdx).map fun p => D.tup [.int p.2, p.1]) 0 (none, none) (fun k hk y => by
    rw [List.length_map, List.length_zipIdx, List.length_map] at hk
    have hkm : k < m := by rw [← R.len]; exact hk
    have hko : (rs.getD k []) = rs[k] := by
      rw [List.getD_eq_getElem?_getD, List.getElem?_eq_getElem hk]
      rfl
    rw [List.getElem_map, List.getElem_zipIdx, List.getElem_map]
    refine ⟨stZ rs nu (nmd nu rs (0 + k)) g1 (some (.f (.int ((0 + k : Nat) : Int))), some (.f (tl rs[k]))), (some (.f (.int ((0 + k : Nat) : Int))), some (.f (tl rs[k]))), rfl, ?_⟩
    rw [Nat.zero_add]
    have f1 := ev_ren (Φ := callD tab fns (n + 2)) (rs := rs) (nu := nu) (gg := g1) (r := rs[k]) (X := nmd nu rs k) (k := k) hn (fun x hx => entry_lt R (List.getElem_mem _) hx) (by rw [R.row _ (List.getElem_mem _)]; have := R.kle; omega)
    have hnk : nu.getD k 0 < m := hn.get_lt hkm
    have f2 : evE tab (callD tab fns (n + 2)) (.ix (.var 2) (.var 4)) (stZ rs nu (nmd nu rs k) g1 (some (.f (.int (k : Int))), some (.f (tl rs[k])))) = .ok (.f (.int (nu.getD k 0 : Nat))) (stZ rs nu (nmd nu rs k) g1 (some (.f (.int (k : Int))), some (.f (tl rs[k])))) :=
      ev_ix (x := .b 2) (da := tl nu) rfl rfl rfl rfl (ix_tl (by rw [hn.len]; exact hkm))
    have f3 : setAt tab (callD tab fns (n + 2)) 3 (.ix (.var 2) (.var 4)) (tl (comp rs[k] nu)) (stZ rs nu (nmd nu rs k) g1 (some (.f (.int (k : Int))), some (.f (tl rs[k])))) = .ok () (stZ rs nu (nmd nu rs (k + 1)) g1 (some (.f (.int (k : Int))), some (.f (tl rs[k])))) := by
      have o1 : ownAt 3 (stZ rs nu (nmd nu rs k) g1 (some (.f (.int (k : Int))), some (.f (tl rs[k])))) = .ok ((nmd nu rs k).map tl) (stZ rs nu (nmd nu rs k) g1 (some (.f (.int (k : Int))), some (.f (tl rs[k])))) := rfl
      show bnd (ownAt 3) _ _ = _
      rw [bnd_of o1, bnd_of f2, bnd_of (show look (DV.f (.int (nu.getD k 0 : Nat))) (stZ rs nu (nmd nu rs k) g1 (some (.f (.int (k : Int))), some (.f (tl rs[k])))) = .ok (.int (nu.getD k 0 : Nat)) _ from rfl),
        bnd_of (show int? (.int (nu.getD k 0 : Nat)) (stZ rs nu (nmd nu rs k) g1 (some (.f (.int (k : Int))), some (.f (tl rs[k])))) = .ok ((nu.getD k 0 : Nat) : Int) _ from rfl), bnd_of o1, if_pos (by
          rw [List.length_map, nmd_len, R.len]
          have : (2 : Int) ^ 62 > 8 := by decide
          refine ⟨by omega, by omega, by omega⟩), Int.toNat_natCast, ← List.map_set, ← hko]
      rfl
    refine (evSs_nx ?_).trans rfl
    show bnd (evE tab (callD tab fns (n + 2)) _) _ _ = _
    rw [bnd_of f1, bnd_of (show frz (DV.o (il (comp rs[k] nu))) (stZ rs nu (nmd nu rs k) g1 (some (.f (.int (k : Int))), some (.f (tl rs[k])))) = .ok (tl (comp rs[k] nu)) _ from rfl), bnd_of f3]
    rfl)
  rw [List.length_map, List.length_zipIdx, List.length_map, R.len, Nat.zero_add] at e2
  have e3 : evS tab (callD tab fns (n + 2)) (.for (.tp [(.nm 4), (.nm 5)]) .enum (.var 1) .nop [.setIx 3 (.ix (.var 2) (.var 4)) (.lc [6] (.nm 6) .val (.var 5) .nop .nop (.ix (.var 2) (.var 6)))]) (stZ rs nu (nmd nu rs 0) g1 (none, none)) = .ok .nx (stZ rs nu (nmd nu rs m) g1 y) :=
    (evS_for (v := .f (rowsL rs)) (y := .f .non) rfl rfl rfl rfl rfl).trans e2
  have e4 : evSs tab (callD tab fns (n + 2)) [.ret (.var 3)] (stZ rs nu (nmd nu rs m) g1 y) = .ok (.rt (.o ((nmd nu rs m).map tl))) (stZ rs nu (nmd nu rs m) g1 y) := evSs_rt (evS_ret (v := .b 3) (s1 := stZ rs nu (nmd nu rs m) g1 y) rfl rfl)
  exact ret_body (bd := b13) (m := 7) (p := 2) rfl rfl (by decide) ((evSs_nx e1).trans ((evSs_nx e3).trans e4))
end
end LK

set_option Elab.async false
set_option linter.all false
set_option maxRecDepth 100000
set_option maxHeartbeats 4000000
/-! K30c: _law_reversible (still law k29). Own text. -/
namespace LK
open PySem (Str)
open DI PM
section
variable {K m o n a t M : Nat} {rs : List (List Nat)} {q : List Nat} {gg : GG}
theorem wheel_pos : ∀ w ∈ wheels, 0 < w.1 ∧ 0 < w.2 ∧ w.1 * w.2 ≤ 8 ∧ w.1 ≤ 8 ∧ w.2 ≤ 8 := by decide
theorem wheel_col {c : Nat} (hc : c < q.length) : col (wheelRows t M q t) c = wheelCol t M (q.getD c 0) := by
  unfold col wheelRows wheelCol ring wrow
  rw [List.map_flatMap]
  congr 1
  funext p
  rw [List.map_map]
  refine List.map_congr_left fun s _ => ?_
  show (q.map fun one => wheelAt t M p s one).getD c 0 = _
  rw [List.getD_eq_getElem?_getD, List.getElem?_map, List.getElem?_eq_getElem hc, getD_eq hc]
  rfl
theorem wheel_rev (hw : (t, M) ∈ wheels) (hq : q.length = K) (hK : 0 < K) (hK3 : K ≤ 3) (hlt : ∀ a ∈ q, a < M) : Rev K (t * M) (wheelRows t M q t) where
  kpos := hK
  kle := hK3
  mpos := Nat.mul_pos (wheel_pos _ hw).1 (wheel_pos _ hw).2.1
  mle := (wheel_pos _ hw).2.2.1
  len := wheelRows_len t
  row := fun r hr => by
    obtain ⟨p, _, hr⟩ := List.mem_flatMap.mp hr
    obtain ⟨s, _, rfl⟩ := List.mem_map.mp hr
    unfold wrow
    rw [List.length_map, hq]
  col := fun c hc => by
    rw [wheel_col (by rw [hq]; exact hc)]
    refine wheel_isP hw (hlt _ ?_)
    rw [getD_eq (by rw [hq]; exact hc)]
    exact List.getElem_mem _
abbrev six : List D := [(.tup [(.int 1), (.int 2)]), (.tup [(.int 2), (.int 2)]), (.tup [(.int 3), (.int 2)]), (.tup [(.int 4), (.int 2)]), (.tup [(.int 1), (.int 3)]), (.tup [(.int 2), (.int 3)])]
theorem pick6 : ∀ (j : Nat) (hj : j < six.length), ∃ t M : Nat, six[j] = .tup [.int (t : Int), .int (M : Int)] ∧ (t, M) ∈ wheels
  | 0, _ => ⟨1, 2, rfl, by decide⟩
  | 1, _ => ⟨2, 2, rfl, by decide⟩
  | 2, _ => ⟨3, 2, rfl, by decide⟩
  | 3, _ => ⟨4, 2, rfl, by decide⟩
  | 4, _ => ⟨1, 3, rfl, by decide⟩
  | 5, _ => ⟨2, 3, rfl, by decide⟩
  | j + 6, h => absurd h (by simp)
def stU (a K t M : Nat) (gg : GG) : S := ⟨[some (.f .deal), some (.f (.int (a : Int))), some (.f (.int (K : Int))), some (.o []), none, none, none, some (.f (.int (t : Int))), some (.f (.int (M : Int))), none, none, none, none, none], some gg⟩
theorem rev_wheel (hK0 : 0 < K) (hK3 : K ≤ 3) (gg : GG) : ∃ (m : Nat) (rs : List (List Nat)) (s : S) (gg' : GG), Rev K m rs ∧ s.g = some gg' ∧ evSs tab (callD tab fns (n + 3)) [.unp [(.nm 7), (.nm 8)] (.call 11 [(.var 0), (.lst [(.tup [(.int 1), (.int 2)]), (.tup [(.int 2), (.int 2)]), (.tup [(.int 3), (.int 2)]), (.tup [(.int 4), (.int 2)]), (.tup [(.int 1), (.int 3)]), (.tup [(.int 2), (.int 3)])])]),
  .ret (.tup [(.var 2), (.call 13 [(.var 0), (.call 14 [(.lc [13] (.nm 13) .rng (.int 0) (.var 2) .nop (.call 6 [(.var 0), (.var 8)])), (.var 7), (.var 8), (.int 0)])])])] (stJ a K gg) = .ok (.rt (.f (.tup [.int (K : Int), rowsL rs]))) s := by
  obtain ⟨j, hj, g1, h1⟩ := ret_of (n := n + 1) (xs := six) (by decide) (by decide) gg
  obtain ⟨t, M, hx, hw⟩ := pick6 j hj
  rw [hx] at h1
  obtain ⟨hp1, hp2, hp3, hp4, hp5⟩ := wheel_pos _ hw
  have e1 : evS tab (callD tab fns (n + 3)) (.unp [(.nm 7), (.nm 8)] (.call 11 [(.var 0), (.lst [(.tup [(.int 1), (.int 2)]), (.tup [(.int 2), (.int 2)]), (.tup [(.int 3), (.int 2)]), (.tup [(.int 4), (.int 2)]), (.tup [(.int 1), (.int 3)]), (.tup [(.int 2), (.int 3)])])])) (stJ a K gg) = .ok .nx (stU a K t M g1) := by
    have c1 : evE tab (callD tab fns (n + 3)) (.call 11 [(.var 0), (.lst [(.tup [(.int 1), (.int 2)]), (.tup [(.int 2), (.int 2)]), (.tup [(.int 3), (.int 2)]), (.tup [(.int 4), (.int 2)]), (.tup [(.int 1), (.int 3)]), (.tup [(.int 2), (.int 3)])])]) (stJ a K gg) = .ok (.f (.tup [.int (t : Int), .int (M : Int)])) (stJ a K g1) :=
      ev_call (s1 := stJ a K gg) (s2 := stJ a K gg) (vs := [.f .deal, .o six]) (evEs_cons rfl (evEs_cons rfl evEs_nil)) rfl h1
    show bnd (evE tab _ _) _ _ = _
    rw [bnd_of c1]
    rfl
  obtain ⟨q, g2, hq, hlt, e2⟩ := lc_any (Φ := callD tab fns (n + 3)) (i := 13) (r := (stU a K t M g1).r) (k := M) (L := K) (b := .var 2) (e := .call 6 [(.var 0), (.var 8)]) (gg := g1) (y := .f (.int (K : Int))) (by show 13 < 14; decide) (by omega) rfl rfl (fun x gg => by
    obtain ⟨a', g', ha, hr⟩ := anyN (n := n + 2) (k := M) hp2 (by omega) gg
    exact ⟨a', g', ha, call2g (s := ⟨(stU a K t M g1).r.set 13 x, some gg⟩) rfl rfl hr⟩)
  have e3 : evE tab (callD tab fns (n + 3)) (.call 14 [(.lc [13] (.nm 13) .rng (.int 0) (.var 2) .nop (.call 6 [(.var 0), (.var 8)])), (.var 7), (.var 8), (.int 0)]) (stU a K t M g1) = .ok (.o ((wheelRows t M q t).map tl)) (stU a K t M g2) :=
    ev_call (s1 := stU a K t M g2) (s2 := stU a K t M g2) (vs := [.o (il q), .f (.int (t : Int)), .f (.int (M : Int)), .f (.int 0)]) (evEs_cons e2 (evEs_cons rfl (evEs_cons rfl (evEs_cons rfl evEs_nil)))) rfl (ret_wheel (n := n + 2) hp1 hp4 hp2 hp5 (by omega))
  obtain ⟨rs, g3, R, h3⟩ := ret_named (n := n) (wheel_rev hw hq hK0 hK3 hlt) g2
  have e4 : evE tab (callD tab fns (n + 3)) (.call 13 [(.var 0), (.call 14 [(.lc [13] (.nm 13) .rng (.int 0) (.var 2) .nop (.call 6 [(.var 0), (.var 8)])), (.var 7), (.var 8), (.int 0)])]) (stU a K t M g1) = .ok (.o (rs.map tl)) (stU a K t M g3) :=
    ev_call (s1 := stU a K t M g2) (s2 := stU a K t M g2) (vs := [.f .deal, .o ((wheelRows t M q t).map tl)]) (evEs_cons rfl (evEs_cons e3 evEs_nil)) rfl h3
  have e5 : evE tab (callD tab fns (n + 3)) (.tup [(.var 2), (.call 13 [(.var 0), (.call 14 [(.lc [13] (.nm 13) .rng (.int 0) (.var 2) .nop (.call 6 [(.var 0), (.var 8)])), (.var 7), (.var 8), (.int 0)])])]) (stU a K t M g1) = .ok (.f (.tup [.int (K : Int), rowsL rs])) (stU a K t M g3) := by
    have e6 := evEs_cons (v := .f (.int (K : Int))) (show evE tab (callD tab fns (n + 3)) (.var 2) (stU a K t M g1) = .ok (.f (.int (K : Int))) (stU a K t M g1) from rfl) (evEs_cons e4 evEs_nil)
    show bnd (evEs tab _ _) _ _ = _
    rw [bnd_of e6]
    rfl
  exact ⟨t * M, rs, _, g3, R, rfl, (evSs_nx e1).trans (evSs_rt (evS_ret e5 rfl))⟩
/-- _law_reversible -/
theorem ret_rev (gg : GG) : ∃ (K m : Nat) (rs : List (List Nat)) (gg' : GG), Rev K m rs ∧ Rt (n + 4) 15 [.deal] (some gg) (.f (.tup [.int (K : Int), rowsL rs])) (some gg') := by
  obtain ⟨a, K, g1, hK0, hK3, e1⟩ := rev_head (n := n + 1) gg
  have ec : evE tab (callD tab fns (n + 3)) (.cmp .eq (.var 1) (.int 0)) (stJ a K g1) = .ok (.f (.bl (decide ((a : Int) = 0)))) (stJ a K g1) :=
    cmp_int (i := (a : Int)) (j := 0) rfl rfl (eqD_int _ _)
  by_cases ha : (a : Int) = 0
  · obtain ⟨m, rs, s, g2, R, hs, e2⟩ := rev_wheel (n := n) (a := a) hK0 hK3 g1
    rw [decide_eq_true ha] at ec
    refine ⟨K, m, rs, g2, R, ?_⟩
    have e3 : s = ⟨s.r, some g2⟩ := by rw [← hs]
    rw [e3] at e2
    exact ret_body (bd := b15) (m := 14) (p := 1) rfl rfl (by decide) ((evSs_nx e1).trans (evSs_rt ((evS_ifs ec).trans e2)))
  · obtain ⟨m, rs, s, g2, R, hs, e2⟩ := rev_cols (n := n + 1) (a := a) hK0 hK3 g1
    rw [decide_eq_false ha] at ec
    refine ⟨K, m, rs, g2, R, ?_⟩
    have e3 : s = ⟨s.r, some g2⟩ := by rw [← hs]
    rw [e3] at e2
    exact ret_body (bd := b15) (m := 14) (p := 1) rfl rfl (by decide) ((evSs_nx e1).trans ((evSs_nx ((evS_ifs ec).trans rfl)).trans e2))
end
end LK

set_option Elab.async false
set_option linter.all false
set_option maxRecDepth 100000
set_option maxHeartbeats 4000000
/-! K30d: texts of effects and numbers (still law k29). Own text. -/
namespace LK
open PySem (Str PyData)
open DI PM
theorem shown_nat {d : Nat} (h : d < 10 ^ 28) : (PyData.shown (.int (d : Int))).length ≤ 28 := by
  have e : PyData.shown (.int (d : Int)) = ⟨((Nat.toDigits 10 d).map Char.toNat).toArray⟩ := by
    rw [PyData.shown]
    exact PyProof.Rows.text_ofNat d
  rw [e]
  show ((Nat.toDigits 10 d).map Char.toNat).toArray.size ≤ 28
  rw [List.size_toArray, List.length_map]
  exact PyProof.Rows.digits10_le (by decide) h
theorem showable_nat {d : Nat} (h : d < 10 ^ 28) : PyData.showable (.int (d : Int)) = true := by
  rw [PyData.showable, decide_eq_true_eq, Int.natAbs_natCast]
  by_cases h0 : d = 0
  · subst h0
    decide
  · refine (Nat.log2_lt h0).mpr (Nat.lt_trans h ?_)
    exact Nat.lt_of_lt_of_le (show 10 ^ 28 < 2 ^ 100 by decide) (Nat.pow_le_pow_right (by decide) (by decide))
theorem shown_list : ∀ xs : List Nat, (∀ x ∈ xs, x < 10 ^ 28) → PyData.showableAll (xs.map fun (n : Nat) => PyData.int n) = true ∧ (PyData.shownAll (xs.map fun (n : Nat) => PyData.int n)).length = xs.length ∧ PySem.piled (PyData.shownAll (xs.map fun (n : Nat) => PyData.int n)) ≤ 30 * xs.length
  | [], _ => ⟨rfl, rfl, by decide⟩
  | x :: r, h => by
    obtain ⟨h1, h2, h3⟩ := shown_list r fun y hy => h y (List.mem_cons_of_mem _ hy)
    have hx := h x List.mem_cons_self
    refine ⟨?_, ?_, ?_⟩
    · rw [List.map_cons, PyData.showableAll, h1, showable_nat hx]
      rfl
    · rw [List.map_cons, PyData.shownAll, List.length_cons, h2, List.length_cons]
    · rw [List.map_cons, PyData.shownAll, PySem.piled_cons, List.length_cons]
      have := shown_nat hx
      omega
theorem tuple_len (ts : List Str) : (PySem.tupleText ts).length ≤ PySem.piled ts + 3 := by
  unfold PySem.tupleText
  rw [PySem.strLen_append, PySem.strLen_append]
  have e1 : ((("(" : String) : Str)).length = 1 := rfl
  have e3 : (((if ts.length == 1 then ",)" else ")" : String) : Str)).length ≤ 2 := by split <;> decide
  rw [e1]
  by_cases h : ts = []
  · subst h
    show 1 + (PySem.Str.empty).length + _ ≤ _
    have : (PySem.Str.empty).length = 0 := rfl
    omega
  · have := PySem.join_length_add ts h
    omega
theorem repr_tn {xs : List Nat} (hl : xs.length ≤ 100) (h : ∀ x ∈ xs, x < 10 ^ 28) : bltD .repr [tn xs] = some (.f (.str (PyData.shown (tn xs).py))) := by
  have hlim : (10000 : Nat) ≤ lim := by decide
  obtain ⟨h1, h2, h3⟩ := shown_list xs h
  have e : (shp (tn xs) && PyData.showable (tn xs).py && decide ((PyData.shown (tn xs).py).length ≤ lim)) = true := by
    rw [shp_tn, py_tn, PyData.showable, h1, PyData.shown]
    have := tuple_len (PyData.shownAll (xs.map fun (n : Nat) => PyData.int n))
    rw [Bool.true_and, Bool.true_and, decide_eq_true_eq]
    omega
  show (if shp (tn xs) && PyData.showable (tn xs).py && decide ((PyData.shown (tn xs).py).length ≤ lim) then some (DV.f (.str (PyData.shown (tn xs).py))) else none) = _
  rw [if_pos e]
theorem repr_nat {d : Nat} (h : d < 10 ^ 28) : bltD .repr [.int (d : Int)] = some (.f (.str (PyData.shown (.int (d : Int))))) := by
  have hlim : (10000 : Nat) ≤ lim := by decide
  have e : (shp (.int (d : Int)) && PyData.showable (.int (d : Int)) && decide ((PyData.shown (.int (d : Int))).length ≤ lim)) = true := by
    rw [show shp (.int (d : Int)) = true from rfl, showable_nat h]
    have := shown_nat h
    rw [Bool.true_and, Bool.true_and, decide_eq_true_eq]
    omega
  show (if shp (.int (d : Int)) && PyData.showable (.int (d : Int)) && decide ((PyData.shown (.int (d : Int))).length ≤ lim) then some (DV.f (.str (PyData.shown (.int (d : Int))))) else none) = _
  rw [if_pos e]
theorem ok_append {a b : Str} (ha : PyData.strOk a = true) (hb : PyData.strOk b = true) : PyData.strOk (a ++ b) = true := by
  unfold PyData.strOk at *
  show (a.cps ++ b.cps).all _ = true
  rw [Array.all_append, ha, hb]
  rfl
theorem ok_nat (d : Nat) : PyData.strOk (PyData.shown (.int (d : Int))) = true := by
  have e : PyData.shown (.int (d : Int)) = ⟨((Nat.toDigits 10 d).map Char.toNat).toArray⟩ := by
    rw [PyData.shown]
    exact PyProof.Rows.text_ofNat d
  rw [e]
  show ((Nat.toDigits 10 d).map Char.toNat).toArray.all _ = true
  rw [List.all_toArray, List.all_eq_true]
  intro c hc
  obtain ⟨ch, _, rfl⟩ := List.mem_map.mp hc
  rw [decide_eq_true_eq]
  have h := ch.valid
  simp only [UInt32.isValidChar, Nat.isValidChar] at h
  have ht : ch.toNat = ch.val.toNat := rfl
  omega
theorem ok_join (sep : Str) (hs : PyData.strOk sep = true) : ∀ ts : List Str, (∀ t ∈ ts, PyData.strOk t = true) → PyData.strOk (Str.join sep ts) = true
  | [], _ => by
    show PyData.strOk Str.empty = true
    decide +kernel
  | [x], h => h x List.mem_cons_self
  | x :: y :: r, h => by
    show PyData.strOk (x ++ sep ++ Str.join sep (y :: r)) = true
    exact ok_append (ok_append (h x List.mem_cons_self) hs) (ok_join sep hs (y :: r) fun t ht => h t (List.mem_cons_of_mem _ ht))
theorem ok_all : ∀ (xs : List Nat), ∀ t ∈ PyData.shownAll (xs.map fun (n : Nat) => PyData.int n), PyData.strOk t = true
  | [], t, h => by simp [PyData.shownAll] at h
  | x :: r, t, h => by
    rw [List.map_cons, PyData.shownAll] at h
    rcases List.mem_cons.mp h with rfl | h
    · exact ok_nat x
    · exact ok_all r t h
theorem ok_tn (xs : List Nat) : PyData.strOk (PyData.shown (tn xs).py) = true := by
  rw [py_tn, PyData.shown]
  unfold PySem.tupleText
  refine ok_append (ok_append (by decide +kernel) (ok_join _ (by decide +kernel) _ (ok_all xs))) ?_
  split <;> decide +kernel
theorem shp_str {x : Str} (h : PyData.strOk x = true) : shp (.str x) = true := by
  unfold shp PySem.SeqAt.shaped
  show (PyData.canLay0 (.str x) && decide (PyData.depth (.str x) ≤ 64)) = true
  rw [PyData.canLay0, PyData.depth, h]
  rfl
theorem eqD_str {x : Str} (h : PyData.strOk x = true) : eqD (.str x) (.str x) = some true := by
  unfold eqD
  rw [shp_str h]
  show some (PyData.eqv (.str x) (.str x)) = _
  rw [PyData.eqv]
  simp
theorem eqD_bl (a b : Bool) : eqD (.bl a) (.bl b) = some (decide (a = b)) := by
  cases a <;> cases b <;> rfl
section
variable {Φ : Fns} {s : S} {a b : E}
/-- two reprs of one thing differ: no -/
theorem repr_same {d : D} {x : Str} (h : bltD .repr [d] = some (.f (.str x))) (hx : PyData.strOk x = true) (ha : evE tab Φ a s = .ok (.f d) s) (hb : evE tab Φ b s = .ok (.f d) s) : evE tab Φ (.cmp .ne (.blt .repr [a]) (.blt .repr [b])) s = .ok (.f (.bl false)) s :=
  ev_cmp (ev_blt ha rfl h) (ev_blt hb rfl h) rfl rfl (by
    show (eqD (.str x) (.str x)).map not = _
    rw [eqD_str hx]
    rfl)
theorem ne_tn {x y : List Nat} (ha : evE tab Φ a s = .ok (.f (tn x)) s) (hb : evE tab Φ b s = .ok (.f (tn y)) s) : evE tab Φ (.cmp .ne a b) s = .ok (.f (.bl (!decide (x = y)))) s :=
  ev_cmp ha hb rfl rfl (by
    show (eqD (tn x) (tn y)).map not = _
    rw [eqD_tn]
    rfl)
end
end LK

set_option Elab.async false
set_option linter.all false
set_option maxRecDepth 100000
set_option maxHeartbeats 4000000
/-! K30e: the law k29, its turns, first part. Own text. -/
namespace LK
open PySem (Str)
open DI PM
structure QT where
  x2 : Option DV
  x7 : Option DV
  x8 : Option DV
  x9 : Option DV
  x10 : Option DV
  x11 : Option DV
  x12 : Option DV
  x13 : Option DV
  x14 : Option DV
  x15 : Option DV
  x16 : Option DV
  gg : GG
def stP (ns : List Int) (K m : Nat) (rs : List (List Nat)) (b : Nat) (q : QT) : S := ⟨[some (.f (.scr ns)), some (.f .deal), q.x2, some (.f (.int (K : Int))), some (.f (rowsL rs)), some (.f (mc K m rs)), some (.f (.int (b : Int))), q.x7, q.x8, q.x9, q.x10, q.x11, q.x12, q.x13, q.x14, q.x15, q.x16, none], some q.gg⟩
theorem pick3 {i1 i2 i3 : Int} : ∀ (j : Nat) (hj : j < ([.int i1, .int i2, .int i3] : List D).length), ∃ i : Int, ([.int i1, .int i2, .int i3] : List D)[j] = .int i
  | 0, _ => ⟨_, rfl⟩
  | 1, _ => ⟨_, rfl⟩
  | 2, _ => ⟨_, rfl⟩
  | j + 3, h => absurd h (by simp)
theorem ev_trg {Φ : Fns} {s : S} {b : E} {m : Nat} (h : evE tab Φ b s = .ok (.f (.int (m : Int))) s) (hm : m ≤ 1000) : evE tab Φ (.trg .nop b) s = .ok (.f (tn (idP m))) s := by
  show bnd (ret (DV.f (.int 0))) _ _ = _
  rw [bnd_of (show ret (DV.f (.int 0)) s = .ok (DV.f (.int 0)) s from rfl), bnd_of h, bnd_of (show look (DV.f (.int 0)) s = .ok (.int 0) s from rfl), bnd_of (show look (DV.f (.int (m : Int))) s = .ok (.int (m : Int)) s from rfl),
    bnd_of (show int? (.int 0) s = .ok 0 s from rfl), bnd_of (show int? (.int (m : Int)) s = .ok (m : Int) s from rfl), rngD_m hm, bnd_of (opt_some (rngI 0 m) s)]
  exact congrArg (fun d => Res.ok (DV.f d) s) (rng_tn m)
section
variable {ns : List Int} {K m o n b d : Nat} {rs : List (List Nat)} {q : QT} {row : List Nat}
theorem any_P {k : Nat} (hk : 0 < k) (hk2 : k < 2 ^ 100) {e : E} (he : evE tab (callD tab fns (n + 1)) e (stP ns K m rs b q) = .ok (.f (.int (k : Int))) (stP ns K m rs b q)) : ∃ (j : Nat) (gg' : GG), j < k ∧ evE tab (callD tab fns (n + 1)) (.call 6 [(.var 1), e]) (stP ns K m rs b q) = .ok (.f (.int (j : Int))) (stP ns K m rs b { q with gg := gg' }) := by
  obtain ⟨j, gg', hj, hr⟩ := anyN (n := n) hk hk2 q.gg
  exact ⟨j, gg', hj, call2g (s := stP ns K m rs b q) rfl he hr⟩
theorem col_lt (R : Rev K m rs) {x : List Nat} (hx : IsP m x) : ∀ s ∈ x, s < 10 ^ 28 := fun s hs => by
  have := hx.lt s hs
  have := R.mle
  exact Nat.lt_of_lt_of_le (show s < 8 by omega) (by decide)
theorem repr_P (R : Rev K m rs) {x : List Nat} (hx : IsP m x) : bltD .repr [tn x] = some (.f (.str (PySem.PyData.shown (tn x).py))) :=
  repr_tn (by rw [hx.len]; have := R.mle; omega) (col_lt R hx)
abbrev cBody : List Sm := [.par [.nm 11, .nm 13] [(.call 6 [(.var 1), (.var 3)]), (.call 11 [(.var 1), (.lst [(.call 6 [(.var 1), (.int 12)]), (.bin .sub (.int 0) (.call 6 [(.var 1), (.int 9)])), (.call 6 [(.var 1), (.bin .pow (.int 10) (.int 18))])])])],
  .set 16 (.call 19 [(.var 4), (.var 6), (.var 11), (.var 13)]),
  .ifs (.or (.cmp .ne (.blt .repr [(.call 33 [(.var 5), (.var 6), (.var 11), (.var 13)])]) (.blt .repr [(.var 16)])) (.cmp .ne (.blt .repr [(.callk 33 [3, 2, 1, 0] [(.var 13), (.var 11), (.var 6), (.var 5)])]) (.blt .repr [(.var 16)]))) [.ret (.bl false)] []]
theorem c_turn (R : Rev K m rs) (hb : b < K) (O : Ord m (col rs b) o) (q : QT) : ∃ q', evSs tab (callD tab fns (n + 5)) cBody (stP ns K m rs b q) = .ok .nx (stP ns K m rs b q') := by
  obtain ⟨c, g1, hc, h1⟩ := any_P (n := n + 4) (ns := ns) (K := K) (m := m) (rs := rs) (b := b) (q := q) (k := K) (e := .var 3) R.kpos (by have := R.kle; omega) rfl
  obtain ⟨a1, g2, _, h2⟩ := any_P (n := n + 4) (ns := ns) (K := K) (m := m) (rs := rs) (b := b) (q := { q with gg := g1 }) (k := 12) (e := .int 12) (by decide) (by decide) rfl
  obtain ⟨a2, g3, _, h3⟩ := any_P (n := n + 4) (ns := ns) (K := K) (m := m) (rs := rs) (b := b) (q := { q with gg := g2 }) (k := 9) (e := .int 9) (by decide) (by decide) rfl
  obtain ⟨a3, g4, _, h4⟩ := any_P (n := n + 4) (ns := ns) (K := K) (m := m) (rs := rs) (b := b) (q := { q with gg := g3 }) (k := 10 ^ 18) (e := .bin .pow (.int 10) (.int 18)) (by decide) (by decide) (ev_bin (da := .int 10) (db := .int 18) rfl rfl (by
    show (if (0 : Int) ≤ 18 ∧ (18 : Int) ≤ 1000000 ∧ (10 : Int).natAbs < 2 ^ 64 then some (DV.f (.int (10 ^ (18 : Int).toNat))) else none) = _
    rw [if_pos (by decide)]
    rfl))
  obtain ⟨j, hj, g5, h5⟩ := ret_of (n := n + 3) (xs := [.int (a1 : Int), .int (0 - (a2 : Int)), .int (a3 : Int)]) (by show 0 < 3; decide) (by show 3 < 2 ^ 100; decide) g4
  obtain ⟨i, hi⟩ := pick3 j hj
  rw [hi] at h5
  have h3' : evE tab (callD tab fns (n + 5)) (.bin .sub (.int 0) (.call 6 [(.var 1), (.int 9)])) (stP ns K m rs b { q with gg := g2 }) = .ok (.f (.int (0 - (a2 : Int)))) (stP ns K m rs b { q with gg := g3 }) :=
    ev_bin2 (s1 := stP ns K m rs b { q with gg := g2 }) (x := .f (.int 0)) (da := .int 0) (db := .int (a2 : Int)) rfl h3 rfl rfl rfl
  have h6 : evE tab (callD tab fns (n + 5)) (.lst [(.call 6 [(.var 1), (.int 12)]), (.bin .sub (.int 0) (.call 6 [(.var 1), (.int 9)])), (.call 6 [(.var 1), (.bin .pow (.int 10) (.int 18))])]) (stP ns K m rs b { q with gg := g1 }) = .ok (.o [.int (a1 : Int), .int (0 - (a2 : Int)), .int (a3 : Int)]) (stP ns K m rs b { q with gg := g4 }) := by
    have e := evEs_cons h2 (evEs_cons h3' (evEs_cons h4 evEs_nil))
    show bnd (evEs tab _ _) _ _ = _
    rw [bnd_of e, bnd_of (show frzs [.f (.int (a1 : Int)), .f (.int (0 - (a2 : Int))), .f (.int (a3 : Int))] (stP ns K m rs b { q with gg := g4 }) = .ok [.int (a1 : Int), .int (0 - (a2 : Int)), .int (a3 : Int)] _ from rfl), if_pos (by show 3 ≤ lim; decide)]
    rfl
  have h7 : evE tab (callD tab fns (n + 5)) (.call 11 [(.var 1), (.lst [(.call 6 [(.var 1), (.int 12)]), (.bin .sub (.int 0) (.call 6 [(.var 1), (.int 9)])), (.call 6 [(.var 1), (.bin .pow (.int 10) (.int 18))])])]) (stP ns K m rs b { q with gg := g1 }) = .ok (.f (.int i)) (stP ns K m rs b { q with gg := g5 }) :=
    ev_call (s1 := stP ns K m rs b { q with gg := g4 }) (s2 := stP ns K m rs b { q with gg := g4 }) (vs := [.f .deal, .o [.int (a1 : Int), .int (0 - (a2 : Int)), .int (a3 : Int)]]) (evEs_cons rfl (evEs_cons h6 evEs_nil)) rfl h5
  have e1 : evS tab (callD tab fns (n + 5)) (.par [.nm 11, .nm 13] [(.call 6 [(.var 1), (.var 3)]), (.call 11 [(.var 1), (.lst [(.call 6 [(.var 1), (.int 12)]), (.bin .sub (.int 0) (.call 6 [(.var 1), (.int 9)])), (.call 6 [(.var 1), (.bin .pow (.int 10) (.int 18))])])])]) (stP ns K m rs b q) = .ok .nx (stP ns K m rs b { q with x11 := some (.f (.int (c : Int))), x13 := some (.f (.int i)), gg := g5 }) :=
    evS_par (evEs_cons h1 (evEs_cons h7 evEs_nil)) rfl rfl
  have hs := shiftP_isP (o := o) (R.col b hb) (R.col c hc) i
  have e2 : evS tab (callD tab fns (n + 5)) (.set 16 (.call 19 [(.var 4), (.var 6), (.var 11), (.var 13)])) (stP ns K m rs b { q with x11 := some (.f (.int (c : Int))), x13 := some (.f (.int i)), gg := g5 }) = .ok .nx (stP ns K m rs b { q with x11 := some (.f (.int (c : Int))), x13 := some (.f (.int i)), x16 := some (.f (tn (shiftP m o (col rs b) (col rs c) i))), gg := g5 }) :=
    evS_setK (call4 (s := stP ns K m rs b { q with x11 := some (.f (.int (c : Int))), x13 := some (.f (.int i)), gg := g5 }) rfl rfl rfl rfl (ret_lshift (n := n + 1) R hb hc O i)) rfl
  refine ⟨{ q with x11 := some (.f (.int (c : Int))), x13 := some (.f (.int i)), x16 := some (.f (tn (shiftP m o (col rs b) (col rs c) i))), gg := g5 }, (evSs_nx e1).trans ((evSs_nx e2).trans ((evSs_nx ?_).trans rfl))⟩
  generalize hq : ({ q with x11 := some (.f (.int (c : Int))), x13 := some (.f (.int i)), x16 := some (.f (tn (shiftP m o (col rs b) (col rs c) i))), gg := g5 } : QT) = q5
  have k1 : evE tab (callD tab fns (n + 5)) (.call 33 [(.var 5), (.var 6), (.var 11), (.var 13)]) (stP ns K m rs b q5) = .ok (.f (tn (shiftP m o (col rs b) (col rs c) i))) (stP ns K m rs b q5) := by
    subst hq
    exact call4 rfl rfl rfl rfl (ret_shift (n := n + 1) R hb hc O i)
  have k2 : evE tab (callD tab fns (n + 5)) (.callk 33 [3, 2, 1, 0] [(.var 13), (.var 11), (.var 6), (.var 5)]) (stP ns K m rs b q5) = .ok (.f (tn (shiftP m o (col rs b) (col rs c) i))) (stP ns K m rs b q5) := by
    subst hq
    exact ev_callk (s1 := stP ns K m rs b { q with x11 := some (.f (.int (c : Int))), x13 := some (.f (.int i)), x16 := some (.f (tn (shiftP m o (col rs b) (col rs c) i))), gg := g5 }) (s2 := stP ns K m rs b { q with x11 := some (.f (.int (c : Int))), x13 := some (.f (.int i)), x16 := some (.f (tn (shiftP m o (col rs b) (col rs c) i))), gg := g5 }) (evEs_cons rfl (evEs_cons rfl (evEs_cons rfl (evEs_cons rfl evEs_nil)))) rfl rfl (ret_shift (n := n + 1) R hb hc O i)
  have k3 : evE tab (callD tab fns (n + 5)) (.var 16) (stP ns K m rs b q5) = .ok (.f (tn (shiftP m o (col rs b) (col rs c) i))) (stP ns K m rs b q5) := by
    subst hq
    rfl
  exact (evS_ifs (or_f (repr_same (repr_P R hs) (ok_tn _) k1 k3) (repr_same (repr_P R hs) (ok_tn _) k2 k3))).trans rfl
theorem c_loop (R : Rev K m rs) (hb : b < K) (O : Ord m (col rs b) o) (q : QT) : ∃ q', evS tab (callD tab fns (n + 5)) (.for (.nm 7) .rng (.int 0) (.int 3) cBody) (stP ns K m rs b q) = .ok .nx (stP ns K m rs b q') :=
  for_rng (σ := QT) (fun _ q => stP ns K m rs b q) (m := 3) q (by decide) rfl rfl rfl rfl fun k q hk => by
    obtain ⟨q', e⟩ := c_turn (n := n) (ns := ns) R hb O { q with x7 := some (.f (.int (k : Int))) }
    exact ⟨_, q', rfl, e⟩
theorem d_step (R : Rev K m rs) (q : QT) : ∃ (row : List Nat) (g' : GG), (∀ c ∈ row, c < K) ∧ row.length ≤ 20 ∧ evS tab (callD tab fns (n + 5)) (.par [.nm 8, .nm 9] [(.call 16 [(.var 1), (.var 3), (.call 6 [(.var 1), (.int 21)])]), (.trg .nop (.blt .len [(.var 4)]))]) (stP ns K m rs b q) = .ok .nx (stP ns K m rs b { q with x8 := some (.f (tn row)), x9 := some (.f (tn (idP m))), gg := g' }) := by
  obtain ⟨L, g1, hL, h1⟩ := any_P (n := n + 4) (ns := ns) (K := K) (m := m) (rs := rs) (b := b) (q := q) (k := 21) (e := .int 21) (by decide) (by decide) rfl
  obtain ⟨row, g2, hl, hr, h2⟩ := ret_row (n := n + 3) (K := K) (L := L) R.kpos (by have := R.kle; omega) (by omega) g1
  refine ⟨row, g2, hr, by omega, ?_⟩
  have e1 : evE tab (callD tab fns (n + 5)) (.call 16 [(.var 1), (.var 3), (.call 6 [(.var 1), (.int 21)])]) (stP ns K m rs b q) = .ok (.f (tn row)) (stP ns K m rs b { q with gg := g2 }) :=
    ev_call (s1 := stP ns K m rs b { q with gg := g1 }) (s2 := stP ns K m rs b { q with gg := g1 }) (vs := [.f .deal, .f (.int (K : Int)), .f (.int (L : Int))]) (evEs_cons rfl (evEs_cons rfl (evEs_cons h1 evEs_nil))) rfl h2
  have e2 : evE tab (callD tab fns (n + 5)) (.trg .nop (.blt .len [(.var 4)])) (stP ns K m rs b { q with gg := g2 }) = .ok (.f (tn (idP m))) (stP ns K m rs b { q with gg := g2 }) :=
    ev_trg (ev_blt (x := .f (rowsL rs)) (d := rowsL rs) rfl rfl (by
      show some (DV.f (.int ((rs.map tl).length : Nat))) = _
      rw [List.length_map, R.len])) (by have := R.mle; omega)
  exact evS_par (evEs_cons e1 (evEs_cons e2 evEs_nil)) rfl rfl
theorem e_loop (R : Rev K m rs) (hb : b < K) (O : Ord m (col rs b) o) (hr : ∀ c ∈ row, c < K) (q : QT) : ∃ y10 y11, evS tab (callD tab fns (n + 5)) (.for (.tp [(.nm 10), (.nm 11)]) .enum (.var 8) .nop [.set 9 (.call 5 [(.var 9), (.call 33 [(.var 5), (.var 6), (.var 11), (.var 10)])])]) (stP ns K m rs b { q with x8 := some (.f (tn row)), x9 := some (.f (tn (idP m))) }) = .ok .nx (stP ns K m rs b { q with x8 := some (.f (tn row)), x9 := some (.f (tn (accP m o (col rs b) (row.map (col rs)) 0 (idP m)))), x10 := y10, x11 := y11 }) ∧ IsP m (accP m o (col rs b) (row.map (col rs)) 0 (idP m)) := by
  generalize hA : accP m o (col rs b) (row.map (col rs)) 0 (idP m) = A
  obtain ⟨s', e, row', i, a, y10, y11, hds, _, ha, hacc, hs⟩ := forGo_inv (st := asgT (.tp [(.nm 10), (.nm 11)])) (body := evSs tab (callD tab fns (n + 5)) [.set 9 (.call 5 [(.var 9), (.call 33 [(.var 5), (.var 6), (.var 11), (.var 10)])])])
    (fun ds s => ∃ (row' : List Nat) (i : Nat) (a : List Nat) (y10 y11 : Option DV), ds = ((row'.map fun (n : Nat) => D.int n).zipIdx i).map (fun p => D.tup [.int p.2, p.1]) ∧ (∀ c ∈ row', c < K) ∧ IsP m a ∧ accP m o (col rs b) (row'.map (col rs)) i a = A ∧ s = stP ns K m rs b { q with x8 := some (.f (tn row)), x9 := some (.f (tn a)), x10 := y10, x11 := y11 })
    (fun d ds s hI => by
      obtain ⟨row', i, a, y10, y11, hds, hr', ha, hacc, hs⟩ := hI
      subst hs
      rcases row' with _ | ⟨c, row'⟩
      · cases hds
      · rw [List.map_cons, List.zipIdx_cons, List.map_cons] at hds
        injection hds with hd hds
        subst hd
        have hc := hr' c List.mem_cons_self
        have hsh := shiftP_isP (o := o) (R.col b hb) (R.col c hc) (i : Int)
        refine ⟨stP ns K m rs b { q with x8 := some (.f (tn row)), x9 := some (.f (tn a)), x10 := some (.f (.int (i : Int))), x11 := some (.f (.int (c : Int))) }, stP ns K m rs b { q with x8 := some (.f (tn row)), x9 := some (.f (tn (comp a (shiftP m o (col rs b) (col rs c) i)))), x10 := some (.f (.int (i : Int))), x11 := some (.f (.int (c : Int))) }, rfl, ?_, row', i + 1, comp a (shiftP m o (col rs b) (col rs c) i), _, _, hds, fun c' hc' => hr' c' (List.mem_cons_of_mem _ hc'), ha.comp hsh, hacc, rfl⟩
        have k1 : evE tab (callD tab fns (n + 5)) (.call 33 [(.var 5), (.var 6), (.var 11), (.var 10)]) (stP ns K m rs b { q with x8 := some (.f (tn row)), x9 := some (.f (tn a)), x10 := some (.f (.int (i : Int))), x11 := some (.f (.int (c : Int))) }) = .ok (.f (tn (shiftP m o (col rs b) (col rs c) i))) (stP ns K m rs b { q with x8 := some (.f (tn row)), x9 := some (.f (tn a)), x10 := some (.f (.int (i : Int))), x11 := some (.f (.int (c : Int))) }) :=
          call4 rfl rfl rfl rfl (ret_shift (n := n + 1) R hb hc O i)
        exact (evSs_nx (evS_setK (call2 rfl k1 (ret_after' (n := n + 4) ha hsh R.mle)) rfl)).trans rfl)
    (((row.map fun (n : Nat) => D.int n).zipIdx 0).map (fun p => D.tup [.int p.2, p.1])) (stP ns K m rs b { q with x8 := some (.f (tn row)), x9 := some (.f (tn (idP m))) }) ⟨row, 0, idP m, q.x10, q.x11, rfl, hr, IsP.id m, hA, rfl⟩
  have hrow : row' = [] := by
    rcases row' with _ | ⟨c, row'⟩
    · rfl
    · cases hds
  subst hrow
  have hacc' : a = A := hacc
  subst hacc'
  subst hs
  exact ⟨y10, y11, (evS_for (v := .f (tn row)) (y := .f .non) (dx := tn row) rfl rfl rfl rfl rfl).trans e, ha⟩
theorem acc_eff (R : Rev K m rs) (hb : b < K) (O : Ord m (col rs b) o) (hr : ∀ c ∈ row, c < K) : comp (accP m o (col rs b) (row.map (col rs)) 0 (idP m)) (pz m o (col rs b) (row.length : Int)) = effP m rs row := by
  have h := acc_prod (R.col b hb) O (row.map (col rs)) 0 (idP m) (fun c hc => by
    obtain ⟨c', hc', rfl⟩ := List.mem_map.mp hc
    exact R.col c' (hr c' hc')) (IsP.id m)
  rw [show (-((0 : Nat) : Int)) = 0 by omega, pz_zero, id_comp (IsP.id m), List.length_map, Nat.zero_add] at h
  rw [h, eff_prod R hr]
end
end LK

set_option Elab.async false
set_option linter.all false
set_option maxRecDepth 100000
set_option maxHeartbeats 4000000
/-! K30f: the law k29, its turns, second part. Own text. -/
namespace LK
open PySem (Str)
open DI PM
section
variable {ns : List Int} {K m o n b d : Nat} {rs : List (List Nat)} {q : QT} {row : List Nat}
theorem f_step (R : Rev K m rs) (hb : b < K) (O : Ord m (col rs b) o) (hr : ∀ c ∈ row, c < K) {A : List Nat} (hA : IsP m A) (q : QT) : evS tab (callD tab fns (n + 5)) (.set 9 (.call 5 [(.var 9), (.call 18 [(.call 7 [(.var 4), (.var 6)]), (.blt .len [(.var 8)])])])) (stP ns K m rs b { q with x8 := some (.f (tn row)), x9 := some (.f (tn A)) }) = .ok .nx (stP ns K m rs b { q with x8 := some (.f (tn row)), x9 := some (.f (tn (comp A (pz m o (col rs b) (row.length : Int))))) }) := by
  have k1 : evE tab (callD tab fns (n + 5)) (.call 7 [(.var 4), (.var 6)]) (stP ns K m rs b { q with x8 := some (.f (tn row)), x9 := some (.f (tn A)) }) = .ok (.f (tn (col rs b))) (stP ns K m rs b { q with x8 := some (.f (tn row)), x9 := some (.f (tn A)) }) :=
    call2 rfl rfl (ret_col (n := n + 4) R hb)
  have k2 : evE tab (callD tab fns (n + 5)) (.blt .len [(.var 8)]) (stP ns K m rs b { q with x8 := some (.f (tn row)), x9 := some (.f (tn A)) }) = .ok (.f (.int (row.length : Int))) (stP ns K m rs b { q with x8 := some (.f (tn row)), x9 := some (.f (tn A)) }) :=
    ev_blt (x := .f (tn row)) (d := tn row) rfl rfl (by
      show some (DV.f (.int ((row.map fun (n : Nat) => D.int n).length : Nat))) = _
      rw [List.length_map])
  exact evS_setK (call2 rfl (call2 k1 k2 (ret_times (n := n + 2) (R.col b hb) O R.mle _)) (ret_after' (n := n + 4) hA ((R.col b hb).pz _) R.mle)) rfl
theorem g_step (R : Rev K m rs) (hr : ∀ c ∈ row, c < K) (h8 : q.x8 = some (.f (tn row))) (h9 : q.x9 = some (.f (tn (effP m rs row)))) : evS tab (callD tab fns (n + 5)) (.ifs (.or (.cmp .ne (.var 9) (.call 10 [(.var 4), (.var 8)])) (.cmp .ne (.call 23 [(.var 5), (.var 8)]) (.var 9))) [.ret (.bl false)] []) (stP ns K m rs b q) = .ok .nx (stP ns K m rs b q) := by
  have v8 : evE tab (callD tab fns (n + 5)) (.var 8) (stP ns K m rs b q) = .ok (.f (tn row)) (stP ns K m rs b q) := by
    obtain ⟨x2, x7, x8, x9, x10, x11, x12, x13, x14, x15, x16, gg⟩ := q
    cases h8
    rfl
  have v9 : evE tab (callD tab fns (n + 5)) (.var 9) (stP ns K m rs b q) = .ok (.f (tn (effP m rs row))) (stP ns K m rs b q) := by
    obtain ⟨x2, x7, x8, x9, x10, x11, x12, x13, x14, x15, x16, gg⟩ := q
    cases h9
    rfl
  have k1 : evE tab (callD tab fns (n + 5)) (.call 10 [(.var 4), (.var 8)]) (stP ns K m rs b q) = .ok (.f (tn (effP m rs row))) (stP ns K m rs b q) :=
    call2 (d1 := rowsL rs) rfl v8 (ret_leffect (n := n + 3) R hr)
  have k2 : evE tab (callD tab fns (n + 5)) (.call 23 [(.var 5), (.var 8)]) (stP ns K m rs b q) = .ok (.f (tn (effP m rs row))) (stP ns K m rs b q) :=
    call2 (d1 := mc K m rs) rfl v8 (ret_effect (n := n) R hr)
  have c1 := ne_tn v9 k1
  have c2 := ne_tn k2 v9
  rw [decide_eq_true rfl] at c1 c2
  exact (evS_ifs (or_f c1 c2)).trans rfl
theorem h_step (R : Rev K m rs) (hb : b < K) (O : Ord m (col rs b) o) (Sd : Stp m (col rs b) (cols K rs) d) (hd : d ≤ 2 ^ 90) (q : QT) : evS tab (callD tab fns (n + 5)) (.set 12 (.call 20 [(.var 3), (.var 4), (.var 6)])) (stP ns K m rs b q) = .ok .nx (stP ns K m rs b { q with x12 := some (.f (.int (d : Int))) }) :=
  evS_setK (call3 (s := stP ns K m rs b q) rfl rfl rfl (ret_lstep (n := n + 1) R hb O Sd hd)) rfl
theorem i_step (R : Rev K m rs) (hb : b < K) (Sd : Stp m (col rs b) (cols K rs) d) (hd : d ≤ 2 ^ 90) (q : QT) : evS tab (callD tab fns (n + 5)) (.ifs (.or (.cmp .ne (.blt .repr [(.call 29 [(.var 5), (.var 6)])]) (.blt .repr [(.var 12)])) (.cmp .ne (.blt .repr [(.callk 29 [1, 0] [(.var 6), (.var 5)])]) (.blt .repr [(.var 12)]))) [.ret (.bl false)] []) (stP ns K m rs b { q with x12 := some (.f (.int (d : Int))) }) = .ok .nx (stP ns K m rs b { q with x12 := some (.f (.int (d : Int))) }) := by
  have hd2 : d < 10 ^ 28 := Nat.lt_of_le_of_lt hd (by decide)
  have v12 : evE tab (callD tab fns (n + 5)) (.var 12) (stP ns K m rs b { q with x12 := some (.f (.int (d : Int))) }) = .ok (.f (.int (d : Int))) (stP ns K m rs b { q with x12 := some (.f (.int (d : Int))) }) := rfl
  have k1 : evE tab (callD tab fns (n + 5)) (.call 29 [(.var 5), (.var 6)]) (stP ns K m rs b { q with x12 := some (.f (.int (d : Int))) }) = .ok (.f (.int (d : Int))) (stP ns K m rs b { q with x12 := some (.f (.int (d : Int))) }) :=
    call2 rfl rfl (ret_free (n := n + 1) R hb Sd hd)
  have k2 : evE tab (callD tab fns (n + 5)) (.callk 29 [1, 0] [(.var 6), (.var 5)]) (stP ns K m rs b { q with x12 := some (.f (.int (d : Int))) }) = .ok (.f (.int (d : Int))) (stP ns K m rs b { q with x12 := some (.f (.int (d : Int))) }) :=
    ev_callk (s1 := stP ns K m rs b { q with x12 := some (.f (.int (d : Int))) }) (s2 := stP ns K m rs b { q with x12 := some (.f (.int (d : Int))) }) (evEs_cons rfl (evEs_cons rfl evEs_nil)) rfl rfl (ret_free (n := n + 1) R hb Sd hd)
  exact (evS_ifs (or_f (repr_same (repr_nat hd2) (ok_nat d) k1 v12) (repr_same (repr_nat hd2) (ok_nat d) k2 v12))).trans rfl
theorem mod_z {i : Int} {d : Nat} (hd : 0 < d) {Φ : Fns} {s : S} {e : E} (he : evE tab Φ e s = .ok (.f (.int i)) s) (v12 : evE tab Φ (.var 12) s = .ok (.f (.int (d : Int))) s) : evE tab Φ (.bin .mod (.blt .int [e]) (.var 12)) s = .ok (.f (.int (i % (d : Int)))) s :=
  ev_bin (ev_blt he rfl rfl) v12 (by
    show (if (0 : Int) < (d : Int) then some (DV.f (.int (i % (d : Int)))) else none) = _
    rw [if_pos (by omega)])
theorem j_step (R : Rev K m rs) (hb : b < K) (O : Ord m (col rs b) o) (Sd : Stp m (col rs b) (cols K rs) d) (q : QT) : evS tab (callD tab fns (n + 5)) (.ifs (.cmp .ne (.bin .mod (.blt .int [(.call 31 [(.var 5), (.var 6)])]) (.var 12)) (.int 0)) [.ret (.bl false)] []) (stP ns K m rs b { q with x12 := some (.f (.int (d : Int))) }) = .ok .nx (stP ns K m rs b { q with x12 := some (.f (.int (d : Int))) }) := by
  have k1 := mod_z (e := .call 31 [(.var 5), (.var 6)]) (s := stP ns K m rs b { q with x12 := some (.f (.int (d : Int))) }) Sd.pos (call2 (n := n + 5) rfl rfl (ret_orderof (n := n + 1) R hb O)) rfl
  rw [step_dvd (R.col b hb) O (cols_isP R) Sd] at k1
  exact (evS_ifs (cmp_int (o := .ne) (k := false) k1 rfl (by
    show (eqD (.int 0) (.int 0)).map not = _
    rw [eqD_int]
    rfl))).trans rfl
theorem k_step (R : Rev K m rs) (q : QT) : ∃ (i j : Nat) (g' : GG), evS tab (callD tab fns (n + 5)) (.par [.nm 13, .nm 14] [(.call 6 [(.var 1), (.int 12)]), (.call 6 [(.var 1), (.int 12)])]) (stP ns K m rs b q) = .ok .nx (stP ns K m rs b { q with x13 := some (.f (.int (i : Int))), x14 := some (.f (.int (j : Int))), gg := g' }) := by
  obtain ⟨i, g1, _, h1⟩ := any_P (n := n + 4) (ns := ns) (K := K) (m := m) (rs := rs) (b := b) (q := q) (k := 12) (e := .int 12) (by decide) (by decide) rfl
  obtain ⟨j, g2, _, h2⟩ := any_P (n := n + 4) (ns := ns) (K := K) (m := m) (rs := rs) (b := b) (q := { q with gg := g1 }) (k := 12) (e := .int 12) (by decide) (by decide) rfl
  exact ⟨i, j, g2, evS_par (evEs_cons h1 (evEs_cons h2 evEs_nil)) rfl rfl⟩
def unI : D → Nat
  | .int i => i.toNat
  | _ => 0
theorem same_iff (R : Rev K m rs) (hb : b < K) (O : Ord m (col rs b) o) (Sd : Stp m (col rs b) (cols K rs) d) (i j : Int) : decide (((List.range K).filter fun c => !decide (shiftP m o (col rs b) (col rs c) i = shiftP m o (col rs b) (col rs c) j)) = []) = decide ((i - j) % (d : Int) = 0) := by
  rw [decide_eq_decide, ← com_iff (R.col b hb) O (cols_isP R) Sd, List.filter_eq_nil_iff]
  unfold Com cols
  constructor
  · intro h c hc
    obtain ⟨c', hc', rfl⟩ := List.mem_map.mp hc
    have := h c' hc'
    rw [Bool.not_eq_true, Bool.not_eq_false', decide_eq_true_eq] at this
    exact (shift_eq_iff (R.col b hb) O (R.col c' (List.mem_range.mp hc')) i j).mp this
  · intro h c hc
    rw [Bool.not_eq_true, Bool.not_eq_false', decide_eq_true_eq]
    exact (shift_eq_iff (R.col b hb) O (R.col c (List.mem_range.mp hc)) i j).mpr (h _ (List.mem_map.mpr ⟨c, hc, rfl⟩))
theorem l_step (R : Rev K m rs) (hb : b < K) (O : Ord m (col rs b) o) (Sd : Stp m (col rs b) (cols K rs) d) (i j : Int) (q : QT) : evS tab (callD tab fns (n + 5)) (.set 15 (.cmp .eq (.lc [17] (.nm 17) .rng (.int 0) (.var 3) (.cmp .ne (.call 19 [(.var 4), (.var 6), (.var 17), (.var 13)]) (.call 19 [(.var 4), (.var 6), (.var 17), (.var 14)])) (.var 17)) (.lst []))) (stP ns K m rs b { q with x13 := some (.f (.int i)), x14 := some (.f (.int j)) }) = .ok .nx (stP ns K m rs b { q with x13 := some (.f (.int i)), x14 := some (.f (.int j)), x15 := some (.f (.bl (decide ((i - j) % (d : Int) = 0)))) }) := by
  have hK := R.kle
  have hlim : (3 : Nat) ≤ lim := by decide
  have e := lc_pure (T := tab) (Φ := callD tab fns (n + 5)) (i := 17) (r := (stP ns K m rs b { q with x13 := some (.f (.int i)), x14 := some (.f (.int j)) }).r) (g := some q.gg) (k := .rng) (a := .int 0) (b := .var 3) (c := .cmp .ne (.call 19 [(.var 4), (.var 6), (.var 17), (.var 13)]) (.call 19 [(.var 4), (.var 6), (.var 17), (.var 14)])) (e := .var 17) (v := .f (.int 0)) (xs := .int 0) (y := .f (.int (K : Int))) (dy := .int (K : Int)) (ds := (List.range K).map fun (i : Nat) => D.int (i : Int))
    (p := fun d => !decide (shiftP m o (col rs b) (col rs (unI d)) i = shiftP m o (col rs b) (col rs (unI d)) j)) (f := id) (by show 17 < 18; decide) rfl rfl rfl rfl (by rw [items_rng (by omega) (by omega), rngI_eq]) (fun d hd => by
      obtain ⟨c, hc, rfl⟩ := List.mem_map.mp hd
      have hc' := List.mem_range.mp hc
      refine ⟨?_, fun _ => rfl⟩
      exact cnd_of (ne_tn (call4 (n := n + 5) (s := ⟨(stP ns K m rs b { q with x13 := some (.f (.int i)), x14 := some (.f (.int j)) }).r.set 17 (some (.f (.int (c : Int)))), some q.gg⟩) rfl rfl rfl rfl (ret_lshift (n := n + 1) R hb hc' O i)) (call4 (n := n + 5) (s := ⟨(stP ns K m rs b { q with x13 := some (.f (.int i)), x14 := some (.f (.int j)) }).r.set 17 (some (.f (.int (c : Int)))), some q.gg⟩) rfl rfl rfl rfl (ret_lshift (n := n + 1) R hb hc' O j)))) (by rw [List.length_map, List.length_range]; omega)
  rw [List.map_id, List.filter_map] at e
  have e2 : evE tab (callD tab fns (n + 5)) (.cmp .eq (.lc [17] (.nm 17) .rng (.int 0) (.var 3) (.cmp .ne (.call 19 [(.var 4), (.var 6), (.var 17), (.var 13)]) (.call 19 [(.var 4), (.var 6), (.var 17), (.var 14)])) (.var 17)) (.lst [])) (stP ns K m rs b { q with x13 := some (.f (.int i)), x14 := some (.f (.int j)) }) = .ok (.f (.bl (decide ((i - j) % (d : Int) = 0)))) (stP ns K m rs b { q with x13 := some (.f (.int i)), x14 := some (.f (.int j)) }) := by
    refine ev_cmp (w := .o []) (db := .lst []) e rfl rfl rfl ?_
    rw [← same_iff R hb O Sd i j]
    exact eqD_tl_nil _
  exact evS_setK e2 rfl
theorem m_step (R : Rev K m rs) (Sd : Stp m (col rs b) (cols K rs) d) (i j : Int) (q : QT) : evS tab (callD tab fns (n + 5)) (.ifs (.cmp .ne (.var 15) (.cmp .eq (.bin .mod (.blt .int [(.bin .sub (.var 13) (.var 14))]) (.var 12)) (.int 0))) [.ret (.bl false)] []) (stP ns K m rs b { q with x12 := some (.f (.int (d : Int))), x13 := some (.f (.int i)), x14 := some (.f (.int j)), x15 := some (.f (.bl (decide ((i - j) % (d : Int) = 0)))) }) = .ok .nx (stP ns K m rs b { q with x12 := some (.f (.int (d : Int))), x13 := some (.f (.int i)), x14 := some (.f (.int j)), x15 := some (.f (.bl (decide ((i - j) % (d : Int) = 0)))) }) := by
  generalize hq : ({ q with x12 := some (.f (.int (d : Int))), x13 := some (.f (.int i)), x14 := some (.f (.int j)), x15 := some (.f (.bl (decide ((i - j) % (d : Int) = 0)))) } : QT) = q5
  have k1 : evE tab (callD tab fns (n + 5)) (.bin .sub (.var 13) (.var 14)) (stP ns K m rs b q5) = .ok (.f (.int (i - j))) (stP ns K m rs b q5) := by
    subst hq
    exact ev_bin (da := .int i) (db := .int j) rfl rfl rfl
  have k2 := mod_z (d := d) Sd.pos k1 (by subst hq; rfl)
  have k3 : evE tab (callD tab fns (n + 5)) (.cmp .eq (.bin .mod (.blt .int [(.bin .sub (.var 13) (.var 14))]) (.var 12)) (.int 0)) (stP ns K m rs b q5) = .ok (.f (.bl (decide ((i - j) % (d : Int) = 0)))) (stP ns K m rs b q5) := cmp_int (o := .eq) k2 rfl (eqD_int _ _)
  have k4 : evE tab (callD tab fns (n + 5)) (.var 15) (stP ns K m rs b q5) = .ok (.f (.bl (decide ((i - j) % (d : Int) = 0)))) (stP ns K m rs b q5) := by
    subst hq
    rfl
  have k5 : evE tab (callD tab fns (n + 5)) (.cmp .ne (.var 15) (.cmp .eq (.bin .mod (.blt .int [(.bin .sub (.var 13) (.var 14))]) (.var 12)) (.int 0))) (stP ns K m rs b q5) = .ok (.f (.bl false)) (stP ns K m rs b q5) :=
    ev_cmp k4 k3 rfl rfl (by
      show (eqD (.bl _) (.bl _)).map not = _
      rw [eqD_bl, decide_eq_true rfl]
      rfl)
  exact (evS_ifs k5).trans rfl
end
end LK

set_option Elab.async false
set_option linter.all false
set_option maxRecDepth 100000
set_option maxHeartbeats 4000000
/-! K30g: the law k29, joined. Own text. -/
namespace LK
open PySem (Str)
open DI PM
structure QS where
  x3 : Option DV
  x4 : Option DV
  x5 : Option DV
  x6 : Option DV
  t : QT
def stQ (ns : List Int) (q : QS) : S := ⟨[some (.f (.scr ns)), some (.f .deal), q.t.x2, q.x3, q.x4, q.x5, q.x6, q.t.x7, q.t.x8, q.t.x9, q.t.x10, q.t.x11, q.t.x12, q.t.x13, q.t.x14, q.t.x15, q.t.x16, none], some q.t.gg⟩
abbrev lBody : List Sm := [.unp [(.nm 3), (.nm 4)] (.call 15 [(.var 1)]),
  .par [.nm 5, .nm 6] [(.make 4 [(.var 3), (.var 4)]), (.call 6 [(.var 1), (.var 3)])],
  .for (.nm 7) .rng (.int 0) (.int 3) cBody,
  .par [.nm 8, .nm 9] [(.call 16 [(.var 1), (.var 3), (.call 6 [(.var 1), (.int 21)])]), (.trg .nop (.blt .len [(.var 4)]))],
  .for (.tp [(.nm 10), (.nm 11)]) .enum (.var 8) .nop [.set 9 (.call 5 [(.var 9), (.call 33 [(.var 5), (.var 6), (.var 11), (.var 10)])])],
  .set 9 (.call 5 [(.var 9), (.call 18 [(.call 7 [(.var 4), (.var 6)]), (.blt .len [(.var 8)])])]),
  .ifs (.or (.cmp .ne (.var 9) (.call 10 [(.var 4), (.var 8)])) (.cmp .ne (.call 23 [(.var 5), (.var 8)]) (.var 9))) [.ret (.bl false)] [],
  .set 12 (.call 20 [(.var 3), (.var 4), (.var 6)]),
  .ifs (.or (.cmp .ne (.blt .repr [(.call 29 [(.var 5), (.var 6)])]) (.blt .repr [(.var 12)])) (.cmp .ne (.blt .repr [(.callk 29 [1, 0] [(.var 6), (.var 5)])]) (.blt .repr [(.var 12)]))) [.ret (.bl false)] [],
  .ifs (.cmp .ne (.bin .mod (.blt .int [(.call 31 [(.var 5), (.var 6)])]) (.var 12)) (.int 0)) [.ret (.bl false)] [],
  .par [.nm 13, .nm 14] [(.call 6 [(.var 1), (.int 12)]), (.call 6 [(.var 1), (.int 12)])],
  .set 15 (.cmp .eq (.lc [17] (.nm 17) .rng (.int 0) (.var 3) (.cmp .ne (.call 19 [(.var 4), (.var 6), (.var 17), (.var 13)]) (.call 19 [(.var 4), (.var 6), (.var 17), (.var 14)])) (.var 17)) (.lst [])),
  .ifs (.cmp .ne (.var 15) (.cmp .eq (.bin .mod (.blt .int [(.bin .sub (.var 13) (.var 14))]) (.var 12)) (.int 0))) [.ret (.bl false)] []]
section
variable {ns : List Int} {K m o n b d : Nat} {rs : List (List Nat)} {row : List Nat}
theorem l_turn (q : QS) : ∃ q', evSs tab (callD tab fns (n + 5)) lBody (stQ ns q) = .ok .nx (stQ ns q') := by
  obtain ⟨x3, x4, x5, x6, t⟩ := q
  obtain ⟨K, m, rs, g1, R, h1⟩ := ret_rev (n := n + 1) t.gg
  have e1 : evS tab (callD tab fns (n + 5)) (.unp [(.nm 3), (.nm 4)] (.call 15 [(.var 1)])) (stQ ns ⟨x3, x4, x5, x6, t⟩) = .ok .nx (stQ ns ⟨some (.f (.int (K : Int))), some (.f (rowsL rs)), x5, x6, { t with gg := g1 }⟩) := by
    have c1 : evE tab (callD tab fns (n + 5)) (.call 15 [(.var 1)]) (stQ ns ⟨x3, x4, x5, x6, t⟩) = .ok (.f (.tup [.int (K : Int), rowsL rs])) (stQ ns ⟨x3, x4, x5, x6, { t with gg := g1 }⟩) :=
      ev_call (s1 := stQ ns ⟨x3, x4, x5, x6, t⟩) (s2 := stQ ns ⟨x3, x4, x5, x6, t⟩) (evEs_cons rfl evEs_nil) rfl h1
    show bnd (evE tab _ _) _ _ = _
    rw [bnd_of c1]
    rfl
  obtain ⟨b, g2, hb, h2⟩ := anyN (n := n + 4) (k := K) R.kpos (by have := R.kle; omega) g1
  have e2 : evS tab (callD tab fns (n + 5)) (.par [.nm 5, .nm 6] [(.make 4 [(.var 3), (.var 4)]), (.call 6 [(.var 1), (.var 3)])]) (stQ ns ⟨some (.f (.int (K : Int))), some (.f (rowsL rs)), x5, x6, { t with gg := g1 }⟩) = .ok .nx (stP ns K m rs b { t with gg := g2 }) := by
    have c1 : evE tab (callD tab fns (n + 5)) (.make 4 [(.var 3), (.var 4)]) (stQ ns ⟨some (.f (.int (K : Int))), some (.f (rowsL rs)), x5, x6, { t with gg := g1 }⟩) = .ok (.f (mc K m rs)) (stQ ns ⟨some (.f (.int (K : Int))), some (.f (rowsL rs)), x5, x6, { t with gg := g1 }⟩) :=
      ev_make (s1 := stQ ns ⟨some (.f (.int (K : Int))), some (.f (rowsL rs)), x5, x6, { t with gg := g1 }⟩) (s2 := stQ ns ⟨some (.f (.int (K : Int))), some (.f (rowsL rs)), x5, x6, { t with gg := g1 }⟩) (evEs_cons rfl (evEs_cons rfl evEs_nil)) rfl (ret_machine (n := n + 1) R)
    have c2 : evE tab (callD tab fns (n + 5)) (.call 6 [(.var 1), (.var 3)]) (stQ ns ⟨some (.f (.int (K : Int))), some (.f (rowsL rs)), x5, x6, { t with gg := g1 }⟩) = .ok (.f (.int (b : Int))) (stQ ns ⟨some (.f (.int (K : Int))), some (.f (rowsL rs)), x5, x6, { t with gg := g2 }⟩) :=
      call2g (s := stQ ns ⟨some (.f (.int (K : Int))), some (.f (rowsL rs)), x5, x6, { t with gg := g1 }⟩) rfl rfl h2
    exact evS_par (evEs_cons c1 (evEs_cons c2 evEs_nil)) rfl rfl
  obtain ⟨o, O⟩ := ord_ex (R.col b hb)
  obtain ⟨d, Sd, hdo⟩ := stp_ex (R.col b hb) O (cols_isP R)
  have hd : d ≤ 2 ^ 90 := Nat.le_trans hdo (Nat.le_trans (ord_small O R.mle) (by decide))
  obtain ⟨q3, e3⟩ := c_loop (n := n) (ns := ns) R hb O { t with gg := g2 }
  obtain ⟨row, g4, hr, hl, e4⟩ := d_step (n := n) (ns := ns) (b := b) R q3
  obtain ⟨y10, y11, e5, hA⟩ := e_loop (n := n) (ns := ns) (row := row) R hb O hr { q3 with gg := g4 }
  have e6 := f_step (n := n) (ns := ns) R hb O hr hA { q3 with x10 := y10, x11 := y11, gg := g4 }
  rw [acc_eff R hb O hr] at e6
  have e7 := g_step (n := n) (ns := ns) (b := b) (q := { q3 with x8 := some (.f (tn row)), x9 := some (.f (tn (effP m rs row))), x10 := y10, x11 := y11, gg := g4 }) R hr rfl rfl
  have e8 := h_step (n := n) (ns := ns) R hb O Sd hd { q3 with x8 := some (.f (tn row)), x9 := some (.f (tn (effP m rs row))), x10 := y10, x11 := y11, gg := g4 }
  have e9 := i_step (n := n) (ns := ns) R hb Sd hd { q3 with x8 := some (.f (tn row)), x9 := some (.f (tn (effP m rs row))), x10 := y10, x11 := y11, gg := g4 }
  have e10 := j_step (n := n) (ns := ns) R hb O Sd { q3 with x8 := some (.f (tn row)), x9 := some (.f (tn (effP m rs row))), x10 := y10, x11 := y11, gg := g4 }
  obtain ⟨i, j, g5, e11⟩ := k_step (n := n) (ns := ns) (b := b) R { q3 with x8 := some (.f (tn row)), x9 := some (.f (tn (effP m rs row))), x10 := y10, x11 := y11, x12 := some (.f (.int (d : Int))), gg := g4 }
  have e12 := l_step (n := n) (ns := ns) R hb O Sd (i : Int) (j : Int) { q3 with x8 := some (.f (tn row)), x9 := some (.f (tn (effP m rs row))), x10 := y10, x11 := y11, x12 := some (.f (.int (d : Int))), gg := g5 }
  have e13 := m_step (n := n) (ns := ns) (b := b) R Sd (i : Int) (j : Int) { q3 with x8 := some (.f (tn row)), x9 := some (.f (tn (effP m rs row))), x10 := y10, x11 := y11, gg := g5 }
  refine ⟨⟨some (.f (.int (K : Int))), some (.f (rowsL rs)), some (.f (mc K m rs)), some (.f (.int (b : Int))), _⟩, (evSs_nx e1).trans ((evSs_nx e2).trans ((evSs_nx e3).trans ((evSs_nx e4).trans ((evSs_nx e5).trans ((evSs_nx e6).trans ((evSs_nx e7).trans ((evSs_nx e8).trans ((evSs_nx e9).trans ((evSs_nx e10).trans ((evSs_nx e11).trans ((evSs_nx e12).trans ((evSs_nx e13).trans rfl))))))))))))⟩
theorem ret_draw {salt : Int} (h0 : 0 ≤ salt) (h1 : salt < 1000000) : Rt (n + 1) 8 [.scr ns, .int salt] none (.f .deal) (some (drawD salt ns)) := by
  refine ⟨[], ?_⟩
  show (if 0 ≤ salt ∧ salt < 1000000 then _ else _) = _
  rw [if_pos ⟨h0, h1⟩]
/-- the law -/
theorem ret_law (ns : List Int) : ∃ g', Rt (n + 6) 34 [.scr ns] none (.f (.bl true)) g' := by
  have e1 : evS tab (callD tab fns (n + 5)) (.set 1 (.call 8 [(.var 0), (.int 29)])) ⟨[some (.f (.scr ns)), none, none, none, none, none, none, none, none, none, none, none, none, none, none, none, none, none], none⟩ = .ok .nx (stQ ns ⟨none, none, none, none, ⟨none, none, none, none, none, none, none, none, none, none, none, drawD 29 ns⟩⟩) :=
    evS_setK (ev_call (s1 := ⟨[some (.f (.scr ns)), none, none, none, none, none, none, none, none, none, none, none, none, none, none, none, none, none], none⟩) (s2 := ⟨[some (.f (.scr ns)), none, none, none, none, none, none, none, none, none, none, none, none, none, none, none, none, none], none⟩) (evEs_cons rfl (evEs_cons rfl evEs_nil)) rfl (ret_draw (n := n + 4) (by decide) (by decide))) rfl
  obtain ⟨q, e2⟩ := for_rng (σ := QS) (T := tab) (Φ := callD tab fns (n + 5)) (t := .nm 2) (a := .int 0) (b := .int 2) (body := lBody) (fun _ q => stQ ns q) (m := 2) ⟨none, none, none, none, ⟨none, none, none, none, none, none, none, none, none, none, none, drawD 29 ns⟩⟩ (by decide) rfl rfl rfl rfl fun k q hk => by
    obtain ⟨q', e⟩ := l_turn (n := n) (ns := ns) { q with t := { q.t with x2 := some (.f (.int (k : Int))) } }
    exact ⟨_, q', rfl, e⟩
  have e3 : evSs tab (callD tab fns (n + 5)) [.ret (.bl true)] (stQ ns q) = .ok (.rt (.f (.bl true))) (stQ ns q) := evSs_rt (evS_ret rfl rfl)
  exact ⟨_, ret_body (bd := b34) (m := 18) (p := 1) rfl rfl (by decide) ((evSs_nx e1).trans ((evSs_nx e2).trans e3))⟩
theorem plain : ∀ ns : List Int, ns.length ≤ 63 → ∃ s', DI.callD LK.tab LK.fns 25 34 [.scr ns] none = .ok (.f (.bl true)) s' := fun ns _ => by
  obtain ⟨g', r, h⟩ := ret_law (n := 19) ns
  exact ⟨_, h⟩
end
end LK

set_option Elab.async false
set_option linter.all false
set_option maxRecDepth 100000
set_option maxHeartbeats 0

namespace LK
open PySem PySem.Spec PyProof.Rows L2 DI
/-! ### the text, by places -/
def top (i : Nat) : Stmt := PySem.Challenge.pw_endsandround_k29_shifts_of_commands.main.body.getD i (.Pass ⟨0, 0, 0, 0⟩)
def st0 : Stmt := top 6
def st1 : Stmt := top 7
def st2 : Stmt := top 9
def st3 : Stmt := top 8
def st4 : Stmt := inClass (top 11) 0
def st5 : Stmt := top 37
def st6 : Stmt := top 28
def st7 : Stmt := top 38
def st8 : Stmt := top 27
def st9 : Stmt := top 34
def st10 : Stmt := top 35
def st11 : Stmt := top 29
def st12 : Stmt := top 30
def st13 : Stmt := top 32
def st14 : Stmt := top 31
def st15 : Stmt := top 36
def st16 : Stmt := top 33
def st17 : Stmt := top 39
def st18 : Stmt := top 40
def st19 : Stmt := top 41
def st20 : Stmt := top 42
def st21 : Stmt := top 12
def st22 : Stmt := top 13
def st23 : Stmt := top 14
def st24 : Stmt := top 15
def st25 : Stmt := top 24
def st26 : Stmt := top 16
def st27 : Stmt := top 18
def st28 : Stmt := top 19
def st29 : Stmt := top 25
def st30 : Stmt := top 20
def st31 : Stmt := top 22
def st32 : Stmt := top 21
def st33 : Stmt := top 23
def st34 : Stmt := top 43
abbrev wd (K : PySem.W.Frag) (ca : Nat → Addr) : Wd := ⟨K, tab, ca, fun k => flds.getD k ""⟩
def N0 : List Str := ["value"]
def N1 : List Str := ["value"]
def N2 : List Str := ["value", "many"]
def N3 : List Str := ["value"]
def N4 : List Str := ["self", "commands", "steps", "many", "at", "row", "state"]
def N5 : List Str := ["_law_one", "_law_other", "_law_state"]
def N7 : List Str := ["_law_steps", "_law_command", "_law_row_here"]
def N9 : List Str := ["_law_steps", "_law_state", "_law_row_here", "_law_command"]
def N10 : List Str := ["_law_steps", "_law_row_here", "_law_state"]
def N11 : List Str := ["_law_deal", "_law_some"]
def N12 : List Str := ["_law_deal", "_law_some", "_law_left", "_law_found"]
def N13 : List Str := ["_law_deal", "_law_steps", "_law_names", "_law_found", "_law_state", "_law_row_here", "_law_to"]
def N14 : List Str := ["_law_sums", "_law_step_here", "_law_modulus", "_law_base", "_law_rows", "_law_place", "_law_state", "_law_add", "_law_one"]
def N15 : List Str := ["_law_deal", "_law_form", "_law_commands", "_law_columns", "_law_many", "_law_base", "_law_command", "_law_step_here", "_law_modulus", "_law_column_here", "_law_more", "_law_turn", "_law_state", "_law_one"]
def N16 : List Str := ["_law_deal", "_law_commands", "_law_length", "_law_turn"]
def N17 : List Str := ["_law_one", "_law_found", "_law_now"]
def N18 : List Str := ["_law_one", "_law_n", "_law_found", "_law_turn"]
def N19 : List Str := ["_law_steps", "_law_base", "_law_command", "_law_i", "_law_one"]
def N20 : List Str := ["_law_commands", "_law_steps", "_law_base", "_law_one", "_law_found", "_law_others", "_law_command", "_law_other"]
def N21 : List Str := ["commands", "value", "at", "command"]
def N22 : List Str := ["machine", "state", "row", "now", "command"]
def N23 : List Str := ["machine", "row", "commands", "state"]
def N24 : List Str := ["one", "other", "state"]
def N25 : List Str := ["one", "other"]
def N26 : List Str := ["machine", "command", "row"]
def N27 : List Str := ["machine", "command", "one"]
def N28 : List Str := ["machine", "command"]
def N29 : List Str := ["machine", "base", "singles", "found", "now", "one"]
def N30 : List Str := ["one", "now", "found"]
def N31 : List Str := ["machine", "command"]
def N32 : List Str := ["one", "n", "found", "turn"]
def N33 : List Str := ["machine", "base", "command", "i", "singles", "ahead"]
def N34 : List Str := ["_law_script", "_law_deal", "_law_turn", "_law_commands", "_law_steps", "_law_machine", "_law_base", "_law_spot", "_law_row_here", "_law_found", "_law_at", "_law_command", "_law_step_here", "_law_i", "_law_j", "_law_same", "_law_due", "_law_one"]
/-! ### what a body may lean on -/
structure Lv (P : Program) (W : World) (K : PySem.W.Frag) (mg : Str → Option Value) (base : Heap) (ca : Nat → Addr) (n : Nat) : Prop where
  cls : ∀ c, ClsOk (wd K ca) c
  tb : ∀ c, ((wd K ca).T.fl c).length < 900 ∧ ((wd K ca).names c).Nodup
  f_abs : mg "abs" = none
  f_all : mg "all" = none
  f_bool : mg "bool" = none
  f_enumerate : mg "enumerate" = none
  f_int : mg "int" = none
  f_isinstance : mg "isinstance" = none
  f_len : mg "len" = none
  f_list : mg "list" = none
  f_range : mg "range" = none
  f_repr : mg "repr" = none
  f_set : mg "set" = none
  f_tuple : mg "tuple" = none
  c_is_integer : TF P W K mg base (wd K ca) "is_integer" (defArgs st0) ["value"] (callD tab fns n 0) (2 * n)
  c_is_number : TF P W K mg base (wd K ca) "is_number" (defArgs st1) ["value"] (callD tab fns n 1) (2 * n)
  c_is_index : TF P W K mg base (wd K ca) "is_index" (defArgs st2) ["value", "many"] (callD tab fns n 2) (2 * n)
  c_is_sequence : TF P W K mg base (wd K ca) "is_sequence" (defArgs st3) ["value"] (callD tab fns n 3) (2 * n)
  m_Machine : MF P W K mg base (wd K ca) "Machine" ["self", "commands", "steps"] 0 (callD tab fns n 4) (2 * n)
  c__law_after : TF P W K mg base (wd K ca) "_law_after" (defArgs st5) ["_law_one", "_law_other"] (callD tab fns n 5) (2 * n)
  c__law_any : TF P W K mg base (wd K ca) "_law_any" (defArgs st6) ["_law_deal", "_law_bound"] (callD tab fns n 6) (2 * n)
  c__law_column : TF P W K mg base (wd K ca) "_law_column" (defArgs st7) ["_law_steps", "_law_command"] (callD tab fns n 7) (2 * n)
  c__law_draw : TF P W K mg base (wd K ca) "_law_draw" (defArgs st8) ["_law_script", "_law_salt"] (callD tab fns n 8) (2 * n)
  c__law_end : TF P W K mg base (wd K ca) "_law_end" (defArgs st9) ["_law_steps", "_law_state", "_law_row_here"] (callD tab fns n 9) (2 * n)
  c__law_effect : TF P W K mg base (wd K ca) "_law_effect" (defArgs st10) ["_law_steps", "_law_row_here"] (callD tab fns n 10) (2 * n)
  c__law_of : TF P W K mg base (wd K ca) "_law_of" (defArgs st11) ["_law_deal", "_law_some"] (callD tab fns n 11) (2 * n)
  c__law_mixed : TF P W K mg base (wd K ca) "_law_mixed" (defArgs st12) ["_law_deal", "_law_some"] (callD tab fns n 12) (2 * n)
  c__law_named : TF P W K mg base (wd K ca) "_law_named" (defArgs st13) ["_law_deal", "_law_steps"] (callD tab fns n 13) (2 * n)
  c__law_wheel : TF P W K mg base (wd K ca) "_law_wheel" (defArgs st14) ["_law_sums", "_law_step_here", "_law_modulus", "_law_base"] (callD tab fns n 14) (2 * n)
  c__law_reversible : TF P W K mg base (wd K ca) "_law_reversible" (defArgs st15) ["_law_deal"] (callD tab fns n 15) (2 * n)
  c__law_row : TF P W K mg base (wd K ca) "_law_row" (defArgs st16) ["_law_deal", "_law_commands", "_law_length"] (callD tab fns n 16) (2 * n)
  c__law_order : TF P W K mg base (wd K ca) "_law_order" (defArgs st17) ["_law_one"] (callD tab fns n 17) (2 * n)
  c__law_times : TF P W K mg base (wd K ca) "_law_times" (defArgs st18) ["_law_one", "_law_n"] (callD tab fns n 18) (2 * n)
  c__law_shift : TF P W K mg base (wd K ca) "_law_shift" (defArgs st19) ["_law_steps", "_law_base", "_law_command", "_law_i"] (callD tab fns n 19) (2 * n)
  c__law_step : TF P W K mg base (wd K ca) "_law_step" (defArgs st20) ["_law_commands", "_law_steps", "_law_base"] (callD tab fns n 20) (2 * n)
  c_checked_row : TF P W K mg base (wd K ca) "checked_row" (defArgs st21) ["commands", "value"] (callD tab fns n 21) (2 * n)
  c_led : TF P W K mg base (wd K ca) "led" (defArgs st22) ["machine", "state", "row"] (callD tab fns n 22) (2 * n)
  c_effect : TF P W K mg base (wd K ca) "effect" (defArgs st23) ["machine", "row"] (callD tab fns n 23) (2 * n)
  c_followed : TF P W K mg base (wd K ca) "followed" (defArgs st24) ["one", "other"] (callD tab fns n 24) (2 * n)
  c_exchange_freely : TF P W K mg base (wd K ca) "exchange_freely" (defArgs st25) ["one", "other"] (callD tab fns n 25) (2 * n)
  c_single_effects : TF P W K mg base (wd K ca) "single_effects" (defArgs st26) ["machine"] (callD tab fns n 26) (2 * n)
  c_first_merging : TF P W K mg base (wd K ca) "first_merging" (defArgs st27) ["machine"] (callD tab fns n 27) (2 * n)
  c_need_reversible : TF P W K mg base (wd K ca) "need_reversible" (defArgs st28) ["machine"] (callD tab fns n 28) (2 * n)
  c_free_step : TF P W K mg base (wd K ca) "free_step" (defArgs st29) ["machine", "base"] (callD tab fns n 29) (2 * n)
  c_order_of_effect : TF P W K mg base (wd K ca) "order_of_effect" (defArgs st30) ["one"] (callD tab fns n 30) (2 * n)
  c_order_of : TF P W K mg base (wd K ca) "order_of" (defArgs st31) ["machine", "command"] (callD tab fns n 31) (2 * n)
  c_effect_times : TF P W K mg base (wd K ca) "effect_times" (defArgs st32) ["one", "n"] (callD tab fns n 32) (2 * n)
  c_shift : TF P W K mg base (wd K ca) "shift" (defArgs st33) ["machine", "base", "command", "i"] (callD tab fns n 33) (2 * n)
/-- is_integer -/
theorem body0 {P : Program} {W : World} {K : PySem.W.Frag} {mg : Str → Option Value} {base : Heap} {ca : Nat → Addr} {n : Nat} {f : Addr} {cdv : Value} {A : Around} {outer : List Env} {s : Shared} {H : Hp} {E : XK} (L : Lv P W K mg base ca n) (hr : Room (2 * n + 1) (A.deeper (envOfC "is_integer" (defScope st0) s.heap.objs.size f cdv))) (hgd : A.guards = some []) :
    PSs (cxOf CX0 P W K mg base N0 "is_integer" (defScope st0) f cdv A outer s H E).nox (defBody st0) (tSs (wd K ca) noEx (callD tab fns n) b0) :=
  have g := gx_of (w := wd K ca) (CX := CX0) (P := P) (W := W) (K := K) (mg := mg) (base := base) (N := N0) (outer := outer) (H := H) (E := E) hr hgd (by decide +kernel) rfl L.cls L.tb
  have hr0 := hr.mono (Nat.le_succ _)
  (ss_cons (s_ret (q_and (q_isI g .int L.f_isinstance L.f_int (q_var 0)) (q_one (j_not (q_isI g .bool L.f_isinstance L.f_bool (q_var 0))))))
  ss_nil)
/-- is_number -/
theorem body1 {P : Program} {W : World} {K : PySem.W.Frag} {mg : Str → Option Value} {base : Heap} {ca : Nat → Addr} {n : Nat} {f : Addr} {cdv : Value} {A : Around} {outer : List Env} {s : Shared} {H : Hp} {E : XK} (L : Lv P W K mg base ca n) (hr : Room (2 * n + 1) (A.deeper (envOfC "is_number" (defScope st1) s.heap.objs.size f cdv))) (hgd : A.guards = some []) :
    PSs (cxOf CX0 P W K mg base N1 "is_number" (defScope st1) f cdv A outer s H E).nox (defBody st1) (tSs (wd K ca) noEx (callD tab fns n) b1) :=
  have g := gx_of (w := wd K ca) (CX := CX0) (P := P) (W := W) (K := K) (mg := mg) (base := base) (N := N1) (outer := outer) (H := H) (E := E) hr hgd (by decide +kernel) rfl L.cls L.tb
  have hr0 := hr.mono (Nat.le_succ _)
  (ss_cons (s_ret (q_and (q_call L.c_is_integer g hr0 (q_cons (q_var 0) j_nil)) (q_one (q_cmp g .ge (q_var 0) j_int))))
  ss_nil)
/-- is_index -/
theorem body2 {P : Program} {W : World} {K : PySem.W.Frag} {mg : Str → Option Value} {base : Heap} {ca : Nat → Addr} {n : Nat} {f : Addr} {cdv : Value} {A : Around} {outer : List Env} {s : Shared} {H : Hp} {E : XK} (L : Lv P W K mg base ca n) (hr : Room (2 * n + 1) (A.deeper (envOfC "is_index" (defScope st2) s.heap.objs.size f cdv))) (hgd : A.guards = some []) :
    PSs (cxOf CX0 P W K mg base N2 "is_index" (defScope st2) f cdv A outer s H E).nox (defBody st2) (tSs (wd K ca) noEx (callD tab fns n) b2) :=
  have g := gx_of (w := wd K ca) (CX := CX0) (P := P) (W := W) (K := K) (mg := mg) (base := base) (N := N2) (outer := outer) (H := H) (E := E) hr hgd (by decide +kernel) rfl L.cls L.tb
  have hr0 := hr.mono (Nat.le_succ _)
  (ss_cons (s_ret (q_and (q_call L.c_is_number g hr0 (q_cons (q_var 0) j_nil)) (q_one (q_cmp g .lt (q_var 0) (q_var 1)))))
  ss_nil)
/-- is_sequence -/
theorem body3 {P : Program} {W : World} {K : PySem.W.Frag} {mg : Str → Option Value} {base : Heap} {ca : Nat → Addr} {n : Nat} {f : Addr} {cdv : Value} {A : Around} {outer : List Env} {s : Shared} {H : Hp} {E : XK} (L : Lv P W K mg base ca n) (hr : Room (2 * n + 1) (A.deeper (envOfC "is_sequence" (defScope st3) s.heap.objs.size f cdv))) (hgd : A.guards = some []) :
    PSs (cxOf CX0 P W K mg base N3 "is_sequence" (defScope st3) f cdv A outer s H E).nox (defBody st3) (tSs (wd K ca) noEx (callD tab fns n) b3) :=
  have g := gx_of (w := wd K ca) (CX := CX0) (P := P) (W := W) (K := K) (mg := mg) (base := base) (N := N3) (outer := outer) (H := H) (E := E) hr hgd (by decide +kernel) rfl L.cls L.tb
  have hr0 := hr.mono (Nat.le_succ _)
  (ss_cons (s_ret (q_isS g L.f_isinstance L.f_list L.f_tuple (q_var 0)))
  ss_nil)
/-- Machine -/
theorem body4 {P : Program} {W : World} {K : PySem.W.Frag} {mg : Str → Option Value} {base : Heap} {ca : Nat → Addr} {n : Nat} {f : Addr} {cdv : Value} {A : Around} {outer : List Env} {s : Shared} {H : Hp} {E : XK} (L : Lv P W K mg base ca n) (hr : Room (2 * n + 1) (A.deeper (envOfC "Machine.__init__" (defScope st4) s.heap.objs.size f cdv))) (hgd : A.guards = some []) :
    PSs (cxOf CX0 P W K mg base N4 "Machine.__init__" (defScope st4) f cdv A outer s H E).nox (defBody st4) (tSs (wd K ca) noEx (callD tab fns n) b4) :=
  have g := gx_of (w := wd K ca) (CX := CX0) (P := P) (W := W) (K := K) (mg := mg) (base := base) (N := N4) (outer := outer) (H := H) (E := E) hr hgd (by decide +kernel) rfl L.cls L.tb
  have hr0 := hr.mono (Nat.le_succ _)
  (ss_cons (s_if (L2.PW.pt (w_or (t_not (q_val (q_call L.c_is_integer g hr0 (q_cons (q_var 1) j_nil)))) (w_one (q_tcmp g .lt (q_var 1) j_int)))) (ss_cons s_never
  ss_nil) ss_nil)
  (ss_cons (s_if (L2.PW.pt (w_or (t_not (q_val (q_call L.c_is_sequence g hr0 (q_cons (q_var 2) j_nil)))) (w_one (q_tcmp g .eq (q_len g L.f_len (q_cons (q_var 2) j_nil)) j_int)))) (ss_cons s_never
  ss_nil) ss_nil)
  (ss_cons (q_set g 3 (q_len g L.f_len (q_cons (q_var 2) j_nil)))
  (ss_cons (q_for g [4, 5] (q_enum g L.f_enumerate (q_var 2)) (q_gtp g (q_gcons (q_gnm g 4) (q_gcons (q_gnm g 5) gs_nil))) (ss_cons (s_if (L2.PW.pt (w_or (t_not (q_val (q_call L.c_is_sequence g hr0 (q_cons (q_var 5) j_nil)))) (w_or (q_tcmp g .ne (q_len g L.f_len (q_cons (q_var 5) j_nil)) (q_var 1)) (w_one (t_not (q_val (q_all g L.f_all (q_cons (q_lc g [("state", 6)] (i_val g.hK (q_var 5)) (blk_of (by rfl)) (fun s H C cl fp g => ⟨(q_gnm g 6), ts_nil, (q_call L.c_is_index g hr0 (q_cons (q_var 6) (q_cons (q_var 3) j_nil)))⟩)) j_nil)))))))) (ss_cons s_never
  ss_nil) ss_nil)
  ss_nil))
  (ss_cons (q_fset g 0 (q_var 1))
  (ss_cons (q_fset g 1 (q_var 3))
  (ss_cons (q_fset g 2 (q_tuple g L.f_tuple (q_cons (q_lc g [("row", 5)] (i_val g.hK (q_var 2)) (blk_of (by rfl)) (fun s H C cl fp g => ⟨(q_gnm g 5), ts_nil, (q_tuple g L.f_tuple (q_cons (q_var 5) j_nil))⟩)) j_nil)))
  ss_nil)))))))
/-- _law_after -/
theorem body5 {P : Program} {W : World} {K : PySem.W.Frag} {mg : Str → Option Value} {base : Heap} {ca : Nat → Addr} {n : Nat} {f : Addr} {cdv : Value} {A : Around} {outer : List Env} {s : Shared} {H : Hp} {E : XK} (L : Lv P W K mg base ca n) (hr : Room (2 * n + 1) (A.deeper (envOfC "_law_after" (defScope st5) s.heap.objs.size f cdv))) (hgd : A.guards = some []) :
    PSs (cxOf CX0 P W K mg base N5 "_law_after" (defScope st5) f cdv A outer s H E).nox (defBody st5) (tSs (wd K ca) noEx (callD tab fns n) b5) :=
  have g := gx_of (w := wd K ca) (CX := CX0) (P := P) (W := W) (K := K) (mg := mg) (base := base) (N := N5) (outer := outer) (H := H) (E := E) hr hgd (by decide +kernel) rfl L.cls L.tb
  have hr0 := hr.mono (Nat.le_succ _)
  (ss_cons (s_ret (q_tuple g L.f_tuple (q_cons (q_lc g [("_law_state", 2)] (i_val g.hK (q_var 0)) (blk_of (by rfl)) (fun s H C cl fp g => ⟨(q_gnm g 2), ts_nil, (q_ix g (q_var 1) (q_var 2))⟩)) j_nil)))
  ss_nil)
def N6 : List Str := ["_law_deal", "_law_bound", "_law_rest"]
theorem body6 {P : Program} {W : World} {K : PySem.W.Frag} {mg : Str → Option Value} {base : Heap} {ca : Nat → Addr} {n : Nat} {f : Addr} {cdv : Value} {A : Around} {outer : List Env} {s : Shared} {H : Hp} {E : XK} (L : Lv P W K mg base ca n) (hr : Room (2 * n + 1) (A.deeper (envOfC "_law_any" (defScope st6) s.heap.objs.size f cdv))) (hgd : A.guards = some []) :
    PSs (cxOf CX0 P W K mg base N6 "_law_any" (defScope st6) f cdv A outer s H E).nox (defBody st6) (tAny K) :=
  have g := gx_of (w := wd K ca) (CX := CX0) (P := P) (W := W) (K := K) (mg := mg) (base := base) (N := N6) (outer := outer) (H := H) (E := E) hr hgd (by decide +kernel) rfl L.cls L.tb
  have hu : (cxOf CX0 P W K mg base N6 "_law_any" (defScope st6) f cdv A outer s H E).nox.A.units + 64 < cLine := Nat.lt_of_succ_lt g.hu
  pss_cons (ps_while g.hp (L2.PW.pt (pw_and (pt_cmpR (op_neD hu) (pe_ix ix_seq (pv 0) pe_int (by intro _ _; rfl)) (pe_lst pa_nil) (nomark _)) (pw_and1 (pt_cmpR (op_eqD hu) (pe_ix ix_seq (pe_ix ix_seq (pv 0) pe_int (by intro _ _; rfl)) (pe_un un_neg pe_int) (by intro _ _; rfl)) pe_int (nomark _))))) (pss_one (ps_expr (pe_bm0 PySem.F.plainAttrs_list PySem.F.slot_list_pop PySem.F.type_list_pop mt_pop (pe_ix ix_seq (pv 0) pe_int (by intro _ _; rfl))))))
  (pss_cons (ps_if (pt_cmpR (op_neD hu) (pe_ix ix_seq (pv 0) pe_int (by intro _ _; rfl)) (pe_lst pa_nil) (nomark _)) (pss_cons (ps_set (i := 2) g.hN rfl (Or.inl rfl) (pe_callTy call_int1 rfl L.f_int rfl (pa_cons (pe_bm0 PySem.F.plainAttrs_list PySem.F.slot_list_pop PySem.F.type_list_pop mt_pop (pe_ix ix_seq (pv 0) pe_int (by intro _ _; rfl))) pa_nil))) (pss_cons (ps_expr (pe_bm PySem.F.plainAttrs_list PySem.F.slot_list_append PySem.F.type_list_append mt_append (pe_ix ix_seq (pv 0) pe_int (by intro _ _; rfl)) (pa_cons (pe_op op_fdivW (pv 2) (pv 1)) pa_nil))) (pss_one (ps_ret (pe_op op_mod (pv 2) (pv 1)))))) pss_nil)
  (pss_cons (ps_asg (pe_op op_mod (pe_callTy call_int1 rfl L.f_int rfl (pa_cons (pe_op op_add (pe_op op_mul (pe_ix ix_seq (pv 0) pe_int (by intro _ _; rfl)) pe_int) pe_int) pa_nil)) pe_int) (pg_sub (pv 0) pe_int set_list))
  (pss_one (ps_ret (pe_op op_mod (pe_callTy call_int1 rfl L.f_int rfl (pa_cons (pe_op op_fdivW (pe_ix ix_seq (pv 0) pe_int (by intro _ _; rfl)) pe_int) pa_nil)) (pv 1))))))
/-- _law_column -/
theorem body7 {P : Program} {W : World} {K : PySem.W.Frag} {mg : Str → Option Value} {base : Heap} {ca : Nat → Addr} {n : Nat} {f : Addr} {cdv : Value} {A : Around} {outer : List Env} {s : Shared} {H : Hp} {E : XK} (L : Lv P W K mg base ca n) (hr : Room (2 * n + 1) (A.deeper (envOfC "_law_column" (defScope st7) s.heap.objs.size f cdv))) (hgd : A.guards = some []) :
    PSs (cxOf CX0 P W K mg base N7 "_law_column" (defScope st7) f cdv A outer s H E).nox (defBody st7) (tSs (wd K ca) noEx (callD tab fns n) b7) :=
  have g := gx_of (w := wd K ca) (CX := CX0) (P := P) (W := W) (K := K) (mg := mg) (base := base) (N := N7) (outer := outer) (H := H) (E := E) hr hgd (by decide +kernel) rfl L.cls L.tb
  have hr0 := hr.mono (Nat.le_succ _)
  (ss_cons (s_ret (q_tuple g L.f_tuple (q_cons (q_lc g [("_law_row_here", 2)] (i_val g.hK (q_var 0)) (blk_of (by rfl)) (fun s H C cl fp g => ⟨(q_gnm g 2), ts_nil, (q_ix g (q_var 2) (q_var 1))⟩)) j_nil)))
  ss_nil)
def N8 : List Str := ["_law_script", "_law_salt", "_law_cells", "_law_blend", "_law_cell"]
theorem body8 {P : Program} {W : World} {K : PySem.W.Frag} {mg : Str → Option Value} {base : Heap} {ca : Nat → Addr} {n : Nat} {f : Addr} {cdv : Value} {A : Around} {outer : List Env} {s : Shared} {H : Hp} {E : XK} (L : Lv P W K mg base ca n) (hr : Room (2 * n + 1) (A.deeper (envOfC "_law_draw" (defScope st8) s.heap.objs.size f cdv))) (hgd : A.guards = some []) :
    PSs (cxOf CX0 P W K mg base N8 "_law_draw" (defScope st8) f cdv A outer s H E).nox (defBody st8) (tDraw (wd K ca) (callD tab fns n)) :=
  have g := gx_of (w := wd K ca) (CX := CX0) (P := P) (W := W) (K := K) (mg := mg) (base := base) (N := N8) (outer := outer) (H := H) (E := E) hr hgd (by decide +kernel) rfl L.cls L.tb
  pss_cons (q_setLc g 2 [("_law_cell", 4)] (i_val g.hK (q_sl g (q_var 0) j_po0 (j_po1 j_int (by intro z; cases z)))) (blk_of (by rfl)) (fun s H C cl fp g => ⟨(q_gnm g 4), ts_nil, (q_abs L.f_abs (q_cons (q_int L.f_int (q_cons (q_var 4) j_nil)) j_nil))⟩)) (pss_cons (q_set g 3 (q_bin g .add j_int (q_bin g .mul j_int (q_var 1)))) (pss_cons (q_for g [4] (i_val g.hK (q_var 2)) (q_gnm g 4) (ss_cons (q_set g 3 (q_bin g .mod (q_int L.f_int (q_cons (q_bin g .add (q_bin g .add (q_bin g .mul (q_var 3) j_int) (q_bin g .mod (q_var 4) j_int)) j_int) j_nil)) j_int))
  ss_nil)) (pss_one (ps_ret (pe_lst (pa_cons (j_rev (q_lc g [("_law_cell", 4)] (i_val g.hK (q_var 2)) (blk_of (by rfl)) (fun s H C cl fp g => ⟨(q_gnm g 4), (q_ts1 (q_tcmp g .ge (q_var 4) (q_bin g .pow j_int j_int))), (q_var 4)⟩))) (pa_cons (q_var 3) pa_nil)))))))
/-- _law_end -/
theorem body9 {P : Program} {W : World} {K : PySem.W.Frag} {mg : Str → Option Value} {base : Heap} {ca : Nat → Addr} {n : Nat} {f : Addr} {cdv : Value} {A : Around} {outer : List Env} {s : Shared} {H : Hp} {E : XK} (L : Lv P W K mg base ca n) (hr : Room (2 * n + 1) (A.deeper (envOfC "_law_end" (defScope st9) s.heap.objs.size f cdv))) (hgd : A.guards = some []) :
    PSs (cxOf CX0 P W K mg base N9 "_law_end" (defScope st9) f cdv A outer s H E).nox (defBody st9) (tSs (wd K ca) noEx (callD tab fns n) b9) :=
  have g := gx_of (w := wd K ca) (CX := CX0) (P := P) (W := W) (K := K) (mg := mg) (base := base) (N := N9) (outer := outer) (H := H) (E := E) hr hgd (by decide +kernel) rfl L.cls L.tb
  have hr0 := hr.mono (Nat.le_succ _)
  (ss_cons (q_for g [3] (i_val g.hK (q_var 2)) (q_gnm g 3) (ss_cons (q_set g 1 (q_ix g (q_ix g (q_var 0) (q_var 1)) (q_var 3)))
  ss_nil))
  (ss_cons (s_ret (q_var 1))
  ss_nil))
/-- _law_effect -/
theorem body10 {P : Program} {W : World} {K : PySem.W.Frag} {mg : Str → Option Value} {base : Heap} {ca : Nat → Addr} {n : Nat} {f : Addr} {cdv : Value} {A : Around} {outer : List Env} {s : Shared} {H : Hp} {E : XK} (L : Lv P W K mg base ca n) (hr : Room (2 * n + 1) (A.deeper (envOfC "_law_effect" (defScope st10) s.heap.objs.size f cdv))) (hgd : A.guards = some []) :
    PSs (cxOf CX0 P W K mg base N10 "_law_effect" (defScope st10) f cdv A outer s H E).nox (defBody st10) (tSs (wd K ca) noEx (callD tab fns n) b10) :=
  have g := gx_of (w := wd K ca) (CX := CX0) (P := P) (W := W) (K := K) (mg := mg) (base := base) (N := N10) (outer := outer) (H := H) (E := E) hr hgd (by decide +kernel) rfl L.cls L.tb
  have hr0 := hr.mono (Nat.le_succ _)
  (ss_cons (s_ret (q_tuple g L.f_tuple (q_cons (q_lc g [("_law_state", 2)] (q_rng1 L.f_range (q_cons (q_len g L.f_len (q_cons (q_var 0) j_nil)) j_nil)) (blk_of (by rfl)) (fun s H C cl fp g => ⟨(q_gnm g 2), ts_nil, (q_call L.c__law_end g hr0 (q_cons (q_var 0) (q_cons (q_var 2) (q_cons (q_var 1) j_nil))))⟩)) j_nil)))
  ss_nil)
/-- _law_of -/
theorem body11 {P : Program} {W : World} {K : PySem.W.Frag} {mg : Str → Option Value} {base : Heap} {ca : Nat → Addr} {n : Nat} {f : Addr} {cdv : Value} {A : Around} {outer : List Env} {s : Shared} {H : Hp} {E : XK} (L : Lv P W K mg base ca n) (hr : Room (2 * n + 1) (A.deeper (envOfC "_law_of" (defScope st11) s.heap.objs.size f cdv))) (hgd : A.guards = some []) :
    PSs (cxOf CX0 P W K mg base N11 "_law_of" (defScope st11) f cdv A outer s H E).nox (defBody st11) (tSs (wd K ca) noEx (callD tab fns n) b11) :=
  have g := gx_of (w := wd K ca) (CX := CX0) (P := P) (W := W) (K := K) (mg := mg) (base := base) (N := N11) (outer := outer) (H := H) (E := E) hr hgd (by decide +kernel) rfl L.cls L.tb
  have hr0 := hr.mono (Nat.le_succ _)
  (ss_cons (s_ret (q_ix g (q_var 1) (q_call L.c__law_any g hr0 (q_cons (q_var 0) (q_cons (q_len g L.f_len (q_cons (q_var 1) j_nil)) j_nil)))))
  ss_nil)
/-- _law_mixed -/
theorem body12 {P : Program} {W : World} {K : PySem.W.Frag} {mg : Str → Option Value} {base : Heap} {ca : Nat → Addr} {n : Nat} {f : Addr} {cdv : Value} {A : Around} {outer : List Env} {s : Shared} {H : Hp} {E : XK} (L : Lv P W K mg base ca n) (hr : Room (2 * n + 1) (A.deeper (envOfC "_law_mixed" (defScope st12) s.heap.objs.size f cdv))) (hgd : A.guards = some []) :
    PSs (cxOf CX0 P W K mg base N12 "_law_mixed" (defScope st12) f cdv A outer s H E).nox (defBody st12) (tSs (wd K ca) noEx (callD tab fns n) b12) :=
  have g := gx_of (w := wd K ca) (CX := CX0) (P := P) (W := W) (K := K) (mg := mg) (base := base) (N := N12) (outer := outer) (H := H) (E := E) hr hgd (by decide +kernel) rfl L.cls L.tb
  have hr0 := hr.mono (Nat.le_succ _)
  (ss_cons (q_parN g [2, 3] (q_nm 2 (q_nm 3 .nil)) (q_cons (q_list g L.f_list (q_cons (q_var 1) j_nil)) (q_cons (j_lst j_nil) j_nil)))
  (ss_cons (q_while g (q_tcmp g .ne (q_var 2) (j_lst j_nil)) (ss_cons (q_expr (q_append 3 (q_popAt 2 (q_call L.c__law_any g hr0 (q_cons (q_var 0) (q_cons (q_len g L.f_len (q_cons (q_var 2) j_nil)) j_nil))))))
  ss_nil))
  (ss_cons (s_ret (q_var 3))
  ss_nil)))
/-- _law_named -/
theorem body13 {P : Program} {W : World} {K : PySem.W.Frag} {mg : Str → Option Value} {base : Heap} {ca : Nat → Addr} {n : Nat} {f : Addr} {cdv : Value} {A : Around} {outer : List Env} {s : Shared} {H : Hp} {E : XK} (L : Lv P W K mg base ca n) (hr : Room (2 * n + 1) (A.deeper (envOfC "_law_named" (defScope st13) s.heap.objs.size f cdv))) (hgd : A.guards = some []) :
    PSs (cxOf CX0 P W K mg base N13 "_law_named" (defScope st13) f cdv A outer s H E).nox (defBody st13) (tSs (wd K ca) noEx (callD tab fns n) b13) :=
  have g := gx_of (w := wd K ca) (CX := CX0) (P := P) (W := W) (K := K) (mg := mg) (base := base) (N := N13) (outer := outer) (H := H) (E := E) hr hgd (by decide +kernel) rfl L.cls L.tb
  have hr0 := hr.mono (Nat.le_succ _)
  (ss_cons (q_parX g (q_cons (q_call L.c__law_mixed g hr0 (q_cons (q_var 0) (q_cons (q_lrg g L.f_list (q_rg1 L.f_range (q_len g L.f_len (q_cons (q_var 1) j_nil)))) j_nil))) (q_cons (q_lc g [("_law_row_here", 5)] (i_val g.hK (q_var 1)) (blk_of (by rfl)) (fun s H C cl fp g => ⟨(q_gnm g 5), ts_nil, (j_lst j_nil)⟩)) j_nil)) (q_xnm g 2 (q_xnm g 3 gx_nil)))
  (ss_cons (q_for g [4, 5] (q_enum g L.f_enumerate (q_var 1)) (q_gtp g (q_gcons (q_gnm g 4) (q_gcons (q_gnm g 5) gs_nil))) (ss_cons (q_setIx 3 (q_ix g (q_var 2) (q_var 4)) (q_lc g [("_law_to", 6)] (i_val g.hK (q_var 5)) (blk_of (by rfl)) (fun s H C cl fp g => ⟨(q_gnm g 6), ts_nil, (q_ix g (q_var 2) (q_var 6))⟩)))
  ss_nil))
  (ss_cons (s_ret (q_var 3))
  ss_nil)))
/-- _law_wheel -/
theorem body14 {P : Program} {W : World} {K : PySem.W.Frag} {mg : Str → Option Value} {base : Heap} {ca : Nat → Addr} {n : Nat} {f : Addr} {cdv : Value} {A : Around} {outer : List Env} {s : Shared} {H : Hp} {E : XK} (L : Lv P W K mg base ca n) (hr : Room (2 * n + 1) (A.deeper (envOfC "_law_wheel" (defScope st14) s.heap.objs.size f cdv))) (hgd : A.guards = some []) :
    PSs (cxOf CX0 P W K mg base N14 "_law_wheel" (defScope st14) f cdv A outer s H E).nox (defBody st14) (tSs (wd K ca) noEx (callD tab fns n) b14) :=
  have g := gx_of (w := wd K ca) (CX := CX0) (P := P) (W := W) (K := K) (mg := mg) (base := base) (N := N14) (outer := outer) (H := H) (E := E) hr hgd (by decide +kernel) rfl L.cls L.tb
  have hr0 := hr.mono (Nat.le_succ _)
  (ss_cons (q_set g 4 (j_lst j_nil))
  (ss_cons (q_for g [5] (q_rng1 L.f_range (q_cons (q_var 1) j_nil)) (q_gnm g 5) (ss_cons (q_for g [6] (q_rng1 L.f_range (q_cons (q_var 2) j_nil)) (q_gnm g 6) (ss_cons (q_setLc g 7 [("_law_one", 8)] (i_val g.hK (q_var 0)) (blk_of (by rfl)) (fun s H C cl fp g => ⟨(q_gnm g 8), ts_nil, (j_ite (q_tcmp g .eq (q_var 5) j_int) (q_var 8) j_int)⟩))
  (ss_cons (q_expr (q_append 4 (q_lc g [("_law_one", 8)] (i_val g.hK (q_var 7)) (blk_of (by rfl)) (fun s H C cl fp g => ⟨(q_gnm g 8), ts_nil, (q_bin g .add (q_bin g .add (q_var 3) (q_bin g .mul (q_bin g .mod (q_int L.f_int (q_cons (q_bin g .add (q_var 5) j_int) j_nil)) (q_var 1)) (q_var 2))) (q_bin g .mod (q_int L.f_int (q_cons (q_bin g .add (q_var 6) (q_var 8)) j_nil)) (q_var 2)))⟩))))
  ss_nil)))
  ss_nil))
  (ss_cons (s_ret (q_var 4))
  ss_nil)))
/-- _law_reversible -/
theorem body15 {P : Program} {W : World} {K : PySem.W.Frag} {mg : Str → Option Value} {base : Heap} {ca : Nat → Addr} {n : Nat} {f : Addr} {cdv : Value} {A : Around} {outer : List Env} {s : Shared} {H : Hp} {E : XK} (L : Lv P W K mg base ca n) (hr : Room (2 * n + 1) (A.deeper (envOfC "_law_reversible" (defScope st15) s.heap.objs.size f cdv))) (hgd : A.guards = some []) :
    PSs (cxOf CX0 P W K mg base N15 "_law_reversible" (defScope st15) f cdv A outer s H E).nox (defBody st15) (tSs (wd K ca) noEx (callD tab fns n) b15) :=
  have g := gx_of (w := wd K ca) (CX := CX0) (P := P) (W := W) (K := K) (mg := mg) (base := base) (N := N15) (outer := outer) (H := H) (E := E) hr hgd (by decide +kernel) rfl L.cls L.tb
  have hr0 := hr.mono (Nat.le_succ _)
  (ss_cons (q_parX g (q_cons (q_call L.c__law_any g hr0 (q_cons (q_var 0) (q_cons j_int j_nil))) (q_cons (q_call L.c__law_of g hr0 (q_cons (q_var 0) (q_cons (j_lst (q_cons j_int (q_cons j_int (q_cons j_int (q_cons j_int (q_cons j_int j_nil)))))) j_nil))) (q_cons (j_lst j_nil) j_nil))) (q_xnm g 1 (q_xnm g 2 (q_xnm g 3 gx_nil))))
  (ss_cons (s_if (q_tcmp g .eq (q_var 1) j_int) (ss_cons (q_unp [7, 8] (q_call L.c__law_of g hr0 (q_cons (q_var 0) (q_cons (j_lst (q_cons (j_tup (q_cons j_int (q_cons j_int j_nil))) (q_cons (j_tup (q_cons j_int (q_cons j_int j_nil))) (q_cons (j_tup (q_cons j_int (q_cons j_int j_nil))) (q_cons (j_tup (q_cons j_int (q_cons j_int j_nil))) (q_cons (j_tup (q_cons j_int (q_cons j_int j_nil))) (q_cons (j_tup (q_cons j_int (q_cons j_int j_nil))) j_nil))))))) j_nil))) (q_gtp g (q_gcons (q_gnm g 7) (q_gcons (q_gnm g 8) gs_nil))))
  (ss_cons (s_ret (j_tup (q_cons (q_var 2) (q_cons (q_call L.c__law_named g hr0 (q_cons (q_var 0) (q_cons (q_call L.c__law_wheel g hr0 (q_cons (q_lc g [("_law_one", 13)] (q_rng1 L.f_range (q_cons (q_var 2) j_nil)) (blk_of (by rfl)) (fun s H C cl fp g => ⟨(q_gnm g 13), ts_nil, (q_call L.c__law_any g hr0 (q_cons (q_var 0) (q_cons (q_var 8) j_nil)))⟩)) (q_cons (q_var 7) (q_cons (q_var 8) (q_cons j_int j_nil))))) j_nil))) j_nil))))
  ss_nil)) ss_nil)
  (ss_cons (q_set g 4 (q_bin g .add j_int (q_call L.c__law_any g hr0 (q_cons (q_var 0) (q_cons j_int j_nil)))))
  (ss_cons (q_set g 5 (q_call L.c__law_mixed g hr0 (q_cons (q_var 0) (q_cons (q_lrg g L.f_list (q_rg1 L.f_range (q_var 4))) j_nil))))
  (ss_cons (q_for g [6] (q_rng1 L.f_range (q_cons (q_var 2) j_nil)) (q_gnm g 6) (ss_cons (q_set g 9 (j_ite (q_tcmp g .eq (q_var 1) j_int) (q_call L.c__law_mixed g hr0 (q_cons (q_var 0) (q_cons (q_lrg g L.f_list (q_rg1 L.f_range (q_var 4))) j_nil))) (q_var 5)))
  (ss_cons (s_if (q_tcmp g .eq (q_var 1) j_int) (ss_cons (q_set g 10 (q_call L.c__law_any g hr0 (q_cons (q_var 0) (q_cons (q_var 4) j_nil))))
  (ss_cons (q_setLc g 9 [("_law_state", 12)] (q_rng1 L.f_range (q_cons (q_var 4) j_nil)) (blk_of (by rfl)) (fun s H C cl fp g => ⟨(q_gnm g 12), ts_nil, (q_bin g .mod (q_int L.f_int (q_cons (q_bin g .add (q_var 12) (q_var 10)) j_nil)) (q_var 4))⟩))
  ss_nil)) ss_nil)
  (ss_cons (s_if (q_tcmp g .eq (q_var 1) j_int) (ss_cons (q_for g [11] (q_rng1 L.f_range (q_cons (q_call L.c__law_any g hr0 (q_cons (q_var 0) (q_cons j_int j_nil))) j_nil)) (q_gnm g 11) (ss_cons (q_setLc g 9 [("_law_state", 12)] (i_val g.hK (q_var 9)) (blk_of (by rfl)) (fun s H C cl fp g => ⟨(q_gnm g 12), ts_nil, (q_ix g (q_var 5) (q_var 12))⟩))
  ss_nil))
  ss_nil) ss_nil)
  (ss_cons (q_expr (q_append 3 (q_var 9)))
  ss_nil)))))
  (ss_cons (s_ret (j_tup (q_cons (q_var 2) (q_cons (q_lc g [("_law_state", 12)] (q_rng1 L.f_range (q_cons (q_var 4) j_nil)) (blk_of (by rfl)) (fun s H C cl fp g => ⟨(q_gnm g 12), ts_nil, (q_lc g [("_law_column_here", 9)] (i_val g.hK (q_var 3)) (blk_of (by rfl)) (fun s H C cl fp g => ⟨(q_gnm g 9), ts_nil, (q_ix g (q_var 9) (q_var 12))⟩))⟩)) j_nil))))
  ss_nil))))))
/-- _law_row -/
theorem body16 {P : Program} {W : World} {K : PySem.W.Frag} {mg : Str → Option Value} {base : Heap} {ca : Nat → Addr} {n : Nat} {f : Addr} {cdv : Value} {A : Around} {outer : List Env} {s : Shared} {H : Hp} {E : XK} (L : Lv P W K mg base ca n) (hr : Room (2 * n + 1) (A.deeper (envOfC "_law_row" (defScope st16) s.heap.objs.size f cdv))) (hgd : A.guards = some []) :
    PSs (cxOf CX0 P W K mg base N16 "_law_row" (defScope st16) f cdv A outer s H E).nox (defBody st16) (tSs (wd K ca) noEx (callD tab fns n) b16) :=
  have g := gx_of (w := wd K ca) (CX := CX0) (P := P) (W := W) (K := K) (mg := mg) (base := base) (N := N16) (outer := outer) (H := H) (E := E) hr hgd (by decide +kernel) rfl L.cls L.tb
  have hr0 := hr.mono (Nat.le_succ _)
  (ss_cons (s_ret (q_tuple g L.f_tuple (q_cons (q_lc g [("_law_turn", 3)] (q_rng1 L.f_range (q_cons (q_var 2) j_nil)) (blk_of (by rfl)) (fun s H C cl fp g => ⟨(q_gnm g 3), ts_nil, (q_call L.c__law_any g hr0 (q_cons (q_var 0) (q_cons (q_var 1) j_nil)))⟩)) j_nil)))
  ss_nil)
/-- _law_order -/
theorem body17 {P : Program} {W : World} {K : PySem.W.Frag} {mg : Str → Option Value} {base : Heap} {ca : Nat → Addr} {n : Nat} {f : Addr} {cdv : Value} {A : Around} {outer : List Env} {s : Shared} {H : Hp} {E : XK} (L : Lv P W K mg base ca n) (hr : Room (2 * n + 1) (A.deeper (envOfC "_law_order" (defScope st17) s.heap.objs.size f cdv))) (hgd : A.guards = some []) :
    PSs (cxOf CX0 P W K mg base N17 "_law_order" (defScope st17) f cdv A outer s H E).nox (defBody st17) (tSs (wd K ca) noEx (callD tab fns n) b17) :=
  have g := gx_of (w := wd K ca) (CX := CX0) (P := P) (W := W) (K := K) (mg := mg) (base := base) (N := N17) (outer := outer) (H := H) (E := E) hr hgd (by decide +kernel) rfl L.cls L.tb
  have hr0 := hr.mono (Nat.le_succ _)
  (ss_cons (q_parN g [1, 2] (q_nm 1 (q_nm 2 .nil)) (q_cons j_int (q_cons (q_var 0) j_nil)))
  (ss_cons (q_while g (q_tcmp g .ne (q_var 2) (q_trg g L.f_tuple (q_rg1 L.f_range (q_len g L.f_len (q_cons (q_var 0) j_nil))))) (ss_cons (q_parN g [1, 2] (q_nm 1 (q_nm 2 .nil)) (q_cons (q_bin g .add (q_var 1) j_int) (q_cons (q_call L.c__law_after g hr0 (q_cons (q_var 2) (q_cons (q_var 0) j_nil))) j_nil)))
  ss_nil))
  (ss_cons (s_ret (q_var 1))
  ss_nil)))
/-- _law_times -/
theorem body18 {P : Program} {W : World} {K : PySem.W.Frag} {mg : Str → Option Value} {base : Heap} {ca : Nat → Addr} {n : Nat} {f : Addr} {cdv : Value} {A : Around} {outer : List Env} {s : Shared} {H : Hp} {E : XK} (L : Lv P W K mg base ca n) (hr : Room (2 * n + 1) (A.deeper (envOfC "_law_times" (defScope st18) s.heap.objs.size f cdv))) (hgd : A.guards = some []) :
    PSs (cxOf CX0 P W K mg base N18 "_law_times" (defScope st18) f cdv A outer s H E).nox (defBody st18) (tSs (wd K ca) noEx (callD tab fns n) b18) :=
  have g := gx_of (w := wd K ca) (CX := CX0) (P := P) (W := W) (K := K) (mg := mg) (base := base) (N := N18) (outer := outer) (H := H) (E := E) hr hgd (by decide +kernel) rfl L.cls L.tb
  have hr0 := hr.mono (Nat.le_succ _)
  (ss_cons (q_set g 2 (q_trg g L.f_tuple (q_rg1 L.f_range (q_len g L.f_len (q_cons (q_var 0) j_nil)))))
  (ss_cons (q_for g [3] (q_rng1 L.f_range (q_cons (q_bin g .mod (q_int L.f_int (q_cons (q_var 1) j_nil)) (q_call L.c__law_order g hr0 (q_cons (q_var 0) j_nil))) j_nil)) (q_gnm g 3) (ss_cons (q_set g 2 (q_call L.c__law_after g hr0 (q_cons (q_var 2) (q_cons (q_var 0) j_nil))))
  ss_nil))
  (ss_cons (s_ret (q_var 2))
  ss_nil)))
/-- _law_shift -/
theorem body19 {P : Program} {W : World} {K : PySem.W.Frag} {mg : Str → Option Value} {base : Heap} {ca : Nat → Addr} {n : Nat} {f : Addr} {cdv : Value} {A : Around} {outer : List Env} {s : Shared} {H : Hp} {E : XK} (L : Lv P W K mg base ca n) (hr : Room (2 * n + 1) (A.deeper (envOfC "_law_shift" (defScope st19) s.heap.objs.size f cdv))) (hgd : A.guards = some []) :
    PSs (cxOf CX0 P W K mg base N19 "_law_shift" (defScope st19) f cdv A outer s H E).nox (defBody st19) (tSs (wd K ca) noEx (callD tab fns n) b19) :=
  have g := gx_of (w := wd K ca) (CX := CX0) (P := P) (W := W) (K := K) (mg := mg) (base := base) (N := N19) (outer := outer) (H := H) (E := E) hr hgd (by decide +kernel) rfl L.cls L.tb
  have hr0 := hr.mono (Nat.le_succ _)
  (ss_cons (q_set g 4 (q_call L.c__law_column g hr0 (q_cons (q_var 0) (q_cons (q_var 1) j_nil))))
  (ss_cons (s_ret (q_call L.c__law_after g hr0 (q_cons (q_call L.c__law_after g hr0 (q_cons (q_call L.c__law_times g hr0 (q_cons (q_var 4) (q_cons (q_var 3) j_nil))) (q_cons (q_call L.c__law_column g hr0 (q_cons (q_var 0) (q_cons (q_var 2) j_nil))) j_nil))) (q_cons (q_call L.c__law_times g hr0 (q_cons (q_var 4) (q_cons (q_bin g .sub (q_bin g .sub j_int (q_var 3)) j_int) j_nil))) j_nil))))
  ss_nil))
/-- _law_step -/
theorem body20 {P : Program} {W : World} {K : PySem.W.Frag} {mg : Str → Option Value} {base : Heap} {ca : Nat → Addr} {n : Nat} {f : Addr} {cdv : Value} {A : Around} {outer : List Env} {s : Shared} {H : Hp} {E : XK} (L : Lv P W K mg base ca n) (hr : Room (2 * n + 1) (A.deeper (envOfC "_law_step" (defScope st20) s.heap.objs.size f cdv))) (hgd : A.guards = some []) :
    PSs (cxOf CX0 P W K mg base N20 "_law_step" (defScope st20) f cdv A outer s H E).nox (defBody st20) (tSs (wd K ca) noEx (callD tab fns n) b20) :=
  have g := gx_of (w := wd K ca) (CX := CX0) (P := P) (W := W) (K := K) (mg := mg) (base := base) (N := N20) (outer := outer) (H := H) (E := E) hr hgd (by decide +kernel) rfl L.cls L.tb
  have hr0 := hr.mono (Nat.le_succ _)
  (ss_cons (q_parX g (q_cons (q_call L.c__law_column g hr0 (q_cons (q_var 1) (q_cons (q_var 2) j_nil))) (q_cons j_int j_nil)) (q_xnm g 3 (q_xnm g 4 gx_nil)))
  (ss_cons (q_setLc g 5 [("_law_command", 6)] (q_rng1 L.f_range (q_cons (q_var 0) j_nil)) (blk_of (by rfl)) (fun s H C cl fp g => ⟨(q_gnm g 6), ts_nil, (q_call L.c__law_column g hr0 (q_cons (q_var 1) (q_cons (q_var 6) j_nil)))⟩))
  (ss_cons (q_while g (q_tcmp g .ne (q_lc g [("_law_other", 7)] (i_val g.hK (q_var 5)) (blk_of (by rfl)) (fun s H C cl fp g => ⟨(q_gnm g 7), (q_ts1 (q_tcmp g .ne (q_call L.c__law_after g hr0 (q_cons (q_call L.c__law_times g hr0 (q_cons (q_var 3) (q_cons (q_var 4) j_nil))) (q_cons (q_var 7) j_nil))) (q_call L.c__law_after g hr0 (q_cons (q_var 7) (q_cons (q_call L.c__law_times g hr0 (q_cons (q_var 3) (q_cons (q_var 4) j_nil))) j_nil))))), (q_var 7)⟩)) (j_lst j_nil)) (ss_cons (q_set g 4 (q_bin g .add (q_var 4) j_int))
  ss_nil))
  (ss_cons (s_ret (q_var 4))
  ss_nil))))
/-- checked_row -/
theorem body21 {P : Program} {W : World} {K : PySem.W.Frag} {mg : Str → Option Value} {base : Heap} {ca : Nat → Addr} {n : Nat} {f : Addr} {cdv : Value} {A : Around} {outer : List Env} {s : Shared} {H : Hp} {E : XK} (L : Lv P W K mg base ca n) (hr : Room (2 * n + 1) (A.deeper (envOfC "checked_row" (defScope st21) s.heap.objs.size f cdv))) (hgd : A.guards = some []) :
    PSs (cxOf CX0 P W K mg base N21 "checked_row" (defScope st21) f cdv A outer s H E).nox (defBody st21) (tSs (wd K ca) noEx (callD tab fns n) b21) :=
  have g := gx_of (w := wd K ca) (CX := CX0) (P := P) (W := W) (K := K) (mg := mg) (base := base) (N := N21) (outer := outer) (H := H) (E := E) hr hgd (by decide +kernel) rfl L.cls L.tb
  have hr0 := hr.mono (Nat.le_succ _)
  (ss_cons (s_if (t_not (q_val (q_call L.c_is_sequence g hr0 (q_cons (q_var 1) j_nil)))) (ss_cons s_never
  ss_nil) ss_nil)
  (ss_cons (q_for g [2, 3] (q_enum g L.f_enumerate (q_var 1)) (q_gtp g (q_gcons (q_gnm g 2) (q_gcons (q_gnm g 3) gs_nil))) (ss_cons (s_if (t_not (q_val (q_call L.c_is_index g hr0 (q_cons (q_var 3) (q_cons (q_var 0) j_nil))))) (ss_cons s_never
  ss_nil) ss_nil)
  ss_nil))
  (ss_cons (s_ret (q_tuple g L.f_tuple (q_cons (q_var 1) j_nil)))
  ss_nil)))
/-- led -/
theorem body22 {P : Program} {W : World} {K : PySem.W.Frag} {mg : Str → Option Value} {base : Heap} {ca : Nat → Addr} {n : Nat} {f : Addr} {cdv : Value} {A : Around} {outer : List Env} {s : Shared} {H : Hp} {E : XK} (L : Lv P W K mg base ca n) (hr : Room (2 * n + 1) (A.deeper (envOfC "led" (defScope st22) s.heap.objs.size f cdv))) (hgd : A.guards = some []) :
    PSs (cxOf CX0 P W K mg base N22 "led" (defScope st22) f cdv A outer s H E).nox (defBody st22) (tSs (wd K ca) noEx (callD tab fns n) b22) :=
  have g := gx_of (w := wd K ca) (CX := CX0) (P := P) (W := W) (K := K) (mg := mg) (base := base) (N := N22) (outer := outer) (H := H) (E := E) hr hgd (by decide +kernel) rfl L.cls L.tb
  have hr0 := hr.mono (Nat.le_succ _)
  (ss_cons (q_set g 3 (q_var 1))
  (ss_cons (q_for g [4] (i_val g.hK (q_var 2)) (q_gnm g 4) (ss_cons (q_set g 3 (q_ix g (q_ix g (q_fld g 2 (q_var 0)) (q_var 3)) (q_var 4)))
  ss_nil))
  (ss_cons (s_ret (q_var 3))
  ss_nil)))
/-- effect -/
theorem body23 {P : Program} {W : World} {K : PySem.W.Frag} {mg : Str → Option Value} {base : Heap} {ca : Nat → Addr} {n : Nat} {f : Addr} {cdv : Value} {A : Around} {outer : List Env} {s : Shared} {H : Hp} {E : XK} (L : Lv P W K mg base ca n) (hr : Room (2 * n + 1) (A.deeper (envOfC "effect" (defScope st23) s.heap.objs.size f cdv))) (hgd : A.guards = some []) :
    PSs (cxOf CX0 P W K mg base N23 "effect" (defScope st23) f cdv A outer s H E).nox (defBody st23) (tSs (wd K ca) noEx (callD tab fns n) b23) :=
  have g := gx_of (w := wd K ca) (CX := CX0) (P := P) (W := W) (K := K) (mg := mg) (base := base) (N := N23) (outer := outer) (H := H) (E := E) hr hgd (by decide +kernel) rfl L.cls L.tb
  have hr0 := hr.mono (Nat.le_succ _)
  (ss_cons (q_set g 2 (q_call L.c_checked_row g hr0 (q_cons (q_fld g 0 (q_var 0)) (q_cons (q_var 1) j_nil))))
  (ss_cons (s_ret (q_tuple g L.f_tuple (q_cons (q_lc g [("state", 3)] (q_rng1 L.f_range (q_cons (q_fld g 1 (q_var 0)) j_nil)) (blk_of (by rfl)) (fun s H C cl fp g => ⟨(q_gnm g 3), ts_nil, (q_call L.c_led g hr0 (q_cons (q_var 0) (q_cons (q_var 3) (q_cons (q_var 2) j_nil))))⟩)) j_nil)))
  ss_nil))
/-- followed -/
theorem body24 {P : Program} {W : World} {K : PySem.W.Frag} {mg : Str → Option Value} {base : Heap} {ca : Nat → Addr} {n : Nat} {f : Addr} {cdv : Value} {A : Around} {outer : List Env} {s : Shared} {H : Hp} {E : XK} (L : Lv P W K mg base ca n) (hr : Room (2 * n + 1) (A.deeper (envOfC "followed" (defScope st24) s.heap.objs.size f cdv))) (hgd : A.guards = some []) :
    PSs (cxOf CX0 P W K mg base N24 "followed" (defScope st24) f cdv A outer s H E).nox (defBody st24) (tSs (wd K ca) noEx (callD tab fns n) b24) :=
  have g := gx_of (w := wd K ca) (CX := CX0) (P := P) (W := W) (K := K) (mg := mg) (base := base) (N := N24) (outer := outer) (H := H) (E := E) hr hgd (by decide +kernel) rfl L.cls L.tb
  have hr0 := hr.mono (Nat.le_succ _)
  (ss_cons (s_ret (q_tuple g L.f_tuple (q_cons (q_lc g [("state", 2)] (i_val g.hK (q_var 0)) (blk_of (by rfl)) (fun s H C cl fp g => ⟨(q_gnm g 2), ts_nil, (q_ix g (q_var 1) (q_var 2))⟩)) j_nil)))
  ss_nil)
/-- exchange_freely -/
theorem body25 {P : Program} {W : World} {K : PySem.W.Frag} {mg : Str → Option Value} {base : Heap} {ca : Nat → Addr} {n : Nat} {f : Addr} {cdv : Value} {A : Around} {outer : List Env} {s : Shared} {H : Hp} {E : XK} (L : Lv P W K mg base ca n) (hr : Room (2 * n + 1) (A.deeper (envOfC "exchange_freely" (defScope st25) s.heap.objs.size f cdv))) (hgd : A.guards = some []) :
    PSs (cxOf CX0 P W K mg base N25 "exchange_freely" (defScope st25) f cdv A outer s H E).nox (defBody st25) (tSs (wd K ca) noEx (callD tab fns n) b25) :=
  have g := gx_of (w := wd K ca) (CX := CX0) (P := P) (W := W) (K := K) (mg := mg) (base := base) (N := N25) (outer := outer) (H := H) (E := E) hr hgd (by decide +kernel) rfl L.cls L.tb
  have hr0 := hr.mono (Nat.le_succ _)
  (ss_cons (s_ret (q_cmp g .eq (q_call L.c_followed g hr0 (q_cons (q_var 0) (q_cons (q_var 1) j_nil))) (q_call L.c_followed g hr0 (q_cons (q_var 1) (q_cons (q_var 0) j_nil)))))
  ss_nil)
/-- single_effects -/
theorem body26 {P : Program} {W : World} {K : PySem.W.Frag} {mg : Str → Option Value} {base : Heap} {ca : Nat → Addr} {n : Nat} {f : Addr} {cdv : Value} {A : Around} {outer : List Env} {s : Shared} {H : Hp} {E : XK} (L : Lv P W K mg base ca n) (hr : Room (2 * n + 1) (A.deeper (envOfC "single_effects" (defScope st26) s.heap.objs.size f cdv))) (hgd : A.guards = some []) :
    PSs (cxOf CX0 P W K mg base N26 "single_effects" (defScope st26) f cdv A outer s H E).nox (defBody st26) (tSs (wd K ca) noEx (callD tab fns n) b26) :=
  have g := gx_of (w := wd K ca) (CX := CX0) (P := P) (W := W) (K := K) (mg := mg) (base := base) (N := N26) (outer := outer) (H := H) (E := E) hr hgd (by decide +kernel) rfl L.cls L.tb
  have hr0 := hr.mono (Nat.le_succ _)
  (ss_cons (s_ret (q_lc g [("command", 1)] (q_rng1 L.f_range (q_cons (q_fld g 0 (q_var 0)) j_nil)) (blk_of (by rfl)) (fun s H C cl fp g => ⟨(q_gnm g 1), ts_nil, (q_tuple g L.f_tuple (q_cons (q_lc g [("row", 2)] (i_val g.hK (q_fld g 2 (q_var 0))) (blk_of (by rfl)) (fun s H C cl fp g => ⟨(q_gnm g 2), ts_nil, (q_ix g (q_var 2) (q_var 1))⟩)) j_nil))⟩)))
  ss_nil)
/-- first_merging -/
theorem body27 {P : Program} {W : World} {K : PySem.W.Frag} {mg : Str → Option Value} {base : Heap} {ca : Nat → Addr} {n : Nat} {f : Addr} {cdv : Value} {A : Around} {outer : List Env} {s : Shared} {H : Hp} {E : XK} (L : Lv P W K mg base ca n) (hr : Room (2 * n + 1) (A.deeper (envOfC "first_merging" (defScope st27) s.heap.objs.size f cdv))) (hgd : A.guards = some []) :
    PSs (cxOf CX0 P W K mg base N27 "first_merging" (defScope st27) f cdv A outer s H E).nox (defBody st27) (tSs (wd K ca) noEx (callD tab fns n) b27) :=
  have g := gx_of (w := wd K ca) (CX := CX0) (P := P) (W := W) (K := K) (mg := mg) (base := base) (N := N27) (outer := outer) (H := H) (E := E) hr hgd (by decide +kernel) rfl L.cls L.tb
  have hr0 := hr.mono (Nat.le_succ _)
  (ss_cons (q_for g [1, 2] (q_enum g L.f_enumerate (q_call L.c_single_effects g hr0 (q_cons (q_var 0) j_nil))) (q_gtp g (q_gcons (q_gnm g 1) (q_gcons (q_gnm g 2) gs_nil))) (ss_cons (s_if (q_tcmp g .lt (q_lenset g L.f_len L.f_set (q_var 2)) (q_fld g 1 (q_var 0))) (ss_cons (s_ret (q_var 1))
  ss_nil) ss_nil)
  ss_nil))
  (ss_cons (s_ret j_non)
  ss_nil))
/-- need_reversible -/
theorem body28 {P : Program} {W : World} {K : PySem.W.Frag} {mg : Str → Option Value} {base : Heap} {ca : Nat → Addr} {n : Nat} {f : Addr} {cdv : Value} {A : Around} {outer : List Env} {s : Shared} {H : Hp} {E : XK} (L : Lv P W K mg base ca n) (hr : Room (2 * n + 1) (A.deeper (envOfC "need_reversible" (defScope st28) s.heap.objs.size f cdv))) (hgd : A.guards = some []) :
    PSs (cxOf CX0 P W K mg base N28 "need_reversible" (defScope st28) f cdv A outer s H E).nox (defBody st28) (tSs (wd K ca) noEx (callD tab fns n) b28) :=
  have g := gx_of (w := wd K ca) (CX := CX0) (P := P) (W := W) (K := K) (mg := mg) (base := base) (N := N28) (outer := outer) (H := H) (E := E) hr hgd (by decide +kernel) rfl L.cls L.tb
  have hr0 := hr.mono (Nat.le_succ _)
  (ss_cons (q_set g 1 (q_call L.c_first_merging g hr0 (q_cons (q_var 0) j_nil)))
  (ss_cons (s_if (q_tnotN (q_var 1)) (ss_cons s_never
  ss_nil) ss_nil)
  ss_nil))
/-- free_step -/
theorem body29 {P : Program} {W : World} {K : PySem.W.Frag} {mg : Str → Option Value} {base : Heap} {ca : Nat → Addr} {n : Nat} {f : Addr} {cdv : Value} {A : Around} {outer : List Env} {s : Shared} {H : Hp} {E : XK} (L : Lv P W K mg base ca n) (hr : Room (2 * n + 1) (A.deeper (envOfC "free_step" (defScope st29) s.heap.objs.size f cdv))) (hgd : A.guards = some []) :
    PSs (cxOf CX0 P W K mg base N29 "free_step" (defScope st29) f cdv A outer s H E).nox (defBody st29) (tSs (wd K ca) noEx (callD tab fns n) b29) :=
  have g := gx_of (w := wd K ca) (CX := CX0) (P := P) (W := W) (K := K) (mg := mg) (base := base) (N := N29) (outer := outer) (H := H) (E := E) hr hgd (by decide +kernel) rfl L.cls L.tb
  have hr0 := hr.mono (Nat.le_succ _)
  (ss_cons (q_expr (q_call L.c_need_reversible g hr0 (q_cons (q_var 0) j_nil)))
  (ss_cons (q_set g 2 (q_call L.c_single_effects g hr0 (q_cons (q_var 0) j_nil)))
  (ss_cons (q_parX g (q_cons j_int (q_cons (q_ix g (q_var 2) (q_var 1)) j_nil)) (q_xnm g 3 (q_xnm g 4 gx_nil)))
  (ss_cons (q_while g (t_not (q_val (q_all g L.f_all (q_cons (q_lc g [("one", 5)] (i_val g.hK (q_var 2)) (blk_of (by rfl)) (fun s H C cl fp g => ⟨(q_gnm g 5), ts_nil, (q_call L.c_exchange_freely g hr0 (q_cons (q_var 4) (q_cons (q_var 5) j_nil)))⟩)) j_nil)))) (ss_cons (q_parX g (q_cons (q_bin g .add (q_var 3) j_int) (q_cons (q_call L.c_followed g hr0 (q_cons (q_var 4) (q_cons (q_ix g (q_var 2) (q_var 1)) j_nil))) j_nil)) (q_xnm g 3 (q_xnm g 4 gx_nil)))
  ss_nil))
  (ss_cons (s_ret (q_var 3))
  ss_nil)))))
/-- order_of_effect -/
theorem body30 {P : Program} {W : World} {K : PySem.W.Frag} {mg : Str → Option Value} {base : Heap} {ca : Nat → Addr} {n : Nat} {f : Addr} {cdv : Value} {A : Around} {outer : List Env} {s : Shared} {H : Hp} {E : XK} (L : Lv P W K mg base ca n) (hr : Room (2 * n + 1) (A.deeper (envOfC "order_of_effect" (defScope st30) s.heap.objs.size f cdv))) (hgd : A.guards = some []) :
    PSs (cxOf CX0 P W K mg base N30 "order_of_effect" (defScope st30) f cdv A outer s H E).nox (defBody st30) (tSs (wd K ca) noEx (callD tab fns n) b30) :=
  have g := gx_of (w := wd K ca) (CX := CX0) (P := P) (W := W) (K := K) (mg := mg) (base := base) (N := N30) (outer := outer) (H := H) (E := E) hr hgd (by decide +kernel) rfl L.cls L.tb
  have hr0 := hr.mono (Nat.le_succ _)
  (ss_cons (q_parN g [1, 2] (q_nm 1 (q_nm 2 .nil)) (q_cons (q_var 0) (q_cons j_int j_nil)))
  (ss_cons (q_while g (q_tcmp g .ne (q_var 1) (q_trg g L.f_tuple (q_rg1 L.f_range (q_len g L.f_len (q_cons (q_var 0) j_nil))))) (ss_cons (q_parN g [1, 2] (q_nm 1 (q_nm 2 .nil)) (q_cons (q_call L.c_followed g hr0 (q_cons (q_var 1) (q_cons (q_var 0) j_nil))) (q_cons (q_bin g .add (q_var 2) j_int) j_nil)))
  ss_nil))
  (ss_cons (s_ret (q_var 2))
  ss_nil)))
/-- order_of -/
theorem body31 {P : Program} {W : World} {K : PySem.W.Frag} {mg : Str → Option Value} {base : Heap} {ca : Nat → Addr} {n : Nat} {f : Addr} {cdv : Value} {A : Around} {outer : List Env} {s : Shared} {H : Hp} {E : XK} (L : Lv P W K mg base ca n) (hr : Room (2 * n + 1) (A.deeper (envOfC "order_of" (defScope st31) s.heap.objs.size f cdv))) (hgd : A.guards = some []) :
    PSs (cxOf CX0 P W K mg base N31 "order_of" (defScope st31) f cdv A outer s H E).nox (defBody st31) (tSs (wd K ca) noEx (callD tab fns n) b31) :=
  have g := gx_of (w := wd K ca) (CX := CX0) (P := P) (W := W) (K := K) (mg := mg) (base := base) (N := N31) (outer := outer) (H := H) (E := E) hr hgd (by decide +kernel) rfl L.cls L.tb
  have hr0 := hr.mono (Nat.le_succ _)
  (ss_cons (q_expr (q_call L.c_need_reversible g hr0 (q_cons (q_var 0) j_nil)))
  (ss_cons (s_ret (q_call L.c_order_of_effect g hr0 (q_cons (q_ix g (q_call L.c_single_effects g hr0 (q_cons (q_var 0) j_nil)) (q_var 1)) j_nil)))
  ss_nil))
/-- effect_times -/
theorem body32 {P : Program} {W : World} {K : PySem.W.Frag} {mg : Str → Option Value} {base : Heap} {ca : Nat → Addr} {n : Nat} {f : Addr} {cdv : Value} {A : Around} {outer : List Env} {s : Shared} {H : Hp} {E : XK} (L : Lv P W K mg base ca n) (hr : Room (2 * n + 1) (A.deeper (envOfC "effect_times" (defScope st32) s.heap.objs.size f cdv))) (hgd : A.guards = some []) :
    PSs (cxOf CX0 P W K mg base N32 "effect_times" (defScope st32) f cdv A outer s H E).nox (defBody st32) (tSs (wd K ca) noEx (callD tab fns n) b32) :=
  have g := gx_of (w := wd K ca) (CX := CX0) (P := P) (W := W) (K := K) (mg := mg) (base := base) (N := N32) (outer := outer) (H := H) (E := E) hr hgd (by decide +kernel) rfl L.cls L.tb
  have hr0 := hr.mono (Nat.le_succ _)
  (ss_cons (q_set g 2 (q_trg g L.f_tuple (q_rg1 L.f_range (q_len g L.f_len (q_cons (q_var 0) j_nil)))))
  (ss_cons (q_for g [3] (q_rng1 L.f_range (q_cons (q_bin g .mod (q_var 1) (q_call L.c_order_of_effect g hr0 (q_cons (q_var 0) j_nil))) j_nil)) (q_gnm g 3) (ss_cons (q_set g 2 (q_call L.c_followed g hr0 (q_cons (q_var 2) (q_cons (q_var 0) j_nil))))
  ss_nil))
  (ss_cons (s_ret (q_var 2))
  ss_nil)))
/-- shift -/
theorem body33 {P : Program} {W : World} {K : PySem.W.Frag} {mg : Str → Option Value} {base : Heap} {ca : Nat → Addr} {n : Nat} {f : Addr} {cdv : Value} {A : Around} {outer : List Env} {s : Shared} {H : Hp} {E : XK} (L : Lv P W K mg base ca n) (hr : Room (2 * n + 1) (A.deeper (envOfC "shift" (defScope st33) s.heap.objs.size f cdv))) (hgd : A.guards = some []) :
    PSs (cxOf CX0 P W K mg base N33 "shift" (defScope st33) f cdv A outer s H E).nox (defBody st33) (tSs (wd K ca) noEx (callD tab fns n) b33) :=
  have g := gx_of (w := wd K ca) (CX := CX0) (P := P) (W := W) (K := K) (mg := mg) (base := base) (N := N33) (outer := outer) (H := H) (E := E) hr hgd (by decide +kernel) rfl L.cls L.tb
  have hr0 := hr.mono (Nat.le_succ _)
  (ss_cons (q_expr (q_call L.c_need_reversible g hr0 (q_cons (q_var 0) j_nil)))
  (ss_cons (q_set g 4 (q_call L.c_single_effects g hr0 (q_cons (q_var 0) j_nil)))
  (ss_cons (q_set g 5 (q_call L.c_followed g hr0 (q_cons (q_call L.c_effect_times g hr0 (q_cons (q_ix g (q_var 4) (q_var 1)) (q_cons (q_var 3) j_nil))) (q_cons (q_ix g (q_var 4) (q_var 2)) j_nil))))
  (ss_cons (s_ret (q_call L.c_followed g hr0 (q_cons (q_var 5) (q_cons (q_call L.c_effect_times g hr0 (q_cons (q_ix g (q_var 4) (q_var 1)) (q_cons (q_bin g .sub (j_neg (q_var 3)) j_int) j_nil))) j_nil))))
  ss_nil))))
/-- law -/
theorem body34 {P : Program} {W : World} {K : PySem.W.Frag} {mg : Str → Option Value} {base : Heap} {ca : Nat → Addr} {n : Nat} {f : Addr} {cdv : Value} {A : Around} {outer : List Env} {s : Shared} {H : Hp} {E : XK} (L : Lv P W K mg base ca n) (hr : Room (2 * n + 1) (A.deeper (envOfC "law" (defScope st34) s.heap.objs.size f cdv))) (hgd : A.guards = some []) :
    PSs (cxOf CX0 P W K mg base N34 "law" (defScope st34) f cdv A outer s H E).nox (defBody st34) (tSs (wd K ca) noEx (callD tab fns n) b34) :=
  have g := gx_of (w := wd K ca) (CX := CX0) (P := P) (W := W) (K := K) (mg := mg) (base := base) (N := N34) (outer := outer) (H := H) (E := E) hr hgd (by decide +kernel) rfl L.cls L.tb
  have hr0 := hr.mono (Nat.le_succ _)
  (ss_cons (q_set g 1 (q_call L.c__law_draw g hr0 (q_cons (q_var 0) (q_cons j_int j_nil))))
  (ss_cons (q_for g [2] (q_rng1 L.f_range (q_cons j_int j_nil)) (q_gnm g 2) (ss_cons (q_unp [3, 4] (q_call L.c__law_reversible g hr0 (q_cons (q_var 1) j_nil)) (q_gtp g (q_gcons (q_gnm g 3) (q_gcons (q_gnm g 4) gs_nil))))
  (ss_cons (q_parX g (q_cons (q_make L.m_Machine g hr (q_cons (q_var 3) (q_cons (q_var 4) j_nil))) (q_cons (q_call L.c__law_any g hr0 (q_cons (q_var 1) (q_cons (q_var 3) j_nil))) j_nil)) (q_xnm g 5 (q_xnm g 6 gx_nil)))
  (ss_cons (q_for g [7] (q_rng1 L.f_range (q_cons j_int j_nil)) (q_gnm g 7) (ss_cons (q_parX g (q_cons (q_call L.c__law_any g hr0 (q_cons (q_var 1) (q_cons (q_var 3) j_nil))) (q_cons (q_call L.c__law_of g hr0 (q_cons (q_var 1) (q_cons (j_lst (q_cons (q_call L.c__law_any g hr0 (q_cons (q_var 1) (q_cons j_int j_nil))) (q_cons (q_bin g .sub j_int (q_call L.c__law_any g hr0 (q_cons (q_var 1) (q_cons j_int j_nil)))) (q_cons (q_call L.c__law_any g hr0 (q_cons (q_var 1) (q_cons (q_bin g .pow j_int j_int) j_nil))) j_nil)))) j_nil))) j_nil)) (q_xnm g 11 (q_xnm g 13 gx_nil)))
  (ss_cons (q_set g 16 (q_call L.c__law_shift g hr0 (q_cons (q_var 4) (q_cons (q_var 6) (q_cons (q_var 11) (q_cons (q_var 13) j_nil))))))
  (ss_cons (s_if (L2.PW.pt (w_or (q_tcmp g .ne (q_repr g L.f_repr (q_cons (q_call L.c_shift g hr0 (q_cons (q_var 5) (q_cons (q_var 6) (q_cons (q_var 11) (q_cons (q_var 13) j_nil))))) j_nil)) (q_repr g L.f_repr (q_cons (q_var 16) j_nil))) (w_one (q_tcmp g .ne (q_repr g L.f_repr (q_cons (q_callk ["i", "command", "base", "machine"] [3, 2, 1, 0] L.c_shift g hr0 (by intro _ _ _ _ _ _ _ _ us ws l1 l2; match us, ws, l1, l2 with | [], [_, _, _, _], _, _ => rfl) (k_cons (q_var 13) (k_cons (q_var 11) (k_cons (q_var 6) (k_cons (q_var 5) k_nil))))) j_nil)) (q_repr g L.f_repr (q_cons (q_var 16) j_nil)))))) (ss_cons (s_ret j_bl)
  ss_nil) ss_nil)
  ss_nil))))
  (ss_cons (q_parN g [8, 9] (q_nm 8 (q_nm 9 .nil)) (q_cons (q_call L.c__law_row g hr0 (q_cons (q_var 1) (q_cons (q_var 3) (q_cons (q_call L.c__law_any g hr0 (q_cons (q_var 1) (q_cons j_int j_nil))) j_nil)))) (q_cons (q_trg g L.f_tuple (q_rg1 L.f_range (q_len g L.f_len (q_cons (q_var 4) j_nil)))) j_nil)))
  (ss_cons (q_for g [10, 11] (q_enum g L.f_enumerate (q_var 8)) (q_gtp g (q_gcons (q_gnm g 10) (q_gcons (q_gnm g 11) gs_nil))) (ss_cons (q_set g 9 (q_call L.c__law_after g hr0 (q_cons (q_var 9) (q_cons (q_call L.c_shift g hr0 (q_cons (q_var 5) (q_cons (q_var 6) (q_cons (q_var 11) (q_cons (q_var 10) j_nil))))) j_nil))))
  ss_nil))
  (ss_cons (q_set g 9 (q_call L.c__law_after g hr0 (q_cons (q_var 9) (q_cons (q_call L.c__law_times g hr0 (q_cons (q_call L.c__law_column g hr0 (q_cons (q_var 4) (q_cons (q_var 6) j_nil))) (q_cons (q_len g L.f_len (q_cons (q_var 8) j_nil)) j_nil))) j_nil))))
  (ss_cons (s_if (L2.PW.pt (w_or (q_tcmp g .ne (q_var 9) (q_call L.c__law_effect g hr0 (q_cons (q_var 4) (q_cons (q_var 8) j_nil)))) (w_one (q_tcmp g .ne (q_call L.c_effect g hr0 (q_cons (q_var 5) (q_cons (q_var 8) j_nil))) (q_var 9))))) (ss_cons (s_ret j_bl)
  ss_nil) ss_nil)
  (ss_cons (q_set g 12 (q_call L.c__law_step g hr0 (q_cons (q_var 3) (q_cons (q_var 4) (q_cons (q_var 6) j_nil)))))
  (ss_cons (s_if (L2.PW.pt (w_or (q_tcmp g .ne (q_repr g L.f_repr (q_cons (q_call L.c_free_step g hr0 (q_cons (q_var 5) (q_cons (q_var 6) j_nil))) j_nil)) (q_repr g L.f_repr (q_cons (q_var 12) j_nil))) (w_one (q_tcmp g .ne (q_repr g L.f_repr (q_cons (q_callk ["base", "machine"] [1, 0] L.c_free_step g hr0 (by intro _ _ _ _ _ _ _ _ us ws l1 l2; match us, ws, l1, l2 with | [], [_, _], _, _ => rfl) (k_cons (q_var 6) (k_cons (q_var 5) k_nil))) j_nil)) (q_repr g L.f_repr (q_cons (q_var 12) j_nil)))))) (ss_cons (s_ret j_bl)
  ss_nil) ss_nil)
  (ss_cons (s_if (q_tcmp g .ne (q_bin g .mod (q_int L.f_int (q_cons (q_call L.c_order_of g hr0 (q_cons (q_var 5) (q_cons (q_var 6) j_nil))) j_nil)) (q_var 12)) j_int) (ss_cons (s_ret j_bl)
  ss_nil) ss_nil)
  (ss_cons (q_parX g (q_cons (q_call L.c__law_any g hr0 (q_cons (q_var 1) (q_cons j_int j_nil))) (q_cons (q_call L.c__law_any g hr0 (q_cons (q_var 1) (q_cons j_int j_nil))) j_nil)) (q_xnm g 13 (q_xnm g 14 gx_nil)))
  (ss_cons (q_set g 15 (q_cmp g .eq (q_lc g [("_law_one", 17)] (q_rng1 L.f_range (q_cons (q_var 3) j_nil)) (blk_of (by rfl)) (fun s H C cl fp g => ⟨(q_gnm g 17), (q_ts1 (q_tcmp g .ne (q_call L.c__law_shift g hr0 (q_cons (q_var 4) (q_cons (q_var 6) (q_cons (q_var 17) (q_cons (q_var 13) j_nil))))) (q_call L.c__law_shift g hr0 (q_cons (q_var 4) (q_cons (q_var 6) (q_cons (q_var 17) (q_cons (q_var 14) j_nil))))))), (q_var 17)⟩)) (j_lst j_nil)))
  (ss_cons (s_if (q_tcmp g .ne (q_var 15) (q_cmp g .eq (q_bin g .mod (q_int L.f_int (q_cons (q_bin g .sub (q_var 13) (q_var 14)) j_nil)) (q_var 12)) j_int)) (ss_cons (s_ret j_bl)
  ss_nil) ss_nil)
  ss_nil))))))))))))))
  (ss_cons (s_ret j_bl)
  ss_nil)))
/-! ### the head and the levels -/
def ca (K : PySem.W.Frag) (c : Nat) : Addr := He.ga K ((["Machine"] : List Str).getD c "Machine")
structure Hd (K : PySem.W.Frag) (mg : Str → Option Value) : Prop where
  cls : ∀ c, ClsOk (wd K (ca K)) c
  f_abs : mg "abs" = none
  f_all : mg "all" = none
  f_bool : mg "bool" = none
  f_enumerate : mg "enumerate" = none
  f_int : mg "int" = none
  f_isinstance : mg "isinstance" = none
  f_len : mg "len" = none
  f_list : mg "list" = none
  f_range : mg "range" = none
  f_repr : mg "repr" = none
  f_set : mg "set" = none
  f_tuple : mg "tuple" = none
  h_is_integer : ∃ fd, FunD K "is_integer" "is_integer" (defArgs st0) (defBody st0) (defScope st0) [] [] (He.ga K "is_integer") fd ∧ mg "is_integer" = some (.ref (He.ga K "is_integer"))
  h_is_number : ∃ fd, FunD K "is_number" "is_number" (defArgs st1) (defBody st1) (defScope st1) [] [] (He.ga K "is_number") fd ∧ mg "is_number" = some (.ref (He.ga K "is_number"))
  h_is_index : ∃ fd, FunD K "is_index" "is_index" (defArgs st2) (defBody st2) (defScope st2) [] [] (He.ga K "is_index") fd ∧ mg "is_index" = some (.ref (He.ga K "is_index"))
  h_is_sequence : ∃ fd, FunD K "is_sequence" "is_sequence" (defArgs st3) (defBody st3) (defScope st3) [] [] (He.ga K "is_sequence") fd ∧ mg "is_sequence" = some (.ref (He.ga K "is_sequence"))
  i_Machine : ∃ fd, FunD K "__init__" "Machine.__init__" (defArgs st4) (defBody st4) (defScope st4) [] [] (He.ma K (He.ga K "Machine") "__init__") fd ∧ Mk K (He.ga K "Machine") (He.ma K (He.ga K "Machine") "__init__") ∧ mg "Machine" = some (.ref (He.ga K "Machine"))
  h__law_after : ∃ fd, FunD K "_law_after" "_law_after" (defArgs st5) (defBody st5) (defScope st5) [] [] (He.ga K "_law_after") fd ∧ mg "_law_after" = some (.ref (He.ga K "_law_after"))
  h__law_any : ∃ fd, FunD K "_law_any" "_law_any" (defArgs st6) (defBody st6) (defScope st6) [] [] (He.ga K "_law_any") fd ∧ mg "_law_any" = some (.ref (He.ga K "_law_any"))
  h__law_column : ∃ fd, FunD K "_law_column" "_law_column" (defArgs st7) (defBody st7) (defScope st7) [] [] (He.ga K "_law_column") fd ∧ mg "_law_column" = some (.ref (He.ga K "_law_column"))
  h__law_draw : ∃ fd, FunD K "_law_draw" "_law_draw" (defArgs st8) (defBody st8) (defScope st8) [] [] (He.ga K "_law_draw") fd ∧ mg "_law_draw" = some (.ref (He.ga K "_law_draw"))
  h__law_end : ∃ fd, FunD K "_law_end" "_law_end" (defArgs st9) (defBody st9) (defScope st9) [] [] (He.ga K "_law_end") fd ∧ mg "_law_end" = some (.ref (He.ga K "_law_end"))
  h__law_effect : ∃ fd, FunD K "_law_effect" "_law_effect" (defArgs st10) (defBody st10) (defScope st10) [] [] (He.ga K "_law_effect") fd ∧ mg "_law_effect" = some (.ref (He.ga K "_law_effect"))
  h__law_of : ∃ fd, FunD K "_law_of" "_law_of" (defArgs st11) (defBody st11) (defScope st11) [] [] (He.ga K "_law_of") fd ∧ mg "_law_of" = some (.ref (He.ga K "_law_of"))
  h__law_mixed : ∃ fd, FunD K "_law_mixed" "_law_mixed" (defArgs st12) (defBody st12) (defScope st12) [] [] (He.ga K "_law_mixed") fd ∧ mg "_law_mixed" = some (.ref (He.ga K "_law_mixed"))
  h__law_named : ∃ fd, FunD K "_law_named" "_law_named" (defArgs st13) (defBody st13) (defScope st13) [] [] (He.ga K "_law_named") fd ∧ mg "_law_named" = some (.ref (He.ga K "_law_named"))
  h__law_wheel : ∃ fd, FunD K "_law_wheel" "_law_wheel" (defArgs st14) (defBody st14) (defScope st14) [] [] (He.ga K "_law_wheel") fd ∧ mg "_law_wheel" = some (.ref (He.ga K "_law_wheel"))
  h__law_reversible : ∃ fd, FunD K "_law_reversible" "_law_reversible" (defArgs st15) (defBody st15) (defScope st15) [] [] (He.ga K "_law_reversible") fd ∧ mg "_law_reversible" = some (.ref (He.ga K "_law_reversible"))
  h__law_row : ∃ fd, FunD K "_law_row" "_law_row" (defArgs st16) (defBody st16) (defScope st16) [] [] (He.ga K "_law_row") fd ∧ mg "_law_row" = some (.ref (He.ga K "_law_row"))
  h__law_order : ∃ fd, FunD K "_law_order" "_law_order" (defArgs st17) (defBody st17) (defScope st17) [] [] (He.ga K "_law_order") fd ∧ mg "_law_order" = some (.ref (He.ga K "_law_order"))
  h__law_times : ∃ fd, FunD K "_law_times" "_law_times" (defArgs st18) (defBody st18) (defScope st18) [] [] (He.ga K "_law_times") fd ∧ mg "_law_times" = some (.ref (He.ga K "_law_times"))
  h__law_shift : ∃ fd, FunD K "_law_shift" "_law_shift" (defArgs st19) (defBody st19) (defScope st19) [] [] (He.ga K "_law_shift") fd ∧ mg "_law_shift" = some (.ref (He.ga K "_law_shift"))
  h__law_step : ∃ fd, FunD K "_law_step" "_law_step" (defArgs st20) (defBody st20) (defScope st20) [] [] (He.ga K "_law_step") fd ∧ mg "_law_step" = some (.ref (He.ga K "_law_step"))
  h_checked_row : ∃ fd, FunD K "checked_row" "checked_row" (defArgs st21) (defBody st21) (defScope st21) [] [] (He.ga K "checked_row") fd ∧ mg "checked_row" = some (.ref (He.ga K "checked_row"))
  h_led : ∃ fd, FunD K "led" "led" (defArgs st22) (defBody st22) (defScope st22) [] [] (He.ga K "led") fd ∧ mg "led" = some (.ref (He.ga K "led"))
  h_effect : ∃ fd, FunD K "effect" "effect" (defArgs st23) (defBody st23) (defScope st23) [] [] (He.ga K "effect") fd ∧ mg "effect" = some (.ref (He.ga K "effect"))
  h_followed : ∃ fd, FunD K "followed" "followed" (defArgs st24) (defBody st24) (defScope st24) [] [] (He.ga K "followed") fd ∧ mg "followed" = some (.ref (He.ga K "followed"))
  h_exchange_freely : ∃ fd, FunD K "exchange_freely" "exchange_freely" (defArgs st25) (defBody st25) (defScope st25) [] [] (He.ga K "exchange_freely") fd ∧ mg "exchange_freely" = some (.ref (He.ga K "exchange_freely"))
  h_single_effects : ∃ fd, FunD K "single_effects" "single_effects" (defArgs st26) (defBody st26) (defScope st26) [] [] (He.ga K "single_effects") fd ∧ mg "single_effects" = some (.ref (He.ga K "single_effects"))
  h_first_merging : ∃ fd, FunD K "first_merging" "first_merging" (defArgs st27) (defBody st27) (defScope st27) [] [] (He.ga K "first_merging") fd ∧ mg "first_merging" = some (.ref (He.ga K "first_merging"))
  h_need_reversible : ∃ fd, FunD K "need_reversible" "need_reversible" (defArgs st28) (defBody st28) (defScope st28) [] [] (He.ga K "need_reversible") fd ∧ mg "need_reversible" = some (.ref (He.ga K "need_reversible"))
  h_free_step : ∃ fd, FunD K "free_step" "free_step" (defArgs st29) (defBody st29) (defScope st29) [] [] (He.ga K "free_step") fd ∧ mg "free_step" = some (.ref (He.ga K "free_step"))
  h_order_of_effect : ∃ fd, FunD K "order_of_effect" "order_of_effect" (defArgs st30) (defBody st30) (defScope st30) [] [] (He.ga K "order_of_effect") fd ∧ mg "order_of_effect" = some (.ref (He.ga K "order_of_effect"))
  h_order_of : ∃ fd, FunD K "order_of" "order_of" (defArgs st31) (defBody st31) (defScope st31) [] [] (He.ga K "order_of") fd ∧ mg "order_of" = some (.ref (He.ga K "order_of"))
  h_effect_times : ∃ fd, FunD K "effect_times" "effect_times" (defArgs st32) (defBody st32) (defScope st32) [] [] (He.ga K "effect_times") fd ∧ mg "effect_times" = some (.ref (He.ga K "effect_times"))
  h_shift : ∃ fd, FunD K "shift" "shift" (defArgs st33) (defBody st33) (defScope st33) [] [] (He.ga K "shift") fd ∧ mg "shift" = some (.ref (He.ga K "shift"))
  h_law : ∃ fd, FunD K "law" "law" (defArgs st34) (defBody st34) (defScope st34) [] [] (He.ga K "law") fd ∧ mg "law" = some (.ref (He.ga K "law"))
theorem tbOk (K : PySem.W.Frag) (c : Nat) : ((wd K (ca K)).T.fl c).length < 900 ∧ ((wd K (ca K)).names c).Nodup := by
  match c with
  | 0 => exact ⟨by show ([0, 1, 2] : List Nat).length < 900; decide, by show (([0, 1, 2] : List Nat).map fun k => flds.getD k "").Nodup; decide +kernel⟩
  | _ + 1 => exact ⟨by show ([] : List Nat).length < 900; decide, by show ([] : List Str).Nodup; decide⟩
theorem sc0 : FnScope N0 ["value"] (defScope st0) := ⟨rfl, rfl, rfl, by decide +kernel, rfl, by decide +kernel, by decide +kernel⟩
theorem sc1 : FnScope N1 ["value"] (defScope st1) := ⟨rfl, rfl, rfl, by decide +kernel, rfl, by decide +kernel, by decide +kernel⟩
theorem sc2 : FnScope N2 ["value", "many"] (defScope st2) := ⟨rfl, rfl, rfl, by decide +kernel, rfl, by decide +kernel, by decide +kernel⟩
theorem sc3 : FnScope N3 ["value"] (defScope st3) := ⟨rfl, rfl, rfl, by decide +kernel, rfl, by decide +kernel, by decide +kernel⟩
theorem sc4 : FnScope N4 ["self", "commands", "steps"] (defScope st4) := ⟨rfl, rfl, rfl, by decide +kernel, rfl, by decide +kernel, by decide +kernel⟩
theorem sc5 : FnScope N5 ["_law_one", "_law_other"] (defScope st5) := ⟨rfl, rfl, rfl, by decide +kernel, rfl, by decide +kernel, by decide +kernel⟩
theorem sc6 : FnScope N6 ["_law_deal", "_law_bound"] (defScope st6) := ⟨rfl, rfl, rfl, by decide +kernel, rfl, by decide +kernel, by decide +kernel⟩
theorem sc7 : FnScope N7 ["_law_steps", "_law_command"] (defScope st7) := ⟨rfl, rfl, rfl, by decide +kernel, rfl, by decide +kernel, by decide +kernel⟩
theorem sc8 : FnScope N8 ["_law_script", "_law_salt"] (defScope st8) := ⟨rfl, rfl, rfl, by decide +kernel, rfl, by decide +kernel, by decide +kernel⟩
theorem sc9 : FnScope N9 ["_law_steps", "_law_state", "_law_row_here"] (defScope st9) := ⟨rfl, rfl, rfl, by decide +kernel, rfl, by decide +kernel, by decide +kernel⟩
theorem sc10 : FnScope N10 ["_law_steps", "_law_row_here"] (defScope st10) := ⟨rfl, rfl, rfl, by decide +kernel, rfl, by decide +kernel, by decide +kernel⟩
theorem sc11 : FnScope N11 ["_law_deal", "_law_some"] (defScope st11) := ⟨rfl, rfl, rfl, by decide +kernel, rfl, by decide +kernel, by decide +kernel⟩
theorem sc12 : FnScope N12 ["_law_deal", "_law_some"] (defScope st12) := ⟨rfl, rfl, rfl, by decide +kernel, rfl, by decide +kernel, by decide +kernel⟩
theorem sc13 : FnScope N13 ["_law_deal", "_law_steps"] (defScope st13) := ⟨rfl, rfl, rfl, by decide +kernel, rfl, by decide +kernel, by decide +kernel⟩
theorem sc14 : FnScope N14 ["_law_sums", "_law_step_here", "_law_modulus", "_law_base"] (defScope st14) := ⟨rfl, rfl, rfl, by decide +kernel, rfl, by decide +kernel, by decide +kernel⟩
theorem sc15 : FnScope N15 ["_law_deal"] (defScope st15) := ⟨rfl, rfl, rfl, by decide +kernel, rfl, by decide +kernel, by decide +kernel⟩
theorem sc16 : FnScope N16 ["_law_deal", "_law_commands", "_law_length"] (defScope st16) := ⟨rfl, rfl, rfl, by decide +kernel, rfl, by decide +kernel, by decide +kernel⟩
theorem sc17 : FnScope N17 ["_law_one"] (defScope st17) := ⟨rfl, rfl, rfl, by decide +kernel, rfl, by decide +kernel, by decide +kernel⟩
theorem sc18 : FnScope N18 ["_law_one", "_law_n"] (defScope st18) := ⟨rfl, rfl, rfl, by decide +kernel, rfl, by decide +kernel, by decide +kernel⟩
theorem sc19 : FnScope N19 ["_law_steps", "_law_base", "_law_command", "_law_i"] (defScope st19) := ⟨rfl, rfl, rfl, by decide +kernel, rfl, by decide +kernel, by decide +kernel⟩
theorem sc20 : FnScope N20 ["_law_commands", "_law_steps", "_law_base"] (defScope st20) := ⟨rfl, rfl, rfl, by decide +kernel, rfl, by decide +kernel, by decide +kernel⟩
theorem sc21 : FnScope N21 ["commands", "value"] (defScope st21) := ⟨rfl, rfl, rfl, by decide +kernel, rfl, by decide +kernel, by decide +kernel⟩
theorem sc22 : FnScope N22 ["machine", "state", "row"] (defScope st22) := ⟨rfl, rfl, rfl, by decide +kernel, rfl, by decide +kernel, by decide +kernel⟩
theorem sc23 : FnScope N23 ["machine", "row"] (defScope st23) := ⟨rfl, rfl, rfl, by decide +kernel, rfl, by decide +kernel, by decide +kernel⟩
theorem sc24 : FnScope N24 ["one", "other"] (defScope st24) := ⟨rfl, rfl, rfl, by decide +kernel, rfl, by decide +kernel, by decide +kernel⟩
theorem sc25 : FnScope N25 ["one", "other"] (defScope st25) := ⟨rfl, rfl, rfl, by decide +kernel, rfl, by decide +kernel, by decide +kernel⟩
theorem sc26 : FnScope N26 ["machine"] (defScope st26) := ⟨rfl, rfl, rfl, by decide +kernel, rfl, by decide +kernel, by decide +kernel⟩
theorem sc27 : FnScope N27 ["machine"] (defScope st27) := ⟨rfl, rfl, rfl, by decide +kernel, rfl, by decide +kernel, by decide +kernel⟩
theorem sc28 : FnScope N28 ["machine"] (defScope st28) := ⟨rfl, rfl, rfl, by decide +kernel, rfl, by decide +kernel, by decide +kernel⟩
theorem sc29 : FnScope N29 ["machine", "base"] (defScope st29) := ⟨rfl, rfl, rfl, by decide +kernel, rfl, by decide +kernel, by decide +kernel⟩
theorem sc30 : FnScope N30 ["one"] (defScope st30) := ⟨rfl, rfl, rfl, by decide +kernel, rfl, by decide +kernel, by decide +kernel⟩
theorem sc31 : FnScope N31 ["machine", "command"] (defScope st31) := ⟨rfl, rfl, rfl, by decide +kernel, rfl, by decide +kernel, by decide +kernel⟩
theorem sc32 : FnScope N32 ["one", "n"] (defScope st32) := ⟨rfl, rfl, rfl, by decide +kernel, rfl, by decide +kernel, by decide +kernel⟩
theorem sc33 : FnScope N33 ["machine", "base", "command", "i"] (defScope st33) := ⟨rfl, rfl, rfl, by decide +kernel, rfl, by decide +kernel, by decide +kernel⟩
theorem sc34 : FnScope N34 ["_law_script"] (defScope st34) := ⟨rfl, rfl, rfl, by decide +kernel, rfl, by decide +kernel, by decide +kernel⟩
theorem lv {P : Program} {W : World} {K : PySem.W.Frag} {mg : Str → Option Value} {base : Heap} (h : Hd K mg) : ∀ n, Lv P W K mg base (ca K) n
  | 0 => by
    refine ⟨h.cls, tbOk K, h.f_abs, h.f_all, h.f_bool, h.f_enumerate, h.f_int, h.f_isinstance, h.f_len, h.f_list, h.f_range, h.f_repr, h.f_set, h.f_tuple, ?_, ?_, ?_, ?_, ?_, ?_, ?_, ?_, ?_, ?_, ?_, ?_, ?_, ?_, ?_, ?_, ?_, ?_, ?_, ?_, ?_, ?_, ?_, ?_, ?_, ?_, ?_, ?_, ?_, ?_, ?_, ?_, ?_, ?_⟩
    · obtain ⟨fd, F, m⟩ := h.h_is_integer
      exact tf0 F m (FunD.bindsN F fun _ _ _ _ _ _ us hl => match us, hl with | [_], _ => rfl) fun _ _ => rfl
    · obtain ⟨fd, F, m⟩ := h.h_is_number
      exact tf0 F m (FunD.bindsN F fun _ _ _ _ _ _ us hl => match us, hl with | [_], _ => rfl) fun _ _ => rfl
    · obtain ⟨fd, F, m⟩ := h.h_is_index
      exact tf0 F m (FunD.bindsN F fun _ _ _ _ _ _ us hl => match us, hl with | [_, _], _ => rfl) fun _ _ => rfl
    · obtain ⟨fd, F, m⟩ := h.h_is_sequence
      exact tf0 F m (FunD.bindsN F fun _ _ _ _ _ _ us hl => match us, hl with | [_], _ => rfl) fun _ _ => rfl
    · obtain ⟨fd, F, M, m⟩ := h.i_Machine
      exact mf0 M m (FunD.bindsN F fun _ _ _ _ _ _ us hl => match us, hl with | [_, _, _], _ => rfl) fun _ _ => rfl
    · obtain ⟨fd, F, m⟩ := h.h__law_after
      exact tf0 F m (FunD.bindsN F fun _ _ _ _ _ _ us hl => match us, hl with | [_, _], _ => rfl) fun _ _ => rfl
    · obtain ⟨fd, F, m⟩ := h.h__law_any
      exact tf0 F m (FunD.bindsN F fun _ _ _ _ _ _ us hl => match us, hl with | [_, _], _ => rfl) fun _ _ => rfl
    · obtain ⟨fd, F, m⟩ := h.h__law_column
      exact tf0 F m (FunD.bindsN F fun _ _ _ _ _ _ us hl => match us, hl with | [_, _], _ => rfl) fun _ _ => rfl
    · obtain ⟨fd, F, m⟩ := h.h__law_draw
      exact tf0 F m (FunD.bindsN F fun _ _ _ _ _ _ us hl => match us, hl with | [_, _], _ => rfl) fun _ _ => rfl
    · obtain ⟨fd, F, m⟩ := h.h__law_end
      exact tf0 F m (FunD.bindsN F fun _ _ _ _ _ _ us hl => match us, hl with | [_, _, _], _ => rfl) fun _ _ => rfl
    · obtain ⟨fd, F, m⟩ := h.h__law_effect
      exact tf0 F m (FunD.bindsN F fun _ _ _ _ _ _ us hl => match us, hl with | [_, _], _ => rfl) fun _ _ => rfl
    · obtain ⟨fd, F, m⟩ := h.h__law_of
      exact tf0 F m (FunD.bindsN F fun _ _ _ _ _ _ us hl => match us, hl with | [_, _], _ => rfl) fun _ _ => rfl
    · obtain ⟨fd, F, m⟩ := h.h__law_mixed
      exact tf0 F m (FunD.bindsN F fun _ _ _ _ _ _ us hl => match us, hl with | [_, _], _ => rfl) fun _ _ => rfl
    · obtain ⟨fd, F, m⟩ := h.h__law_named
      exact tf0 F m (FunD.bindsN F fun _ _ _ _ _ _ us hl => match us, hl with | [_, _], _ => rfl) fun _ _ => rfl
    · obtain ⟨fd, F, m⟩ := h.h__law_wheel
      exact tf0 F m (FunD.bindsN F fun _ _ _ _ _ _ us hl => match us, hl with | [_, _, _, _], _ => rfl) fun _ _ => rfl
    · obtain ⟨fd, F, m⟩ := h.h__law_reversible
      exact tf0 F m (FunD.bindsN F fun _ _ _ _ _ _ us hl => match us, hl with | [_], _ => rfl) fun _ _ => rfl
    · obtain ⟨fd, F, m⟩ := h.h__law_row
      exact tf0 F m (FunD.bindsN F fun _ _ _ _ _ _ us hl => match us, hl with | [_, _, _], _ => rfl) fun _ _ => rfl
    · obtain ⟨fd, F, m⟩ := h.h__law_order
      exact tf0 F m (FunD.bindsN F fun _ _ _ _ _ _ us hl => match us, hl with | [_], _ => rfl) fun _ _ => rfl
    · obtain ⟨fd, F, m⟩ := h.h__law_times
      exact tf0 F m (FunD.bindsN F fun _ _ _ _ _ _ us hl => match us, hl with | [_, _], _ => rfl) fun _ _ => rfl
    · obtain ⟨fd, F, m⟩ := h.h__law_shift
      exact tf0 F m (FunD.bindsN F fun _ _ _ _ _ _ us hl => match us, hl with | [_, _, _, _], _ => rfl) fun _ _ => rfl
    · obtain ⟨fd, F, m⟩ := h.h__law_step
      exact tf0 F m (FunD.bindsN F fun _ _ _ _ _ _ us hl => match us, hl with | [_, _, _], _ => rfl) fun _ _ => rfl
    · obtain ⟨fd, F, m⟩ := h.h_checked_row
      exact tf0 F m (FunD.bindsN F fun _ _ _ _ _ _ us hl => match us, hl with | [_, _], _ => rfl) fun _ _ => rfl
    · obtain ⟨fd, F, m⟩ := h.h_led
      exact tf0 F m (FunD.bindsN F fun _ _ _ _ _ _ us hl => match us, hl with | [_, _, _], _ => rfl) fun _ _ => rfl
    · obtain ⟨fd, F, m⟩ := h.h_effect
      exact tf0 F m (FunD.bindsN F fun _ _ _ _ _ _ us hl => match us, hl with | [_, _], _ => rfl) fun _ _ => rfl
    · obtain ⟨fd, F, m⟩ := h.h_followed
      exact tf0 F m (FunD.bindsN F fun _ _ _ _ _ _ us hl => match us, hl with | [_, _], _ => rfl) fun _ _ => rfl
    · obtain ⟨fd, F, m⟩ := h.h_exchange_freely
      exact tf0 F m (FunD.bindsN F fun _ _ _ _ _ _ us hl => match us, hl with | [_, _], _ => rfl) fun _ _ => rfl
    · obtain ⟨fd, F, m⟩ := h.h_single_effects
      exact tf0 F m (FunD.bindsN F fun _ _ _ _ _ _ us hl => match us, hl with | [_], _ => rfl) fun _ _ => rfl
    · obtain ⟨fd, F, m⟩ := h.h_first_merging
      exact tf0 F m (FunD.bindsN F fun _ _ _ _ _ _ us hl => match us, hl with | [_], _ => rfl) fun _ _ => rfl
    · obtain ⟨fd, F, m⟩ := h.h_need_reversible
      exact tf0 F m (FunD.bindsN F fun _ _ _ _ _ _ us hl => match us, hl with | [_], _ => rfl) fun _ _ => rfl
    · obtain ⟨fd, F, m⟩ := h.h_free_step
      exact tf0 F m (FunD.bindsN F fun _ _ _ _ _ _ us hl => match us, hl with | [_, _], _ => rfl) fun _ _ => rfl
    · obtain ⟨fd, F, m⟩ := h.h_order_of_effect
      exact tf0 F m (FunD.bindsN F fun _ _ _ _ _ _ us hl => match us, hl with | [_], _ => rfl) fun _ _ => rfl
    · obtain ⟨fd, F, m⟩ := h.h_order_of
      exact tf0 F m (FunD.bindsN F fun _ _ _ _ _ _ us hl => match us, hl with | [_, _], _ => rfl) fun _ _ => rfl
    · obtain ⟨fd, F, m⟩ := h.h_effect_times
      exact tf0 F m (FunD.bindsN F fun _ _ _ _ _ _ us hl => match us, hl with | [_, _], _ => rfl) fun _ _ => rfl
    · obtain ⟨fd, F, m⟩ := h.h_shift
      exact tf0 F m (FunD.bindsN F fun _ _ _ _ _ _ us hl => match us, hl with | [_, _, _, _], _ => rfl) fun _ _ => rfl
  | n + 1 => by
    have L := lv (P := P) (W := W) (base := base) h n
    refine ⟨h.cls, tbOk K, h.f_abs, h.f_all, h.f_bool, h.f_enumerate, h.f_int, h.f_isinstance, h.f_len, h.f_list, h.f_range, h.f_repr, h.f_set, h.f_tuple, ?_, ?_, ?_, ?_, ?_, ?_, ?_, ?_, ?_, ?_, ?_, ?_, ?_, ?_, ?_, ?_, ?_, ?_, ?_, ?_, ?_, ?_, ?_, ?_, ?_, ?_, ?_, ?_, ?_, ?_, ?_, ?_, ?_, ?_⟩
    · obtain ⟨fd, F, m⟩ := h.h_is_integer
      exact tfS F m (FunD.bindsN F fun _ _ _ _ _ _ us hl => match us, hl with | [_], _ => rfl) (fn_body F sc0 rfl rfl (fun cdv A outer s H E hr hgd => (body0 L hr hgd).nox))
    · obtain ⟨fd, F, m⟩ := h.h_is_number
      exact tfS F m (FunD.bindsN F fun _ _ _ _ _ _ us hl => match us, hl with | [_], _ => rfl) (fn_body F sc1 rfl rfl (fun cdv A outer s H E hr hgd => (body1 L hr hgd).nox))
    · obtain ⟨fd, F, m⟩ := h.h_is_index
      exact tfS F m (FunD.bindsN F fun _ _ _ _ _ _ us hl => match us, hl with | [_, _], _ => rfl) (fn_body F sc2 rfl rfl (fun cdv A outer s H E hr hgd => (body2 L hr hgd).nox))
    · obtain ⟨fd, F, m⟩ := h.h_is_sequence
      exact tfS F m (FunD.bindsN F fun _ _ _ _ _ _ us hl => match us, hl with | [_], _ => rfl) (fn_body F sc3 rfl rfl (fun cdv A outer s H E hr hgd => (body3 L hr hgd).nox))
    · obtain ⟨fd, F, M, m⟩ := h.i_Machine
      exact mfS M m (FunD.bindsN F fun _ _ _ _ _ _ us hl => match us, hl with | [_, _, _], _ => rfl) (fn_init F sc4 rfl rfl (fun cdv A outer s H E hr hgd => (body4 L hr hgd).nox))
    · obtain ⟨fd, F, m⟩ := h.h__law_after
      exact tfS F m (FunD.bindsN F fun _ _ _ _ _ _ us hl => match us, hl with | [_, _], _ => rfl) (fn_body F sc5 rfl rfl (fun cdv A outer s H E hr hgd => (body5 L hr hgd).nox))
    · obtain ⟨fd, F, m⟩ := h.h__law_any
      exact tfS F m (FunD.bindsN F fun _ _ _ _ _ _ us hl => match us, hl with | [_, _], _ => rfl) (fn_any F sc6 rfl rfl (fun cdv A outer s H E hr hgd => (body6 L hr hgd).nox))
    · obtain ⟨fd, F, m⟩ := h.h__law_column
      exact tfS F m (FunD.bindsN F fun _ _ _ _ _ _ us hl => match us, hl with | [_, _], _ => rfl) (fn_body F sc7 rfl rfl (fun cdv A outer s H E hr hgd => (body7 L hr hgd).nox))
    · obtain ⟨fd, F, m⟩ := h.h__law_draw
      exact tfS F m (FunD.bindsN F fun _ _ _ _ _ _ us hl => match us, hl with | [_, _], _ => rfl) (fn_draw F sc8 rfl rfl (fun cdv A outer s H E hr hgd => (body8 L hr hgd).nox))
    · obtain ⟨fd, F, m⟩ := h.h__law_end
      exact tfS F m (FunD.bindsN F fun _ _ _ _ _ _ us hl => match us, hl with | [_, _, _], _ => rfl) (fn_body F sc9 rfl rfl (fun cdv A outer s H E hr hgd => (body9 L hr hgd).nox))
    · obtain ⟨fd, F, m⟩ := h.h__law_effect
      exact tfS F m (FunD.bindsN F fun _ _ _ _ _ _ us hl => match us, hl with | [_, _], _ => rfl) (fn_body F sc10 rfl rfl (fun cdv A outer s H E hr hgd => (body10 L hr hgd).nox))
    · obtain ⟨fd, F, m⟩ := h.h__law_of
      exact tfS F m (FunD.bindsN F fun _ _ _ _ _ _ us hl => match us, hl with | [_, _], _ => rfl) (fn_body F sc11 rfl rfl (fun cdv A outer s H E hr hgd => (body11 L hr hgd).nox))
    · obtain ⟨fd, F, m⟩ := h.h__law_mixed
      exact tfS F m (FunD.bindsN F fun _ _ _ _ _ _ us hl => match us, hl with | [_, _], _ => rfl) (fn_body F sc12 rfl rfl (fun cdv A outer s H E hr hgd => (body12 L hr hgd).nox))
    · obtain ⟨fd, F, m⟩ := h.h__law_named
      exact tfS F m (FunD.bindsN F fun _ _ _ _ _ _ us hl => match us, hl with | [_, _], _ => rfl) (fn_body F sc13 rfl rfl (fun cdv A outer s H E hr hgd => (body13 L hr hgd).nox))
    · obtain ⟨fd, F, m⟩ := h.h__law_wheel
      exact tfS F m (FunD.bindsN F fun _ _ _ _ _ _ us hl => match us, hl with | [_, _, _, _], _ => rfl) (fn_body F sc14 rfl rfl (fun cdv A outer s H E hr hgd => (body14 L hr hgd).nox))
    · obtain ⟨fd, F, m⟩ := h.h__law_reversible
      exact tfS F m (FunD.bindsN F fun _ _ _ _ _ _ us hl => match us, hl with | [_], _ => rfl) (fn_body F sc15 rfl rfl (fun cdv A outer s H E hr hgd => (body15 L hr hgd).nox))
    · obtain ⟨fd, F, m⟩ := h.h__law_row
      exact tfS F m (FunD.bindsN F fun _ _ _ _ _ _ us hl => match us, hl with | [_, _, _], _ => rfl) (fn_body F sc16 rfl rfl (fun cdv A outer s H E hr hgd => (body16 L hr hgd).nox))
    · obtain ⟨fd, F, m⟩ := h.h__law_order
      exact tfS F m (FunD.bindsN F fun _ _ _ _ _ _ us hl => match us, hl with | [_], _ => rfl) (fn_body F sc17 rfl rfl (fun cdv A outer s H E hr hgd => (body17 L hr hgd).nox))
    · obtain ⟨fd, F, m⟩ := h.h__law_times
      exact tfS F m (FunD.bindsN F fun _ _ _ _ _ _ us hl => match us, hl with | [_, _], _ => rfl) (fn_body F sc18 rfl rfl (fun cdv A outer s H E hr hgd => (body18 L hr hgd).nox))
    · obtain ⟨fd, F, m⟩ := h.h__law_shift
      exact tfS F m (FunD.bindsN F fun _ _ _ _ _ _ us hl => match us, hl with | [_, _, _, _], _ => rfl) (fn_body F sc19 rfl rfl (fun cdv A outer s H E hr hgd => (body19 L hr hgd).nox))
    · obtain ⟨fd, F, m⟩ := h.h__law_step
      exact tfS F m (FunD.bindsN F fun _ _ _ _ _ _ us hl => match us, hl with | [_, _, _], _ => rfl) (fn_body F sc20 rfl rfl (fun cdv A outer s H E hr hgd => (body20 L hr hgd).nox))
    · obtain ⟨fd, F, m⟩ := h.h_checked_row
      exact tfS F m (FunD.bindsN F fun _ _ _ _ _ _ us hl => match us, hl with | [_, _], _ => rfl) (fn_body F sc21 rfl rfl (fun cdv A outer s H E hr hgd => (body21 L hr hgd).nox))
    · obtain ⟨fd, F, m⟩ := h.h_led
      exact tfS F m (FunD.bindsN F fun _ _ _ _ _ _ us hl => match us, hl with | [_, _, _], _ => rfl) (fn_body F sc22 rfl rfl (fun cdv A outer s H E hr hgd => (body22 L hr hgd).nox))
    · obtain ⟨fd, F, m⟩ := h.h_effect
      exact tfS F m (FunD.bindsN F fun _ _ _ _ _ _ us hl => match us, hl with | [_, _], _ => rfl) (fn_body F sc23 rfl rfl (fun cdv A outer s H E hr hgd => (body23 L hr hgd).nox))
    · obtain ⟨fd, F, m⟩ := h.h_followed
      exact tfS F m (FunD.bindsN F fun _ _ _ _ _ _ us hl => match us, hl with | [_, _], _ => rfl) (fn_body F sc24 rfl rfl (fun cdv A outer s H E hr hgd => (body24 L hr hgd).nox))
    · obtain ⟨fd, F, m⟩ := h.h_exchange_freely
      exact tfS F m (FunD.bindsN F fun _ _ _ _ _ _ us hl => match us, hl with | [_, _], _ => rfl) (fn_body F sc25 rfl rfl (fun cdv A outer s H E hr hgd => (body25 L hr hgd).nox))
    · obtain ⟨fd, F, m⟩ := h.h_single_effects
      exact tfS F m (FunD.bindsN F fun _ _ _ _ _ _ us hl => match us, hl with | [_], _ => rfl) (fn_body F sc26 rfl rfl (fun cdv A outer s H E hr hgd => (body26 L hr hgd).nox))
    · obtain ⟨fd, F, m⟩ := h.h_first_merging
      exact tfS F m (FunD.bindsN F fun _ _ _ _ _ _ us hl => match us, hl with | [_], _ => rfl) (fn_body F sc27 rfl rfl (fun cdv A outer s H E hr hgd => (body27 L hr hgd).nox))
    · obtain ⟨fd, F, m⟩ := h.h_need_reversible
      exact tfS F m (FunD.bindsN F fun _ _ _ _ _ _ us hl => match us, hl with | [_], _ => rfl) (fn_body F sc28 rfl rfl (fun cdv A outer s H E hr hgd => (body28 L hr hgd).nox))
    · obtain ⟨fd, F, m⟩ := h.h_free_step
      exact tfS F m (FunD.bindsN F fun _ _ _ _ _ _ us hl => match us, hl with | [_, _], _ => rfl) (fn_body F sc29 rfl rfl (fun cdv A outer s H E hr hgd => (body29 L hr hgd).nox))
    · obtain ⟨fd, F, m⟩ := h.h_order_of_effect
      exact tfS F m (FunD.bindsN F fun _ _ _ _ _ _ us hl => match us, hl with | [_], _ => rfl) (fn_body F sc30 rfl rfl (fun cdv A outer s H E hr hgd => (body30 L hr hgd).nox))
    · obtain ⟨fd, F, m⟩ := h.h_order_of
      exact tfS F m (FunD.bindsN F fun _ _ _ _ _ _ us hl => match us, hl with | [_, _], _ => rfl) (fn_body F sc31 rfl rfl (fun cdv A outer s H E hr hgd => (body31 L hr hgd).nox))
    · obtain ⟨fd, F, m⟩ := h.h_effect_times
      exact tfS F m (FunD.bindsN F fun _ _ _ _ _ _ us hl => match us, hl with | [_, _], _ => rfl) (fn_body F sc32 rfl rfl (fun cdv A outer s H E hr hgd => (body32 L hr hgd).nox))
    · obtain ⟨fd, F, m⟩ := h.h_shift
      exact tfS F m (FunD.bindsN F fun _ _ _ _ _ _ us hl => match us, hl with | [_, _, _, _], _ => rfl) (fn_body F sc33 rfl rfl (fun cdv A outer s H E hr hgd => (body33 L hr hgd).nox))
theorem law_ok {P : Program} {W : World} {K : PySem.W.Frag} {mg : Str → Option Value} {base : Heap} {fd : FuncData} (h : Hd K mg) (F : FunD K "law" "law" (defArgs st34) (defBody st34) (defScope st34) [] [] (He.ga K "law") fd) (n : Nat) : FnG P W K mg base CX0 (2 * n + 2) (He.ga K "law") fd ["_law_script"] (spF (wd K (ca K)) noEF (callD tab fns (n + 1) 34)) :=
  have L := lv (P := P) (W := W) (base := base) h n
  (fn_body F sc34 rfl rfl (fun cdv A outer s H E hr hgd => (body34 L hr hgd).nox))
def dd0 : He.DefD := ⟨("is_integer", none), "is_integer", "is_integer", defArgs st0, defBody st0, defScope st0, [], []⟩
def dd1 : He.DefD := ⟨("is_number", none), "is_number", "is_number", defArgs st1, defBody st1, defScope st1, [], []⟩
def dd2 : He.DefD := ⟨("is_index", none), "is_index", "is_index", defArgs st2, defBody st2, defScope st2, [], []⟩
def dd3 : He.DefD := ⟨("is_sequence", none), "is_sequence", "is_sequence", defArgs st3, defBody st3, defScope st3, [], []⟩
def dd4 : He.DefD := ⟨("Machine", some "__init__"), "__init__", "Machine.__init__", defArgs st4, defBody st4, defScope st4, [], []⟩
def dd5 : He.DefD := ⟨("_law_after", none), "_law_after", "_law_after", defArgs st5, defBody st5, defScope st5, [], []⟩
def dd6 : He.DefD := ⟨("_law_any", none), "_law_any", "_law_any", defArgs st6, defBody st6, defScope st6, [], []⟩
def dd7 : He.DefD := ⟨("_law_column", none), "_law_column", "_law_column", defArgs st7, defBody st7, defScope st7, [], []⟩
def dd8 : He.DefD := ⟨("_law_draw", none), "_law_draw", "_law_draw", defArgs st8, defBody st8, defScope st8, [], []⟩
def dd9 : He.DefD := ⟨("_law_end", none), "_law_end", "_law_end", defArgs st9, defBody st9, defScope st9, [], []⟩
def dd10 : He.DefD := ⟨("_law_effect", none), "_law_effect", "_law_effect", defArgs st10, defBody st10, defScope st10, [], []⟩
def dd11 : He.DefD := ⟨("_law_of", none), "_law_of", "_law_of", defArgs st11, defBody st11, defScope st11, [], []⟩
def dd12 : He.DefD := ⟨("_law_mixed", none), "_law_mixed", "_law_mixed", defArgs st12, defBody st12, defScope st12, [], []⟩
def dd13 : He.DefD := ⟨("_law_named", none), "_law_named", "_law_named", defArgs st13, defBody st13, defScope st13, [], []⟩
def dd14 : He.DefD := ⟨("_law_wheel", none), "_law_wheel", "_law_wheel", defArgs st14, defBody st14, defScope st14, [], []⟩
def dd15 : He.DefD := ⟨("_law_reversible", none), "_law_reversible", "_law_reversible", defArgs st15, defBody st15, defScope st15, [], []⟩
def dd16 : He.DefD := ⟨("_law_row", none), "_law_row", "_law_row", defArgs st16, defBody st16, defScope st16, [], []⟩
def dd17 : He.DefD := ⟨("_law_order", none), "_law_order", "_law_order", defArgs st17, defBody st17, defScope st17, [], []⟩
def dd18 : He.DefD := ⟨("_law_times", none), "_law_times", "_law_times", defArgs st18, defBody st18, defScope st18, [], []⟩
def dd19 : He.DefD := ⟨("_law_shift", none), "_law_shift", "_law_shift", defArgs st19, defBody st19, defScope st19, [], []⟩
def dd20 : He.DefD := ⟨("_law_step", none), "_law_step", "_law_step", defArgs st20, defBody st20, defScope st20, [], []⟩
def dd21 : He.DefD := ⟨("checked_row", none), "checked_row", "checked_row", defArgs st21, defBody st21, defScope st21, [], []⟩
def dd22 : He.DefD := ⟨("led", none), "led", "led", defArgs st22, defBody st22, defScope st22, [], []⟩
def dd23 : He.DefD := ⟨("effect", none), "effect", "effect", defArgs st23, defBody st23, defScope st23, [], []⟩
def dd24 : He.DefD := ⟨("followed", none), "followed", "followed", defArgs st24, defBody st24, defScope st24, [], []⟩
def dd25 : He.DefD := ⟨("exchange_freely", none), "exchange_freely", "exchange_freely", defArgs st25, defBody st25, defScope st25, [], []⟩
def dd26 : He.DefD := ⟨("single_effects", none), "single_effects", "single_effects", defArgs st26, defBody st26, defScope st26, [], []⟩
def dd27 : He.DefD := ⟨("first_merging", none), "first_merging", "first_merging", defArgs st27, defBody st27, defScope st27, [], []⟩
def dd28 : He.DefD := ⟨("need_reversible", none), "need_reversible", "need_reversible", defArgs st28, defBody st28, defScope st28, [], []⟩
def dd29 : He.DefD := ⟨("free_step", none), "free_step", "free_step", defArgs st29, defBody st29, defScope st29, [], []⟩
def dd30 : He.DefD := ⟨("order_of_effect", none), "order_of_effect", "order_of_effect", defArgs st30, defBody st30, defScope st30, [], []⟩
def dd31 : He.DefD := ⟨("order_of", none), "order_of", "order_of", defArgs st31, defBody st31, defScope st31, [], []⟩
def dd32 : He.DefD := ⟨("effect_times", none), "effect_times", "effect_times", defArgs st32, defBody st32, defScope st32, [], []⟩
def dd33 : He.DefD := ⟨("shift", none), "shift", "shift", defArgs st33, defBody st33, defScope st33, [], []⟩
def dd34 : He.DefD := ⟨("law", none), "law", "law", defArgs st34, defBody st34, defScope st34, [], []⟩
def fn_0 : List He.DefD := [dd0, dd1, dd2, dd3, dd4, dd5, dd6, dd7, dd8, dd9, dd10, dd11, dd12, dd13, dd14, dd15, dd16, dd17, dd18, dd19, dd20, dd21, dd22, dd23, dd24, dd25, dd26, dd27, dd28, dd29]
def fn_1 : List He.DefD := [dd30, dd31, dd32, dd33, dd34]
def fn : List He.DefD := fn_0 ++ fn_1
def fa_0 : List He.Fa := [.glo "is_integer", .glo "is_number", .glo "is_index", .glo "is_sequence", .glo "_law_after", .glo "_law_any", .glo "_law_column", .glo "_law_draw", .glo "_law_end", .glo "_law_effect", .glo "_law_of", .glo "_law_mixed", .glo "_law_named", .glo "_law_wheel", .glo "_law_reversible", .glo "_law_row", .glo "_law_order", .glo "_law_times", .glo "_law_shift", .glo "_law_step", .glo "checked_row", .glo "led", .glo "effect", .glo "followed", .glo "exchange_freely", .glo "single_effects", .glo "first_merging", .glo "need_reversible", .glo "free_step", .glo "order_of_effect"]
def fa_1 : List He.Fa := [.glo "order_of", .glo "effect_times", .glo "shift", .glo "law", .free "abs", .free "all", .free "bool", .free "enumerate", .free "int", .free "isinstance", .free "len", .free "list", .free "range", .free "repr", .free "set", .free "tuple", .glo "Machine", .cls "Machine", .mkr "Machine", .noat "Machine" "commands", .noat "Machine" "states", .noat "Machine" "steps"]
def fa : List He.Fa := fa_0 ++ fa_1
def loose_0 : List PySem.Str := ["is_integer", "is_number", "is_sequence", "is_index", "checked_row", "led", "effect", "followed", "single_effects", "first_merging", "need_reversible", "order_of_effect", "effect_times", "order_of", "shift", "exchange_freely", "free_step", "_law_draw", "_law_any", "_law_of", "_law_mixed", "_law_wheel", "_law_named", "_law_row", "_law_end", "_law_effect", "_law_reversible", "_law_after", "_law_column", "_law_order"]
def loose_1 : List PySem.Str := ["_law_times", "_law_shift", "_law_step", "EndsError", "InvalidMachine", "InvalidRow", "NotReversible", "Machine"]
def loose : List PySem.Str := loose_0 ++ loose_1
abbrev R : PySem.W.OpenRow := PySem.W.OpenLaw.row PySem.Challenge.rw_endsandround_k29_shifts_of_commands
abbrev hk : PySem.W.Hook := He.hookD 5 fa fn
def ob (s : PySem.W.SharedT) : He.AlD := He.obsDG 5 fa fn (HandSHeadRun.getT s)
theorem ob_eq (s : PySem.W.SharedT) : ob s = hk.obs s.abs := He.obsDG_eq (HandSHeadRun.getT_eq s)
theorem run (w : World) : HandSHeadRun.RunEq R (PySem.W.view R.prog [43]) hk ob 30000 loose w := by
  intro os
  kernel_rfl
theorem facts {K : PySem.W.Frag} {h : Heap} {mg : Str → Option Value} (X : K.In h) (G : h.Ns mainGlobals mg) (c : He.SaysD fa fn K) : Hd K mg where
  cls := by
    have one : ∀ x : Nat, x < 1 → ClsOk (wd K (ca K)) x := by
      intro x hx
      match x, hx with
      | 0, _ => exact ⟨He.cls_ok (x := "Machine") (c.fact 47 rfl), by
          have mem : ∀ P : Nat → Prop, P 0 → P 1 → P 2 → ∀ k ∈ ([0, 1, 2] : List Nat), P k := by
            intro P h0 h1 h2 k hk
            simp only [List.mem_cons, List.not_mem_nil, or_false] at hk
            rcases hk with rfl | rfl | rfl
            · exact h0
            · exact h1
            · exact h2
          refine mem _ ?_ ?_ ?_
          · exact He.noat_ok (x := "Machine") (f := "commands") (c.fact 49 rfl)
          · exact He.noat_ok (x := "Machine") (f := "states") (c.fact 50 rfl)
          · exact He.noat_ok (x := "Machine") (f := "steps") (c.fact 51 rfl)
          , by
          intro j k hj hk e
          have inj : ∀ j ∈ ([0, 1, 2] : List Nat), ∀ k ∈ ([0, 1, 2] : List Nat), flds.getD j "" = flds.getD k "" → j = k := by decide +kernel
          exact inj j hj k hk e⟩
    intro x
    by_cases hx : x < 1
    · exact one x hx
    · have e : (wd K (ca K)).T.fl x = [] := by
        show ([[0, 1, 2]] : List (List Nat)).getD x [] = []
        rw [List.getD_eq_getElem?_getD, List.getElem?_eq_none (Nat.le_of_not_lt hx)]
        rfl
      have e2 : (wd K (ca K)).ca x = He.ga K "Machine" := by
        show He.ga K ((["Machine"] : List Str).getD x "Machine") = _
        rw [List.getD_eq_getElem?_getD, List.getElem?_eq_none (Nat.le_of_not_lt hx)]
        rfl
      exact ⟨by rw [e2]; exact He.cls_ok (x := "Machine") (c.fact 47 rfl), fun k hk => by rw [e] at hk; simp at hk, fun j k hj => by rw [e] at hj; simp at hj⟩
  f_abs := He.free_ok X G (c.fact 34 (f := .free "abs") rfl)
  f_all := He.free_ok X G (c.fact 35 (f := .free "all") rfl)
  f_bool := He.free_ok X G (c.fact 36 (f := .free "bool") rfl)
  f_enumerate := He.free_ok X G (c.fact 37 (f := .free "enumerate") rfl)
  f_int := He.free_ok X G (c.fact 38 (f := .free "int") rfl)
  f_isinstance := He.free_ok X G (c.fact 39 (f := .free "isinstance") rfl)
  f_len := He.free_ok X G (c.fact 40 (f := .free "len") rfl)
  f_list := He.free_ok X G (c.fact 41 (f := .free "list") rfl)
  f_range := He.free_ok X G (c.fact 42 (f := .free "range") rfl)
  f_repr := He.free_ok X G (c.fact 43 (f := .free "repr") rfl)
  f_set := He.free_ok X G (c.fact 44 (f := .free "set") rfl)
  f_tuple := He.free_ok X G (c.fact 45 (f := .free "tuple") rfl)
  h_is_integer := by
    obtain ⟨fd, F⟩ := c.def_ 0 (d := dd0) rfl
    exact ⟨fd, F, He.glo_ok X G (c.fact 0 (f := .glo "is_integer") rfl)⟩
  h_is_number := by
    obtain ⟨fd, F⟩ := c.def_ 1 (d := dd1) rfl
    exact ⟨fd, F, He.glo_ok X G (c.fact 1 (f := .glo "is_number") rfl)⟩
  h_is_index := by
    obtain ⟨fd, F⟩ := c.def_ 2 (d := dd2) rfl
    exact ⟨fd, F, He.glo_ok X G (c.fact 2 (f := .glo "is_index") rfl)⟩
  h_is_sequence := by
    obtain ⟨fd, F⟩ := c.def_ 3 (d := dd3) rfl
    exact ⟨fd, F, He.glo_ok X G (c.fact 3 (f := .glo "is_sequence") rfl)⟩
  i_Machine := by
    obtain ⟨fd, F⟩ := c.def_ 4 (d := dd4) rfl
    exact ⟨fd, F, He.mkr_ok (c.fact 48 (f := .mkr "Machine") rfl), He.glo_ok X G (c.fact 46 (f := .glo "Machine") rfl)⟩
  h__law_after := by
    obtain ⟨fd, F⟩ := c.def_ 5 (d := dd5) rfl
    exact ⟨fd, F, He.glo_ok X G (c.fact 4 (f := .glo "_law_after") rfl)⟩
  h__law_any := by
    obtain ⟨fd, F⟩ := c.def_ 6 (d := dd6) rfl
    exact ⟨fd, F, He.glo_ok X G (c.fact 5 (f := .glo "_law_any") rfl)⟩
  h__law_column := by
    obtain ⟨fd, F⟩ := c.def_ 7 (d := dd7) rfl
    exact ⟨fd, F, He.glo_ok X G (c.fact 6 (f := .glo "_law_column") rfl)⟩
  h__law_draw := by
    obtain ⟨fd, F⟩ := c.def_ 8 (d := dd8) rfl
    exact ⟨fd, F, He.glo_ok X G (c.fact 7 (f := .glo "_law_draw") rfl)⟩
  h__law_end := by
    obtain ⟨fd, F⟩ := c.def_ 9 (d := dd9) rfl
    exact ⟨fd, F, He.glo_ok X G (c.fact 8 (f := .glo "_law_end") rfl)⟩
  h__law_effect := by
    obtain ⟨fd, F⟩ := c.def_ 10 (d := dd10) rfl
    exact ⟨fd, F, He.glo_ok X G (c.fact 9 (f := .glo "_law_effect") rfl)⟩
  h__law_of := by
    obtain ⟨fd, F⟩ := c.def_ 11 (d := dd11) rfl
    exact ⟨fd, F, He.glo_ok X G (c.fact 10 (f := .glo "_law_of") rfl)⟩
  h__law_mixed := by
    obtain ⟨fd, F⟩ := c.def_ 12 (d := dd12) rfl
    exact ⟨fd, F, He.glo_ok X G (c.fact 11 (f := .glo "_law_mixed") rfl)⟩
  h__law_named := by
    obtain ⟨fd, F⟩ := c.def_ 13 (d := dd13) rfl
    exact ⟨fd, F, He.glo_ok X G (c.fact 12 (f := .glo "_law_named") rfl)⟩
  h__law_wheel := by
    obtain ⟨fd, F⟩ := c.def_ 14 (d := dd14) rfl
    exact ⟨fd, F, He.glo_ok X G (c.fact 13 (f := .glo "_law_wheel") rfl)⟩
  h__law_reversible := by
    obtain ⟨fd, F⟩ := c.def_ 15 (d := dd15) rfl
    exact ⟨fd, F, He.glo_ok X G (c.fact 14 (f := .glo "_law_reversible") rfl)⟩
  h__law_row := by
    obtain ⟨fd, F⟩ := c.def_ 16 (d := dd16) rfl
    exact ⟨fd, F, He.glo_ok X G (c.fact 15 (f := .glo "_law_row") rfl)⟩
  h__law_order := by
    obtain ⟨fd, F⟩ := c.def_ 17 (d := dd17) rfl
    exact ⟨fd, F, He.glo_ok X G (c.fact 16 (f := .glo "_law_order") rfl)⟩
  h__law_times := by
    obtain ⟨fd, F⟩ := c.def_ 18 (d := dd18) rfl
    exact ⟨fd, F, He.glo_ok X G (c.fact 17 (f := .glo "_law_times") rfl)⟩
  h__law_shift := by
    obtain ⟨fd, F⟩ := c.def_ 19 (d := dd19) rfl
    exact ⟨fd, F, He.glo_ok X G (c.fact 18 (f := .glo "_law_shift") rfl)⟩
  h__law_step := by
    obtain ⟨fd, F⟩ := c.def_ 20 (d := dd20) rfl
    exact ⟨fd, F, He.glo_ok X G (c.fact 19 (f := .glo "_law_step") rfl)⟩
  h_checked_row := by
    obtain ⟨fd, F⟩ := c.def_ 21 (d := dd21) rfl
    exact ⟨fd, F, He.glo_ok X G (c.fact 20 (f := .glo "checked_row") rfl)⟩
  h_led := by
    obtain ⟨fd, F⟩ := c.def_ 22 (d := dd22) rfl
    exact ⟨fd, F, He.glo_ok X G (c.fact 21 (f := .glo "led") rfl)⟩
  h_effect := by
    obtain ⟨fd, F⟩ := c.def_ 23 (d := dd23) rfl
    exact ⟨fd, F, He.glo_ok X G (c.fact 22 (f := .glo "effect") rfl)⟩
  h_followed := by
    obtain ⟨fd, F⟩ := c.def_ 24 (d := dd24) rfl
    exact ⟨fd, F, He.glo_ok X G (c.fact 23 (f := .glo "followed") rfl)⟩
  h_exchange_freely := by
    obtain ⟨fd, F⟩ := c.def_ 25 (d := dd25) rfl
    exact ⟨fd, F, He.glo_ok X G (c.fact 24 (f := .glo "exchange_freely") rfl)⟩
  h_single_effects := by
    obtain ⟨fd, F⟩ := c.def_ 26 (d := dd26) rfl
    exact ⟨fd, F, He.glo_ok X G (c.fact 25 (f := .glo "single_effects") rfl)⟩
  h_first_merging := by
    obtain ⟨fd, F⟩ := c.def_ 27 (d := dd27) rfl
    exact ⟨fd, F, He.glo_ok X G (c.fact 26 (f := .glo "first_merging") rfl)⟩
  h_need_reversible := by
    obtain ⟨fd, F⟩ := c.def_ 28 (d := dd28) rfl
    exact ⟨fd, F, He.glo_ok X G (c.fact 27 (f := .glo "need_reversible") rfl)⟩
  h_free_step := by
    obtain ⟨fd, F⟩ := c.def_ 29 (d := dd29) rfl
    exact ⟨fd, F, He.glo_ok X G (c.fact 28 (f := .glo "free_step") rfl)⟩
  h_order_of_effect := by
    obtain ⟨fd, F⟩ := c.def_ 30 (d := dd30) rfl
    exact ⟨fd, F, He.glo_ok X G (c.fact 29 (f := .glo "order_of_effect") rfl)⟩
  h_order_of := by
    obtain ⟨fd, F⟩ := c.def_ 31 (d := dd31) rfl
    exact ⟨fd, F, He.glo_ok X G (c.fact 30 (f := .glo "order_of") rfl)⟩
  h_effect_times := by
    obtain ⟨fd, F⟩ := c.def_ 32 (d := dd32) rfl
    exact ⟨fd, F, He.glo_ok X G (c.fact 31 (f := .glo "effect_times") rfl)⟩
  h_shift := by
    obtain ⟨fd, F⟩ := c.def_ 33 (d := dd33) rfl
    exact ⟨fd, F, He.glo_ok X G (c.fact 32 (f := .glo "shift") rfl)⟩
  h_law := by
    obtain ⟨fd, F⟩ := c.def_ 34 (d := dd34) rfl
    exact ⟨fd, F, He.glo_ok X G (c.fact 33 (f := .glo "law") rfl)⟩
end LK
open PySem PySem.W PySem.Calls PyProof.Rows
/-- the law, from its data program -/
theorem LK.ends (plain : ∀ ns : List Int, ns.length ≤ 63 → ∃ s', DI.callD LK.tab LK.fns 25 34 [.scr ns] none = .ok (.f (.bl true)) s') : PySem.Challenge.rw_endsandround_k29_shifts_of_commands.Holds := by
  w_on; o_law
  refine HandSHeadRun.head_any (r := OpenLaw.row PySem.Challenge.rw_endsandround_k29_shifts_of_commands) (q := view (OpenLaw.row PySem.Challenge.rw_endsandround_k29_shifts_of_commands).prog [43]) (H := LK.hk) (ob := LK.ob) (M := 30000) (loose := LK.loose)
    (d := HandSHeadRun.topDef (OpenLaw.row PySem.Challenge.rw_endsandround_k29_shifts_of_commands).prog 43) (kwd := []) LK.ob_eq
    (by kernel_rfl) (fun s => by kernel_rfl) LK.run (by kernel_rfl) (by kernel_rfl) (by kernel_rfl) (by rfl) (by first | assumption | decide +kernel) (by decide +kernel) ⟨rfl, rfl, rfl, rfl, rfl, by decide +kernel⟩ ?hw ?hc
  case hw => w_witness2
  case hc =>
    refine DI.walkG (l := PySem.Challenge.rw_endsandround_k29_shifts_of_commands) (n := 63) (k := 50) (x := "_law_script") rfl (by decide) (by kernel_rfl) ⟨rfl, by decide, by decide⟩ ?F
    intro w mg fa h Y G hmg0
    obtain ⟨K, KX, c⟩ := Y
    have hd := LK.facts KX G c
    obtain ⟨fd, F, hm⟩ := hd.h_law
    have hmg : mg ("law" : PySem.Str) = some (.ref fa) := by
      have e : (HandSHeadRun.topDef (OpenLaw.row PySem.Challenge.rw_endsandround_k29_shifts_of_commands).prog 43).name = ("law" : PySem.Str) := by kernel_rfl
      rw [← e]
      exact hmg0
    rw [hm] at hmg
    cases hmg
    refine ⟨K, fd, DI.spF (LK.wd K (LK.ca K)) DI.noEF (DI.callD LK.tab LK.fns 25 34), KX, fun s u => L2.FunD.bindsA (ps := ["_law_script"]) F (fun _ _ _ _ _ _ us hl => match us, hl with | [_], _ => rfl) s [u] rfl, fun H a ns hl hS => ?_, fun base _ _ => LK.law_ok hd F 24⟩
    obtain ⟨s', e⟩ := plain ns hl
    exact DI.law_sp (w := LK.wd K (LK.ca K)) hS s' e

theorem PySem.Challenge.cw_endsandround_k29_shifts_of_commands_holds : PySem.Challenge.rw_endsandround_k29_shifts_of_commands.Holds := by
  exact LK.ends LK.plain
