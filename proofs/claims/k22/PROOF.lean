import PyProof.Rows.All
import Wide.All
import OpenK.AllK
import Wide.FinOn
import PyProof.P3Statements
import PyProof.EqLayable
import PyProof.ReprReads
import HandS.ForMost
import HandS.More
import HandS.WordsExc
import HandS.Defaults
import HandS.Wide
import HandS.Conv
import HandS.TupAny
import HandS.Zip
import HandS.Deep
import HandS.SortInts
import HandS.Style
import HandS.IsInst
import HandS.Lambda
import PyProof.SumWalkG
import PyProof.WalksMore
import KE.SortData
import HandS.TryOnly
import KE.GoesEnum
import HandS.SetFor
import HandS.Ends
import HandS.HeadEnd
import HandS.Strs
import KE.KRevSl
import HandS.ExcInit
import HandS.ExcSuper
import KE.KExcSuper
import KE.KSuper
import HandS.ExcOwn
import HandS.ExcField
import HandS.ExcIs
import KE.KExcIs
import HandS.TryMany
import HandS.Head0
import HandS.Head1
import HandS.Head2
import HandS.HeadHook1
import HandS.HeadHook2
import HandS.HeadHook4
import HandS.EndTab
import KE.KStateDown
import PySem.Challenge.RW_endsandround_k22_cuts_and_open_entries
section
set_option Elab.async false
/-! DI0: data without a heap (D), a small language (E, Sm) and its meaning over data. Own text. -/
namespace DI
open PySem (Str PyData)

inductive D where
  | non | bl (b : Bool) | int (i : Int) | str (s : Str)
  | tup (xs : List D) | lst (xs : List D)
  | ins (c : Nat) (fs : List D)
  | deal | scr (ns : List Int)
  | exn (k : Nat) (d : D)
  deriving Inhabited

mutual
def D.py : D → PyData
  | .non => .none
  | .bl b => .bool b
  | .int i => .int i
  | .str s => .str s
  | .tup xs => .tuple (pyAll xs)
  | .lst xs => .list (pyAll xs)
  | .ins _ _ => .dict []
  | .deal => .dict []
  | .scr _ => .dict []
  | .exn _ _ => .dict []
def pyAll : List D → List PyData
  | [] => []
  | x :: xs => x.py :: pyAll xs
end

/-- a value at hand: frozen data; a new list that nobody else holds; the list that slot i owns; a new instance at slot i in the making; a tuple known to be plain (without a dict of its own) -/
inductive DV where
  | f (d : D) | o (xs : List D) | b (i : Nat) | n (c : Nat) (fs : List D) | p (xs : List D)
  deriving Inhabited

abbrev G := Option (List Int × Int)
structure S where
  r : List (Option DV)
  g : G
inductive Res (α : Type) where
  | ok (a : α) (s : S) | exc (c : Nat) (d : D) (s : S) | stuck
abbrev M (α : Type) := S → Res α
def ret {α : Type} (a : α) : M α := fun s => .ok a s
def stk {α : Type} : M α := fun _ => .stuck
def bnd {α β : Type} (m : M α) (f : α → M β) : M β := fun s => match m s with
  | .ok a s' => f a s'
  | .exc c d s' => .exc c d s'
  | .stuck => .stuck
def opt {α : Type} : Option α → M α
  | some a => ret a
  | none => stk

/-- the data of a value, without handing it on -/
def look : DV → M D
  | .f d => ret d
  | .o xs => ret (.lst xs)
  | .b i => fun s => match s.r[i]? with
    | some (some (.o xs)) => .ok (.lst xs) s
    | some (some (.f d)) => .ok d s
    | _ => .stuck
  | .n _ _ => stk
  | .p xs => ret (.tup xs)
/-- the value is handed on: whoever owned it lets it be -/
def frz : DV → M D
  | .f d => ret d
  | .o xs => ret (.lst xs)
  | .b i => fun s => match s.r[i]? with
    | some (some (.o xs)) => .ok (.lst xs) { s with r := s.r.set i (some (.f (.lst xs))) }
    | some (some (.f d)) => .ok d s
    | _ => .stuck
  | .n _ _ => stk
  | .p xs => ret (.tup xs)
def looks : List DV → M (List D)
  | [] => ret []
  | v :: vs => bnd (look v) fun d => bnd (looks vs) fun ds => ret (d :: ds)
def frzs : List DV → M (List D)
  | [] => ret []
  | v :: vs => bnd (frz v) fun d => bnd (frzs vs) fun ds => ret (d :: ds)

inductive BOp where
  | add | sub | mul | fdiv | mod | pow
  deriving DecidableEq
inductive COp where
  | eq | ne | lt | le | gt | ge | inn | nin
  deriving DecidableEq
inductive Blt where
  | len | int | abs | list | tuple | repr | min | max | sum | all | any | sorted | lenset | sortset
  deriving DecidableEq
inductive Ty where
  | int | bool | str | list | tuple | seq | cls (c : Nat)
  deriving DecidableEq
inductive ItK where
  | val | rng | enum | zip
  deriving DecidableEq
inductive Tg where
  | nm (i : Nat) | tp (ts : List Tg)

inductive MB where
  | lidx | lcnt | tidx | tcnt
  deriving DecidableEq
inductive E where
  | nop
  | var (i : Nat) | int (i : Int) | bl (b : Bool) | non | str (s : Str)
  | bin (o : BOp) (a b : E) | neg (a : E)
  | cmp (o : COp) (a b : E) | chain (o p : COp) (a b c : E)
  | isN (a : E) | notN (a : E)
  | isB (a : E) (k : Bool) | niB (a : E) (k : Bool)
  | and (a b : E) | or (a b : E) | not (a : E) | ite (c a b : E)
  | tup (es : List E) | lst (es : List E)
  | ix (a i : E) | sl (a lo hi : E) | rev (a : E) | revt (a : E)
  | call (f : Nat) (es : List E) | callk (f : Nat) (ps : List Nat) (es : List E)
  | make (f : Nat) (es : List E)
  | fld (a : E) (k : Nat) | xat (a : E)
  | blt (b : Blt) (es : List E)
  | isI (a : E) (t : Ty) | isX (a : E) (ts fs : List Nat)
  | lrg (a b : E) | trg (a b : E)
  | append (i : Nat) (e : E) | pop (i : Nat) | popAt (i : Nat) (e : E)
  /-- methods of a list, of a plain tuple; a list as a plain tuple -/
  | mb (m : MB) (a b : E) | tpl (a : E)
  | lc (own : List Nat) (t : Tg) (k : ItK) (a b : E) (c : E) (e : E)
  /-- the def f handed a lambda without parameters whose body is e -/
  | lamc (f : Nat) (e : E)
inductive TX where
  | nm (i : Nat) | ix (i : Nat) (e : E)
inductive Sm where
  | pass | brk | cont | retN
  | ret (e : E) | expr (e : E)
  | set (i : Nat) (e : E)
  | par (ts : List TX) (es : List E)
  | unp (ts : List Tg) (e : E)
  | setIx (i : Nat) (k e : E)
  | fset (k : Nat) (e : E)
  | ifs (c : E) (a b : List Sm)
  | for (t : Tg) (k : ItK) (a b : E) (body : List Sm)
  | while (c : E) (body : List Sm)
  | raise (c : Nat) (e : E)
  | tryx (body : List Sm) (i : Option Nat) (ts fs : List Nat) (suite : List Sm)

/-! ### what operations give -/
def lim : Nat := 16777216
def small64 (i : Int) : Bool := decide (-(2 ^ 64) < i) && decide (i < 2 ^ 64)
def mulOk (i j : Int) : Bool := small64 i || small64 j || decide (i.natAbs.log2 + j.natAbs.log2 < 1000000)
def binD : BOp → D → D → Option DV
  | .add, .int i, .int j => some (.f (.int (i + j)))
  | .add, .tup xs, .tup ys => if xs.length + ys.length ≤ lim then some (.f (.tup (xs ++ ys))) else none
  | .add, .lst xs, .lst ys => if xs.length + ys.length ≤ lim then some (.o (xs ++ ys)) else none
  | .sub, .int i, .int j => some (.f (.int (i - j)))
  | .mul, .int i, .int j => if mulOk i j then some (.f (.int (i * j))) else none
  | .mul, .lst xs, .int j => if xs.length * j.toNat ≤ lim ∧ -(2 ^ 62) < j ∧ j < 2 ^ 62 then some (.o (List.replicate j.toNat xs).flatten) else none
  | .fdiv, .int i, .int j => if 0 < j ∧ j.natAbs.log2 < 9000 then some (.f (.int (i / j))) else none
  | .mod, .int i, .int j => if 0 < j then some (.f (.int (i % j))) else none
  | .pow, .int i, .int j => if 0 ≤ j ∧ j ≤ 1000000 ∧ i.natAbs < 2 ^ 64 then some (.f (.int (i ^ j.toNat))) else none
  | _, _, _ => none
def shp (d : D) : Bool := PySem.SeqAt.shaped d.py
def eqD (a b : D) : Option Bool := if shp a && shp b then some (PyData.eqv a.py b.py) else none
def inD (a : D) : D → Option Bool
  | .lst xs => if shp a && shp (.lst xs) then some (xs.any fun z => PyData.eqv z.py a.py) else none
  | _ => none
def cmpD : COp → D → D → Option Bool
  | .eq, a, b => eqD a b
  | .ne, a, b => (eqD a b).map not
  | .lt, .int i, .int j => some (decide (i < j))
  | .le, .int i, .int j => some (decide (i ≤ j))
  | .gt, .int i, .int j => some (decide (j < i))
  | .ge, .int i, .int j => some (decide (j ≤ i))
  | .inn, a, b => inD a b
  | .nin, a, b => (inD a b).map not
  | _, _, _ => none
def intsD : List D → Option (List Int)
  | [] => some []
  | .int i :: r => (intsD r).map (i :: ·)
  | _ => none
def bools : List D → Option (List Bool)
  | [] => some []
  | .bl i :: r => (bools r).map (i :: ·)
  | _ => none
def seqOf : D → Option (List D)
  | .lst xs => some xs
  | .tup xs => some xs
  | _ => none
def minI : List Int → Int
  | [] => 0
  | [x] => x
  | x :: y :: r => if x ≤ minI (y :: r) then x else minI (y :: r)
def maxI : List Int → Int
  | [] => 0
  | [x] => x
  | x :: y :: r => if maxI (y :: r) ≤ x then x else maxI (y :: r)
def insertI (x : Int) : List Int → List Int
  | [] => [x]
  | y :: r => if x ≤ y then x :: y :: r else y :: insertI x r
/-- the distinct ones, as they are met -/
def firsts (ns : List Int) : List Int := ns.foldl (fun acc x => if acc.any (· == x) then acc else acc ++ [x]) []
def sortI : List Int → List Int
  | [] => []
  | x :: r => insertI x (sortI r)
def isNonD : D → Bool
  | .non => true
  | _ => false
def atI (xs : List D) (i : Int) : Option D := if 0 ≤ i then xs[i.toNat]? else if -(xs.length : Int) ≤ i then xs[(i + xs.length).toNat]? else none
def cutIx (n d : Nat) : Option Int → Nat
  | none => d
  | some v => if v < 0 then (v + n).toNat else min v.toNat n
def cutD (xs : List D) (lo hi : Option Int) : List D := (xs.drop (cutIx xs.length 0 lo)).take (cutIx xs.length xs.length hi - cutIx xs.length 0 lo)
def rngI (a b : Int) : List D := (List.range (b - a).toNat).map fun (i : Nat) => D.int (a + i)
def bnd62 (i : Int) : Bool := decide (-(2 ^ 62) ≤ i) && decide (i < 2 ^ 62)
def rngD (a b : Int) : Option (List D) := if bnd62 a && bnd62 b && decide ((b - a).toNat ≤ lim) then some (rngI a b) else none
def ixD : D → D → Option D
  | .lst xs, .int i => atI xs i
  | .tup xs, .int i => atI xs i
  | _, _ => none
def slD (lo hi : Option Int) : D → Option DV
  | .lst xs => some (.o (cutD xs lo hi))
  | .tup xs => some (.f (.tup (cutD xs lo hi)))
  | .scr ns => some (.o (cutD (ns.map .int) lo hi))
  | _ => none
def isD : Ty → D → Option Bool
  | .cls c, .ins c' _ => if c = c' then some true else none
  | .cls _, _ => none
  | _, .exn _ _ => none
  | _, .ins _ _ => none
  | _, .deal => none
  | _, .scr _ => none
  | .int, .int _ => some true
  | .int, .bl _ => some true
  | .bool, .bl _ => some true
  | .str, .str _ => some true
  | .list, .lst _ => some true
  | .tuple, .tup _ => some true
  | .seq, .lst _ => some true
  | .seq, .tup _ => some true
  | _, _ => some false
def flatD : D → Bool
  | .non => true
  | .bl _ => true
  | .int _ => true
  | .str _ => true
  | _ => false
/-- == of flat data -/
def eqF : D → D → Bool
  | .non, .non => true
  | .bl a, .bl b => a == b
  | .bl a, .int b => (if a then 1 else 0) == b
  | .int a, .bl b => a == (if b then 1 else 0)
  | .int a, .int b => a == b
  | .str a, .str b => a == b
  | _, _ => false
def idxF (x : D) : List D → Nat → Option Nat
  | [], _ => none
  | z :: r, k => if eqF z x then some k else idxF x r (k + 1)
def mbD (m : MB) (xs : List D) (d : D) : Option D := if xs.all flatD && flatD d then (match m with
  | .lidx => (idxF d xs 0).map fun (k : Nat) => D.int k
  | .tidx => (idxF d xs 0).map fun (k : Nat) => D.int k
  | _ => some (.int (xs.countP fun z => eqF z d))) else none
def mbL (m : MB) : D → Option (List D)
  | .lst xs => if m = .lidx ∨ m = .lcnt then some xs else none
  | _ => none
def itemsD : ItK → D → D → Option (List D)
  | .val, a, _ => seqOf a
  | .rng, .int i, .int j => if bnd62 i && bnd62 j then some (rngI i j) else none
  | .enum, a, _ => (seqOf a).map fun xs => (xs.zipIdx).map fun p => .tup [.int p.2, p.1]
  | .zip, .lst xs, .lst ys => some ((xs.zip ys).map fun p => .tup [p.1, p.2])
  | .zip, .tup xs, .tup ys => some ((xs.zip ys).map fun p => .tup [p.1, p.2])
  | _, _, _ => none
def bltD : Blt → List D → Option DV
  | .len, [.lst xs] => some (.f (.int xs.length))
  | .len, [.tup xs] => some (.f (.int xs.length))
  | .len, [.scr xs] => some (.f (.int xs.length))
  | .int, [.int i] => some (.f (.int i))
  | .abs, [.int i] => some (.f (.int i.natAbs))
  | .list, [.lst xs] => some (.o xs)
  | .list, [.tup xs] => some (.o xs)
  | .tuple, [.lst xs] => some (.f (.tup xs))
  | .tuple, [.tup xs] => some (.f (.tup xs))
  | .min, [.int i, .int j] => some (.f (.int (if i ≤ j then i else j)))
  | .max, [.int i, .int j] => some (.f (.int (if j ≤ i then i else j)))
  | .min, [.lst xs] => (intsD xs).bind fun ns => if ns = [] then none else some (.f (.int (minI ns)))
  | .max, [.lst xs] => (intsD xs).bind fun ns => if ns = [] then none else some (.f (.int (maxI ns)))
  | .sum, [.lst xs] => (intsD xs).bind fun ns => some (.f (.int ns.sum))
  | .sum, [.tup xs] => (intsD xs).bind fun ns => some (.f (.int ns.sum))
  | .all, [.lst xs] => (bools xs).bind fun bs => some (.f (.bl (bs.all id)))
  | .any, [.lst xs] => (bools xs).bind fun bs => some (.f (.bl (bs.any id)))
  | .sorted, [.lst xs] => (intsD xs).bind fun ns => if ns.length < 64 then some (.o ((sortI ns).map .int)) else none
  | .sorted, [.tup xs] => (intsD xs).bind fun ns => if ns.length < 64 then some (.o ((sortI ns).map .int)) else none
  | .lenset, [.lst xs] => (intsD xs).bind fun ns => if ns.length ≤ 4000 then some (.f (.int (firsts ns).length)) else none
  | .lenset, [.tup xs] => (intsD xs).bind fun ns => if ns.length ≤ 4000 then some (.f (.int (firsts ns).length)) else none
  | .sortset, [.tup xs] => (intsD xs).bind fun ns => if ns.length < 64 then some (.o ((sortI (firsts ns)).map .int)) else none
  | .repr, [d] => if shp d && PyData.showable d.py && decide ((PyData.shown d.py).length ≤ lim) then some (.f (.str (PyData.shown d.py))) else none
  | _, _ => none

/-! ### the meaning -/
structure Tab where
  fl : Nat → List Nat
abbrev Fns := Nat → List D → G → Res DV
def setR (i : Nat) (v : DV) : M Unit := fun s => if i < s.r.length then .ok () { s with r := s.r.set i (some v) } else .stuck
/-- a value kept in slot i -/
def keep (i : Nat) : DV → M Unit
  | .f d => setR i (.f d)
  | .o xs => setR i (.o xs)
  | .b j => bnd (frz (.b j)) fun d => setR i (.f d)
  | .n _ _ => stk
  | .p xs => setR i (.p xs)
def bool? : DV → M Bool
  | .f (.bl b) => ret b
  | _ => stk
def int? : D → M Int
  | .int i => ret i
  | _ => stk
mutual
def asgT : Tg → D → M Unit
  | .nm i, d => setR i (.f d)
  | .tp ts, .tup ds => asgTs ts ds
  | .tp ts, .lst ds => asgTs ts ds
  | .tp _, _ => stk
def asgTs : List Tg → List D → M Unit
  | [], [] => ret ()
  | t :: ts, d :: ds => bnd (asgT t d) fun _ => asgTs ts ds
  | _, _ => stk
end
def wipeR (r : List (Option DV)) : List Nat → List (Option DV)
  | [] => r
  | i :: is => (wipeR r is).set i none
def backR (r0 r : List (Option DV)) : List Nat → List (Option DV)
  | [] => r
  | i :: is => match r0[i]? with
    | some v => (backR r0 r is).set i v
    | none => backR r0 r is
def lcGo (own : List Nat) (st : D → M Unit) (c : M Bool) (e : M D) : List D → List D → M (List D)
  | [], acc => ret acc
  | d :: ds, acc => fun s => bnd (st d) (fun _ => bnd c fun k => if k then bnd e fun y => if acc.length < lim then lcGo own st c e ds (acc ++ [y]) else stk else lcGo own st c e ds acc) { s with r := wipeR s.r own }
/-- nothing that is raised leaves it -/
def noExc {α : Type} (m : M α) : M α := fun s => match m s with
  | .ok a s' => .ok a s'
  | _ => .stuck
def callM (Φ : Fns) (f : Nat) (ds : List D) : M DV := fun s => match Φ f ds s.g with
  | .ok v s' => .ok v { s with g := s'.g }
  | .exc c d s' => .exc c d { s with g := s'.g }
  | .stuck => .stuck
/-- a def that calls the lambda it got, at once and within a try: its end by the lambda's end -/
def lamM (Φ : Fns) (f : Nat) (m : M DV) : M DV := fun s => match m s with
  | .ok _ s' => callM Φ f [.non] s'
  | .exc k d s' => callM Φ f [.exn k d] s'
  | .stuck => .stuck
def permD (ps : List Nat) (ds : List D) : Option (List D) := ps.mapM fun i => ds[i]?
def optI : Option D → M (Option Int)
  | none => ret none
  | some (.int i) => ret (some i)
  | some _ => stk
def ownAt (i : Nat) : M (List D) := fun s => match s.r[i]? with
  | some (some (.o xs)) => .ok xs s
  | _ => .stuck
/-- an optional part of a slice, source, test -/
def partM (e : E) (m : M DV) : M (Option Int) := match e with
  | .nop => ret none
  | _ => bnd m fun x => bnd (look x) fun d => bnd (int? d) fun i => ret (some i)
def srcM (e : E) (m : M DV) : M DV := match e with
  | .nop => ret (.f .non)
  | _ => m
def zeroM (e : E) (m : M DV) : M DV := match e with
  | .nop => ret (.f (.int 0))
  | _ => m
def tstM (e : E) (m : M DV) : M Bool := match e with
  | .nop => ret true
  | _ => bnd m bool?
section
variable (T : Tab) (Φ : Fns)
mutual
def evE : E → M DV
  | .nop => stk
  | .var i => fun s => match s.r[i]? with
    | some (some (.f d)) => .ok (.f d) s
    | some (some (.o _)) => .ok (.b i) s
    | some (some (.p xs)) => .ok (.p xs) s
    | _ => .stuck
  | .int i => ret (.f (.int i))
  | .bl b => ret (.f (.bl b))
  | .non => ret (.f .non)
  | .str x => ret (.f (.str x))
  | .bin o a b => bnd (evE a) fun x => bnd (evE b) fun y => bnd (look x) fun dx => bnd (look y) fun dy => opt (binD o dx dy)
  | .neg a => bnd (evE a) fun x => bnd (look x) fun d => bnd (int? d) fun i => ret (.f (.int (-i)))
  | .cmp o a b => bnd (evE a) fun x => bnd (evE b) fun y => bnd (look x) fun dx => bnd (look y) fun dy => bnd (opt (cmpD o dx dy)) fun k => ret (.f (.bl k))
  | .chain o p a b c => bnd (evE a) fun x => bnd (evE b) fun y => bnd (look x) fun dx => bnd (look y) fun dy => bnd (opt (cmpD o dx dy)) fun k =>
      if k then bnd (evE c) fun z => bnd (look y) fun dy' => bnd (look z) fun dz => bnd (opt (cmpD p dy' dz)) fun l => ret (.f (.bl l)) else ret (.f (.bl false))
  | .isN a => bnd (evE a) fun x => bnd (look x) fun d => ret (.f (.bl (isNonD d)))
  | .notN a => bnd (evE a) fun x => bnd (look x) fun d => ret (.f (.bl (!isNonD d)))
  | .isB a k => bnd (evE a) fun x => bnd (look x) fun d => bnd (bool? (.f d)) fun l => ret (.f (.bl (l == k)))
  | .niB a k => bnd (evE a) fun x => bnd (look x) fun d => bnd (bool? (.f d)) fun l => ret (.f (.bl (!(l == k))))
  | .and a b => bnd (evE a) fun x => bnd (bool? x) fun k => if k then evE b else ret (.f (.bl false))
  | .or a b => bnd (evE a) fun x => bnd (bool? x) fun k => if k then ret (.f (.bl true)) else evE b
  | .not a => bnd (evE a) fun x => bnd (bool? x) fun k => ret (.f (.bl (!k)))
  | .ite c a b => bnd (evE c) fun x => bnd (bool? x) fun k => if k then evE a else evE b
  | .tup es => bnd (evEs es) fun vs => bnd (frzs vs) fun ds => if ds.length ≤ lim then ret (.f (.tup ds)) else stk
  | .lst es => bnd (evEs es) fun vs => bnd (frzs vs) fun ds => if ds.length ≤ lim then ret (.o ds) else stk
  | .ix a i => bnd (evE a) fun x => bnd (evE i) fun y => bnd (look x) fun dx => bnd (look y) fun dy => bnd (opt (ixD dx dy)) fun d => ret (.f d)
  | .sl a lo hi => bnd (evE a) fun x => bnd (partM lo (evE lo)) fun l => bnd (partM hi (evE hi)) fun h => bnd (look x) fun dx => opt (slD l h dx)
  | .rev a => bnd (evE a) fun x => bnd (look x) fun d => match d with
    | .lst xs => ret (.o xs.reverse)
    | _ => stk
  | .revt a => bnd (evE a) fun x => bnd (look x) fun d => match d with
    | .tup xs => ret (.f (.tup xs.reverse))
    | _ => stk
  | .call f es => bnd (evEs es) fun vs => bnd (frzs vs) fun ds => callM Φ f ds
  | .callk f ps es => bnd (evEs es) fun vs => bnd (frzs vs) fun ds => bnd (opt (permD ps ds)) fun ds' => callM Φ f ds'
  | .make f es => bnd (evEs es) fun vs => bnd (frzs vs) fun ds => callM Φ f ds
  | .fld a k => bnd (evE a) fun x => bnd (look x) fun d => match d with
    | .ins c fs => bnd (opt (((T.fl c).zip fs).lookup k)) fun d => ret (.f d)
    | _ => stk
  | .lamc f e => lamM Φ f (evE e)
  | .xat a => bnd (evE a) fun x => bnd (look x) fun d => match d with
    | .exn _ d => ret (.f d)
    | _ => stk
  | .blt b es => bnd (evEs es) fun vs => bnd (looks vs) fun ds => opt (bltD b ds)
  | .isI a t => bnd (evE a) fun x => bnd (look x) fun d => bnd (opt (isD t d)) fun k => ret (.f (.bl k))
  | .isX a ts fs => bnd (evE a) fun x => bnd (look x) fun d => match d with
    | .exn k _ => if ts.contains k then ret (.f (.bl true)) else if fs.contains k then ret (.f (.bl false)) else stk
    | _ => stk
  | .lrg a b => bnd (zeroM a (evE a)) fun x => bnd (evE b) fun y => bnd (look x) fun dx => bnd (look y) fun dy => bnd (int? dx) fun i => bnd (int? dy) fun j => bnd (opt (rngD i j)) fun ds => ret (.o ds)
  | .trg a b => bnd (zeroM a (evE a)) fun x => bnd (evE b) fun y => bnd (look x) fun dx => bnd (look y) fun dy => bnd (int? dx) fun i => bnd (int? dy) fun j => bnd (opt (rngD i j)) fun ds => ret (.f (.tup ds))
  | .append i e => bnd (ownAt i) fun _ => bnd (evE e) fun x => bnd (frz x) fun d => bnd (ownAt i) fun xs => if xs.length < lim then bnd (setR i (.o (xs ++ [d]))) fun _ => ret (.f .non) else stk
  | .pop i => bnd (ownAt i) fun xs => bnd (opt xs[xs.length - 1]?) fun d => bnd (setR i (.o xs.dropLast)) fun _ => ret (.f d)
  | .popAt i e => bnd (ownAt i) fun _ => bnd (evE e) fun x => bnd (look x) fun k => bnd (int? k) fun j => bnd (ownAt i) fun xs => if 0 ≤ j ∧ j < xs.length ∧ j < 2 ^ 62 then bnd (opt xs[j.toNat]?) fun d => bnd (setR i (.o (xs.eraseIdx j.toNat))) fun _ => ret (.f d) else stk
  | .mb m a b => bnd (evE a) fun x => match x with
    | .p xs => if m = .tidx ∨ m = .tcnt then bnd (evE b) fun y => bnd (look y) fun dy => bnd (opt (mbD m xs dy)) fun d => ret (.f d) else stk
    | _ => bnd (look x) fun d0 => bnd (opt (mbL m d0)) fun _ => bnd (evE b) fun y => bnd (look x) fun dx => bnd (look y) fun dy => bnd (opt (mbL m dx)) fun xs => bnd (opt (mbD m xs dy)) fun d => ret (.f d)
  | .tpl a => bnd (evE a) fun x => bnd (look x) fun d => match d with
    | .lst xs => ret (.p xs)
    | _ => stk
  | .lc own t k a b c e => bnd (evE a) fun x => bnd (srcM b (evE b)) fun y => bnd (frz x) fun dx => bnd (frz y) fun dy => bnd (opt (itemsD k dx dy)) fun ds => fun s =>
      match noExc (lcGo own (asgT t) (tstM c (evE c)) (bnd (evE e) frz) ds []) s with
      | .ok ys s' => .ok (.o ys) { s' with r := backR s.r s'.r own }
      | _ => .stuck
termination_by structural e => e
def evEs : List E → M (List DV)
  | [] => ret []
  | e :: es => bnd (evE e) fun v => bnd (evEs es) fun vs => ret (v :: vs)
termination_by structural es => es
end
end
end DI

end
section
set_option Elab.async false
/-! DI1: statements, defs, calls over data. Own text. -/
namespace DI
open PySem (Str PyData)
inductive Fl where
  | nx | bk | ct | rt (v : DV)
/-- behind it no value leans on a slot -/
def settle : List DV → M (List DV)
  | [] => ret []
  | .b i :: vs => bnd (frz (.b i)) fun d => bnd (settle vs) fun ws => ret (.f d :: ws)
  | v :: vs => bnd (settle vs) fun ws => ret (v :: ws)
/-- what a def hands back: its own list moves out -/
def moveOut : DV → M DV
  | .b i => fun s => match s.r[i]? with
    | some (some (.o xs)) => .ok (.o xs) s
    | some (some (.f d)) => .ok (.f d) s
    | _ => .stuck
  | .f d => ret (.f d)
  | .o xs => ret (.o xs)
  | .n _ _ => stk
  | .p xs => ret (.p xs)
def forGo (st : D → M Unit) (body : M Fl) : List D → M Fl
  | [] => ret .nx
  | d :: ds => bnd (st d) fun _ => bnd body fun fl => match fl with
    | .nx => forGo st body ds
    | .ct => forGo st body ds
    | .bk => ret .nx
    | .rt v => ret (.rt v)
def whileGo (c : M Bool) (body : M Fl) : Nat → M Fl
  | 0 => stk
  | n + 1 => bnd c fun k => if k then bnd body fun fl => match fl with
    | .nx => whileGo c body n
    | .ct => whileGo c body n
    | .bk => ret .nx
    | .rt v => ret (.rt v) else ret .nx
/-- more turns than any while of ours takes -/
def FU : Nat := 2 ^ 200
def pairs? : List TX → List DV → Bool
  | [], [] => true
  | _ :: ts, _ :: vs => pairs? ts vs
  | _, _ => false
/-- what is raised keeps frozen data -/
def raiseM (c : Nat) : DV → M Fl
  | .f d => fun s => .exc c d s
  | _ => stk
mutual
/-- no error at hand in it -/
def noX : D → Bool
  | .tup xs => noXs xs
  | .lst xs => noXs xs
  | .ins _ xs => noXs xs
  | .exn _ _ => false
  | _ => true
def noXs : List D → Bool
  | [] => true
  | x :: xs => noX x && noXs xs
end
def noXV : DV → Bool
  | .f d => noX d
  | .o xs => noXs xs
  | .n _ xs => noXs xs
  | .p xs => noXs xs
  | .b _ => true
def noXO : Option DV → Bool
  | none => true
  | some v => noXV v
def noXF : Fl → Bool
  | .rt v => noXV v
  | _ => true
/-- a suite behind except; the error stands in slot i -/
def suiteM (i : Option Nat) (k : Nat) (d : D) (m : M Fl) : M Fl := fun s => match i with
  | none => noExc m s
  | some j => match s.r[j]? with
    | some none => match noExc m { s with r := s.r.set j (some (.f (.exn k d))) } with
      | .ok fl s' => if (s'.r.set j none).all noXO && noXF fl then .ok fl { s' with r := s'.r.set j none } else .stuck
      | _ => .stuck
    | _ => .stuck
def tryM (b : M Fl) (i : Option Nat) (ts fs : List Nat) (su : M Fl) : M Fl := fun s => match b s with
  | .exc k d s' => if ts.contains k then suiteM i k d su s' else if fs.contains k then .exc k d s' else .stuck
  | r => r
section
variable (T : Tab) (Φ : Fns)
def setAt (i : Nat) (k : E) (d : D) : M Unit := bnd (ownAt i) fun _ => bnd (evE T Φ k) fun x => bnd (look x) fun dk => bnd (int? dk) fun j => bnd (ownAt i) fun xs =>
  if 0 ≤ j ∧ j < xs.length ∧ j < 2 ^ 62 then setR i (.o (xs.set j.toNat d)) else stk
def asgX : TX → DV → M Unit
  | .nm i, v => keep i v
  | .ix i e, .f d => setAt T Φ i e d
  | .ix _ _, _ => stk
def asgXs : List TX → List DV → M Unit
  | [], [] => ret ()
  | t :: ts, v :: vs => bnd (asgX T Φ t v) fun _ => asgXs ts vs
  | _, _ => stk
def fsetM (k : Nat) (d : D) : M Unit := fun s => match s.r[(0 : Nat)]? with
  | some (some (.n c fs)) => if (T.fl c)[fs.length]? = some k then .ok () { s with r := s.r.set 0 (some (.n c (fs ++ [d]))) } else .stuck
  | _ => .stuck
mutual
def evS : Sm → M Fl
  | .pass => ret .nx
  | .brk => ret .bk
  | .cont => ret .ct
  | .retN => ret (.rt (.f .non))
  | .ret e => bnd (evE T Φ e) fun v => bnd (moveOut v) fun w => ret (.rt w)
  | .expr e => bnd (evE T Φ e) fun _ => ret .nx
  | .set i e => bnd (evE T Φ e) fun v => bnd (keep i v) fun _ => ret .nx
  | .par ts es => bnd (evEs T Φ es) fun vs => bnd (settle vs) fun ws => bnd (asgXs T Φ ts ws) fun _ => ret .nx
  | .unp ts e => bnd (evE T Φ e) fun v => bnd (frz v) fun d => bnd (asgT (.tp ts) d) fun _ => ret .nx
  | .setIx i k e => bnd (evE T Φ e) fun v => bnd (frz v) fun d => bnd (setAt T Φ i k d) fun _ => ret .nx
  | .fset k e => bnd (evE T Φ e) fun v => bnd (frz v) fun d => bnd (fsetM T k d) fun _ => ret .nx
  | .ifs c a b => bnd (evE T Φ c) fun x => bnd (bool? x) fun k => if k then evSs a else evSs b
  | .for t k a b body => bnd (evE T Φ a) fun x => bnd (srcM b (evE T Φ b)) fun y => bnd (frz x) fun dx => bnd (frz y) fun dy => bnd (opt (itemsD k dx dy)) fun ds => forGo (asgT t) (evSs body) ds
  | .while c body => whileGo (bnd (evE T Φ c) bool?) (evSs body) FU
  | .raise c e => bnd (evE T Φ e) fun v => raiseM c v
  | .tryx b i ts fs su => tryM (evSs b) i ts fs (evSs su)
termination_by structural e => e
def evSs : List Sm → M Fl
  | [] => ret .nx
  | s :: ss => bnd (evS s) fun fl => match fl with
    | .nx => evSs ss
    | fl => ret fl
termination_by structural es => es
end
end
/-- a def: how many slots, how many parameters, its body; a class's __init__ (the class, slots, parameters with self); the draw of a deal's number; a deal made -/
inductive Fn where
  | body (n p : Nat) (b : List Sm) | init (c n p : Nat) (b : List Sm) | any | draw
  /-- try: work() / except clauses / return None -/
  | lam (n : Nat) (hs : List (Option Nat × List Nat × List Nat × List Sm))
def startR (n : Nat) (ds : List D) : List (Option DV) := (ds.map fun d => some (DV.f d)) ++ List.replicate (n - ds.length) none
/-- the deal: zeros at the end are dropped -/
def dropZ : List Int → List Int
  | [] => []
  | x :: r => match dropZ r with
    | [] => if x = 0 then [] else [x]
    | y :: r' => x :: y :: r'
def anyD (k : Int) : List Int × Int → Int × (List Int × Int)
  | (cs, b) => match (dropZ cs).getLast? with
    | some x => (x % k, (dropZ cs).dropLast ++ [x / k], b)
    | none => ((b * 40693 + 71) % 2147483647 / 64 % k, [], (b * 40693 + 71) % 2147483647)
def blendD (salt : Int) : List Int → Int
  | cs => cs.foldl (fun b c => (b * 48271 + c % 2147483549 + 11) % 2147483647) (7919 + 104729 * salt)
def drawD (salt : Int) (script : List Int) : List Int × Int :=
  let cells := (script.take 48).map fun (i : Int) => (i.natAbs : Int)
  ((cells.filter fun c => decide (10 ^ 18 ≤ c)).reverse, blendD salt cells)
def lamGo (T : Tab) (Φ : Fns) (n k : Nat) (d : D) (g : G) : List (Option Nat × List Nat × List Nat × List Sm) → Res DV
  | [] => .stuck
  | (o, ts, fs, su) :: r => if ts.contains k then (match suiteM o k d (evSs T Φ su) { r := List.replicate n none, g := g } with
    | .ok (.rt v) s => .ok v s
    | _ => .stuck) else if fs.contains k then lamGo T Φ n k d g r else .stuck
def runFn (T : Tab) (Φ : Fns) : Fn → List D → G → Res DV
  | .body n p b, ds, g => if ds.length = p ∧ p ≤ n then match evSs T Φ b { r := startR n ds, g := g } with
    | .ok (.rt v) s => .ok v s
    | .ok .nx s => .ok (.f .non) s
    | .exc c d s => .exc c d s
    | _ => .stuck else .stuck
  | .init c n p b, ds, g => if ds.length + 1 = p ∧ p ≤ n then match evSs T Φ b { r := some (.n c []) :: startR (n - 1) ds, g := g } with
    | .ok .nx s => match s.r[(0 : Nat)]? with
      | some (some (.n c' fs)) => if c' = c ∧ fs.length = (T.fl c).length then .ok (.f (.ins c fs)) s else .stuck
      | _ => .stuck
    | .exc c d s => .exc c d s
    | _ => .stuck else .stuck
  | .any, [.deal, .int k], some g => if 0 < k ∧ k.natAbs.log2 < 9000 then .ok (.f (.int (anyD k g).1)) ⟨[], some (anyD k g).2⟩ else .stuck
  | .draw, [.scr ns, .int salt], none => if 0 ≤ salt ∧ salt < 1000000 then .ok (.f .deal) ⟨[], some (drawD salt ns)⟩ else .stuck
  | .lam _ _, [.non], g => .ok (.f .non) ⟨[], g⟩
  | .lam n hs, [.exn k d], g => lamGo T Φ n k d g hs
  | _, _, _ => .stuck
def callD (T : Tab) (fns : List Fn) : Nat → Fns
  | 0 => fun _ _ _ => .stuck
  | n + 1 => fun f ds g => match fns[f]? with
    | some fn => runFn T (callD T fns n) fn ds g
    | none => .stuck
end DI

end
section
set_option Elab.async false
set_option linter.all false
set_option maxRecDepth 100000
set_option maxHeartbeats 4000000
/-! DP: plain laws of data programs. Own text. -/
namespace DI
open PySem (Str PyData)
theorem bnd_of {α β : Type} {m : M α} {f : α → M β} {s s' : S} {a : α} (h : m s = .ok a s') : bnd m f s = f a s' := by
  unfold bnd
  rw [h]
theorem set_none_set {r : List (Option DV)} {i : Nat} {x y : Option DV} : (r.set i x).set i y = r.set i y := List.set_set ..
section
variable {i : Nat} {r : List (Option DV)} {g : G}
theorem lcGo_pure (hi : i < r.length) {cnd : M Bool} {el : M D} {p : D → Bool} {f : D → D} : ∀ (ds acc : List D) (x : Option DV),
    (∀ d ∈ ds, cnd ⟨r.set i (some (.f d)), g⟩ = .ok (p d) ⟨r.set i (some (.f d)), g⟩ ∧ (p d = true → el ⟨r.set i (some (.f d)), g⟩ = .ok (f d) ⟨r.set i (some (.f d)), g⟩)) → acc.length + ds.length ≤ lim →
    ∃ x', lcGo [i] (asgT (.nm i)) cnd el ds acc ⟨r.set i x, g⟩ = .ok (acc ++ (ds.filter p).map f) ⟨r.set i x', g⟩
  | [], acc, x, _, _ => ⟨x, by simp [lcGo, ret]⟩
  | d :: ds, acc, x, h, hl => by
    obtain ⟨h1, h2⟩ := h d List.mem_cons_self
    rw [List.length_cons] at hl
    have e0 : asgT (.nm i) d { (⟨r.set i x, g⟩ : S) with r := wipeR (r.set i x) [i] } = .ok () ⟨r.set i (some (.f d)), g⟩ := by
      show setR i (.f d) ⟨(r.set i x).set i none, g⟩ = _
      unfold setR
      rw [if_pos (by simpa using hi)]
      simp only [set_none_set]
    by_cases hp : p d = true
    · obtain ⟨x', e⟩ := lcGo_pure hi ds (acc ++ [f d]) (some (.f d)) (fun d' hd => h d' (List.mem_cons_of_mem _ hd)) (by simp; omega)
      refine ⟨x', ?_⟩
      show bnd (asgT (.nm i) d) _ _ = _
      rw [bnd_of e0, bnd_of h1, if_pos hp, bnd_of (h2 hp), if_pos (by omega), e]
      simp [List.filter_cons, hp]
    · have hp' : p d = false := by simpa using hp
      obtain ⟨x', e⟩ := lcGo_pure hi ds acc (some (.f d)) (fun d' hd => h d' (List.mem_cons_of_mem _ hd)) (by omega)
      refine ⟨x', ?_⟩
      show bnd (asgT (.nm i) d) _ _ = _
      rw [bnd_of e0, bnd_of h1, hp', if_neg Bool.false_ne_true, e]
      simp [List.filter_cons, hp']
theorem backR_set {x : Option DV} : backR r (r.set i x) [i] = r := by
  unfold backR
  cases e : r[i]? with
  | none =>
    show (r.set i x) = r
    exact List.set_eq_of_length_le (List.getElem?_eq_none_iff.mp e)
  | some v =>
    show ((r.set i x).set i v) = r
    rw [List.set_set]
    obtain ⟨h, e'⟩ := List.getElem?_eq_some_iff.mp e
    rw [← e', List.set_getElem_self]
theorem lc_pure {T : Tab} {Φ : Fns} {k : ItK} {a b c e : E} {xs : D} {y : DV} {v : DV} {ds : List D} {p : D → Bool} {f : D → D} (hi : i < r.length)
    (h1 : evE T Φ a ⟨r, g⟩ = .ok v ⟨r, g⟩) (h2 : srcM b (evE T Φ b) ⟨r, g⟩ = .ok y ⟨r, g⟩) {dy : D} (hv : frz v ⟨r, g⟩ = .ok xs ⟨r, g⟩) (hy : frz y ⟨r, g⟩ = .ok dy ⟨r, g⟩) (h3 : itemsD k xs dy = some ds)
    (h : ∀ d ∈ ds, tstM c (evE T Φ c) ⟨r.set i (some (.f d)), g⟩ = .ok (p d) ⟨r.set i (some (.f d)), g⟩ ∧ (p d = true → bnd (evE T Φ e) frz ⟨r.set i (some (.f d)), g⟩ = .ok (f d) ⟨r.set i (some (.f d)), g⟩)) (hl : ds.length ≤ lim) :
    evE T Φ (.lc [i] (.nm i) k a b c e) ⟨r, g⟩ = .ok (.o ((ds.filter p).map f)) ⟨r, g⟩ := by
  have hr : r.set i r[i] = r := List.set_getElem_self hi
  obtain ⟨x', e'⟩ := lcGo_pure hi ds [] r[i] h (by simpa using hl)
  rw [hr, List.nil_append] at e'
  show bnd (evE T Φ a) _ _ = _
  rw [bnd_of h1, bnd_of h2, bnd_of hv, bnd_of hy, h3]
  show (match noExc (lcGo [i] (asgT (.nm i)) (tstM c (evE T Φ c)) (bnd (evE T Φ e) frz) ds []) ⟨r, g⟩ with
    | .ok ys s' => Res.ok (DV.o ys) { s' with r := backR r s'.r [i] }
    | _ => .stuck) = _
  unfold noExc
  rw [e']
  show Res.ok _ (S.mk (backR r (r.set i x') [i]) g) = _
  rw [backR_set]
end
section
variable {T : Tab} {Φ : Fns} {s : S} {a b : E} {da db : D} {v : DV} {o : BOp}
theorem ev_bin (ha : evE T Φ a s = .ok (.f da) s) (hb : evE T Φ b s = .ok (.f db) s) (h : binD o da db = some v) : evE T Φ (.bin o a b) s = .ok v s := by
  show bnd (evE T Φ a) _ _ = _
  rw [bnd_of ha, bnd_of hb]
  show opt (binD o da db) s = _
  rw [h]
  rfl
theorem ev_cmp1 {o : COp} {k : Bool} (ha : evE T Φ a s = .ok (.f da) s) (hb : evE T Φ b s = .ok (.f db) s) (h : cmpD o da db = some k) : evE T Φ (.cmp o a b) s = .ok (.f (.bl k)) s := by
  show bnd (evE T Φ a) _ _ = _
  rw [bnd_of ha, bnd_of hb]
  show bnd (opt (cmpD o da db)) _ s = _
  rw [h]
  rfl
theorem ev_blt1 {f : Blt} (ha : evE T Φ a s = .ok (.f da) s) (h : bltD f [da] = some v) : evE T Φ (.blt f [a]) s = .ok v s := by
  show bnd (bnd (evE T Φ a) _) _ _ = _
  have e : bnd (evE T Φ a) (fun x => bnd (evEs T Φ []) fun vs => ret (x :: vs)) s = .ok [.f da] s := by
    rw [bnd_of ha]
    rfl
  rw [bnd_of e]
  show opt (bltD f [da]) s = _
  rw [h]
  rfl
theorem evS_set {i : Nat} {d : D} (ha : evE T Φ a s = .ok (.f d) s) (hi : i < s.r.length) : evS T Φ (.set i a) s = .ok .nx ⟨s.r.set i (some (.f d)), s.g⟩ := by
  show bnd (evE T Φ a) _ _ = _
  rw [bnd_of ha]
  show bnd (setR i (.f d)) _ s = _
  have e : setR i (.f d) s = .ok () ⟨s.r.set i (some (.f d)), s.g⟩ := by
    unfold setR
    rw [if_pos hi]
  rw [bnd_of e]
  rfl
end
/-- a loop by an invariant of what is left -/
theorem forGo_inv {st : D → M Unit} {body : M Fl} (I : List D → S → Prop) (h : ∀ d ds s, I (d :: ds) s → ∃ s1 s2, st d s = .ok () s1 ∧ body s1 = .ok .nx s2 ∧ I ds s2) : ∀ (ds : List D) (s : S), I ds s → ∃ s', forGo st body ds s = .ok .nx s' ∧ I [] s'
  | [], s, hI => ⟨s, rfl, hI⟩
  | d :: ds, s, hI => by
    obtain ⟨s1, s2, e1, e2, h2⟩ := h d ds s hI
    obtain ⟨s', e3, h3⟩ := forGo_inv I h ds s2 h2
    refine ⟨s', ?_, h3⟩
    show bnd (st d) _ s = _
    rw [bnd_of e1, bnd_of e2]
    exact e3
/-- a while by a measure -/
theorem whileGo_inv {c : M Bool} {body : M Fl} (I : Nat → S → Prop) (h : ∀ m s, I m s → (∃ s1, c s = .ok false s1 ∧ I 0 s1) ∨ ∃ s1 s2 m', c s = .ok true s1 ∧ body s1 = .ok .nx s2 ∧ m' < m ∧ I m' s2) (P : S → Prop)
    (hP : ∀ m s s1, I m s → c s = .ok false s1 → P s1) : ∀ (n m : Nat) (s : S), m < n → I m s → ∃ s', whileGo c body n s = .ok .nx s' ∧ P s'
  | 0, m, s, hm, _ => absurd hm (Nat.not_lt_zero _)
  | n + 1, m, s, hm, hI => by
    rcases h m s hI with ⟨s1, e, _⟩ | ⟨s1, s2, m', e1, e2, hlt, h2⟩
    · refine ⟨s1, ?_, hP m s s1 hI e⟩
      show bnd c _ s = _
      rw [bnd_of e]
      rfl
    · obtain ⟨s', e3, h3⟩ := whileGo_inv I h P hP n m' s2 (by omega) h2
      refine ⟨s', ?_, h3⟩
      show bnd c _ s = _
      rw [bnd_of e1, if_pos rfl, bnd_of e2]
      exact e3
/-! ### a calculus -/
/-- a def gives v from ds, the deal going from g to g' -/
def Ret (T : Tab) (fns : List Fn) (n f : Nat) (ds : List D) (g : G) (v : DV) (g' : G) : Prop := ∃ r, callD T fns n f ds g = .ok v ⟨r, g'⟩
section
variable {T : Tab} {fns : List Fn} {Φ : Fns} {s s1 s2 : S} {a b e : E} {d da db : D} {v w x : DV} {n f m p : Nat} {ds : List D} {g g' : G} {st : Sm} {ss : List Sm} {es : List E}
theorem evS_ret (h : evE T Φ e s = .ok v s1) (h2 : moveOut v s1 = .ok w s1) : evS T Φ (.ret e) s = .ok (.rt w) s1 := by
  show bnd (evE T Φ e) _ _ = _
  rw [bnd_of h, bnd_of h2]
  rfl
theorem evSs_nx (h : evS T Φ st s = .ok .nx s1) : evSs T Φ (st :: ss) s = evSs T Φ ss s1 := by
  show bnd (evS T Φ st) _ _ = _
  rw [bnd_of h]
theorem evSs_rt (h : evS T Φ st s = .ok (.rt v) s1) : evSs T Φ (st :: ss) s = .ok (.rt v) s1 := by
  show bnd (evS T Φ st) _ _ = _
  rw [bnd_of h]
  rfl
theorem ev_blt {fb : Blt} (h : evE T Φ a s = .ok x s1) (h2 : look x s1 = .ok d s1) (h3 : bltD fb [d] = some v) : evE T Φ (.blt fb [a]) s = .ok v s1 := by
  have e : evEs T Φ [a] s = .ok [x] s1 := by
    show bnd (evE T Φ a) _ _ = _
    rw [bnd_of h]
    rfl
  have e2 : looks [x] s1 = .ok [d] s1 := by
    show bnd (look x) _ _ = _
    rw [bnd_of h2]
    rfl
  show bnd (evEs T Φ [a]) _ _ = _
  rw [bnd_of e, bnd_of e2, h3]
  rfl
theorem ev_ix {i : E} {di : D} (h : evE T Φ a s = .ok x s1) (h2 : evE T Φ i s1 = .ok w s2) (h3 : look x s2 = .ok da s2) (h4 : look w s2 = .ok di s2) (h5 : ixD da di = some d) : evE T Φ (.ix a i) s = .ok (.f d) s2 := by
  show bnd (evE T Φ a) _ _ = _
  rw [bnd_of h, bnd_of h2, bnd_of h3, bnd_of h4, h5]
  rfl
theorem ev_cmp {o : COp} {k : Bool} (h : evE T Φ a s = .ok x s1) (h2 : evE T Φ b s1 = .ok w s2) (h3 : look x s2 = .ok da s2) (h4 : look w s2 = .ok db s2) (h5 : cmpD o da db = some k) : evE T Φ (.cmp o a b) s = .ok (.f (.bl k)) s2 := by
  show bnd (evE T Φ a) _ _ = _
  rw [bnd_of h, bnd_of h2, bnd_of h3, bnd_of h4, h5]
  rfl
theorem ev_bin2 {o : BOp} (h : evE T Φ a s = .ok x s1) (h2 : evE T Φ b s1 = .ok w s2) (h3 : look x s2 = .ok da s2) (h4 : look w s2 = .ok db s2) (h5 : binD o da db = some v) : evE T Φ (.bin o a b) s = .ok v s2 := by
  show bnd (evE T Φ a) _ _ = _
  rw [bnd_of h, bnd_of h2, bnd_of h3, bnd_of h4, h5]
  rfl
theorem evEs_nil : evEs T Φ [] s = .ok [] s := rfl
theorem evEs_cons {vs : List DV} (h : evE T Φ e s = .ok v s1) (h2 : evEs T Φ es s1 = .ok vs s2) : evEs T Φ (e :: es) s = .ok (v :: vs) s2 := by
  show bnd (evE T Φ e) _ _ = _
  rw [bnd_of h, bnd_of h2]
  rfl
theorem ev_call {vs : List DV} (h : evEs T (callD T fns n) es s = .ok vs s1) (h2 : frzs vs s1 = .ok ds s2) (h3 : Ret T fns n f ds s2.g v g') : evE T (callD T fns n) (.call f es) s = .ok v { s2 with g := g' } := by
  obtain ⟨r, h3⟩ := h3
  show bnd (evEs T (callD T fns n) es) _ _ = _
  rw [bnd_of h, bnd_of h2]
  show callM (callD T fns n) f ds s2 = _
  unfold callM
  rw [h3]
theorem ev_make {vs : List DV} (h : evEs T (callD T fns n) es s = .ok vs s1) (h2 : frzs vs s1 = .ok ds s2) (h3 : Ret T fns n f ds s2.g v g') : evE T (callD T fns n) (.make f es) s = .ok v { s2 with g := g' } := ev_call h h2 h3
theorem ev_callk {js : List Nat} {ds' : List D} {vs : List DV} (h : evEs T (callD T fns n) es s = .ok vs s1) (h2 : frzs vs s1 = .ok ds s2) (hp : permD js ds = some ds') (h3 : Ret T fns n f ds' s2.g v g') : evE T (callD T fns n) (.callk f js es) s = .ok v { s2 with g := g' } := by
  obtain ⟨r, h3⟩ := h3
  show bnd (evEs T (callD T fns n) es) _ _ = _
  rw [bnd_of h, bnd_of h2, hp]
  show callM (callD T fns n) f ds' s2 = _
  unfold callM
  rw [h3]
theorem ret_body {bd : List Sm} (hf : fns[f]? = some (.body m p bd)) (hl : ds.length = p) (hp : p ≤ m) {r : List (Option DV)} (h : evSs T (callD T fns n) bd ⟨startR m ds, g⟩ = .ok (.rt v) ⟨r, g'⟩) : Ret T fns (n + 1) f ds g v g' := by
  refine ⟨r, ?_⟩
  show (match fns[f]? with | some fn => runFn T (callD T fns n) fn ds g | none => .stuck) = _
  rw [hf]
  show (if ds.length = p ∧ p ≤ m then _ else _) = _
  rw [if_pos ⟨hl, hp⟩, h]
theorem ret_body_nx {bd : List Sm} (hf : fns[f]? = some (.body m p bd)) (hl : ds.length = p) (hp : p ≤ m) {r : List (Option DV)} (h : evSs T (callD T fns n) bd ⟨startR m ds, g⟩ = .ok .nx ⟨r, g'⟩) : Ret T fns (n + 1) f ds g (.f .non) g' := by
  refine ⟨r, ?_⟩
  show (match fns[f]? with | some fn => runFn T (callD T fns n) fn ds g | none => .stuck) = _
  rw [hf]
  show (if ds.length = p ∧ p ≤ m then _ else _) = _
  rw [if_pos ⟨hl, hp⟩, h]
theorem ret_any {k : Int} {gg : List Int × Int} (hf : fns[f]? = some .any) (hk : 0 < k) (hk2 : k.natAbs.log2 < 9000) : Ret T fns (n + 1) f [.deal, .int k] (some gg) (.f (.int (anyD k gg).1)) (some (anyD k gg).2) := by
  refine ⟨[], ?_⟩
  show (match fns[f]? with | some fn => runFn T (callD T fns n) fn [.deal, .int k] (some gg) | none => .stuck) = _
  rw [hf]
  show (if 0 < k ∧ k.natAbs.log2 < 9000 then _ else _) = _
  rw [if_pos ⟨hk, hk2⟩]
theorem anyD_lt {k : Int} (hk : 0 < k) (gg : List Int × Int) : 0 ≤ (anyD k gg).1 ∧ (anyD k gg).1 < k := by
  obtain ⟨cs, b⟩ := gg
  have hk' : k ≠ 0 := by omega
  show 0 ≤ (match (dropZ cs).getLast? with
    | some x => (x % k, (dropZ cs).dropLast ++ [x / k], b)
    | none => ((b * 40693 + 71) % 2147483647 / 64 % k, [], (b * 40693 + 71) % 2147483647)).1 ∧ (match (dropZ cs).getLast? with
    | some x => (x % k, (dropZ cs).dropLast ++ [x / k], b)
    | none => ((b * 40693 + 71) % 2147483647 / 64 % k, [], (b * 40693 + 71) % 2147483647)).1 < k
  cases (dropZ cs).getLast? with
  | none => exact ⟨Int.emod_nonneg _ hk', Int.emod_lt_of_pos _ hk⟩
  | some x => exact ⟨Int.emod_nonneg _ hk', Int.emod_lt_of_pos _ hk⟩
end
end DI

end
section
set_option Elab.async false
set_option linter.all false
set_option maxRecDepth 100000
set_option maxHeartbeats 4000000
/-! DP2: plain laws of data programs, more. Own text. -/
namespace DI
open PySem (Str PyData)
theorem FU_gt {k : Nat} (h : k ≤ 2 ^ 100) : k < FU := by
  have : (2 : Nat) ^ 100 < 2 ^ 200 := by decide
  unfold FU
  omega
theorem cnd_of {T : Tab} {Φ : Fns} {e : E} {s s1 : S} {k : Bool} (h : evE T Φ e s = .ok (.f (.bl k)) s1) : bnd (evE T Φ e) bool? s = .ok k s1 := by
  rw [bnd_of h]
  rfl
theorem while_go {C : M Bool} {B : M Fl} (st : Nat → S) {b : Nat} (hb : C (st b) = .ok false (st b)) : ∀ (n k : Nat), b - k < n → k ≤ b → (∀ j, k ≤ j → j < b → C (st j) = .ok true (st j) ∧ B (st j) = .ok .nx (st (j + 1))) → whileGo C B n (st k) = .ok .nx (st b)
  | 0, k, hn, _, _ => absurd hn (Nat.not_lt_zero _)
  | n + 1, k, hn, hk, h => by
    by_cases e : k = b
    · subst e
      show bnd C _ _ = _
      rw [bnd_of hb]
      rfl
    · have h1 := h k (Nat.le_refl _) (by omega)
      show bnd C _ _ = _
      rw [bnd_of h1.1, if_pos rfl, bnd_of h1.2]
      exact while_go st hb n (k + 1) (by omega) (by omega) fun j hj => h j (by omega)
/-- a while that counts up -/
theorem while_up {T : Tab} {Φ : Fns} {c : E} {body : List Sm} (st : Nat → S) {a b : Nat} (hab : a ≤ b) (hF : b - a < FU) (hb : evE T Φ c (st b) = .ok (.f (.bl false)) (st b))
    (h : ∀ k, a ≤ k → k < b → evE T Φ c (st k) = .ok (.f (.bl true)) (st k) ∧ evSs T Φ body (st k) = .ok .nx (st (k + 1))) : evS T Φ (.while c body) (st a) = .ok .nx (st b) :=
  while_go st (cnd_of hb) FU a hF hab fun j h1 h2 => ⟨cnd_of (h j h1 h2).1, (h j h1 h2).2⟩
/-- a store of several names, all frozen -/
theorem evS_par {T : Tab} {Φ : Fns} {ts : List TX} {es : List E} {vs ws : List DV} {s s1 s2 s3 : S} (h : evEs T Φ es s = .ok vs s1) (h2 : settle vs s1 = .ok ws s2) (h3 : asgXs T Φ ts ws s2 = .ok () s3) : evS T Φ (.par ts es) s = .ok .nx s3 := by
  show bnd (evEs T Φ es) _ _ = _
  rw [bnd_of h, bnd_of h2, bnd_of h3]
  rfl
theorem evS_setK {T : Tab} {Φ : Fns} {i : Nat} {e : E} {v : DV} {s s1 s2 : S} (h : evE T Φ e s = .ok v s1) (h2 : keep i v s1 = .ok () s2) : evS T Φ (.set i e) s = .ok .nx s2 := by
  show bnd (evE T Φ e) _ _ = _
  rw [bnd_of h, bnd_of h2]
  rfl
theorem evS_expr {T : Tab} {Φ : Fns} {e : E} {v : DV} {s s1 : S} (h : evE T Φ e s = .ok v s1) : evS T Φ (.expr e) s = .ok .nx s1 := by
  show bnd (evE T Φ e) _ _ = _
  rw [bnd_of h]
  rfl
theorem evS_ifs {T : Tab} {Φ : Fns} {c : E} {a b : List Sm} {k : Bool} {s s1 : S} (h : evE T Φ c s = .ok (.f (.bl k)) s1) : evS T Φ (.ifs c a b) s = if k then evSs T Φ a s1 else evSs T Φ b s1 := by
  show bnd (evE T Φ c) _ _ = _
  rw [bnd_of h]
  show bnd (ret k) _ _ = _
  rw [bnd_of (show ret k s1 = .ok k s1 from rfl)]
  cases k <;> rfl
theorem evS_for {T : Tab} {Φ : Fns} {t : Tg} {k : ItK} {a b : E} {body : List Sm} {s s1 s2 s3 s4 : S} {v y : DV} {dx dy : D} {ds : List D} (ha : evE T Φ a s = .ok v s1) (hb : srcM b (evE T Φ b) s1 = .ok y s2) (hv : frz v s2 = .ok dx s3) (hy : frz y s3 = .ok dy s4) (hi : itemsD k dx dy = some ds) :
    evS T Φ (.for t k a b body) s = forGo (asgT t) (evSs T Φ body) ds s4 := by
  show bnd (evE T Φ a) _ _ = _
  rw [bnd_of ha, bnd_of hb, bnd_of hv, bnd_of hy, hi]
  rfl
/-- a for, turn by turn; what the names of the turn hold does not matter -/
theorem forGo_st {σ : Type} {st : D → M Unit} {body : M Fl} (f : Nat → σ → S) : ∀ (ds : List D) (j : Nat) (x : σ), (∀ k (h : k < ds.length) x, ∃ s1 x', st ds[k] (f (j + k) x) = .ok () s1 ∧ body s1 = .ok .nx (f (j + k + 1) x')) → ∃ x', forGo st body ds (f j x) = .ok .nx (f (j + ds.length) x')
  | [], j, x, _ => ⟨x, rfl⟩
  | d :: ds, j, x, h => by
    obtain ⟨s1, x1, e1, e2⟩ := h 0 (Nat.zero_lt_succ _) x
    obtain ⟨x2, e3⟩ := forGo_st f ds (j + 1) x1 (fun k hk y => by
      have := h (k + 1) (Nat.succ_lt_succ hk) y
      rw [show j + (k + 1) = j + 1 + k by omega] at this
      exact this)
    refine ⟨x2, ?_⟩
    show bnd (st d) _ _ = _
    have e1' : st d (f j x) = .ok () s1 := e1
    have e2' : body s1 = .ok .nx (f (j + 1) x1) := e2
    rw [bnd_of e1', bnd_of e2', List.length_cons, show j + (ds.length + 1) = j + 1 + ds.length by omega]
    exact e3
theorem rngI_eq (m : Nat) : rngI 0 (m : Int) = (List.range m).map fun (i : Nat) => D.int (i : Int) := by
  unfold rngI
  rw [show ((m : Int) - 0).toNat = m by omega]
  exact List.map_congr_left fun i _ => by rw [Int.zero_add]
theorem items_rng {m : Int} (h0 : -100 ≤ m) (h : m ≤ 2 ^ 61) : itemsD .rng (.int 0) (.int m) = some (rngI 0 m) := by
  have e : (bnd62 0 && bnd62 m) = true := by
    simp only [bnd62, Bool.and_eq_true, decide_eq_true_eq]
    omega
  show (if bnd62 0 && bnd62 m then some (rngI 0 m) else none) = _
  rw [if_pos e]
/-- for i in range(m), i a plain name -/
theorem for_rng {σ : Type} {T : Tab} {Φ : Fns} {t : Tg} {a b : E} {body : List Sm} (f : Nat → σ → S) {m : Nat} (x : σ) (hm : m ≤ 2 ^ 61) {s : S} {v y : DV} (ha : evE T Φ a s = .ok v s) (hb : srcM b (evE T Φ b) s = .ok y (f 0 x)) (hv : frz v (f 0 x) = .ok (.int 0) (f 0 x)) (hy : frz y (f 0 x) = .ok (.int (m : Int)) (f 0 x))
    (h : ∀ k x, k < m → ∃ s1 x', asgT t (.int (k : Int)) (f k x) = .ok () s1 ∧ evSs T Φ body s1 = .ok .nx (f (k + 1) x')) : ∃ x', evS T Φ (.for t .rng a b body) s = .ok .nx (f m x') := by
  obtain ⟨x', e⟩ := forGo_st (st := asgT t) (body := evSs T Φ body) f ((List.range m).map fun (i : Nat) => D.int (i : Int)) 0 x (fun k hk y => by
    rw [List.length_map, List.length_range] at hk
    rw [List.getElem_map, List.getElem_range, Nat.zero_add]
    exact h k y hk)
  rw [List.length_map, List.length_range, Nat.zero_add] at e
  exact ⟨x', (evS_for ha hb hv hy (by rw [items_rng (by omega) (by omega), rngI_eq])).trans e⟩
/-- a comprehension whose source is frozen as it is read -/
theorem lc_pure2 {i : Nat} {r : List (Option DV)} {g : G} {T : Tab} {Φ : Fns} {k : ItK} {a b c e : E} {xs : D} {y : DV} {v : DV} {ds : List D} {p : D → Bool} {f : D → D} {s0 s1 s2 s3 : S} (hi : i < r.length)
    (h1 : evE T Φ a s0 = .ok v s1) (h2 : srcM b (evE T Φ b) s1 = .ok y s2) {dy : D} (hv : frz v s2 = .ok xs s3) (hy : frz y s3 = .ok dy ⟨r, g⟩) (h3 : itemsD k xs dy = some ds)
    (h : ∀ d ∈ ds, tstM c (evE T Φ c) ⟨r.set i (some (.f d)), g⟩ = .ok (p d) ⟨r.set i (some (.f d)), g⟩ ∧ (p d = true → bnd (evE T Φ e) frz ⟨r.set i (some (.f d)), g⟩ = .ok (f d) ⟨r.set i (some (.f d)), g⟩)) (hl : ds.length ≤ lim) :
    evE T Φ (.lc [i] (.nm i) k a b c e) s0 = .ok (.o ((ds.filter p).map f)) ⟨r, g⟩ := by
  have hr : r.set i r[i] = r := List.set_getElem_self hi
  obtain ⟨x', e'⟩ := lcGo_pure hi ds [] r[i] h (by simpa using hl)
  rw [hr, List.nil_append] at e'
  show bnd (evE T Φ a) _ _ = _
  rw [bnd_of h1, bnd_of h2, bnd_of hv, bnd_of hy, h3]
  show (match noExc (lcGo [i] (asgT (.nm i)) (tstM c (evE T Φ c)) (bnd (evE T Φ e) frz) ds []) ⟨r, g⟩ with
    | .ok ys s' => Res.ok (DV.o ys) { s' with r := backR r s'.r [i] }
    | _ => .stuck) = _
  unfold noExc
  rw [e']
  show Res.ok _ (S.mk (backR r (r.set i x') [i]) g) = _
  rw [backR_set]
theorem whileGo_start {C : M Bool} {B : M Fl} {s s' : S} (h : C s = C s') : ∀ n, whileGo C B n s = whileGo C B n s'
  | 0 => rfl
  | n + 1 => by
    show bnd C _ s = bnd C _ s'
    unfold bnd
    rw [h]
/-- a while that counts up, its list frozen by the first test -/
theorem while_up2 {T : Tab} {Φ : Fns} {c : E} {body : List Sm} (st : Nat → S) {s : S} {a b : Nat} (hs : evE T Φ c s = evE T Φ c (st a)) (hab : a ≤ b) (hF : b - a < FU) (hb : evE T Φ c (st b) = .ok (.f (.bl false)) (st b))
    (h : ∀ k, a ≤ k → k < b → evE T Φ c (st k) = .ok (.f (.bl true)) (st k) ∧ evSs T Φ body (st k) = .ok .nx (st (k + 1))) : evS T Φ (.while c body) s = .ok .nx (st b) :=
  (whileGo_start (by unfold bnd; rw [hs]) FU).trans (while_up st hab hF hb h)
end DI

end
section
set_option Elab.async false
set_option linter.all false
set_option maxRecDepth 100000
set_option maxHeartbeats 4000000
/-! PM: one-to-one tables of states, as lists. Plain Lean, own text. -/
namespace PM
/-- first one, then other -/
def comp (one other : List Nat) : List Nat := one.map fun s => other.getD s 0
structure IsP (m : Nat) (xs : List Nat) : Prop where
  len : xs.length = m
  lt : ∀ s ∈ xs, s < m
  nd : xs.Nodup
def idP (m : Nat) : List Nat := List.range m
theorem card_le : ∀ (N : Nat) (l : List Nat), l.Nodup → (∀ x ∈ l, x < N) → l.length ≤ N
  | 0, l, _, h => by
    cases l with
    | nil => exact Nat.le_refl _
    | cons x l => exact absurd (h x List.mem_cons_self) (Nat.not_lt_zero _)
  | N + 1, l, nd, h => by
    have ih := card_le N (l.erase N) (nd.erase N) fun x hx => by
      have h1 := (List.Nodup.mem_erase_iff nd).mp hx
      have h2 := h x h1.2
      omega
    by_cases hm : N ∈ l
    · rw [List.length_erase_of_mem hm] at ih
      omega
    · rw [List.erase_of_not_mem hm] at ih
      omega
theorem IsP.id (m : Nat) : IsP m (idP m) := ⟨List.length_range, fun s hs => List.mem_range.mp hs, List.nodup_range⟩
/-- every state is met -/
theorem IsP.all {m : Nat} {xs : List Nat} (h : IsP m xs) {s : Nat} (hs : s < m) : s ∈ xs := by
  by_cases hm : s ∈ xs
  · exact hm
  · exfalso
    have q := card_le m (s :: xs) (List.nodup_cons.mpr ⟨hm, h.nd⟩) fun x hx => by
      rcases List.mem_cons.mp hx with rfl | hx
      · exact hs
      · exact h.lt x hx
    rw [List.length_cons, h.len] at q
    omega
theorem getD_eq {xs : List Nat} {i : Nat} (h : i < xs.length) : xs.getD i 0 = xs[i] := by
  rw [List.getD_eq_getElem?_getD, List.getElem?_eq_getElem h]
  rfl
theorem IsP.get_lt {m : Nat} {xs : List Nat} (h : IsP m xs) {s : Nat} (hs : s < m) : xs.getD s 0 < m := by
  rw [getD_eq (by rw [h.len]; exact hs)]
  exact h.lt _ (List.getElem_mem _)
theorem IsP.inj {m : Nat} {xs : List Nat} (h : IsP m xs) {s t : Nat} (hs : s < m) (ht : t < m) (e : xs.getD s 0 = xs.getD t 0) : s = t := by
  have hs' : s < xs.length := by rw [h.len]; exact hs
  have ht' : t < xs.length := by rw [h.len]; exact ht
  rw [getD_eq hs', getD_eq ht'] at e
  exact (List.getElem_inj h.nd).mp e
theorem comp_len {a b : List Nat} : (comp a b).length = a.length := List.length_map ..
theorem comp_get {a b : List Nat} {i : Nat} (h : i < a.length) : (comp a b).getD i 0 = b.getD (a.getD i 0) 0 := by
  rw [getD_eq (by rw [comp_len]; exact h), getD_eq h]
  unfold comp
  rw [List.getElem_map]
theorem ext {a b : List Nat} (hl : a.length = b.length) (h : ∀ i, i < a.length → a.getD i 0 = b.getD i 0) : a = b := by
  refine List.ext_getElem hl fun i h1 h2 => ?_
  have q := h i h1
  rw [getD_eq h1, getD_eq h2] at q
  exact q
theorem IsP.comp {m : Nat} {a b : List Nat} (ha : IsP m a) (hb : IsP m b) : IsP m (comp a b) := by
  refine ⟨by rw [comp_len, ha.len], fun s hs => ?_, ?_⟩
  · obtain ⟨t, ht, rfl⟩ := List.mem_map.mp hs
    exact hb.get_lt (ha.lt t ht)
  · unfold PM.comp
    exact List.pairwise_map.mpr (List.Pairwise.imp_of_mem (fun hx hy ne e => ne (hb.inj (ha.lt _ hx) (ha.lt _ hy) e)) ha.nd)
theorem comp_assoc {m : Nat} {a b c : List Nat} (ha : IsP m a) (hb : IsP m b) : comp (comp a b) c = comp a (comp b c) := by
  refine ext (by rw [comp_len, comp_len, comp_len]) fun i hi => ?_
  rw [comp_len, comp_len] at hi
  have h1 : a.getD i 0 < m := ha.get_lt (by rw [← ha.len]; exact hi)
  rw [comp_get (by rw [comp_len]; exact hi), comp_get hi, comp_get hi, comp_get (by rw [hb.len]; exact h1)]
theorem id_get {m i : Nat} (h : i < m) : (idP m).getD i 0 = i := by
  rw [getD_eq (by rw [(IsP.id m).len]; exact h)]
  unfold idP
  rw [List.getElem_range]
theorem id_comp {m : Nat} {a : List Nat} (ha : IsP m a) : comp (idP m) a = a := by
  refine ext (by rw [comp_len, (IsP.id m).len, ha.len]) fun i hi => ?_
  rw [comp_len, (IsP.id m).len] at hi
  rw [comp_get (by rw [(IsP.id m).len]; exact hi), id_get hi]
theorem comp_id {m : Nat} {a : List Nat} (ha : IsP m a) : comp a (idP m) = a := by
  refine ext comp_len fun i hi => ?_
  rw [comp_len] at hi
  rw [comp_get hi, id_get (ha.get_lt (by rw [← ha.len]; exact hi))]
theorem cancel_r {m : Nat} {a b c : List Nat} (ha : IsP m a) (hb : IsP m b) (hc : IsP m c) (e : comp a c = comp b c) : a = b := by
  refine ext (by rw [ha.len, hb.len]) fun i hi => ?_
  have hi' : i < m := by rw [← ha.len]; exact hi
  have q : (PM.comp a c).getD i 0 = (PM.comp b c).getD i 0 := by rw [e]
  rw [comp_get hi, comp_get (by rw [hb.len]; exact hi')] at q
  exact hc.inj (ha.get_lt hi') (hb.get_lt hi') q
theorem cancel_l {m : Nat} {a b c : List Nat} (ha : IsP m a) (hb : IsP m b) (hc : IsP m c) (e : comp c a = comp c b) : a = b := by
  refine ext (by rw [ha.len, hb.len]) fun i hi => ?_
  have hi' : i < m := by rw [← ha.len]; exact hi
  obtain ⟨j, hj, ej⟩ := List.getElem_of_mem (hc.all hi')
  have q : (PM.comp c a).getD j 0 = (PM.comp c b).getD j 0 := by rw [e]
  rw [comp_get hj, comp_get hj, getD_eq hj, ej] at q
  exact q
/-! ### powers -/
def pow (m : Nat) (x : List Nat) : Nat → List Nat
  | 0 => idP m
  | k + 1 => comp (pow m x k) x
section
variable {m : Nat} {x y : List Nat}
theorem IsP.pow (h : IsP m x) : ∀ k, IsP m (pow m x k)
  | 0 => IsP.id m
  | k + 1 => (IsP.pow h k).comp h
theorem pow_add (h : IsP m x) (a : Nat) : ∀ b, pow m x (a + b) = comp (pow m x a) (pow m x b)
  | 0 => (comp_id (h.pow a)).symm
  | b + 1 => by
    show comp (pow m x (a + b)) x = comp (pow m x a) (comp (pow m x b) x)
    rw [pow_add h a b, comp_assoc (h.pow a) (h.pow b)]
theorem pow_one (h : IsP m x) : pow m x 1 = x := id_comp h
theorem pow_comm (h : IsP m x) (a b : Nat) : comp (pow m x a) (pow m x b) = comp (pow m x b) (pow m x a) := by
  rw [← pow_add h, ← pow_add h, Nat.add_comm]
/-- a table as a number -/
def enc (m : Nat) : List Nat → Nat
  | [] => 0
  | s :: r => s + m * enc m r
theorem enc_lt : ∀ l : List Nat, (∀ s ∈ l, s < m) → enc m l < m ^ l.length
  | [], _ => by simp [enc]
  | s :: r, h => by
    have ih := enc_lt r fun t ht => h t (List.mem_cons_of_mem _ ht)
    have hs := h s List.mem_cons_self
    have h1 : enc m r + 1 ≤ m ^ r.length := ih
    have h2 : m * (enc m r + 1) ≤ m * m ^ r.length := Nat.mul_le_mul_left _ h1
    rw [List.length_cons, Nat.pow_succ, Nat.mul_comm (m ^ r.length) m]
    show s + m * enc m r < _
    rw [Nat.mul_add, Nat.mul_one] at h2
    omega
theorem enc_inj : ∀ {l k : List Nat}, l.length = k.length → (∀ s ∈ l, s < m) → (∀ s ∈ k, s < m) → enc m l = enc m k → l = k
  | [], [], _, _, _, _ => rfl
  | s :: r, t :: q, hl, h1, h2, e => by
    have a1 := h1 s List.mem_cons_self
    have a2 := h2 t List.mem_cons_self
    have e' : s + m * enc m r = t + m * enc m q := e
    have hm : 0 < m := by omega
    have e1 : s = t := by
      have := congrArg (· % m) e'
      simp only [Nat.add_mul_mod_self_left] at this
      rw [Nat.mod_eq_of_lt a1, Nat.mod_eq_of_lt a2] at this
      exact this
    subst e1
    have e2 : enc m r = enc m q := Nat.eq_of_mul_eq_mul_left hm (by omega)
    rw [enc_inj (by simpa using hl) (fun u hu => h1 u (List.mem_cons_of_mem _ hu)) (fun u hu => h2 u (List.mem_cons_of_mem _ hu)) e2]
  | [], _ :: _, h, _, _, _ => by simp at h
  | _ :: _, [], h, _, _, _ => by simp at h
/-- some power is the identity -/
theorem has_order (h : IsP m x) : ∃ k, 0 < k ∧ k ≤ m ^ m ∧ pow m x k = idP m := by
  by_cases hn : ((List.range (m ^ m + 1)).map fun k => enc m (pow m x k)).Nodup
  · exfalso
    have q := card_le (m ^ m) _ hn fun y hy => by
      obtain ⟨k, _, rfl⟩ := List.mem_map.mp hy
      have := enc_lt (m := m) (pow m x k) (h.pow k).lt
      rw [(h.pow k).len] at this
      exact this
    rw [List.length_map, List.length_range] at q
    omega
  · -- two powers coincide
    have hex : ∃ i j, i < j ∧ j < m ^ m + 1 ∧ enc m (pow m x i) = enc m (pow m x j) := by
      by_cases hc : ∃ i j, i < j ∧ j < m ^ m + 1 ∧ enc m (pow m x i) = enc m (pow m x j)
      · exact hc
      · exfalso
        refine hn (List.pairwise_iff_getElem.mpr fun i j hi hj hij e => hc ⟨i, j, hij, by simpa using hj, ?_⟩)
        simpa using e
    obtain ⟨i, j, hij, hj, e⟩ := hex
    have e2 := enc_inj (by rw [(h.pow i).len, (h.pow j).len]) (h.pow i).lt (h.pow j).lt e
    refine ⟨j - i, by omega, by omega, ?_⟩
    have e3 : j = i + (j - i) := by omega
    rw [e3, pow_add h] at e2
    exact (cancel_l (IsP.id m) (h.pow _) (h.pow i) (by rw [comp_id (h.pow i)]; exact e2)).symm
end
end PM

end
section
set_option Elab.async false
set_option linter.all false
set_option maxRecDepth 100000
set_option maxHeartbeats 4000000
/-! PM2: orders, whole powers, what commutes. Plain Lean, own text. -/
namespace PM
theorem least {P : Nat → Prop} : ∀ n, P n → ∃ k, P k ∧ k ≤ n ∧ ∀ j, j < k → ¬ P j := by
  intro n
  induction n using Nat.strongRecOn with
  | ind n ih =>
    intro hn
    by_cases h : ∃ j, j < n ∧ P j
    · obtain ⟨j, hj, hp⟩ := h
      obtain ⟨k, h1, h2, h3⟩ := ih j hj hp
      exact ⟨k, h1, by omega, h3⟩
    · exact ⟨n, hn, Nat.le_refl _, fun j hj hp => h ⟨j, hj, hp⟩⟩
structure Ord (m : Nat) (x : List Nat) (o : Nat) : Prop where
  pos : 0 < o
  le : o ≤ m ^ m
  one : pow m x o = idP m
  min : ∀ j, 0 < j → j < o → pow m x j ≠ idP m
theorem ord_ex {m : Nat} {x : List Nat} (h : IsP m x) : ∃ o, Ord m x o := by
  obtain ⟨k, h1, h2, h3⟩ := has_order h
  obtain ⟨o, ⟨q1, q2⟩, q3, q4⟩ := least (P := fun k => 0 < k ∧ pow m x k = idP m) k ⟨h1, h3⟩
  exact ⟨o, q1, by omega, q2, fun j hj hlt e => q4 j hlt ⟨hj, e⟩⟩
section
variable {m o : Nat} {x : List Nat}
theorem pow_mul_o (h : IsP m x) (O : Ord m x o) : ∀ q, pow m x (o * q) = idP m
  | 0 => rfl
  | q + 1 => by
    rw [Nat.mul_succ, pow_add h, pow_mul_o h O q, O.one, id_comp (IsP.id m)]
theorem pow_mod (h : IsP m x) (O : Ord m x o) (k : Nat) : pow m x (k % o) = pow m x k := by
  have e : k = o * (k / o) + k % o := (Nat.div_add_mod k o).symm
  have e2 : pow m x k = pow m x (o * (k / o) + k % o) := by rw [← e]
  rw [e2, pow_add h, pow_mul_o h O, id_comp (h.pow _)]
/-- a whole power -/
def pz (m o : Nat) (x : List Nat) (n : Int) : List Nat := pow m x (n % (o : Int)).toNat
theorem IsP.pz (h : IsP m x) (n : Int) : IsP m (pz m o x n) := h.pow _
theorem pz_nat (h : IsP m x) (O : Ord m x o) (k : Nat) : pz m o x k = pow m x k := by
  unfold PM.pz
  rw [show ((k : Int) % (o : Int)).toNat = k % o from by rw [← Int.natCast_emod]; rfl]
  exact pow_mod h O k
theorem pz_add (h : IsP m x) (O : Ord m x o) (a b : Int) : comp (pz m o x a) (pz m o x b) = pz m o x (a + b) := by
  have ho : (0 : Int) < o := by have := O.pos; omega
  have ha := Int.emod_nonneg a (show (o : Int) ≠ 0 by omega)
  have hb := Int.emod_nonneg b (show (o : Int) ≠ 0 by omega)
  unfold PM.pz
  rw [← pow_add h, ← pow_mod h O]
  congr 1
  have e : ((a + b) % (o : Int)) = (((a % o).toNat + (b % o).toNat : Nat) : Int) % o := by
    rw [Int.natCast_add, Int.toNat_of_nonneg ha, Int.toNat_of_nonneg hb, ← Int.add_emod]
  rw [e, ← Int.natCast_emod]
  rfl
theorem pz_zero : pz m o x 0 = idP m := by
  unfold PM.pz
  rw [Int.zero_emod]
  rfl
theorem pz_o (h : IsP m x) (O : Ord m x o) : pz m o x o = idP m := by rw [pz_nat h O, O.one]
/-! ### a row of shifts -/
def shiftP (m o : Nat) (x c : List Nat) (i : Int) : List Nat := comp (comp (pz m o x i) c) (pz m o x (-i - 1))
def prodP (m : Nat) : List (List Nat) → List Nat → List Nat
  | [], a => a
  | c :: cs, a => prodP m cs (comp a c)
def accP (m o : Nat) (x : List Nat) : List (List Nat) → Nat → List Nat → List Nat
  | [], _, a => a
  | c :: cs, i, a => accP m o x cs (i + 1) (comp a (shiftP m o x c i))
theorem shiftP_isP (h : IsP m x) {c : List Nat} (hc : IsP m c) (i : Int) : IsP m (shiftP m o x c i) := ((h.pz _).comp hc).comp (h.pz _)
theorem acc_prod (h : IsP m x) (O : Ord m x o) : ∀ (cs : List (List Nat)) (i : Nat) (a : List Nat), (∀ c ∈ cs, IsP m c) → IsP m a →
    comp (accP m o x cs i (comp a (pz m o x (-(i : Int))))) (pz m o x ((i + cs.length : Nat) : Int)) = prodP m cs a
  | [], i, a, _, ha => by
    show comp (comp a (pz m o x (-(i : Int)))) (pz m o x ((i + 0 : Nat) : Int)) = a
    rw [comp_assoc ha (h.pz _), pz_add h O, show (-(i : Int) + ((i + 0 : Nat) : Int)) = 0 by omega, pz_zero, comp_id ha]
  | c :: cs, i, a, hc, ha => by
    have h1 := hc c List.mem_cons_self
    show comp (accP m o x cs (i + 1) (comp (comp a (pz m o x (-(i : Int)))) (shiftP m o x c i))) _ = prodP m cs (comp a c)
    have e : comp (comp a (pz m o x (-(i : Int)))) (shiftP m o x c i) = comp (comp a c) (pz m o x (-((i + 1 : Nat) : Int))) := by
      unfold shiftP
      rw [comp_assoc ha (h.pz _), ← comp_assoc (h.pz _) ((h.pz _).comp h1), ← comp_assoc (h.pz _) (h.pz _), pz_add h O, show (-(i : Int) + (i : Int)) = 0 by omega, pz_zero, id_comp h1, ← comp_assoc ha h1]
      congr 2
      omega
    rw [e, show i + (c :: cs).length = (i + 1) + cs.length by simp; omega]
    exact acc_prod h O cs (i + 1) (comp a c) (fun d hd => hc d (List.mem_cons_of_mem _ hd)) (ha.comp h1)
/-! ### what commutes -/
def Com (a : List Nat) (cs : List (List Nat)) : Prop := ∀ c ∈ cs, comp a c = comp c a
theorem com_id {cs : List (List Nat)} (hc : ∀ c ∈ cs, IsP m c) : Com (idP m) cs := fun c h => by rw [id_comp (hc c h), comp_id (hc c h)]
theorem com_comp {cs : List (List Nat)} (hc : ∀ c ∈ cs, IsP m c) {a b : List Nat} (ha : IsP m a) (hb : IsP m b) (h1 : Com a cs) (h2 : Com b cs) : Com (comp a b) cs := fun c h => by
  rw [comp_assoc ha hb, h2 c h, ← comp_assoc ha (hc c h), h1 c h, comp_assoc (hc c h) ha]
theorem com_left {cs : List (List Nat)} (hc : ∀ c ∈ cs, IsP m c) {a b : List Nat} (ha : IsP m a) (hb : IsP m b) (h1 : Com a cs) (h2 : Com (comp a b) cs) : Com b cs := fun c h => by
  refine cancel_l (hb.comp (hc c h)) ((hc c h).comp hb) ha ?_
  rw [← comp_assoc ha hb, h2 c h, ← comp_assoc ha (hc c h), h1 c h, comp_assoc (hc c h) ha]
structure Stp (m : Nat) (x : List Nat) (cs : List (List Nat)) (d : Nat) : Prop where
  pos : 0 < d
  com : Com (pow m x d) cs
  min : ∀ j, 0 < j → j < d → ¬ Com (pow m x j) cs
theorem stp_ex (h : IsP m x) (O : Ord m x o) {cs : List (List Nat)} (hc : ∀ c ∈ cs, IsP m c) : ∃ d, Stp m x cs d ∧ d ≤ o := by
  obtain ⟨d, ⟨q1, q2⟩, q3, q4⟩ := least (P := fun k => 0 < k ∧ Com (pow m x k) cs) o ⟨O.pos, by rw [O.one]; exact com_id hc⟩
  exact ⟨d, ⟨q1, q2, fun j hj hlt e => q4 j hlt ⟨hj, e⟩⟩, q3⟩
theorem com_mul (h : IsP m x) (O : Ord m x o) {cs : List (List Nat)} (hc : ∀ c ∈ cs, IsP m c) {d : Int} (hd : Com (pz m o x d) cs) : ∀ q : Nat, Com (pz m o x (d * q)) cs
  | 0 => by
    rw [show d * ((0 : Nat) : Int) = 0 by simp, pz_zero]
    exact com_id hc
  | q + 1 => by
    rw [show d * ((q + 1 : Nat) : Int) = d * (q : Int) + d by rw [Int.natCast_add, Int.mul_add]; simp, ← pz_add h O]
    exact com_comp hc (h.pz _) (h.pz _) (com_mul h O hc hd q) hd
theorem com_neg (h : IsP m x) (O : Ord m x o) {cs : List (List Nat)} (hc : ∀ c ∈ cs, IsP m c) {d : Int} (hd : Com (pz m o x d) cs) : Com (pz m o x (-d)) cs := by
  refine com_left hc (h.pz d) (h.pz _) hd ?_
  rw [pz_add h O, show d + -d = 0 by omega, pz_zero]
  exact com_id hc
/-- a whole power commutes where its exponent is a multiple of the least one, and there alone -/
theorem com_iff (h : IsP m x) (O : Ord m x o) {cs : List (List Nat)} (hc : ∀ c ∈ cs, IsP m c) {d : Nat} (S : Stp m x cs d) (n : Int) : Com (pz m o x n) cs ↔ n % (d : Int) = 0 := by
  have hd : Com (pz m o x (d : Int)) cs := by rw [pz_nat h O]; exact S.com
  have hdp : (0 : Int) < d := by have := S.pos; omega
  have mult : ∀ q : Int, Com (pz m o x ((d : Int) * q)) cs := fun q => by
    by_cases hq : 0 ≤ q
    · have := com_mul h O hc hd q.toNat
      rw [Int.toNat_of_nonneg hq] at this
      exact this
    · have := com_neg h O hc (com_mul h O hc hd (-q).toNat)
      rw [Int.toNat_of_nonneg (by omega)] at this
      rw [show (d : Int) * q = -((d : Int) * -q) by rw [Int.mul_neg, Int.neg_neg]]
      exact this
  constructor
  · intro hn
    by_cases hz : n % (d : Int) = 0
    · exact hz
    · exfalso
      have h0 := Int.emod_nonneg n (show (d : Int) ≠ 0 by omega)
      have h1 := Int.emod_lt_of_pos n hdp
      refine S.min (n % d).toNat (by omega) (by omega) ?_
      rw [← pz_nat h O, Int.toNat_of_nonneg h0]
      refine com_left hc (h.pz ((d : Int) * (n / d))) (h.pz _) (mult _) ?_
      rw [pz_add h O, Int.mul_ediv_add_emod]
      exact hn
  · intro hz
    have e : n = (d : Int) * (n / d) := by
      have := Int.mul_ediv_add_emod n d
      omega
    rw [e]
    exact mult _
theorem step_dvd (h : IsP m x) (O : Ord m x o) {cs : List (List Nat)} (hc : ∀ c ∈ cs, IsP m c) {d : Nat} (S : Stp m x cs d) : (o : Int) % (d : Int) = 0 := by
  rw [← com_iff h O hc S, pz_o h O]
  exact com_id hc
theorem shift_eq_iff (h : IsP m x) (O : Ord m x o) {c : List Nat} (hc : IsP m c) (i j : Int) : shiftP m o x c i = shiftP m o x c j ↔ comp (pz m o x (i - j)) c = comp c (pz m o x (i - j)) := by
  have key : ∀ k : Int, comp (pz m o x (-j)) (comp (shiftP m o x c k) (pz m o x (i + 1))) = comp (comp (pz m o x (k - j)) c) (pz m o x (i - k)) := fun k => by
    unfold shiftP
    rw [comp_assoc ((h.pz _).comp hc) (h.pz _), pz_add h O, ← comp_assoc (h.pz _) ((h.pz _).comp hc), ← comp_assoc (h.pz _) (h.pz _), pz_add h O]
    congr 2
    · congr 1
      omega
    · omega
  constructor
  · intro e
    have q := key i
    rw [e, key j] at q
    rw [show j - j = 0 by omega, show i - i = 0 by omega, pz_zero, id_comp hc, comp_id ((h.pz _).comp hc)] at q
    exact q.symm
  · intro e
    have q : comp (pz m o x (-j)) (comp (shiftP m o x c i) (pz m o x (i + 1))) = comp (pz m o x (-j)) (comp (shiftP m o x c j) (pz m o x (i + 1))) := by
      rw [key, key, show j - j = 0 by omega, show i - i = 0 by omega, pz_zero, id_comp hc, comp_id ((h.pz _).comp hc)]
      exact e
    exact cancel_r (shiftP_isP h hc _) (shiftP_isP h hc _) (h.pz _) (cancel_l ((shiftP_isP h hc _).comp (h.pz _)) ((shiftP_isP h hc _).comp (h.pz _)) (h.pz _) q)
end
end PM

end
section
set_option Elab.async false
set_option linter.all false
set_option maxRecDepth 100000
set_option maxHeartbeats 4000000
/-! DI2: how data stand in a heap. Own text. -/
namespace DI
open PySem PySem.Spec PyProof.Rows L2

/-- the written part, the classes' addresses, the fields' names -/
structure Wd where
  K : PySem.W.Frag
  T : Tab
  ca : Nat → Addr
  fn : Nat → Str
  /-- the errors' classes, their field's name, the error at hand -/
  xc : Nat → Addr := fun _ => 0
  xf : Str := ""
  xn : Option (Nat × Addr × Addr) := none
  /-- the tables of code objects, with the lambdas' names -/
  tb : List (Addr × Str) := []
abbrev Wd.names (w : Wd) (c : Nat) : List Str := (w.T.fl c).map w.fn
abbrev Dl := Option (Addr × Addr)
def Le (F F' : Hp) : Prop := ∀ a o, F a = some o → F' a = some o
def DlLe (d d' : Dl) : Prop := ∀ p, d = some p → d' = some p
theorem Le.refl (F : Hp) : Le F F := fun _ _ h => h
theorem Le.trans {F G H : Hp} (a : Le F G) (b : Le G H) : Le F H := fun c o h => b c o (a c o h)
theorem DlLe.refl (d : Dl) : DlLe d d := fun _ h => h
theorem Le.sqL {K : PySem.W.Frag} {F F' : Hp} {a : Addr} {xs : List V} (e : Le F F') (h : SqL K F a xs) : SqL K F' a xs := by
  rcases h with (h | ⟨o, h⟩) | h
  · exact .inl (.inl (e _ _ h))
  · exact .inl (.inr ⟨o, e _ _ h⟩)
  · exact .inr h
theorem Le.sqT {K : PySem.W.Frag} {F F' : Hp} {a : Addr} {xs : List V} (e : Le F F') (h : SqT K F a xs) : SqT K F' a xs := by
  rcases h with (h | ⟨o, h⟩) | h
  · exact .inl (.inl (e _ _ h))
  · exact .inl (.inr ⟨o, e _ _ h⟩)
  · exact .inr h
section
variable (w : Wd)
mutual
def RepD (dl : Dl) (F : Hp) : D → V → Prop
  | .non, v => v = .non
  | .bl b, v => v = .bl b
  | .int i, v => v = .int i
  | .str s, v => v = .str s
  | .tup ds, v => ∃ a vs, v = .ref a ∧ SqT w.K F a vs ∧ RepAll dl F ds vs
  | .lst ds, v => ∃ a vs, v = .ref a ∧ F a = some (.lst vs) ∧ RepAll dl F ds vs
  | .ins c ds, v => ∃ a dx vs, v = .ref a ∧ F a = some (.ins (w.ca c) dx ((w.names c).zip vs)) ∧ vs.length = (w.names c).length ∧ RepAll dl F ds vs
  | .deal, v => ∃ p : Addr × Addr, dl = some p ∧ v = .ref p.1
  | .scr ns, v => ∃ a, v = .ref a ∧ SqL w.K F a (ns.map V.int)
  | .exn k d, v => ∃ a dx u, w.xn = some (k, a, dx) ∧ v = .ref a ∧ F dx = some (.xd [(w.xf, u)]) ∧ RepD dl F d u
def RepAll (dl : Dl) (F : Hp) : List D → List V → Prop
  | [], vs => vs = []
  | d :: ds, vs => ∃ v r, vs = v :: r ∧ RepD dl F d v ∧ RepAll dl F ds r
end
end
section
variable {w : Wd} {dl dl' : Dl} {F F' : Hp}
mutual
theorem RepD.mono (e : Le F F') (q : DlLe dl dl') : ∀ (d : D) (v : V), RepD w dl F d v → RepD w dl' F' d v
  | .non, _, h => h
  | .bl _, _, h => h
  | .int _, _, h => h
  | .str _, _, h => h
  | .tup ds, _, ⟨a, vs, h1, h2, h3⟩ => ⟨a, vs, h1, e.sqT h2, RepAll.mono e q ds vs h3⟩
  | .lst ds, _, ⟨a, vs, h1, h2, h3⟩ => ⟨a, vs, h1, e _ _ h2, RepAll.mono e q ds vs h3⟩
  | .ins _ ds, _, ⟨a, dx, vs, h1, h2, h3, h4⟩ => ⟨a, dx, vs, h1, e _ _ h2, h3, RepAll.mono e q ds vs h4⟩
  | .deal, _, ⟨p, h1, h2⟩ => ⟨p, q p h1, h2⟩
  | .scr _, _, ⟨a, h1, h2⟩ => ⟨a, h1, e.sqL h2⟩
  | .exn _ d, _, ⟨a, dx, u, h1, h2, h3, h4⟩ => ⟨a, dx, u, h1, h2, e _ _ h3, RepD.mono e q d u h4⟩
theorem RepAll.mono (e : Le F F') (q : DlLe dl dl') : ∀ (ds : List D) (vs : List V), RepAll w dl F ds vs → RepAll w dl' F' ds vs
  | [], _, h => h
  | d :: ds, _, ⟨v, r, h1, h2, h3⟩ => ⟨v, r, h1, RepD.mono e q d v h2, RepAll.mono e q ds r h3⟩
end
theorem RepAll.length : ∀ {ds : List D} {vs : List V}, RepAll w dl F ds vs → vs.length = ds.length
  | [], _, h => by rw [show _ = ([] : List V) from h]; rfl
  | d :: ds, _, ⟨v, r, h1, _, h3⟩ => by rw [h1, List.length_cons, List.length_cons, RepAll.length h3]
theorem RepAll.get : ∀ {ds : List D} {vs : List V} {i : Nat} {d : D}, RepAll w dl F ds vs → ds[i]? = some d → ∃ v, vs[i]? = some v ∧ RepD w dl F d v
  | [], _, _, _, _, h => by simp at h
  | d :: ds, _, 0, _, ⟨v, r, h1, h2, _⟩, h => by simp at h; subst h; subst h1; exact ⟨v, rfl, h2⟩
  | d :: ds, _, i + 1, _, ⟨v, r, h1, _, h3⟩, h => by
    subst h1
    obtain ⟨u, e1, e2⟩ := RepAll.get (i := i) h3 (by simpa using h)
    exact ⟨u, by simpa using e1, e2⟩
theorem RepAll.get' : ∀ {ds : List D} {vs : List V} {i : Nat} {v : V}, RepAll w dl F ds vs → vs[i]? = some v → ∃ d, ds[i]? = some d ∧ RepD w dl F d v
  | [], _, _, _, h0, h => by rw [show _ = ([] : List V) from h0] at h; simp at h
  | d :: ds, _, 0, _, ⟨v, r, h1, h2, _⟩, h => by subst h1; simp at h; subst h; exact ⟨d, rfl, h2⟩
  | d :: ds, _, i + 1, _, ⟨v, r, h1, _, h3⟩, h => by
    subst h1
    obtain ⟨u, e1, e2⟩ := RepAll.get' (i := i) h3 (by simpa using h)
    exact ⟨u, by simpa using e1, e2⟩
theorem RepAll.append : ∀ {ds es : List D} {vs us : List V}, RepAll w dl F ds vs → RepAll w dl F es us → RepAll w dl F (ds ++ es) (vs ++ us)
  | [], _, _, _, h, h2 => by rw [show _ = ([] : List V) from h]; exact h2
  | d :: ds, _, _, _, ⟨v, r, h1, h2, h3⟩, h4 => by subst h1; exact ⟨v, _, rfl, h2, RepAll.append h3 h4⟩
theorem RepAll.take : ∀ {ds : List D} {vs : List V} (n : Nat), RepAll w dl F ds vs → RepAll w dl F (ds.take n) (vs.take n)
  | [], _, n, h => by rw [show _ = ([] : List V) from h]; simp [RepAll]
  | d :: ds, _, 0, _ => by simp [RepAll]
  | d :: ds, _, n + 1, ⟨v, r, h1, h2, h3⟩ => by subst h1; exact ⟨v, _, rfl, h2, RepAll.take n h3⟩
theorem RepAll.drop : ∀ {ds : List D} {vs : List V} (n : Nat), RepAll w dl F ds vs → RepAll w dl F (ds.drop n) (vs.drop n)
  | [], _, n, h => by rw [show _ = ([] : List V) from h]; simp [RepAll]
  | d :: ds, _, 0, h => h
  | d :: ds, _, n + 1, ⟨v, r, h1, h2, h3⟩ => by subst h1; exact RepAll.drop n h3
theorem RepAll.set : ∀ {ds : List D} {vs : List V} {d : D} {v : V} (n : Nat), RepAll w dl F ds vs → RepD w dl F d v → RepAll w dl F (ds.set n d) (vs.set n v)
  | [], _, _, _, n, h, _ => by rw [show _ = ([] : List V) from h]; simp [RepAll]
  | d :: ds, _, _, v', 0, ⟨v, r, h1, h2, h3⟩, h4 => by subst h1; exact ⟨v', _, rfl, h4, h3⟩
  | d :: ds, _, _, _, n + 1, ⟨v, r, h1, h2, h3⟩, h4 => by subst h1; exact ⟨v, _, rfl, h2, RepAll.set n h3 h4⟩
theorem RepAll.erase : ∀ {ds : List D} {vs : List V} (n : Nat), RepAll w dl F ds vs → RepAll w dl F (ds.eraseIdx n) (vs.eraseIdx n)
  | [], _, n, h => by rw [show _ = ([] : List V) from h]; simp [RepAll]
  | d :: ds, _, 0, ⟨v, r, h1, h2, h3⟩ => by subst h1; exact h3
  | d :: ds, _, n + 1, ⟨v, r, h1, h2, h3⟩ => by subst h1; exact ⟨v, _, rfl, h2, RepAll.erase n h3⟩
theorem RepAll.dropLast {ds : List D} {vs : List V} (h : RepAll w dl F ds vs) : RepAll w dl F ds.dropLast vs.dropLast := by
  rw [List.dropLast_eq_take, List.dropLast_eq_take, h.length]
  exact h.take _
theorem RepAll.one {d : D} {v : V} (h : RepD w dl F d v) : RepAll w dl F [d] [v] := ⟨v, [], rfl, h, rfl⟩
theorem RepAll.reverse : ∀ {ds : List D} {vs : List V}, RepAll w dl F ds vs → RepAll w dl F ds.reverse vs.reverse
  | [], _, h => by rw [show _ = ([] : List V) from h]; simp [RepAll]
  | d :: ds, _, ⟨v, r, h1, h2, h3⟩ => by
    subst h1
    rw [List.reverse_cons, List.reverse_cons]
    exact RepAll.append (RepAll.reverse h3) (RepAll.one h2)
theorem RepAll.rep {ds : List D} {vs : List V} (h : RepAll w dl F ds vs) : ∀ k : Nat, RepAll w dl F (List.replicate k ds).flatten (List.replicate k vs).flatten
  | 0 => by simp [RepAll]
  | k + 1 => by
    rw [List.replicate_succ, List.replicate_succ, List.flatten_cons, List.flatten_cons]
    exact h.append (RepAll.rep h k)
theorem RepAll.intsD : ∀ {ds : List D} {vs : List V} {ns : List Int}, RepAll w dl F ds vs → DI.intsD ds = some ns → vs = ns.map V.int ∧ ds = ns.map D.int
  | [], _, ns, h, e => by
    rw [show _ = ([] : List V) from h]
    have e' : ns = [] := by simpa [DI.intsD] using e.symm
    subst e'
    exact ⟨rfl, rfl⟩
  | d :: ds, _, ns, ⟨v, r, h1, h2, h3⟩, e => by
    subst h1
    cases d with
    | int i =>
      cases q : DI.intsD ds with
      | none => simp [DI.intsD, q] at e
      | some ms =>
        have e' : ns = i :: ms := by simpa [DI.intsD, q] using e.symm
        subst e'
        obtain ⟨e1, e2⟩ := RepAll.intsD h3 q
        have e3 : v = .int i := h2
        rw [e1, e2, e3]
        exact ⟨rfl, rfl⟩
    | _ => simp [DI.intsD] at e
theorem RepAll.bools : ∀ {ds : List D} {vs : List V} {bs : List Bool}, RepAll w dl F ds vs → DI.bools ds = some bs → vs = bs.map V.bl
  | [], _, bs, h, e => by
    rw [show _ = ([] : List V) from h]
    have e' : bs = [] := by simpa [DI.bools] using e.symm
    subst e'
    rfl
  | d :: ds, _, bs, ⟨v, r, h1, h2, h3⟩, e => by
    subst h1
    cases d with
    | bl i =>
      cases q : DI.bools ds with
      | none => simp [DI.bools, q] at e
      | some ms =>
        have e' : bs = i :: ms := by simpa [DI.bools, q] using e.symm
        subst e'
        have e3 : v = .bl i := h2
        rw [RepAll.bools h3 q, e3]
        rfl
    | _ => simp [DI.bools] at e
theorem RepAll.ofInts : ∀ ns : List Int, RepAll w dl F (ns.map D.int) (ns.map V.int)
  | [] => rfl
  | n :: ns => ⟨_, _, rfl, rfl, RepAll.ofInts ns⟩
end

/-- the deal stands in the heap -/
def DealAt (F H : Hp) : Dl → G → Prop
  | none, none => True
  | some p, some g => p.1 ≠ p.2 ∧ F p.1 = none ∧ F p.2 = none ∧ H p.1 = some (.lst [.ref p.2, .int g.2]) ∧ H p.2 = some (.lst (g.1.map V.int)) ∧ g.1.length ≤ 100
  | _, _ => False
theorem DealAt.imp {F H F' H' : Hp} : ∀ {dl : Dl} {g : G}, DealAt F H dl g → (∀ p : Addr × Addr, dl = some p → (F p.1 = none → F' p.1 = none) ∧ (F p.2 = none → F' p.2 = none) ∧ (∀ o, H p.1 = some o → H' p.1 = some o) ∧ ∀ o, H p.2 = some o → H' p.2 = some o) → DealAt F' H' dl g
  | none, none, h, _ => h
  | some p, some g, ⟨z1, z2, z3, z4, z5, z6⟩, x => by
    obtain ⟨x1, x2, x3, x4⟩ := x p rfl
    exact ⟨z1, x1 z2, x2 z3, x3 _ z4, x4 _ z5, z6⟩
  | none, some _, h, _ => h.elim
  | some _, none, h, _ => h.elim
theorem DealAt.there {F H : Hp} : ∀ {dl : Dl} {g : G} {p : Addr × Addr}, DealAt F H dl g → dl = some p → (H p.1 ≠ none ∧ F p.1 = none) ∧ H p.2 ≠ none ∧ F p.2 = none
  | some p, some g, _, ⟨z1, z2, z3, z4, z5, _⟩, e => by
    cases e
    exact ⟨⟨by rw [z4]; simp, z2⟩, by rw [z5]; simp, z3⟩
  | none, _, _, _, e => by cases e
  | some _, none, _, h, _ => h.elim
/-! ### tables of code objects -/
/-- a table -/
def isTb : HO → Bool
  | .tbl _ => true
  | _ => false
/-- what is never changed but by a lambda's making -/
def isFx : HO → Bool
  | .tbl _ => true
  | .ext _ => true
  | _ => false
def TabOk (T : List (Addr × Str)) (F H : Hp) : Prop := LamX.Tabs T H ∧ (∀ a o, F a = some o → isTb o = false) ∧ ∀ a o, H a = some o → isTb o = true → a ∈ T.map (·.1)
def KeepT (H H' : Hp) : Prop := ∀ a o, H a = some o → isFx o = true → H' a = some o
theorem KeepT.refl (H : Hp) : KeepT H H := fun _ _ h _ => h
theorem KeepT.le {H H' : Hp} (h : Le H H') : KeepT H H' := fun a o e _ => h a o e
theorem KeepT.trans {H H1 H2 : Hp} (x : KeepT H H1) (y : KeepT H1 H2) : KeepT H H2 := fun a o e t => y a o (x a o e t) t
theorem KeepT.upd {H : Hp} {a : Addr} {o : HO} (h : ∀ u, H a = some u → isFx u = false) : KeepT H (L2.upd H a o) := fun b u e t => by
  have z : b ≠ a := fun z => by
    rw [z] at e
    rw [h u e] at t
    cases t
  exact (upd_ne z).trans e
theorem KeepT.at {H : Hp} {a : Addr} {o u : HO} (h : H a = some u) (n : isFx u = false := by rfl) : KeepT H (L2.upd H a o) := KeepT.upd fun u' e => by
  rw [h] at e
  cases e
  exact n
theorem KeepT.tabs {T : List (Addr × Str)} {H H' : Hp} (x : KeepT H H') (t : LamX.Tabs T H) : LamX.Tabs T H' := fun p hp => by
  obtain ⟨ps, h1, h2, h3⟩ := t p hp
  refine ⟨ps, x _ _ h1 rfl, h2, fun pos cv hc => ?_⟩
  obtain ⟨c, e1, e2⟩ := h3 pos cv hc
  exact ⟨c, e1, x _ _ e2 rfl⟩
theorem TabOk.imp {T : List (Addr × Str)} {F H F' H' : Hp} (h : TabOk T F H) (x : KeepT H H') (y : ∀ a o, F' a = some o → F a = some o ∨ isTb o = false) (z : ∀ a o, H' a = some o → H a = some o ∨ isTb o = false) : TabOk T F' H' := ⟨x.tabs h.1, fun a o e => (y a o e).elim (h.2.1 a o) id, fun a o e t => (z a o e).elim (fun e' => h.2.2 a o e' t) fun n => by rw [n] at t; cases t⟩
theorem noTb_upd {F : Hp} {a : Addr} {o : HO} (n : isTb o = false) : ∀ b u, L2.upd F a o b = some u → F b = some u ∨ isTb u = false := fun b u e => by
  by_cases z : b = a
  · rw [z, upd_same] at e
    cases e
    exact .inr n
  · rw [upd_ne z] at e
    exact .inl e
theorem noTb_refl {F : Hp} : ∀ b u, F b = some u → F b = some u ∨ isTb u = false := fun _ _ e => .inl e
/-! ### where one stands -/
structure C where
  dl : Dl
  F : Hp
  H : Hp
  σ : L2.St
  ρ : List (Option DV)
  g : G
def C.s (c : C) : S := ⟨c.ρ, c.g⟩
def isOwn : DV → Bool
  | .o _ => true
  | .n _ _ => true
  | _ => false
def Own (c : C) (i : Nat) (a : Addr) : Prop := c.σ[i]? = some (some (.ref a)) ∧ ∃ dv, c.ρ[i]? = some (some dv) ∧ isOwn dv = true
def Touch (c : C) (a : Addr) : Prop := (∃ i, Own c i a) ∨ ∃ p, c.dl = some p ∧ (a = p.1 ∨ a = p.2)
section
variable (w : Wd)
/-- a tuple known to be plain -/
def PlR (dl : Dl) (F : Hp) (ds : List D) (v : V) : Prop := ∃ a vs o, v = .ref a ∧ F a = some (.frz o (.tup vs)) ∧ o.dict = none ∧ RepAll w dl F ds vs
/-- what stands in a slot -/
def Slot (c : C) (v : V) : DV → Prop
  | .f d => RepD w c.dl c.F d v
  | .o ds => ∃ a vs, v = .ref a ∧ c.F a = none ∧ c.H a = some (.lst vs) ∧ RepAll w c.dl c.F ds vs
  | .n k ds => ∃ a dx vs, v = .ref a ∧ c.F a = none ∧ c.H a = some (.ins (w.ca k) dx ((w.names k).zip vs)) ∧ vs.length ≤ (w.names k).length ∧ RepAll w c.dl c.F ds vs
  | .b _ => False
  | .p ds => PlR w c.dl c.F ds v
/-- a value at hand -/
def Rel (c : C) (v : V) : DV → Prop
  | .f d => RepD w c.dl c.F d v
  | .o ds => ∃ a vs, v = .ref a ∧ c.F a = none ∧ c.H a = some (.lst vs) ∧ RepAll w c.dl c.F ds vs ∧ ¬ Touch c a
  | .b i => c.σ[i]? = some (some v) ∧ ∃ dv, c.ρ[i]? = some (some dv)
  | .n _ _ => False
  | .p ds => PlR w c.dl c.F ds v
def DealOk (c : C) : Prop := DealAt c.F c.H c.dl c.g ∧ TabOk w.tb c.F c.H
structure R (c : C) : Prop where
  sub : Le c.F c.H
  len : c.σ.length = c.ρ.length
  slot : ∀ (i : Nat) (dv : DV), c.ρ[i]? = some (some dv) → ∃ v, c.σ[i]? = some (some v) ∧ Slot w c v dv
  dist : ∀ (i j : Nat) (a : Addr), Own c i a → Own c j a → i = j
  ndeal : ∀ (i : Nat) (a : Addr) (p : Addr × Addr), Own c i a → c.dl = some p → a ≠ p.1 ∧ a ≠ p.2
  deal : DealOk w c
end
structure Step (c c' : C) : Prop where
  mono : Le c.F c'.F
  keep : ∀ a o, c.H a = some o → ¬ Touch c a → isTb o = false → c'.H a = some o
  live : ∀ a, c'.H a = none → c.H a = none
  newF : ∀ a, c'.F a ≠ none → c.F a ≠ none ∨ Touch c a ∨ c.H a = none
  tch : ∀ a, Touch c' a → Touch c a ∨ c.H a = none
  dl : DlLe c.dl c'.dl
structure SStep (c c' : C) : Prop extends Step c c' where
  σ : c'.σ = c.σ
  pres : ∀ (i : Nat) (dv : DV), c.ρ[i]? = some (some dv) → ∃ dv', c'.ρ[i]? = some (some dv')
  ini : ∀ (i k : Nat) (fs : List D), c'.ρ[i]? = some (some (.n k fs)) → ∃ fs0, c.ρ[i]? = some (some (.n k fs0))
theorem Step.refl (c : C) : Step c c := ⟨Le.refl _, fun _ _ h _ _ => h, fun _ h => h, fun _ h => .inl h, fun _ h => .inl h, DlLe.refl _⟩
theorem SStep.refl (c : C) : SStep c c := ⟨Step.refl c, rfl, fun _ dv h => ⟨dv, h⟩, fun _ _ fs h => ⟨fs, h⟩⟩
theorem Step.trans {a b c : C} (x : Step a b) (y : Step b c) : Step a c where
  mono := x.mono.trans y.mono
  keep := fun p o h n tb => y.keep p o (x.keep p o h n tb) (fun t => by
    rcases x.tch p t with q | q
    · exact n q
    · rw [h] at q; cases q) tb
  live := fun p h => x.live p (y.live p h)
  newF := fun p h => by
    rcases y.newF p h with q | q | q
    · exact x.newF p q
    · exact .inr (x.tch p q)
    · exact .inr (.inr (x.live p q))
  tch := fun p h => by
    rcases y.tch p h with q | q
    · exact x.tch p q
    · exact .inr (x.live p q)
  dl := fun p h => y.dl p (x.dl p h)
theorem SStep.trans {a b c : C} (x : SStep a b) (y : SStep b c) : SStep a c := ⟨x.toStep.trans y.toStep, y.σ.trans x.σ, fun i dv h => by
  obtain ⟨dv', h'⟩ := x.pres i dv h
  exact y.pres i dv' h', fun i k fs h => by
  obtain ⟨f1, h1⟩ := y.ini i k fs h
  exact x.ini i k f1 h1⟩
section
variable {w : Wd} {c c' : C} {v : V} {dv : DV} {d : D}
theorem RepD.step (x : Step c c') (h : RepD w c.dl c.F d v) : RepD w c'.dl c'.F d v := RepD.mono x.mono x.dl d v h
theorem RepAll.step {ds : List D} {vs : List V} (x : Step c c') (h : RepAll w c.dl c.F ds vs) : RepAll w c'.dl c'.F ds vs := RepAll.mono x.mono x.dl ds vs h
/-- an object that nobody of ours may touch stays unfrozen -/
theorem Step.noF {a : Addr} {o : HO} (x : Step c c') (h : c.H a = some o) (f : c.F a = none) (n : ¬ Touch c a) : c'.F a = none := by
  cases e : c'.F a with
  | none => rfl
  | some u =>
    rcases x.newF a (by rw [e]; simp) with q | q | q
    · exact absurd f q
    · exact absurd q n
    · rw [h] at q; cases q
theorem Step.noT {a : Addr} {o : HO} (x : Step c c') (h : c.H a = some o) (n : ¬ Touch c a) : ¬ Touch c' a := fun t => by
  rcases x.tch a t with q | q
  · exact n q
  · rw [h] at q; cases q
theorem PlR.mono {dl dl' : Dl} {F F' : Hp} {ds : List D} (e : Le F F') (q : DlLe dl dl') (h : PlR w dl F ds v) : PlR w dl' F' ds v := by
  obtain ⟨a, vs, o, h1, h2, h3, h4⟩ := h
  exact ⟨a, vs, o, h1, e _ _ h2, h3, RepAll.mono e q ds vs h4⟩
theorem PlR.rep {dl : Dl} {F : Hp} {ds : List D} (h : PlR w dl F ds v) : RepD w dl F (.tup ds) v := by
  obtain ⟨a, vs, o, h1, h2, h3, h4⟩ := h
  exact ⟨a, vs, h1, .inl (.inr ⟨o, h2⟩), h4⟩
theorem Rel.step (x : SStep c c') (h : Rel w c v dv) : Rel w c' v dv := by
  cases dv with
  | f d => exact RepD.step x.toStep h
  | o ds =>
    obtain ⟨a, vs, h1, h2, h3, h4, h5⟩ := h
    exact ⟨a, vs, h1, x.noF h3 h2 h5, x.keep a _ h3 h5 rfl, RepAll.step x.toStep h4, x.noT h3 h5⟩
  | b i =>
    obtain ⟨h1, dv, h2⟩ := h
    exact ⟨by rw [x.σ]; exact h1, x.pres i dv h2⟩
  | n k ds => exact h
  | p ds => exact PlR.mono x.mono x.dl h
/-- what is looked at: the data, its items frozen -/
def Lk (w : Wd) (c : C) (v : V) : D → Prop
  | .lst ds => ∃ a vs, v = .ref a ∧ c.H a = some (.lst vs) ∧ RepAll w c.dl c.F ds vs
  | d => RepD w c.dl c.F d v
theorem Lk.of (r : R w c) (h : RepD w c.dl c.F d v) : Lk w c v d := by
  cases d with
  | lst ds =>
    obtain ⟨a, vs, h1, h2, h3⟩ := h
    exact ⟨a, vs, h1, r.sub _ _ h2, h3⟩
  | _ => exact h
theorem Lk.rep (r : R w c) (h : Lk w c v d) : RepD w c.dl c.H d v := by
  cases d with
  | lst ds =>
    obtain ⟨a, vs, h1, h2, h3⟩ := h
    exact ⟨a, vs, h1, h2, RepAll.mono r.sub (DlLe.refl _) ds vs h3⟩
  | _ => exact RepD.mono r.sub (DlLe.refl _) _ v h
theorem look_ok {s : S} (r : R w c) (h : Rel w c v dv) (e : s = c.s) {α : Type} {f : D → M α} {x : Res α} (q : bnd (look dv) f s = x) (hx : x ≠ .stuck) : ∃ d, Lk w c v d ∧ x = f d s := by
  subst e
  cases dv with
  | f d => exact ⟨d, Lk.of r h, q.symm⟩
  | o ds =>
    obtain ⟨a, vs, h1, h2, h3, h4, h5⟩ := h
    exact ⟨.lst ds, ⟨a, vs, h1, h3, h4⟩, q.symm⟩
  | b i =>
    obtain ⟨h1, dv, h2⟩ := h
    obtain ⟨v', h3, h4⟩ := r.slot i dv h2
    have e : v' = v := by
      rw [h1] at h3
      exact ((Option.some.inj (Option.some.inj h3))).symm
    subst e
    cases dv with
    | f d =>
      refine ⟨d, Lk.of r h4, ?_⟩
      rw [← q]
      simp only [bnd, look, C.s, h2]
    | o ds =>
      obtain ⟨a, vs, h1, h2', h3, h5⟩ := h4
      refine ⟨.lst ds, ⟨a, vs, h1, h3, h5⟩, ?_⟩
      rw [← q]
      simp only [bnd, look, C.s, h2]
    | n k ds =>
      exfalso
      apply hx
      rw [← q]
      simp only [bnd, look, C.s, h2]
    | b j => exact h4.elim
    | p ds =>
      exfalso
      apply hx
      rw [← q]
      simp only [bnd, look, C.s, h2]
  | n k ds => exact h.elim
  | p ds => exact ⟨.tup ds, PlR.rep h, q.symm⟩
end
end DI

end
section
set_option Elab.async false
set_option linter.all false
set_option maxRecDepth 100000
set_option maxHeartbeats 4000000
/-! DI3: letting be, laying new objects, keeping in slots. Own text. -/
namespace DI
open PySem PySem.Spec PyProof.Rows L2
def isO : DV → Bool
  | .o _ => true
  | _ => false
/-- a new list was not there before -/
def Frs (H : Hp) (v : V) : DV → Prop
  | .o _ => ∃ a, v = .ref a ∧ H a = none
  | _ => True
theorem le_upd {F : Hp} {a : Addr} {o : HO} (h : F a = none) : Le F (upd F a o) := fun b u e => by rw [upd_ne (ne_of_none e h)]; exact e
section
variable {w : Wd} {c c0 c' : C} {v : V} {dv : DV} {d : D} {a p : Addr} {vs : List V} {ds : List D}
theorem R.ownH (r : R w c) {i : Nat} (h : Own c i a) : ∃ o, c.H a = some o ∧ c.F a = none := by
  obtain ⟨h1, dv, h2, h3⟩ := h
  obtain ⟨v, e1, e2⟩ := r.slot i dv h2
  have ev : v = .ref a := by
    rw [h1] at e1
    exact (Option.some.inj (Option.some.inj e1)).symm
  cases dv with
  | f d => cases h3
  | p pds => cases h3
  | b j => cases h3
  | o ds =>
    obtain ⟨b, vs, q1, q2, q3, _⟩ := e2
    rw [ev] at q1
    cases q1
    exact ⟨_, q3, q2⟩
  | n k ds =>
    obtain ⟨b, dx, vs, q1, q2, q3, _⟩ := e2
    rw [ev] at q1
    cases q1
    exact ⟨_, q3, q2⟩
theorem R.ownFx {i : Nat} (r : R w c) (h : Own c i a) : ∀ u, c.H a = some u → isFx u = false := fun u hu => by
  obtain ⟨h1, dv, h2, h3⟩ := h
  obtain ⟨v, e1, e2⟩ := r.slot i dv h2
  have ev : v = .ref a := by
    rw [h1] at e1
    exact (Option.some.inj (Option.some.inj e1)).symm
  cases dv with
  | f d => cases h3
  | p pds => cases h3
  | b j => cases h3
  | o ds =>
    obtain ⟨b, vs, q1, q2, q3, _⟩ := e2
    rw [ev] at q1
    cases q1
    rw [hu] at q3
    cases q3
    rfl
  | n k ds =>
    obtain ⟨b, dx, vs, q1, q2, q3, _⟩ := e2
    rw [ev] at q1
    cases q1
    rw [hu] at q3
    cases q3
    rfl
theorem R.dealH (r : R w c) {q : Addr × Addr} (h : c.dl = some q) : (c.H q.1 ≠ none ∧ c.F q.1 = none) ∧ c.H q.2 ≠ none ∧ c.F q.2 = none := DealAt.there r.deal.1 h
theorem R.touchH (r : R w c) (h : Touch c a) : c.H a ≠ none ∧ c.F a = none := by
  rcases h with ⟨i, h⟩ | ⟨q, h, e⟩
  · obtain ⟨o, h1, h2⟩ := r.ownH h
    exact ⟨by rw [h1]; simp, h2⟩
  · obtain ⟨z1, z2⟩ := r.dealH h
    rcases e with e | e
    · subst e; exact z1
    · subst e; exact z2
theorem R.freeze (r : R w c) (ha : c.F a = none) (hH : c.H a = some (.lst vs)) (hv : RepAll w c.dl c.F ds vs) (nd : ∀ q, c.dl = some q → a ≠ q.1 ∧ a ≠ q.2) (ρ' : List (Option DV)) (hl : ρ'.length = c.ρ.length)
    (hρ : ∀ (j : Nat) (dv : DV), ρ'[j]? = some (some dv) → (c.ρ[j]? = some (some dv) ∧ ¬ Own c j a) ∨ (dv = .f (.lst ds) ∧ c.σ[j]? = some (some (.ref a)))) :
    R w { c with F := upd c.F a (.lst vs), ρ := ρ' } := by
  have le : Le c.F (upd c.F a (.lst vs)) := le_upd ha
  have own : ∀ (j : Nat) (b : Addr), Own { c with F := upd c.F a (.lst vs), ρ := ρ' } j b → Own c j b := fun j b ⟨h1, dv, h2, h3⟩ => by
    rcases hρ j dv h2 with ⟨q, _⟩ | ⟨q, _⟩
    · exact ⟨h1, dv, q, h3⟩
    · subst q; cases h3
  refine ⟨fun b o e => ?_, r.len.trans hl.symm, fun j dv h => ?_, fun i j b h1 h2 => r.dist i j b (own i b h1) (own j b h2), fun i b q h e => r.ndeal i b q (own i b h) e, ?_⟩
  · have e' : upd c.F a (.lst vs) b = some o := e
    by_cases hb : b = a
    · subst hb
      rw [upd_same] at e'
      cases e'
      exact hH
    · rw [upd_ne hb] at e'
      exact r.sub b o e'
  · rcases hρ j dv h with ⟨q, n⟩ | ⟨q, e⟩
    · obtain ⟨v, e1, e2⟩ := r.slot j dv q
      refine ⟨v, e1, ?_⟩
      cases dv with
      | f d => exact RepD.mono le (DlLe.refl _) d v e2
      | p pds => exact PlR.mono le (DlLe.refl _) e2
      | b j => exact e2.elim
      | o es =>
        obtain ⟨b, us, q1, q2, q3, q4⟩ := e2
        have hb : b ≠ a := fun z => n ⟨by rw [e1, q1, z], _, q, rfl⟩
        exact ⟨b, us, q1, by show upd c.F a (.lst vs) b = none; rw [upd_ne hb]; exact q2, q3, RepAll.mono le (DlLe.refl _) es us q4⟩
      | n k es =>
        obtain ⟨b, dx, us, q1, q2, q3, q5, q4⟩ := e2
        have hb : b ≠ a := fun z => n ⟨by rw [e1, q1, z], _, q, rfl⟩
        exact ⟨b, dx, us, q1, by show upd c.F a (.lst vs) b = none; rw [upd_ne hb]; exact q2, q3, q5, RepAll.mono le (DlLe.refl _) es us q4⟩
    · subst q
      exact ⟨_, e, a, vs, rfl, upd_same, RepAll.mono le (DlLe.refl _) ds vs hv⟩
  · refine ⟨DealAt.imp r.deal.1 fun q hq => ?_, r.deal.2.imp (KeepT.refl _) (noTb_upd rfl) noTb_refl⟩
    obtain ⟨n1, n2⟩ := nd q hq
    exact ⟨fun z => by show upd c.F a (.lst vs) q.1 = none; rw [upd_ne n1.symm]; exact z, fun z => by show upd c.F a (.lst vs) q.2 = none; rw [upd_ne n2.symm]; exact z, fun _ h => h, fun _ h => h⟩
/-- what the freezing of v leaves as it was -/
def Others (w : Wd) (c c' : C) (v : V) (dv : DV) : Prop := ∀ u e, Rel w c u e → (isO dv = true → isO e = true → u ≠ v) → Rel w c' u e
theorem frz_ok (r : R w c) (h : Rel w c v dv) (x0 : SStep c0 c) (fr : Frs c0.H v dv) {s' : S} (e : frz dv c.s = .ok d s') :
    ∃ c', c'.s = s' ∧ c'.H = c.H ∧ R w c' ∧ SStep c0 c' ∧ RepD w c'.dl c'.F d v ∧ Le c.F c'.F ∧ c'.dl = c.dl ∧ Others w c c' v dv := by
  cases dv with
  | f d' =>
    cases e
    exact ⟨c, rfl, rfl, r, x0, h, Le.refl _, rfl, fun u e h _ => h⟩
  | p ds =>
    cases e
    exact ⟨c, rfl, rfl, r, x0, PlR.rep h, Le.refl _, rfl, fun u e h _ => h⟩
  | n k ds => exact h.elim
  | o ds =>
    cases e
    obtain ⟨a, vs, rfl, h2, h3, h4, h5⟩ := h
    obtain ⟨a', ea, hn⟩ := fr
    cases ea
    have le : Le c.F (upd c.F a (.lst vs)) := le_upd h2
    have ndl : ∀ q, c.dl = some q → a ≠ q.1 ∧ a ≠ q.2 := fun q hq => ⟨fun z => h5 (.inr ⟨q, hq, .inl z⟩), fun z => h5 (.inr ⟨q, hq, .inr z⟩)⟩
    refine ⟨{ c with F := upd c.F a (.lst vs) }, rfl, rfl, r.freeze h2 h3 h4 ndl c.ρ rfl fun j dv hj => .inl ⟨hj, fun o => h5 (.inl ⟨j, o⟩)⟩, ?_, ⟨a, vs, rfl, upd_same, RepAll.mono le (DlLe.refl _) ds vs h4⟩, le, rfl, ?_⟩
    · refine ⟨⟨x0.mono.trans le, x0.keep, x0.live, fun b hb => ?_, x0.tch, x0.dl⟩, x0.σ, x0.pres, x0.ini⟩
      by_cases z : b = a
      · subst z; exact .inr (.inr hn)
      · have hb' : c.F b ≠ none := by
          have q : upd c.F a (.lst vs) b ≠ none := hb
          rw [upd_ne z] at q
          exact q
        exact x0.newF b hb'
    · intro u e hu hne
      cases e with
      | f d => exact RepD.mono le (DlLe.refl _) d u hu
      | p pds => exact PlR.mono le (DlLe.refl _) hu
      | b j => exact hu
      | n k es => exact hu
      | o es =>
        obtain ⟨b, us, q1, q2, q3, q4, q5⟩ := hu
        have hb : b ≠ a := fun z => hne rfl rfl (by rw [q1, z])
        exact ⟨b, us, q1, by show upd c.F a (.lst vs) b = none; rw [upd_ne hb]; exact q2, q3, RepAll.mono le (DlLe.refl _) es us q4, q5⟩
  | b i =>
    obtain ⟨h1, dv, h2⟩ := h
    obtain ⟨v', e1, e2⟩ := r.slot i dv h2
    have ev : v' = v := by
      rw [h1] at e1
      exact (Option.some.inj (Option.some.inj e1)).symm
    subst ev
    cases dv with
    | f d' =>
      have e' : frz (.b i) c.s = .ok d' c.s := by simp only [frz, C.s, h2]
      rw [e'] at e
      cases e
      exact ⟨c, rfl, rfl, r, x0, e2, Le.refl _, rfl, fun u e h _ => h⟩
    | b j => exact e2.elim
    | p ds =>
      have e' : frz (.b i) c.s = .stuck := by simp only [frz, C.s, h2]
      rw [e'] at e
      cases e
    | n k ds =>
      have e' : frz (.b i) c.s = .stuck := by simp only [frz, C.s, h2]
      rw [e'] at e
      cases e
    | o ds =>
      have e' : frz (.b i) c.s = .ok (.lst ds) { c.s with r := c.ρ.set i (some (.f (.lst ds))) } := by simp only [frz, C.s, h2]
      rw [e'] at e
      cases e
      obtain ⟨a, vs, rfl, g2, g3, g4⟩ := e2
      have oi : Own c i a := ⟨e1, _, h2, rfl⟩
      have le : Le c.F (upd c.F a (.lst vs)) := le_upd g2
      have hi : i < c.ρ.length := (List.getElem?_eq_some_iff.mp h2).1
      have hρ : ∀ (j : Nat) (dv : DV), (c.ρ.set i (some (.f (.lst ds))))[j]? = some (some dv) → (c.ρ[j]? = some (some dv) ∧ ¬ Own c j a) ∨ (dv = .f (.lst ds) ∧ c.σ[j]? = some (some (.ref a))) := fun j dv hj => by
        by_cases z : i = j
        · subst z
          rw [List.getElem?_set_self hi] at hj
          cases hj
          exact .inr ⟨rfl, e1⟩
        · rw [List.getElem?_set_ne z] at hj
          exact .inl ⟨hj, fun o => z (r.dist i j a oi o)⟩
      have sm : ∀ (j : Nat) (dv : DV), c.ρ[j]? = some (some dv) → ∃ dv', (c.ρ.set i (some (.f (.lst ds))))[j]? = some (some dv') := fun j dv hj => by
        by_cases z : i = j
        · subst z
          exact ⟨_, List.getElem?_set_self hi⟩
        · exact ⟨dv, by rw [List.getElem?_set_ne z]; exact hj⟩
      have tc : ∀ b, Touch { c with F := upd c.F a (.lst vs), ρ := c.ρ.set i (some (.f (.lst ds))) } b → Touch c b := fun b t => by
        rcases t with ⟨j, h1, dv, h2, h3⟩ | t
        · rcases hρ j dv h2 with ⟨q, _⟩ | ⟨q, _⟩
          · exact .inl ⟨j, h1, dv, q, h3⟩
          · subst q; cases h3
        · exact .inr t
      refine ⟨{ c with F := upd c.F a (.lst vs), ρ := c.ρ.set i (some (.f (.lst ds))) }, rfl, rfl, r.freeze g2 g3 g4 (fun q hq => r.ndeal i a q oi hq) _ (by rw [List.length_set]) hρ, ?_, ⟨a, vs, rfl, upd_same, RepAll.mono le (DlLe.refl _) ds vs g4⟩, le, rfl, ?_⟩
      · refine x0.trans ⟨⟨le, fun b o h _ _ => h, fun b h => h, fun b hb => ?_, fun b t => .inl (tc b t), DlLe.refl _⟩, rfl, sm, fun j k fs hj => by
          by_cases z : i = j
          · subst z
            have hj' : (c.ρ.set i (some (.f (.lst ds))))[i]? = some (some (.n k fs)) := hj
            rw [List.getElem?_set_self hi] at hj'
            cases hj'
          · exact ⟨fs, (List.getElem?_set_ne z).symm.trans hj⟩⟩
        by_cases z : b = a
        · subst z; exact .inr (.inl (.inl ⟨i, oi⟩))
        · have q : upd c.F a (.lst vs) b ≠ none := hb
          rw [upd_ne z] at q
          exact .inl q
      · intro u e hu _
        cases e with
        | f d => exact RepD.mono le (DlLe.refl _) d u hu
        | p pds => exact PlR.mono le (DlLe.refl _) hu
        | b j =>
          obtain ⟨q1, dv, q2⟩ := hu
          exact ⟨q1, sm j dv q2⟩
        | n k es => exact hu
        | o es =>
          obtain ⟨b, us, q1, q2, q3, q4, q5⟩ := hu
          have hb : b ≠ a := fun z => q5 (.inl ⟨i, by rw [z]; exact oi⟩)
          exact ⟨b, us, q1, by show upd c.F a (.lst vs) b = none; rw [upd_ne hb]; exact q2, q3, RepAll.mono le (DlLe.refl _) es us q4, fun t => q5 (tc b t)⟩
theorem bnd_ok {α β : Type} {m : M α} {f : α → M β} {s s' : S} {b : β} (h : bnd m f s = .ok b s') : ∃ a s1, m s = .ok a s1 ∧ f a s1 = .ok b s' := by
  unfold bnd at h
  cases e : m s with
  | ok a s1 => rw [e] at h; exact ⟨a, s1, rfl, h⟩
  | exc k d s1 => rw [e] at h; cases h
  | stuck => rw [e] at h; cases h
/-! ### several values at hand -/
def Rels (w : Wd) (H : Hp) (c : C) : List V → List DV → Prop
  | [], [] => True
  | v :: vs, d :: ds => Rel w c v d ∧ Frs H v d ∧ (∀ (i : Nat) u e, vs[i]? = some u → ds[i]? = some e → isO d = true → isO e = true → u ≠ v) ∧ Rels w H c vs ds
  | _, _ => False
theorem Rels.step {H : Hp} (x : ∀ u e, Rel w c u e → Rel w c' u e) : ∀ {vs : List V} {ds : List DV}, Rels w H c vs ds → Rels w H c' vs ds
  | [], [], h => h
  | _ :: _, _ :: _, ⟨h1, h2, h3, h4⟩ => ⟨x _ _ h1, h2, h3, Rels.step x h4⟩
  | [], _ :: _, h => h.elim
  | _ :: _, [], h => h.elim
theorem Rels.others {H : Hp} (x : Others w c c' v dv) : ∀ {vs : List V} {ds : List DV}, (∀ (i : Nat) u e, vs[i]? = some u → ds[i]? = some e → isO dv = true → isO e = true → u ≠ v) → Rels w H c vs ds → Rels w H c' vs ds
  | [], [], _, h => h
  | u :: vs, e :: ds, n, ⟨h1, h2, h3, h4⟩ => ⟨x u e h1 (n 0 u e rfl rfl), h2, h3, Rels.others x (fun i u e a b => n (i + 1) u e (by simpa using a) (by simpa using b)) h4⟩
  | [], _ :: _, _, h => h.elim
  | _ :: _, [], _, h => h.elim
theorem Rels.weakH {H H' : Hp} (x : ∀ a, H a = none → H' a = none) : ∀ {vs : List V} {ds : List DV}, Rels w H c vs ds → Rels w H' c vs ds
  | [], [], h => h
  | v :: vs, d :: ds, ⟨h1, h2, h3, h4⟩ => by
    refine ⟨h1, ?_, h3, Rels.weakH x h4⟩
    cases d with
    | o es =>
      obtain ⟨a, e, n⟩ := h2
      exact ⟨a, e, x a n⟩
    | _ => trivial
  | [], _ :: _, h => h.elim
  | _ :: _, [], h => h.elim
theorem Rels.at_ {H : Hp} : ∀ {vs : List V} {ds : List DV} {i : Nat} {d : DV}, Rels w H c vs ds → ds[i]? = some d → ∃ v, vs[i]? = some v ∧ Rel w c v d ∧ Frs H v d
  | [], [], _, _, _, h => by simp at h
  | v :: vs, d :: ds, 0, _, ⟨h1, h2, _, _⟩, h => by simp at h; subst h; exact ⟨v, rfl, h1, h2⟩
  | v :: vs, d :: ds, i + 1, _, ⟨_, _, _, h4⟩, h => by
    obtain ⟨u, e1, e2⟩ := Rels.at_ (i := i) h4 (by simpa using h)
    exact ⟨u, by simpa using e1, e2⟩
  | [], _ :: _, _, _, h, _ => h.elim
  | _ :: _, [], _, _, h, _ => h.elim
theorem frzs_ok : ∀ {ds : List DV} {vs : List V} {c : C} {es : List D} {s' : S}, R w c → Rels w c0.H c vs ds → SStep c0 c → frzs ds c.s = .ok es s' →
    ∃ c', c'.s = s' ∧ c'.H = c.H ∧ R w c' ∧ SStep c0 c' ∧ RepAll w c'.dl c'.F es vs ∧ Le c.F c'.F ∧ c'.dl = c.dl
  | [], [], c, es, s', r, _, x, e => by
    cases e
    exact ⟨c, rfl, rfl, r, x, rfl, Le.refl _, rfl⟩
  | d :: ds, v :: vs, c, es, s', r, ⟨h1, h2, h3, h4⟩, x, e => by
    obtain ⟨y, s1, q, e'⟩ := bnd_ok (show bnd (frz d) (fun y => bnd (frzs ds) fun ys => ret (y :: ys)) c.s = .ok es s' from e)
    obtain ⟨c1, rfl, hH, r1, x1, rep, le, hdl, oth⟩ := frz_ok r h1 x h2 q
    obtain ⟨ys, s2, q2, e2⟩ := bnd_ok e'
    cases e2
    obtain ⟨c2, e3, hH2, r2, x2, rep2, le2, hdl2⟩ := frzs_ok r1 (Rels.others oth h3 h4) x1 q2
    exact ⟨c2, e3, hH2.trans hH, r2, x2, ⟨v, vs, rfl, by rw [hdl2]; exact RepD.mono le2 (DlLe.refl _) y v rep, rep2⟩, le.trans le2, hdl2.trans hdl⟩
  | [], _ :: _, _, _, _, _, h, _, _ => h.elim
  | _ :: _, [], _, _, _, _, h, _, _ => h.elim
/-! ### new objects -/
theorem R.noF (r : R w c) (h : c.H p = none) : c.F p = none := by
  cases e : c.F p with
  | none => rfl
  | some o => rw [r.sub p o e] at h; cases h
theorem R.noT (r : R w c) (h : c.H p = none) : ¬ Touch c p := fun t => (r.touchH t).1 h
/-- a new object, not let be -/
theorem R.lay (r : R w c) (h : c.H p = none) (o : HO) (nt0 : isTb o = false := by rfl) : R w { c with H := upd c.H p o } ∧ SStep c { c with H := upd c.H p o } := by
  have le : Le c.H (upd c.H p o) := le_upd h
  refine ⟨⟨r.sub.trans le, r.len, fun i dv hi => ?_, r.dist, r.ndeal, ?_⟩, ⟨⟨Le.refl _, fun a u e _ _ => le a u e, fun a e => ?_, fun a e => .inl e, fun a e => .inl e, DlLe.refl _⟩, rfl, fun i dv hi => ⟨dv, hi⟩, fun _ _ fs h => ⟨fs, h⟩⟩⟩
  · obtain ⟨v, e1, e2⟩ := r.slot i dv hi
    refine ⟨v, e1, ?_⟩
    cases dv with
    | f d => exact e2
    | p pds => exact e2
    | b j => exact e2
    | o es =>
      obtain ⟨b, us, q1, q2, q3, q4⟩ := e2
      exact ⟨b, us, q1, q2, le _ _ q3, q4⟩
    | n k es =>
      obtain ⟨b, dx, us, q1, q2, q3, q5, q4⟩ := e2
      exact ⟨b, dx, us, q1, q2, le _ _ q3, q5, q4⟩
  · exact ⟨DealAt.imp r.deal.1 fun q hq => ⟨fun h => h, fun h => h, fun _ h => le _ _ h, fun _ h => le _ _ h⟩, r.deal.2.imp (KeepT.le le) noTb_refl (noTb_upd nt0)⟩
  · have e' : upd c.H p o a = none := e
    by_cases z : a = p
    · subst z; exact h
    · rw [upd_ne z] at e'
      exact e'
theorem R.newLst (r : R w c) (h : c.H p = none) (hv : RepAll w c.dl c.F ds vs) : Rel w { c with H := upd c.H p (.lst vs) } (.ref p) (.o ds) :=
  ⟨p, vs, rfl, r.noF h, upd_same, hv, fun t => r.noT h t⟩
/-- a new object, let be at once -/
theorem R.layF (r : R w c) (h : c.H p = none) (o : HO) (nt0 : isTb o = false := by rfl) : R w { c with H := upd c.H p o, F := upd c.F p o } ∧ SStep c { c with H := upd c.H p o, F := upd c.F p o } := by
  obtain ⟨r1, x1⟩ := r.lay h o nt0
  have hf := r.noF h
  have le : Le c.F (upd c.F p o) := le_upd hf
  have nt := r.noT h
  refine ⟨⟨fun a u e => ?_, r1.len, fun i dv hi => ?_, r.dist, r.ndeal, ?_⟩, ⟨⟨le, x1.keep, x1.live, fun a e => ?_, x1.tch, DlLe.refl _⟩, rfl, x1.pres, x1.ini⟩⟩
  · have e' : upd c.F p o a = some u := e
    by_cases z : a = p
    · subst z
      rw [upd_same] at e'
      cases e'
      exact upd_same
    · rw [upd_ne z] at e'
      show upd c.H p o a = _
      rw [upd_ne z]
      exact r.sub a u e'
  · obtain ⟨v, e1, e2⟩ := r1.slot i dv hi
    refine ⟨v, e1, ?_⟩
    cases dv with
    | f d => exact RepD.mono le (DlLe.refl _) d v e2
    | p pds => exact PlR.mono le (DlLe.refl _) e2
    | b j => exact e2
    | o es =>
      obtain ⟨b, us, q1, q2, q3, q4⟩ := e2
      have hb : b ≠ p := fun z => nt (.inl ⟨i, by rw [← z, ← q1]; exact e1, _, hi, rfl⟩)
      exact ⟨b, us, q1, by show upd c.F p o b = none; rw [upd_ne hb]; exact q2, q3, RepAll.mono le (DlLe.refl _) es us q4⟩
    | n k es =>
      obtain ⟨b, dx, us, q1, q2, q3, q5, q4⟩ := e2
      have hb : b ≠ p := fun z => nt (.inl ⟨i, by rw [← z, ← q1]; exact e1, _, hi, rfl⟩)
      exact ⟨b, dx, us, q1, by show upd c.F p o b = none; rw [upd_ne hb]; exact q2, q3, q5, RepAll.mono le (DlLe.refl _) es us q4⟩
  · refine ⟨DealAt.imp r1.deal.1 fun q hq => ?_, r1.deal.2.imp (KeepT.refl _) (noTb_upd nt0) noTb_refl⟩
    have n1 : q.1 ≠ p := fun z => nt (.inr ⟨q, hq, .inl z.symm⟩)
    have n2 : q.2 ≠ p := fun z => nt (.inr ⟨q, hq, .inr z.symm⟩)
    exact ⟨fun z => by show upd c.F p o q.1 = none; rw [upd_ne n1]; exact z, fun z => by show upd c.F p o q.2 = none; rw [upd_ne n2]; exact z, fun _ h => h, fun _ h => h⟩
  · have e' : upd c.F p o a ≠ none := e
    by_cases z : a = p
    · subst z; exact .inr (.inr h)
    · rw [upd_ne z] at e'
      exact .inl e'
end
end DI

end
section
set_option Elab.async false
set_option linter.all false
set_option maxRecDepth 100000
set_option maxHeartbeats 4000000
/-! DI4: readings by data; expressions. Own text. -/
namespace DI
open PySem PySem.Spec PyProof.Rows L2
section
variable (w : Wd) (Ex : Nat → D → C → Prop)
/-- what a result is to reach, seen from c -/
def Aft {α : Type} (c : C) (r : Res α) (Q : C → α → Prop) : Prop := match r with
  | .ok a s => ∀ c', c'.s = s → R w c' → SStep c c' → Q c' a
  | .exc k d s => ∀ c', c'.s = s → R w c' → SStep c c' → Ex k d c'
  | .stuck => False
variable (Φ : Fns)
abbrev ev (e : E) : M DV := evE w.T Φ e
abbrev evs (es : List E) : M (List DV) := evEs w.T Φ es
def tE (e : E) : TE := fun σ H Q => ∃ c, c.σ = σ ∧ c.H = H ∧ R w c ∧ Aft w Ex c (ev w Φ e c.s) fun c' dv => ∀ v, Rel w c' v dv → Frs c.H v dv → Q v c'.H
def tEs (es : List E) : TA := fun σ H Q => ∃ c, c.σ = σ ∧ c.H = H ∧ R w c ∧ Aft w Ex c (evs w Φ es c.s) fun c' dvs => ∀ vs, Rels w c.H c' vs dvs → Q vs c'.H
/-- a test -/
def tT (e : E) : TT := fun σ H Q => ∃ c, c.σ = σ ∧ c.H = H ∧ R w c ∧ Aft w Ex c (bnd (ev w Φ e) bool? c.s) fun c' k => Q k c'.H
end
section
variable {w : Wd} {Ex : Nat → D → C → Prop} {Φ : Fns} {α β : Type} {c c0 c1 c2 : C} {r : Res α} {Q Q' : C → α → Prop} {X : Cx} {e : E} {es : List E} {v : V} {dv : DV}
theorem Aft.imp (h : Aft w Ex c r Q) (f : ∀ c' a, R w c' → SStep c c' → Q c' a → Q' c' a) : Aft w Ex c r Q' := by
  cases r with
  | ok a s => exact fun c' e r x => f c' a r x (h c' e r x)
  | exc k d s => exact h
  | stuck => exact h
theorem Aft.bnd {m : M α} {f : α → M β} {Q : C → β → Prop} (h : Aft w Ex c0 (DI.bnd m f c1.s) Q) (x : SStep c0 c1) : Aft w Ex c1 (m c1.s) fun c2 a => SStep c1 c2 ∧ R w c2 ∧ Aft w Ex c0 (f a c2.s) Q := by
  unfold DI.bnd at h
  cases e : m c1.s with
  | ok a s =>
    rw [e] at h
    intro c2 hs r2 x2
    exact ⟨x2, r2, by rw [hs]; exact h⟩
  | exc k d s =>
    rw [e] at h
    intro c2 hs r2 x2
    exact h c2 hs r2 (x.trans x2)
  | stuck => rw [e] at h; exact h
theorem Aft.ret {a : α} (h : Aft w Ex c0 (DI.ret a c.s) Q) (x : SStep c0 c) (r : R w c) : Q c a := h c rfl r x
theorem Aft.ok {a : α} {s : S} (h : Aft w Ex c0 r Q) (e : r = .ok a s) (hs : c.s = s) (x : SStep c0 c) (rr : R w c) : Q c a := by
  subst e
  exact h c hs rr x
theorem Aft.opt {o : Option α} {f : α → M β} {Q : C → β → Prop} (h : Aft w Ex c0 (DI.bnd (opt o) f c.s) Q) : ∃ a, o = some a ∧ Aft w Ex c0 (f a c.s) Q := by
  cases o with
  | none => exact h.elim
  | some a => exact ⟨a, rfl, h⟩
theorem Aft.opt1 {o : Option α} (h : Aft w Ex c0 (DI.opt o c.s) Q) (x : SStep c0 c) (r : R w c) : ∃ a, o = some a ∧ Q c a := by
  cases o with
  | none => exact h.elim
  | some a => exact ⟨a, rfl, h c rfl r x⟩
theorem Aft.int {d : D} {f : Int → M β} {Q : C → β → Prop} (h : Aft w Ex c0 (DI.bnd (int? d) f c.s) Q) : ∃ i, d = .int i ∧ Aft w Ex c0 (f i c.s) Q := by
  cases d with
  | int i => exact ⟨i, rfl, h⟩
  | _ => exact h.elim
theorem Aft.bool {f : Bool → M β} {Q : C → β → Prop} (h : Aft w Ex c0 (DI.bnd (bool? dv) f c.s) Q) : ∃ i, dv = .f (.bl i) ∧ Aft w Ex c0 (f i c.s) Q := by
  cases dv with
  | f d =>
    cases d with
    | bl i => exact ⟨i, rfl, h⟩
    | _ => exact h.elim
  | _ => exact h.elim
theorem Aft.bool1 {Q : C → Bool → Prop} (h : Aft w Ex c0 (bool? dv c.s) Q) : ∃ i, dv = .f (.bl i) ∧ Aft w Ex c0 (DI.ret i c.s) Q := by
  cases dv with
  | f d =>
    cases d with
    | bl i => exact ⟨i, rfl, h⟩
    | _ => exact h.elim
  | _ => exact h.elim
theorem Aft.look {f : D → M β} {Q : C → β → Prop} (h : Aft w Ex c0 (DI.bnd (DI.look dv) f c.s) Q) (r : R w c) (rel : Rel w c v dv) : ∃ d, Lk w c v d ∧ Aft w Ex c0 (f d c.s) Q := by
  obtain ⟨d, h1, h2⟩ := look_ok r rel rfl (f := f) rfl (fun z => by rw [z] at h; exact h)
  rw [h2] at h
  exact ⟨d, h1, h⟩
theorem bnd_exc {m : M α} {f : α → M β} {s s' : S} {k : Nat} {d : D} (h : DI.bnd m f s = .exc k d s') : m s = .exc k d s' ∨ ∃ a s1, m s = .ok a s1 ∧ f a s1 = .exc k d s' := by
  unfold DI.bnd at h
  cases e : m s with
  | ok a s1 => rw [e] at h; exact .inr ⟨a, s1, rfl, h⟩
  | exc k2 d2 s1 =>
    rw [e] at h
    have h2 : Res.exc k2 d2 s1 = (Res.exc k d s' : Res β) := h
    cases h2
    exact .inl rfl
  | stuck => rw [e] at h; cases h
theorem bnd_assoc {γ : Type} (m : M α) (f : α → M β) (g : β → M γ) : DI.bnd (DI.bnd m f) g = DI.bnd m fun a => DI.bnd (f a) g := by
  funext s
  unfold DI.bnd
  cases m s <;> rfl
theorem frz_noExc {dv : DV} {s : S} {k d s'} : DI.frz dv s ≠ .exc k d s' := fun e => by
  cases dv with
  | b i =>
    simp only [DI.frz] at e
    split at e <;> cases e
  | f d => cases e
  | p pds => cases e
  | o d => cases e
  | n _ d => cases e
theorem Aft.frz {f : D → M β} {Q : C → β → Prop} (h : Aft w Ex c0 (DI.bnd (DI.frz dv) f c.s) Q) (r : R w c) (x : SStep c0 c) (rel : Rel w c v dv) (fr : Frs c0.H v dv) :
    ∃ d c', c'.H = c.H ∧ R w c' ∧ SStep c0 c' ∧ RepD w c'.dl c'.F d v ∧ Le c.F c'.F ∧ c'.dl = c.dl ∧ Others w c c' v dv ∧ Aft w Ex c0 (f d c'.s) Q := by
  unfold DI.bnd at h
  cases e : DI.frz dv c.s with
  | ok d s' =>
    rw [e] at h
    obtain ⟨c', rfl, hH, r', x', rep, le, hdl, oth⟩ := frz_ok r rel x fr e
    exact ⟨d, c', hH, r', x', rep, le, hdl, oth, h⟩
  | exc k d s => exact (frz_noExc e).elim
  | stuck => rw [e] at h; exact h.elim
theorem Frs.weak {H : Hp} (h : Frs H v dv) (x : ∀ a, H a = none → c0.H a = none) : Frs c0.H v dv := by
  cases dv with
  | o ds =>
    obtain ⟨a, e, n⟩ := h
    exact ⟨a, e, x a n⟩
  | _ => trivial
theorem frzs_noExc : ∀ {ds : List DV} {s : S} {k d s'}, DI.frzs ds s ≠ .exc k d s'
  | [], _, _, _, _, h => by cases h
  | d :: ds, s, k, d', s', h => by
    rcases bnd_exc (show DI.bnd (DI.frz d) (fun y => DI.bnd (DI.frzs ds) fun ys => DI.ret (y :: ys)) s = .exc k d' s' from h) with h1 | ⟨a, s1, _, h1⟩
    · exact frz_noExc h1
    · rcases bnd_exc h1 with h2 | ⟨b, s2, _, h2⟩
      · exact frzs_noExc h2
      · cases h2
theorem Aft.frzs {f : List D → M β} {Q : C → β → Prop} {vs : List V} {dvs : List DV} (h : Aft w Ex c0 (DI.bnd (DI.frzs dvs) f c.s) Q) (r : R w c) (x : SStep c0 c) (rel : Rels w c0.H c vs dvs) :
    ∃ ds c', c'.H = c.H ∧ R w c' ∧ SStep c0 c' ∧ RepAll w c'.dl c'.F ds vs ∧ Aft w Ex c0 (f ds c'.s) Q := by
  unfold DI.bnd at h
  cases e : DI.frzs dvs c.s with
  | ok ds s' =>
    rw [e] at h
    obtain ⟨c', rfl, hH, r', x', rep, _, _⟩ := frzs_ok r rel x e
    exact ⟨ds, c', hH, r', x', rep, h⟩
  | exc k d s => exact (frzs_noExc e).elim
  | stuck => rw [e] at h; exact h.elim
/-- the data that several values hold -/
def Lks (w : Wd) (c : C) : List V → List D → Prop
  | [], [] => True
  | v :: vs, d :: ds => Lk w c v d ∧ Lks w c vs ds
  | _, _ => False
theorem Aft.looks {Q : C → β → Prop} {H : Hp} : ∀ {vs : List V} {dvs : List DV} {f : List D → M β}, Aft w Ex c0 (DI.bnd (DI.looks dvs) f c.s) Q → R w c → Rels w H c vs dvs → ∃ ds, Lks w c vs ds ∧ Aft w Ex c0 (f ds c.s) Q
  | [], [], f, h, _, _ => ⟨[], trivial, h⟩
  | v :: vs, d :: ds, f, h, r, ⟨h1, _, _, h4⟩ => by
    have h' : Aft w Ex c0 (DI.bnd (DI.look d) (fun y => DI.bnd (DI.looks ds) fun ys => f (y :: ys)) c.s) Q := by
      have e : DI.bnd (DI.looks (d :: ds)) f = DI.bnd (DI.look d) (fun y => DI.bnd (DI.looks ds) fun ys => f (y :: ys)) := by
        show DI.bnd (DI.bnd (DI.look d) fun y => DI.bnd (DI.looks ds) fun ys => DI.ret (y :: ys)) f = _
        rw [bnd_assoc]
        congr 1
        funext y
        rw [bnd_assoc]
        rfl
      rw [← e]
      exact h
    obtain ⟨y, hy, h2⟩ := h'.look r h1
    obtain ⟨ys, hys, h3⟩ := Aft.looks h2 r h4
    exact ⟨y :: ys, ⟨hy, hys⟩, h3⟩
  | [], _ :: _, _, _, _, h => h.elim
  | _ :: _, [], _, _, _, h => h.elim
theorem Lks.one {vs : List V} {d : D} (h : Lks w c vs [d]) : ∃ v, vs = [v] ∧ Lk w c v d := by
  match vs, h with
  | [v], ⟨h1, _⟩ => exact ⟨v, rfl, h1⟩
theorem Lks.two {vs : List V} {d d' : D} (h : Lks w c vs [d, d']) : ∃ v u, vs = [v, u] ∧ Lk w c v d ∧ Lk w c u d' := by
  match vs, h with
  | [v, u], ⟨h1, h2, _⟩ => exact ⟨v, u, rfl, h1, h2⟩
theorem tE_mono {σ : L2.St} {H : Hp} {Q Q' : VK} (h : tE w Ex Φ e σ H Q) (f : ∀ v H', Q v H' → Q' v H') : tE w Ex Φ e σ H Q' := by
  obtain ⟨c, h1, h2, h3, h4⟩ := h
  exact ⟨c, h1, h2, h3, h4.imp fun c' dv _ _ q v a b => f v _ (q v a b)⟩
theorem tEs_mono {σ : L2.St} {H : Hp} {Q Q' : List V → Hp → Prop} (h : tEs w Ex Φ es σ H Q) (f : ∀ v H', Q v H' → Q' v H') : tEs w Ex Φ es σ H Q' := by
  obtain ⟨c, h1, h2, h3, h4⟩ := h
  exact ⟨c, h1, h2, h3, h4.imp fun c' dv _ _ q v a => f v _ (q v a)⟩
theorem tT_mono {σ : L2.St} {H : Hp} {Q Q' : Bool → Hp → Prop} (h : tT w Ex Φ e σ H Q) (f : ∀ v H', Q v H' → Q' v H') : tT w Ex Φ e σ H Q' := by
  obtain ⟨c, h1, h2, h3, h4⟩ := h
  exact ⟨c, h1, h2, h3, h4.imp fun c' k _ _ q => f k _ q⟩
/-- an expression first, then what follows -/
theorem tE_seq {f : DV → M β} {Q : C → β → Prop} {P : VK} (h : Aft w Ex c0 (bnd (ev w Φ e) f c1.s) Q) (x : SStep c0 c1) (r : R w c1)
    (k : ∀ c2 v dv, R w c2 → SStep c1 c2 → SStep c0 c2 → c2.σ = c1.σ → Rel w c2 v dv → Frs c1.H v dv → Frs c0.H v dv → Aft w Ex c0 (f dv c2.s) Q → P v c2.H) : tE w Ex Φ e c1.σ c1.H P :=
  ⟨c1, rfl, rfl, r, (h.bnd x).imp fun c2 dv r2 x2 ⟨_, _, q⟩ v rel fr => k c2 v dv r2 x2 (x.trans x2) x2.σ rel fr (fr.weak x.live) q⟩
theorem tEs_seq {f : List DV → M β} {Q : C → β → Prop} {P : List V → Hp → Prop} (h : Aft w Ex c0 (bnd (evs w Φ es) f c1.s) Q) (x : SStep c0 c1) (r : R w c1)
    (k : ∀ c2 vs dvs, R w c2 → SStep c1 c2 → SStep c0 c2 → c2.σ = c1.σ → Rels w c1.H c2 vs dvs → Rels w c0.H c2 vs dvs → Aft w Ex c0 (f dvs c2.s) Q → P vs c2.H) : tEs w Ex Φ es c1.σ c1.H P :=
  ⟨c1, rfl, rfl, r, (h.bnd x).imp fun c2 dv r2 x2 ⟨_, _, q⟩ v rel => k c2 v dv r2 x2 (x.trans x2) x2.σ rel (rel.weakH x.live) q⟩
theorem _root_.L2.PE.imp {a : Expr} {t t' : TE} (h : PE X a t) (f : ∀ σ H Q, t' σ H Q → t σ H Q) : PE X a t' := ⟨fun pins s σ H Q I q => h.run pins s σ H Q I (f σ H Q q)⟩
theorem _root_.L2.PT.imp {a : Expr} {t t' : TT} (h : PT X a t) (f : ∀ σ H Q, t' σ H Q → t σ H Q) : PT X a t' := ⟨fun pins s σ H Q I q => h.run pins s σ H Q I (f σ H Q q)⟩
theorem _root_.L2.PA.imp {a : List Expr} {t t' : TA} (h : PA X a t) (f : ∀ σ H Q, t' σ H Q → t σ H Q) : PA X a t' := ⟨fun pos pins s σ H Q I q => h.run pos pins s σ H Q I (f σ H Q q)⟩
end
/-! ### what operations on values ask, by data -/
section
variable {w : Wd} {Ex : Nat → D → C → Prop} {c c0 : C} {x y : V} {dx dy : D}
/-- the value v is what a result is, wherever it comes -/
def Fin (w : Wd) (c0 : C) (Q : VK) : C → DV → Prop := fun c' dv => ∀ v, Rel w c' v dv → Frs c0.H v dv → Q v c'.H
theorem Fin.f {Q : VK} {d : D} {v : V} (h : Fin w c0 Q c (.f d)) (r : RepD w c.dl c.F d v) : Q v c.H := h v r trivial
theorem Fin.int {Q : VK} {i : Int} (h : Fin w c0 Q c (.f (.int i))) : Q (.int i) c.H := h _ rfl trivial
theorem Fin.bl {Q : VK} {i : Bool} (h : Fin w c0 Q c (.f (.bl i))) : Q (.bl i) c.H := h _ rfl trivial
/-- a new tuple is the result -/
theorem Aft.newTup {Q : VK} {ds : List D} {vs : List V} (h : Aft w Ex c0 (DI.ret (.f (.tup ds)) c.s) (Fin w c0 Q)) (x : SStep c0 c) (r : R w c) (rep : RepAll w c.dl c.F ds vs) {p : Addr} (hp : c.H p = none) : Q (.ref p) (upd c.H p (.tup vs)) := by
  obtain ⟨r', x'⟩ := r.layF hp (.tup vs)
  have le : Le c.F (upd c.F p (.tup vs)) := le_upd (r.noF hp)
  exact h { c with H := upd c.H p (.tup vs), F := upd c.F p (.tup vs) } rfl r' (x.trans x') (.ref p) ⟨p, vs, rfl, SqT.of upd_same, RepAll.mono le (DlLe.refl _) ds vs rep⟩ trivial
/-- a new list is the result -/
theorem Aft.newLst {Q : VK} {ds : List D} {vs : List V} (h : Aft w Ex c0 (DI.ret (.o ds) c.s) (Fin w c0 Q)) (x : SStep c0 c) (r : R w c) (rep : RepAll w c.dl c.F ds vs) {p : Addr} (hp : c.H p = none) : Q (.ref p) (upd c.H p (.lst vs)) := by
  obtain ⟨r', x'⟩ := r.lay hp (.lst vs)
  exact h { c with H := upd c.H p (.lst vs) } rfl r' (x.trans x') (.ref p) (r.newLst hp rep) ⟨p, rfl, x.live p hp⟩
end
end DI

end
section
set_option Elab.async false
set_option linter.all false
set_option maxRecDepth 100000
set_option maxHeartbeats 4000000
/-! DI5: operators by data. Own text. -/
namespace DI
open PySem PySem.Spec PyProof.Rows L2
theorem lim_eq : lim = sizeLine := by decide
section
variable {w : Wd} {Ex : Nat → D → C → Prop} {X : Cx}
def OpOk (w : Wd) (Ex : Nat → D → C → Prop) (X : Cx) (f : Value → Value → Sem Value) (k : D → D → Option DV) : Prop :=
  ∃ r : R2, OpR X f r ∧ ∀ {c0 c : C} {Q : VK} {x y : V} {dx dy : D}, R w c → SStep c0 c → Lk w c x dx → Lk w c y dy → Aft w Ex c0 (opt (k dx dy) c.s) (Fin w c0 Q) → r x y c.H Q
theorem Aft.opt0 {α : Type} {c0 c : C} {o : Option α} {Q : C → α → Prop} (h : Aft w Ex c0 (DI.opt o c.s) Q) : ∃ a, o = some a ∧ Aft w Ex c0 (DI.ret a c.s) Q := by
  cases o with
  | none => exact h.elim
  | some a => exact ⟨a, rfl, h⟩
theorem Aft.fin {c0 c : C} {dv : DV} {Q : VK} {v : V} (h : Aft w Ex c0 (DI.ret dv c.s) (Fin w c0 Q)) (x : SStep c0 c) (r : R w c) (rel : Rel w c v dv) (fr : Frs c0.H v dv) : Q v c.H := h.ret x r v rel fr
theorem binD_add {dx dy : D} {a : DV} (h : binD .add dx dy = some a) : (∃ i j, dx = .int i ∧ dy = .int j ∧ a = .f (.int (i + j))) ∨ (∃ xs ys, dx = .tup xs ∧ dy = .tup ys ∧ xs.length + ys.length ≤ lim ∧ a = .f (.tup (xs ++ ys))) ∨
    ∃ xs ys, dx = .lst xs ∧ dy = .lst ys ∧ xs.length + ys.length ≤ lim ∧ a = .o (xs ++ ys) := by
  cases dx <;> cases dy <;> simp only [binD] at h <;> first
    | (cases h; done)
    | (split at h <;> first
        | (cases h; done)
        | (cases h; first
            | exact .inr (.inl ⟨_, _, rfl, rfl, by assumption, rfl⟩)
            | exact .inr (.inr ⟨_, _, rfl, rfl, by assumption, rfl⟩)))
    | (cases h; exact .inl ⟨_, _, rfl, rfl, rfl⟩)
theorem ok_add (hK : X.K = w.K) : OpOk w Ex X (binaryOp .Add) (binD .add) := by
  refine ⟨_, op_add.or ((op_catA (X := X)).or op_cat), fun {c0 c Q x y dx dy} r st hx hy h => ?_⟩
  obtain ⟨a, e, h⟩ := h.opt0
  rcases binD_add e with ⟨i, j, rfl, rfl, rfl⟩ | ⟨xs, ys, rfl, rfl, hz, rfl⟩ | ⟨xs, ys, rfl, rfl, hz, rfl⟩
  · exact .inl ⟨i, j, hx, hy, h.fin st r rfl trivial⟩
  · obtain ⟨a1, v1, rfl, s1, p1⟩ := hx
    obtain ⟨a2, v2, rfl, s2, p2⟩ := hy
    have hz' : v1.length + v2.length ≤ sizeLine := by rw [p1.length, p2.length, ← lim_eq]; exact hz
    refine .inr (.inl ⟨a1, a2, v1, v2, rfl, rfl, by rw [hK]; exact r.sub.sqT s1, by rw [hK]; exact r.sub.sqT s2, hz', fun e => ?_, fun n e => ?_, fun n1 n2 p hp => ?_⟩)
    · have e0 : xs = [] := by
        have := p1.length
        rw [e] at this
        exact List.length_eq_zero_iff.mp this.symm
      subst e0
      rw [List.nil_append] at h
      exact h.fin st r ⟨a2, v2, rfl, s2, p2⟩ trivial
    · have e0 : ys = [] := by
        have := p2.length
        rw [e] at this
        exact List.length_eq_zero_iff.mp this.symm
      subst e0
      rw [List.append_nil] at h
      exact h.fin st r ⟨a1, v1, rfl, s1, p1⟩ trivial
    · exact h.newTup st r (p1.append p2) hp
  · obtain ⟨a1, v1, rfl, s1, p1⟩ := hx
    obtain ⟨a2, v2, rfl, s2, p2⟩ := hy
    have hz' : v1.length + v2.length ≤ sizeLine := by rw [p1.length, p2.length, ← lim_eq]; exact hz
    exact .inr (.inr ⟨a1, a2, v1, v2, rfl, rfl, s1, s2, hz', fun p hp => h.newLst st r (p1.append p2) hp⟩)
theorem ok_sub : OpOk w Ex X (binaryOp .Sub) (binD .sub) := by
  refine ⟨_, op_sub, fun {c0 c Q x y dx dy} r st hx hy h => ?_⟩
  obtain ⟨a, e, h⟩ := h.opt0
  cases dx <;> first | cases e | skip
  cases dy <;> first | cases e | skip
  exact ⟨_, _, hx, hy, h.fin st r rfl trivial⟩
theorem ok_mod : OpOk w Ex X (binaryOp .Mod) (binD .mod) := by
  refine ⟨_, op_mod, fun {c0 c Q x y dx dy} r st hx hy h => ?_⟩
  obtain ⟨a, e, h⟩ := h.opt0
  cases dx <;> first | cases e | skip
  cases dy <;> first | cases e | skip
  simp only [binD] at e
  split at e
  · cases e
    exact ⟨_, _, hx, hy, by assumption, h.fin st r rfl trivial⟩
  · cases e
theorem ok_fdiv : OpOk w Ex X (binaryOp .FloorDiv) (binD .fdiv) := by
  refine ⟨_, op_fdivW, fun {c0 c Q x y dx dy} r st hx hy h => ?_⟩
  obtain ⟨a, e, h⟩ := h.opt0
  cases dx <;> first | cases e | skip
  cases dy <;> first | cases e | skip
  simp only [binD] at e
  split at e
  · cases e
    exact ⟨_, _, hx, hy, by assumption, h.fin st r rfl trivial⟩
  · cases e
theorem ok_pow : OpOk w Ex X (binaryOp .Pow) (binD .pow) := by
  refine ⟨_, op_pow, fun {c0 c Q x y dx dy} r st hx hy h => ?_⟩
  obtain ⟨a, e, h⟩ := h.opt0
  cases dx <;> first | cases e | skip
  cases dy <;> first | cases e | skip
  simp only [binD] at e
  split at e
  · cases e
    exact ⟨_, _, hx, hy, by assumption, h.fin st r rfl trivial⟩
  · cases e
theorem mulOk_or {i j : Int} (h : mulOk i j = true) : CMul i j ∨ CMulW i j := by
  unfold mulOk small64 at h
  simp only [Bool.or_eq_true, Bool.and_eq_true, decide_eq_true_eq] at h
  rcases h with (h | h) | h
  · exact .inl (.inl h)
  · exact .inl (.inr h)
  · exact .inr h
theorem binD_mul {dx dy : D} {a : DV} (h : binD .mul dx dy = some a) : (∃ i j, dx = .int i ∧ dy = .int j ∧ mulOk i j = true ∧ a = .f (.int (i * j))) ∨
    ∃ xs j, dx = .lst xs ∧ dy = .int j ∧ (xs.length * j.toNat ≤ lim ∧ -(2 ^ 62) < j ∧ j < 2 ^ 62) ∧ a = .o (List.replicate j.toNat xs).flatten := by
  cases dx <;> cases dy <;> simp only [binD] at h <;> first
    | (cases h; done)
    | (split at h <;> first
        | (cases h; done)
        | (cases h; first
            | exact .inl ⟨_, _, rfl, rfl, by assumption, rfl⟩
            | exact .inr ⟨_, _, rfl, rfl, by assumption, rfl⟩))
theorem ok_mul : OpOk w Ex X (binaryOp .Mult) (binD .mul) := by
  refine ⟨_, op_mul.or (op_mulW.or op_rep), fun {c0 c Q x y dx dy} r st hx hy h => ?_⟩
  obtain ⟨a, e, h⟩ := h.opt0
  rcases binD_mul e with ⟨i, j, rfl, rfl, hm, rfl⟩ | ⟨xs, j, rfl, rfl, ⟨h1, h2, h3⟩, rfl⟩
  · rcases mulOk_or hm with m | m
    · exact .inl ⟨i, j, hx, hy, m, h.fin st r rfl trivial⟩
    · exact .inr (.inl ⟨i, j, hx, hy, m, h.fin st r rfl trivial⟩)
  · obtain ⟨a1, v1, rfl, s1, p1⟩ := hx
    refine .inr (.inr ⟨a1, j, v1, rfl, hy, s1, by omega, by omega, by rw [p1.length, ← lim_eq]; exact h1, fun p hp => h.newLst st r (p1.rep _) hp⟩)
def opOf : BOp → Operator
  | .add => .Add | .sub => .Sub | .mul => .Mult | .fdiv => .FloorDiv | .mod => .Mod | .pow => .Pow
theorem ok_bin (hK : X.K = w.K) (o : BOp) : OpOk w Ex X (binaryOp (opOf o)) (binD o) := by
  cases o
  · exact ok_add hK
  · exact ok_sub
  · exact ok_mul
  · exact ok_fdiv
  · exact ok_mod
  · exact ok_pow
/-! ### comparisons -/
mutual
theorem RepD.dp {dl : Dl} {H : Hp} : ∀ (d : D) (v : V), RepD w dl H d v → d.py.canLay0 = true → Dp w.K H v d.py
  | .non, _, h, _ => by rw [show _ = V.non from h]; exact .non
  | .bl b, _, h, _ => by rw [show _ = V.bl b from h]; exact .bl b
  | .int i, _, h, _ => by rw [show _ = V.int i from h]; exact .int i
  | .str s, _, h, _ => by rw [show _ = V.str s from h]; exact .str s
  | .tup ds, _, ⟨a, vs, e, h1, h2⟩, q => by
    subst e
    exact .tup h1 (RepAll.dp ds vs h2 (by simpa [D.py, PyData.canLay0] using q))
  | .lst ds, _, ⟨a, vs, e, h1, h2⟩, q => by
    subst e
    exact .lst (SqL.of h1) (RepAll.dp ds vs h2 (by simpa [D.py, PyData.canLay0] using q))
  | .ins _ _, _, _, q => by simp [D.py, PyData.canLay0] at q
  | .deal, _, _, q => by simp [D.py, PyData.canLay0] at q
  | .scr _, _, _, q => by simp [D.py, PyData.canLay0] at q
  | .exn _ _, _, _, q => by simp [D.py, PyData.canLay0] at q
theorem RepAll.dp {dl : Dl} {H : Hp} : ∀ (ds : List D) (vs : List V), RepAll w dl H ds vs → PyData.canLayAll0 (pyAll ds) = true → DpAll w.K H vs (pyAll ds)
  | [], vs, h, _ => by rw [show vs = [] from h]; exact .nil
  | d :: ds, _, ⟨v, r, e, h1, h2⟩, q => by
    subst e
    have q' : d.py.canLay0 = true ∧ PyData.canLayAll0 (pyAll ds) = true := by simpa [pyAll, PyData.canLayAll0] using q
    exact .cons (RepD.dp d v h1 q'.1) (RepAll.dp ds r h2 q'.2)
end
theorem shp_lay {d : D} (h : shp d = true) : d.py.canLay0 = true := (Bool.and_eq_true_iff.mp h).1
theorem Lk.dp {c : C} {v : V} {d : D} (r : R w c) (h : Lk w c v d) (q : shp d = true) : Dp w.K c.H v d.py := RepD.dp d v (h.rep r) (shp_lay q)
def bl1 (k : D → D → Option Bool) : D → D → Option DV := fun x y => (k x y).map fun b => .f (.bl b)
theorem eqD_some {a b : D} {k : Bool} (h : eqD a b = some k) : shp a = true ∧ shp b = true ∧ k = PyData.eqv a.py b.py := by
  unfold eqD at h
  split at h
  · rename_i z
    obtain ⟨z1, z2⟩ := Bool.and_eq_true_iff.mp z
    cases h
    exact ⟨z1, z2, rfl⟩
  · cases h
theorem ok_eq (hK : X.K = w.K) (hu : X.A.units + 64 < cLine) : OpOk w Ex X (compareOp .Eq) (bl1 (cmpD .eq)) := by
  refine ⟨_, op_eqD hu, fun {c0 c Q x y dx dy} r st hx hy h => ?_⟩
  obtain ⟨a, e, h⟩ := h.opt0
  unfold bl1 at e
  obtain ⟨k, e1, rfl⟩ := Option.map_eq_some_iff.mp e
  obtain ⟨z1, z2, rfl⟩ := eqD_some e1
  exact ⟨_, _, by rw [hK]; exact hx.dp r z1, by rw [hK]; exact hy.dp r z2, z1, z2, h.fin st r rfl trivial⟩
theorem ok_ne (hK : X.K = w.K) (hu : X.A.units + 64 < cLine) : OpOk w Ex X (compareOp .NotEq) (bl1 (cmpD .ne)) := by
  refine ⟨_, op_neD hu, fun {c0 c Q x y dx dy} r st hx hy h => ?_⟩
  obtain ⟨a, e, h⟩ := h.opt0
  unfold bl1 at e
  obtain ⟨k, e1, rfl⟩ := Option.map_eq_some_iff.mp e
  obtain ⟨k', e2, rfl⟩ := Option.map_eq_some_iff.mp (show (eqD dx dy).map not = some k from e1)
  obtain ⟨z1, z2, rfl⟩ := eqD_some e2
  exact ⟨_, _, by rw [hK]; exact hx.dp r z1, by rw [hK]; exact hy.dp r z2, z1, z2, h.fin st r rfl trivial⟩
theorem ok_lt : OpOk w Ex X (compareOp .Lt) (bl1 (cmpD .lt)) := by
  refine ⟨_, op_lt, fun {c0 c Q x y dx dy} r st hx hy h => ?_⟩
  obtain ⟨a, e, h⟩ := h.opt0
  cases dx <;> first | cases e | skip
  cases dy <;> first | cases e | skip
  exact ⟨_, _, hx, hy, h.fin st r rfl trivial⟩
theorem ok_le : OpOk w Ex X (compareOp .LtE) (bl1 (cmpD .le)) := by
  refine ⟨_, op_le, fun {c0 c Q x y dx dy} r st hx hy h => ?_⟩
  obtain ⟨a, e, h⟩ := h.opt0
  cases dx <;> first | cases e | skip
  cases dy <;> first | cases e | skip
  exact ⟨_, _, hx, hy, h.fin st r rfl trivial⟩
theorem ok_gt : OpOk w Ex X (compareOp .Gt) (bl1 (cmpD .gt)) := by
  refine ⟨_, op_gt, fun {c0 c Q x y dx dy} r st hx hy h => ?_⟩
  obtain ⟨a, e, h⟩ := h.opt0
  cases dx <;> first | cases e | skip
  cases dy <;> first | cases e | skip
  exact ⟨_, _, hx, hy, h.fin st r rfl trivial⟩
theorem ok_ge : OpOk w Ex X (compareOp .GtE) (bl1 (cmpD .ge)) := by
  refine ⟨_, op_ge, fun {c0 c Q x y dx dy} r st hx hy h => ?_⟩
  obtain ⟨a, e, h⟩ := h.opt0
  cases dx <;> first | cases e | skip
  cases dy <;> first | cases e | skip
  exact ⟨_, _, hx, hy, h.fin st r rfl trivial⟩
end
end DI

end
section
set_option Elab.async false
set_option linter.all false
set_option maxRecDepth 100000
set_option maxHeartbeats 4000000
/-! DI6: expressions. Own text. -/
namespace DI
open PySem PySem.Spec PyProof.Rows L2
section
variable {w : Wd} {Ex : Nat → D → C → Prop} {Φ : Fns} {X : Cx} {a b c a' b' c' : E} {x y z : Expr} {pos : Pos}
/-- the reading at the start: where one stands, and what is to be reached -/
theorem tE_in {e : E} {σ : L2.St} {H : Hp} {Q : VK} (h : tE w Ex Φ e σ H Q) : ∃ c : C, c.σ = σ ∧ c.H = H ∧ R w c ∧ Aft w Ex c (ev w Φ e c.s) (Fin w c Q) := h
theorem j_var {i : Nat} {n : Str} (hN : X.N[i]? = some n) (hv : Vis X.env.scope n) (hd : (n == ("__debug__" : Str)) = false) (hcd : (n == ("__classdict__" : Str)) = false) : PE X (.Name n pos) (tE w Ex Φ (.var i)) :=
  (pe_var hN hv hd hcd).imp fun σ H Q h => by
    obtain ⟨c, rfl, rfl, r, h⟩ := tE_in h
    have h' : Aft w Ex c ((fun s : S => match s.r[i]? with
      | some (some (.f d)) => Res.ok (DV.f d) s
      | some (some (.o _)) => .ok (.b i) s
      | some (some (.p xs)) => .ok (.p xs) s
      | _ => .stuck) c.s) (Fin w c Q) := h
    show ∃ v, c.σ[i]? = some (some v) ∧ Q v c.H
    cases e : c.ρ[i]? with
    | none =>
      simp only [C.s, e] at h'
      exact h'.elim
    | some o =>
      cases o with
      | none =>
        simp only [C.s, e] at h'
        exact h'.elim
      | some dv =>
        obtain ⟨v, e1, e2⟩ := r.slot i dv e
        refine ⟨v, e1, ?_⟩
        cases dv with
        | f d =>
          simp only [C.s, e] at h'
          exact h' c rfl r (SStep.refl c) v e2 trivial
        | p ds =>
          simp only [C.s, e] at h'
          exact h' c rfl r (SStep.refl c) v e2 trivial
        | o ds =>
          simp only [C.s, e] at h'
          exact h' c rfl r (SStep.refl c) v ⟨e1, _, e⟩ trivial
        | b j => exact e2.elim
        | n k ds =>
          simp only [C.s, e] at h'
          exact h'.elim
theorem j_int {i : Int} {k : Nat} : PE X (.Constant (.int i) k pos) (tE w Ex Φ (.int i)) := pe_int.imp fun σ H Q h => by
  obtain ⟨c, rfl, rfl, r, h⟩ := tE_in h
  exact Aft.fin h (SStep.refl c) r rfl trivial
theorem j_bl {i : Bool} {k : Nat} : PE X (.Constant (.bool i) k pos) (tE w Ex Φ (.bl i)) := pe_bl.imp fun σ H Q h => by
  obtain ⟨c, rfl, rfl, r, h⟩ := tE_in h
  exact Aft.fin h (SStep.refl c) r rfl trivial
theorem j_non {k : Nat} : PE X (.Constant .none k pos) (tE w Ex Φ .non) := pe_non.imp fun σ H Q h => by
  obtain ⟨c, rfl, rfl, r, h⟩ := tE_in h
  exact Aft.fin h (SStep.refl c) r rfl trivial
theorem j_str {i : Str} {k : Nat} : PE X (.Constant (.str i) k pos) (tE w Ex Φ (.str i)) := pe_str.imp fun σ H Q h => by
  obtain ⟨c, rfl, rfl, r, h⟩ := tE_in h
  exact Aft.fin h (SStep.refl c) r rfl trivial
/-- two values, looked at, an operation -/
theorem two_in {β : Type} {k : D → D → M β} {Q : C → β → Prop} {r2 : V → V → Hp → Prop} {c0 c1 : C} (x0 : SStep c0 c1) (hr : R w c1)
    (h : Aft w Ex c0 (bnd (ev w Φ a) (fun p => bnd (ev w Φ b) fun q => bnd (look p) fun dp => bnd (look q) fun dq => k dp dq) c1.s) Q)
    (f : ∀ (c : C) (u v : V) (du dv : D), R w c → SStep c0 c → c.σ = c1.σ → Lk w c u du → Lk w c v dv → Aft w Ex c0 (k du dv c.s) Q → r2 u v c.H) :
    tE w Ex Φ a c1.σ c1.H fun u H1 => tE w Ex Φ b c1.σ H1 fun v H2 => r2 u v H2 := by
  refine tE_seq h x0 hr fun c2 u du r2' x2 x02 hσ rel fr fr0 h2 => ?_
  rw [← hσ]
  refine tE_seq h2 x02 r2' fun c3 v dv r3 x3 x03 hσ3 rel3 fr3 fr03 h3 => ?_
  obtain ⟨d1, l1, h4⟩ := h3.look r3 (rel.step x3)
  obtain ⟨d2, l2, h5⟩ := h4.look r3 rel3
  exact f c3 u v d1 d2 r3 x03 (hσ3.trans hσ) l1 l2 h5
theorem j_op {f : Value → Value → Sem Value} {k : D → D → Option DV} (ok : OpOk w Ex X f k) : ∃ r : R2, OpR X f r ∧ ∀ {e : E} {σ : L2.St} {H : Hp} {Q : VK},
    (∀ s, ev w Φ e s = bnd (ev w Φ a) (fun p => bnd (ev w Φ b) fun q => bnd (look p) fun dp => bnd (look q) fun dq => opt (k dp dq)) s) → tE w Ex Φ e σ H Q → tOp r (tE w Ex Φ a) (tE w Ex Φ b) σ H Q := by
  obtain ⟨r, h1, h2⟩ := ok
  refine ⟨r, h1, fun {e σ H Q} he h => ?_⟩
  obtain ⟨c, rfl, rfl, hr, h⟩ := tE_in h
  rw [he] at h
  exact two_in (SStep.refl c) hr h fun c2 u v du dv r2 x2 _ l1 l2 q => h2 r2 x2 l1 l2 q
theorem j_bin (hK : X.K = w.K) {o : BOp} (ha : PE X x (tE w Ex Φ a)) (hb : PE X y (tE w Ex Φ b)) : PE X (.BinOp x (opOf o) y pos) (tE w Ex Φ (.bin o a b)) := by
  obtain ⟨r, h1, h2⟩ := j_op (Φ := Φ) (a := a) (b := b) (ok_bin (w := w) (Ex := Ex) hK o)
  exact (pe_op h1 ha hb).imp fun σ H Q h => h2 (fun _ => rfl) h
theorem j_neg (ha : PE X x (tE w Ex Φ a)) : PE X (.UnaryOp .USub x pos) (tE w Ex Φ (.neg a)) := (pe_un un_neg ha).imp fun σ H Q h => by
  obtain ⟨c, rfl, rfl, r, h⟩ := tE_in h
  refine tE_seq h (SStep.refl c) r fun c2 u du r2 x2 x02 hσ rel fr fr0 h2 => ?_
  obtain ⟨d1, l1, h4⟩ := h2.look r2 rel
  obtain ⟨i, rfl, h5⟩ := h4.int
  exact ⟨i, l1, Aft.fin h5 x02 r2 rfl trivial⟩
def copOf : COp → CmpOp
  | .eq => .Eq | .ne => .NotEq | .lt => .Lt | .le => .LtE | .gt => .Gt | .ge => .GtE | .inn => .In | .nin => .NotIn
theorem inD_some {a : D} {b : D} {k : Bool} (h : inD a b = some k) : ∃ xs, b = .lst xs ∧ shp a = true ∧ shp (.lst xs) = true ∧ k = (pyAll xs).any fun z => PyData.eqv z a.py := by
  cases b with
  | lst xs =>
    simp only [inD] at h
    split at h
    · rename_i z
      obtain ⟨z1, z2⟩ := Bool.and_eq_true_iff.mp z
      cases h
      refine ⟨xs, rfl, z1, z2, ?_⟩
      clear z z1 z2
      induction xs with
      | nil => rfl
      | cons x r ih => simp only [List.any_cons, pyAll, ih]
    · cases h
  | _ => cases h
theorem ok_in (hK : X.K = w.K) (hu : X.A.units + 65 < cLine) : OpOk w Ex X (compareOp .In) (bl1 (cmpD .inn)) := by
  refine ⟨_, op_inD hu, fun {c0 c Q x y dx dy} r st hx hy h => ?_⟩
  obtain ⟨a, e, h⟩ := h.opt0
  unfold bl1 at e
  obtain ⟨k, e1, rfl⟩ := Option.map_eq_some_iff.mp e
  obtain ⟨xs, rfl, z1, z2, rfl⟩ := inD_some e1
  exact ⟨_, _, by rw [hK]; exact hx.dp r z1, by rw [hK]; exact hy.dp r z2, z1, z2, h.fin st r rfl trivial⟩
theorem ok_nin (hK : X.K = w.K) (hu : X.A.units + 65 < cLine) : OpOk w Ex X (compareOp .NotIn) (bl1 (cmpD .nin)) := by
  refine ⟨_, op_notInD hu, fun {c0 c Q x y dx dy} r st hx hy h => ?_⟩
  obtain ⟨a, e, h⟩ := h.opt0
  unfold bl1 at e
  obtain ⟨k, e1, rfl⟩ := Option.map_eq_some_iff.mp e
  obtain ⟨k', e2, rfl⟩ := Option.map_eq_some_iff.mp (show (inD dx dy).map not = some k from e1)
  obtain ⟨xs, rfl, z1, z2, rfl⟩ := inD_some e2
  exact ⟨_, _, by rw [hK]; exact hx.dp r z1, by rw [hK]; exact hy.dp r z2, z1, z2, h.fin st r rfl trivial⟩
theorem ok_cmp (hK : X.K = w.K) (hu : X.A.units + 65 < cLine) (o : COp) : OpOk w Ex X (compareOp (copOf o)) (bl1 (cmpD o)) := by
  cases o
  · exact ok_eq hK (by omega)
  · exact ok_ne hK (by omega)
  · exact ok_lt
  · exact ok_le
  · exact ok_gt
  · exact ok_ge
  · exact ok_in hK hu
  · exact ok_nin hK hu
theorem bnd_map {β γ : Type} (o : Option β) (g : β → γ) : bnd (opt o) (fun k => ret (g k)) = opt (o.map g) := by
  funext s
  cases o <;> rfl
theorem evd_cmp {o : COp} : ev w Φ (.cmp o a b) = bnd (ev w Φ a) (fun p => bnd (ev w Φ b) fun q => bnd (look p) fun dp => bnd (look q) fun dq => opt (bl1 (cmpD o) dp dq)) := by
  show bnd (ev w Φ a) (fun p => bnd (ev w Φ b) fun q => bnd (look p) fun dp => bnd (look q) fun dq => bnd (opt (cmpD o dp dq)) fun k => ret (DV.f (.bl k))) = _
  simp only [bnd_map]
  rfl
theorem j_cmp (hK : X.K = w.K) (hu : X.A.units + 65 < cLine) {o : COp} (hm : behindInMarks (copOf o) y = false) (ha : PE X x (tE w Ex Φ a)) (hb : PE X y (tE w Ex Φ b)) : PE X (.Compare x [copOf o] [y] pos) (tE w Ex Φ (.cmp o a b)) := by
  obtain ⟨r, h1, h2⟩ := j_op (Φ := Φ) (a := a) (b := b) (ok_cmp (w := w) (Ex := Ex) hK hu o)
  exact (pe_cmpR h1 ha hb hm).imp fun σ H Q h => h2 (fun _ => by rw [evd_cmp]) h
/-- the same as a test -/
theorem t_cmp (hK : X.K = w.K) (hu : X.A.units + 65 < cLine) {o : COp} (hm : behindInMarks (copOf o) y = false) (ha : PE X x (tE w Ex Φ a)) (hb : PE X y (tE w Ex Φ b)) : PT X (.Compare x [copOf o] [y] pos) (tT w Ex Φ (.cmp o a b)) := by
  obtain ⟨r, h1, h2⟩ := ok_cmp (w := w) (Ex := Ex) (X := X) hK hu o
  refine (pt_cmpR h1 ha hb hm).imp fun σ H Q h => ?_
  obtain ⟨c, rfl, rfl, hr, h⟩ := h
  rw [evd_cmp] at h
  simp only [bnd_assoc] at h
  refine two_in (SStep.refl c) hr h fun c2 u v du dv r2 x2 _ l1 l2 q => ?_
  refine h2 (Q := fun x H' => ∃ k, x = .bl k ∧ Q k H') r2 x2 l1 l2 ?_
  obtain ⟨dv, e, q2⟩ := q.opt
  obtain ⟨k, rfl, q3⟩ := q2.bool1
  rw [e]
  intro c3 hs r3 x3 v rel _
  exact ⟨k, rel, q3 c3 hs r3 x3⟩
theorem Lk.isNon {c : C} {u : V} {d : D} (l : Lk w c u d) : isNonD d = decide (u = .non) := by
  cases d with
  | non => rw [show u = .non from l]; rfl
  | bl i => rw [show u = .bl i from l]; rfl
  | int i => rw [show u = .int i from l]; rfl
  | str i => rw [show u = .str i from l]; rfl
  | tup ds => obtain ⟨_, _, rfl, _⟩ := l; rfl
  | lst ds => obtain ⟨_, _, rfl, _⟩ := l; rfl
  | ins k ds => obtain ⟨_, _, _, rfl, _⟩ := l; rfl
  | deal => obtain ⟨_, _, rfl⟩ := l; rfl
  | scr ns => obtain ⟨_, rfl, _⟩ := l; rfl
  | exn _ _ => obtain ⟨_, _, _, _, rfl, _⟩ := l; rfl
theorem j_isN {k : Nat} {p : Pos} (ha : PE X x (tE w Ex Φ a)) : PE X (.Compare x [.Is] [.Constant .none k p] pos) (tE w Ex Φ (.isN a)) := (pe_cmp (pc_isN ha) rfl).imp fun σ H Q h => by
  obtain ⟨c, rfl, rfl, r, h⟩ := tE_in h
  refine tE_seq h (SStep.refl c) r fun c2 u du r2 x2 x02 hσ rel fr fr0 h2 => ?_
  obtain ⟨d, l, h4⟩ := h2.look r2 rel
  have h5 := Aft.fin h4 x02 r2 rfl trivial
  rw [l.isNon] at h5
  exact h5
theorem j_notN {k : Nat} {p : Pos} (ha : PE X x (tE w Ex Φ a)) : PE X (.Compare x [.IsNot] [.Constant .none k p] pos) (tE w Ex Φ (.notN a)) := (pe_cmp (pc_notN ha) rfl).imp fun σ H Q h => by
  obtain ⟨c, rfl, rfl, r, h⟩ := tE_in h
  refine tE_seq h (SStep.refl c) r fun c2 u du r2 x2 x02 hσ rel fr fr0 h2 => ?_
  obtain ⟨d, l, h4⟩ := h2.look r2 rel
  have h5 := Aft.fin h4 x02 r2 rfl trivial
  rw [l.isNon] at h5
  exact h5
/-- a bool first -/
theorem bool_in {β : Type} {f : Bool → M β} {Q : C → β → Prop} {P : VK} {c0 c1 : C} (x0 : SStep c0 c1) (hr : R w c1) (h : Aft w Ex c0 (bnd (ev w Φ a) (fun p => bnd (bool? p) f) c1.s) Q)
    (k : ∀ c2 i, R w c2 → SStep c0 c2 → c2.σ = c1.σ → Aft w Ex c0 (f i c2.s) Q → P (.bl i) c2.H) : tE w Ex Φ a c1.σ c1.H P :=
  tE_seq h x0 hr fun c2 u du r2 x2 x02 hσ rel fr fr0 h2 => by
    obtain ⟨i, rfl, h3⟩ := h2.bool
    rw [show u = .bl i from rel]
    exact k c2 i r2 x02 hσ h3
/-- a test first -/
theorem test_in {β : Type} {f : Bool → M β} {Q : C → β → Prop} {P : Bool → Hp → Prop} {c0 c1 : C} (x0 : SStep c0 c1) (hr : R w c1) (h : Aft w Ex c0 (bnd (ev w Φ a) (fun p => bnd (bool? p) f) c1.s) Q)
    (k : ∀ c2 i, R w c2 → SStep c0 c2 → SStep c1 c2 → c2.σ = c1.σ → Aft w Ex c0 (f i c2.s) Q → P i c2.H) : tT w Ex Φ a c1.σ c1.H P := by
  rw [← bnd_assoc] at h
  exact ⟨c1, rfl, rfl, hr, (h.bnd x0).imp fun c2 i r2 x2 ⟨_, _, q⟩ => k c2 i r2 (x0.trans x2) x2 x2.σ q⟩
/-- what is left, from another base -/
theorem Aft.base {α : Type} {c0 c1 : C} {r : Res α} {Q : C → α → Prop} (h : Aft w Ex c0 r Q) (x : SStep c0 c1) : Aft w Ex c1 r Q := by
  cases r with
  | ok a s => exact fun c' e r x' => h c' e r (x.trans x')
  | exc k d s => exact fun c' e r x' => h c' e r (x.trans x')
  | stuck => exact h
theorem Fin.base {Q : VK} {c0 c1 c : C} {dv : DV} (x : Step c0 c1) (h : Fin w c0 Q c dv) : Fin w c1 Q c dv := fun v rel fr => h v rel (fr.weak x.live)
theorem tE_go {e : E} {c0 c1 : C} {Q : VK} (h : Aft w Ex c0 (ev w Φ e c1.s) (Fin w c0 Q)) (x : SStep c0 c1) (r : R w c1) : tE w Ex Φ e c1.σ c1.H Q :=
  ⟨c1, rfl, rfl, r, (h.base x).imp fun _ _ _ _ q => q.base x.toStep⟩
theorem j_and {p2 : Pos} {l : List Expr} (ha : PE X x (tE w Ex Φ a)) (hb : PE X (.BoolOp .And (y :: l) pos) (tE w Ex Φ b)) : PE X (.BoolOp .And (x :: y :: l) pos) (tE w Ex Φ (.and a b)) := (pe_and ha hb).imp fun σ H Q h => by
  obtain ⟨c, rfl, rfl, r, h⟩ := tE_in h
  refine bool_in (SStep.refl c) r h fun c2 i r2 x2 hσ h2 => ⟨i, rfl, ?_⟩
  cases i with
  | true =>
    rw [if_pos rfl, ← hσ]
    exact tE_go h2 x2 r2
  | false =>
    rw [if_neg Bool.false_ne_true]
    exact Aft.fin h2 x2 r2 rfl trivial
theorem j_or {l : List Expr} (ha : PE X x (tE w Ex Φ a)) (hb : PE X (.BoolOp .Or (y :: l) pos) (tE w Ex Φ b)) : PE X (.BoolOp .Or (x :: y :: l) pos) (tE w Ex Φ (.or a b)) := (pe_or ha hb).imp fun σ H Q h => by
  obtain ⟨c, rfl, rfl, r, h⟩ := tE_in h
  refine bool_in (SStep.refl c) r h fun c2 i r2 x2 hσ h2 => ⟨i, rfl, ?_⟩
  cases i with
  | true =>
    rw [if_pos rfl]
    exact Aft.fin h2 x2 r2 rfl trivial
  | false =>
    rw [if_neg Bool.false_ne_true, ← hσ]
    exact tE_go h2 x2 r2
theorem j_not (ha : PE X x (tE w Ex Φ a)) : PE X (.UnaryOp .Not x pos) (tE w Ex Φ (.not a)) := (pe_not ha).imp fun σ H Q h => by
  obtain ⟨c, rfl, rfl, r, h⟩ := tE_in h
  exact bool_in (SStep.refl c) r h fun c2 i r2 x2 hσ h2 => ⟨i, rfl, Aft.fin h2 x2 r2 rfl trivial⟩
theorem j_ite (hc : PT X z (tT w Ex Φ c)) (ha : PE X x (tE w Ex Φ a)) (hb : PE X y (tE w Ex Φ b)) : PE X (.IfExp z x y pos) (tE w Ex Φ (.ite c a b)) := (pe_ifExp hc ha hb).imp fun σ H Q h => by
  obtain ⟨c, rfl, rfl, r, h⟩ := tE_in h
  refine test_in (SStep.refl c) r h fun c2 i r2 x2 _ hσ h2 => ?_
  cases i with
  | true =>
    rw [if_pos rfl, ← hσ]
    exact tE_go h2 x2 r2
  | false =>
    rw [if_neg Bool.false_ne_true, ← hσ]
    exact tE_go h2 x2 r2
/-! ### tests -/
theorem t_val (ha : PE X x (tE w Ex Φ a)) (he : ∀ whole, isTrue x X.env whole = (do let v ← whole; standAt x.pos; holding [v] (truthy v))) : PT X x (tT w Ex Φ a) := (pt_val ha he).imp fun σ H Q h => by
  obtain ⟨c, rfl, rfl, r, h⟩ := h
  refine tE_seq h (SStep.refl c) r fun c2 u du r2 x2 x02 hσ rel fr fr0 h2 => ?_
  have h3 : Aft w Ex c (bnd (bool? du) ret c2.s) fun c' k => Q k c'.H := by
    have e : bnd (bool? du) ret = bool? du := by
      funext s
      unfold bnd
      cases bool? du s <;> rfl
    rw [e]
    exact h2
  obtain ⟨i, rfl, h4⟩ := h3.bool
  exact ⟨i, rel, h4.ret x02 r2⟩
theorem tT_go {e : E} {c0 c1 : C} {Q : Bool → Hp → Prop} (h : Aft w Ex c0 (bnd (ev w Φ e) bool? c1.s) fun c' k => Q k c'.H) (x : SStep c0 c1) (r : R w c1) : tT w Ex Φ e c1.σ c1.H Q := ⟨c1, rfl, rfl, r, h.base x⟩
theorem w_and {l : List Expr} (ha : PT X x (tT w Ex Φ a)) (hb : PW X (.BoolOp .And (y :: l) pos) (tT w Ex Φ b)) : PW X (.BoolOp .And (x :: y :: l) pos) (tT w Ex Φ (.and a b)) :=
  ⟨fun wh pins s σ H Q I h => (pw_and ha hb).run wh pins s σ H Q I (by
    obtain ⟨c, rfl, rfl, r, h⟩ := h
    have h' : Aft w Ex c (bnd (ev w Φ a) (fun p => bnd (bool? p) fun k => bnd (if k then ev w Φ b else ret (.f (.bl false))) bool?) c.s) fun c' k => Q k c'.H := by
      have e : bnd (ev w Φ (.and a b)) bool? = bnd (ev w Φ a) (fun p => bnd (bool? p) fun k => bnd (if k then ev w Φ b else ret (.f (.bl false))) bool?) := by
        show bnd (bnd (ev w Φ a) fun x => bnd (bool? x) fun k => if k then ev w Φ b else ret (.f (.bl false))) bool? = _
        simp only [bnd_assoc]
      rw [← e]
      exact h
    refine test_in (SStep.refl c) r h' fun c2 i r2 x2 _ hσ h2 => ?_
    cases i with
    | true =>
      rw [if_pos rfl, ← hσ]
      exact tT_go h2 x2 r2
    | false =>
      rw [if_neg Bool.false_ne_true]
      exact Aft.ret (a := false) h2 x2 r2)⟩
theorem w_or {l : List Expr} (ha : PT X x (tT w Ex Φ a)) (hb : PW X (.BoolOp .Or (y :: l) pos) (tT w Ex Φ b)) : PW X (.BoolOp .Or (x :: y :: l) pos) (tT w Ex Φ (.or a b)) :=
  ⟨fun wh pins s σ H Q I h => (pw_or ha hb).run wh pins s σ H Q I (by
    obtain ⟨c, rfl, rfl, r, h⟩ := h
    have h' : Aft w Ex c (bnd (ev w Φ a) (fun p => bnd (bool? p) fun k => bnd (if k then ret (.f (.bl true)) else ev w Φ b) bool?) c.s) fun c' k => Q k c'.H := by
      have e : bnd (ev w Φ (.or a b)) bool? = bnd (ev w Φ a) (fun p => bnd (bool? p) fun k => bnd (if k then ret (.f (.bl true)) else ev w Φ b) bool?) := by
        show bnd (bnd (ev w Φ a) fun x => bnd (bool? x) fun k => if k then ret (.f (.bl true)) else ev w Φ b) bool? = _
        simp only [bnd_assoc]
      rw [← e]
      exact h
    refine test_in (SStep.refl c) r h' fun c2 i r2 x2 _ hσ h2 => ?_
    cases i with
    | true =>
      rw [if_pos rfl]
      exact Aft.ret (a := true) h2 x2 r2
    | false =>
      rw [if_neg Bool.false_ne_true, ← hσ]
      exact tT_go h2 x2 r2)⟩
theorem w_one {op : BoolOp} (ha : PT X x (tT w Ex Φ a)) : PW X (.BoolOp op [x] pos) (tT w Ex Φ a) := by
  cases op
  · exact pw_and1 ha
  · exact pw_or1 ha
theorem t_not (ha : PT X x (tT w Ex Φ a)) : PT X (.UnaryOp .Not x pos) (tT w Ex Φ (.not a)) := (pt_not ha).imp fun σ H Q h => by
  obtain ⟨c, rfl, rfl, r, h⟩ := h
  have h' : Aft w Ex c (bnd (ev w Φ a) (fun p => bnd (bool? p) fun k => bnd (ret (.f (.bl !k))) bool?) c.s) fun c' k => Q k c'.H := by
    have e : bnd (ev w Φ (.not a)) bool? = bnd (ev w Φ a) (fun p => bnd (bool? p) fun k => bnd (ret (.f (.bl !k))) bool?) := by
      show bnd (bnd (ev w Φ a) fun x => bnd (bool? x) fun k => ret (.f (.bl !k))) bool? = _
      simp only [bnd_assoc]
    rw [← e]
    exact h
  exact test_in (SStep.refl c) r h' fun c2 i r2 x2 _ hσ h2 => Aft.ret (a := !i) h2 x2 r2
/-! ### lists of expressions, displays -/
theorem j_nil : PA X [] (tEs w Ex Φ []) := pa_nil.imp fun σ H Q h => by
  obtain ⟨c, rfl, rfl, r, h⟩ := h
  exact h c rfl r (SStep.refl c) [] trivial
theorem j_cons {es : List E} {l : List Expr} (ha : PE X x (tE w Ex Φ a)) (hs : PA X l (tEs w Ex Φ es)) (hst : starEach (x :: l) X.env = (false, eval x X.env) :: starEach l X.env) : PA X (x :: l) (tEs w Ex Φ (a :: es)) := (pa_cons ha hs hst).imp fun σ H Q h => by
  obtain ⟨c, rfl, rfl, r, h⟩ := h
  refine tE_seq h (SStep.refl c) r fun c2 u du r2 x2 x02 hσ rel fr fr0 h2 => ?_
  rw [← hσ]
  refine tEs_seq h2 x02 r2 fun c3 vs dvs r3 x3 x03 hσ3 rels rels0 h3 => ?_
  refine h3 c3 rfl r3 x03 (u :: vs) ⟨rel.step x3, fr0, fun i v e hv he ho1 ho2 => ?_, rels0⟩
  obtain ⟨v', e1, rl, f⟩ := rels.at_ he
  rw [hv] at e1
  cases e1
  cases du with
  | o ds =>
    obtain ⟨a1, vs1, rfl, q2, q3, _⟩ := rel
    cases e with
    | o es =>
      obtain ⟨a2, rfl, q4⟩ := f
      intro z
      cases z
      rw [q3] at q4
      cases q4
    | _ => cases ho2
  | _ => cases ho1
theorem Aft.if_ {α : Type} {c0 c : C} {p : Prop} [Decidable p] {m : M α} {Q : C → α → Prop} (h : Aft w Ex c0 ((if p then m else stk : M α) c.s) Q) : p ∧ Aft w Ex c0 (m c.s) Q := by
  by_cases hp : p
  · rw [if_pos hp] at h
    exact ⟨hp, h⟩
  · rw [if_neg hp] at h
    exact h.elim
theorem j_tup {es : List E} {l : List Expr} {k : Nat} (hs : PA X l (tEs w Ex Φ es)) : PE X (.Tuple l k pos) (tE w Ex Φ (.tup es)) := (pe_tup hs).imp fun σ H Q h => by
  obtain ⟨c, rfl, rfl, r, h⟩ := tE_in h
  refine tEs_seq h (SStep.refl c) r fun c2 vs dvs r2 x2 x02 hσ rels rels0 h2 => ?_
  obtain ⟨ds, c3, hH, r3, x3, rep, h3⟩ := h2.frzs r2 x02 rels0
  obtain ⟨hz, h4⟩ := h3.if_
  rw [← hH]
  exact ⟨by rw [rep.length, ← lim_eq]; exact hz, fun p hp => Aft.newTup h4 x3 r3 rep hp⟩
theorem j_lst {es : List E} {l : List Expr} (hs : PA X l (tEs w Ex Φ es)) : PE X (.List l pos) (tE w Ex Φ (.lst es)) := (pe_lst hs).imp fun σ H Q h => by
  obtain ⟨c, rfl, rfl, r, h⟩ := tE_in h
  refine tEs_seq h (SStep.refl c) r fun c2 vs dvs r2 x2 x02 hσ rels rels0 h2 => ?_
  obtain ⟨ds, c3, hH, r3, x3, rep, h3⟩ := h2.frzs r2 x02 rels0
  obtain ⟨hz, h4⟩ := h3.if_
  rw [← hH]
  exact ⟨by rw [rep.length, ← lim_eq]; exact hz, fun p hp => Aft.newLst h4 x3 r3 rep hp⟩
end
end DI

end
section
set_option Elab.async false
set_option linter.all false
set_option maxRecDepth 100000
set_option maxHeartbeats 4000000
/-! DI7: items, slices, fields, lists that are changed. Own text. -/
namespace DI
open PySem PySem.Spec PyProof.Rows L2
section
variable {w : Wd} {Ex : Nat → D → C → Prop} {Φ : Fns} {X : Cx} {a b c a' b' c' : E} {x y z : Expr} {pos : Pos}
theorem atI_ok {dl : Dl} {F : Hp} {ds : List D} {vs : List V} {i : Int} {d : D} (rep : RepAll w dl F ds vs) (h : DI.atI ds i = some d) : ∃ v, L2.atI vs i = some v ∧ RepD w dl F d v := by
  have hl := rep.length
  unfold DI.atI at h
  unfold L2.atI L2.ixN
  by_cases h0 : 0 ≤ i
  · rw [if_pos h0] at h ⊢
    obtain ⟨v, e1, e2⟩ := rep.get h
    have hlt := (List.getElem?_eq_some_iff.mp e1).1
    rw [if_pos (by omega)]
    exact ⟨v, e1, e2⟩
  · rw [if_neg h0] at h ⊢
    split at h
    · rename_i h1
      obtain ⟨v, e1, e2⟩ := rep.get h
      rw [if_pos (by omega), hl]
      exact ⟨v, e1, e2⟩
    · cases h
theorem j_ix (hK : X.K = w.K) (ha : PE X x (tE w Ex Φ a)) (hb : PE X y (tE w Ex Φ b)) (hs : PlainIx y) : PE X (.Subscript x y pos) (tE w Ex Φ (.ix a b)) := (pe_ix ix_seq ha hb hs).imp fun σ H Q h => by
  obtain ⟨c, rfl, rfl, r, h⟩ := tE_in h
  refine two_in (SStep.refl c) r h fun c2 u v du dv r2 x2 hσ l1 l2 q => ?_
  obtain ⟨d, e, q2⟩ := q.opt
  cases dv <;> first | (cases du <;> cases e; done) | skip
  rename_i i
  cases du <;> first | (cases e; done) | skip
  · rename_i ds
    obtain ⟨p, vs, rfl, s1, rep⟩ := l1
    obtain ⟨v', e1, e2⟩ := atI_ok rep e
    refine .inr (.inl ⟨p, vs, i, v', rfl, l2, by rw [hK]; exact r2.sub.sqT s1, e1, Aft.fin q2 x2 r2 e2 trivial⟩)
  · rename_i ds
    obtain ⟨p, vs, rfl, s1, rep⟩ := l1
    obtain ⟨v', e1, e2⟩ := atI_ok rep e
    refine .inl ⟨p, vs, i, v', rfl, l2, SqL.of s1, e1, Aft.fin q2 x2 r2 e2 trivial⟩
/-- an optional part of a slice -/
def tP (w : Wd) (Ex : Nat → D → C → Prop) (Φ : Fns) (e : E) : TO := fun σ H Q => ∃ c, c.σ = σ ∧ c.H = H ∧ R w c ∧ Aft w Ex c (partM e (ev w Φ e) c.s) fun c' o => Q o c'.H
theorem j_po0 : PO X none (tP w Ex Φ .nop) := ⟨fun pins s σ H Q I h => po_none.run pins s σ H Q I (by
  obtain ⟨c, rfl, rfl, r, h⟩ := h
  exact Aft.ret (a := none) h (SStep.refl c) r)⟩
theorem partM_ne {e : E} {m : M DV} (h : e ≠ .nop) : partM e m = bnd m fun x => bnd (look x) fun d => bnd (int? d) fun i => ret (some i) := by
  cases e <;> first | rfl | exact absurd rfl h
theorem j_po1 (ha : PE X x (tE w Ex Φ a)) (hn : a ≠ .nop) : PO X (some x) (tP w Ex Φ a) := ⟨fun pins s σ H Q I h => (po_some ha).run pins s σ H Q I (by
  obtain ⟨c, rfl, rfl, r, h⟩ := h
  rw [partM_ne hn] at h
  refine tE_seq h (SStep.refl c) r fun c2 u du r2 x2 x02 hσ rel fr fr0 h2 => ?_
  obtain ⟨d1, l1, h4⟩ := h2.look r2 rel
  obtain ⟨i, rfl, h5⟩ := h4.int
  exact ⟨i, l1, Aft.ret h5 x02 r2⟩)⟩
theorem tP_seq {β : Type} {f : Option Int → M β} {Q : C → β → Prop} {e : E} {P : Option Int → Hp → Prop} {c0 c1 : C} (h : Aft w Ex c0 (bnd (partM e (ev w Φ e)) f c1.s) Q) (x : SStep c0 c1) (r : R w c1)
    (k : ∀ c2 o, R w c2 → SStep c1 c2 → SStep c0 c2 → c2.σ = c1.σ → Aft w Ex c0 (f o c2.s) Q → P o c2.H) : tP w Ex Φ e c1.σ c1.H P :=
  ⟨c1, rfl, rfl, r, (h.bnd x).imp fun c2 o r2 x2 ⟨_, _, q⟩ => k c2 o r2 x2 (x.trans x2) x2.σ q⟩
theorem cutD_rep {dl : Dl} {F : Hp} {ds : List D} {vs : List V} (rep : RepAll w dl F ds vs) (lo hi : Option Int) : RepAll w dl F (cutD ds lo hi) (cutV vs lo hi) := by
  unfold cutD cutV
  rw [rep.length]
  exact (rep.drop _).take _
theorem cutD_whole {ds : List D} {lo hi : Option Int} (h : HT.sIx ds.length 0 lo = 0 ∧ HT.sIx ds.length ds.length hi = ds.length) : cutD ds lo hi = ds := by
  unfold cutD
  rw [show cutIx ds.length 0 lo = 0 from h.1, show cutIx ds.length ds.length hi = ds.length from h.2, List.drop_zero, Nat.sub_zero, List.take_length]
theorem j_sl (hK : X.K = w.K) {lo hi : Option Expr} {p2 : Pos} (ha : PE X x (tE w Ex Φ a)) (hl : PO X lo (tP w Ex Φ b)) (hh : PO X hi (tP w Ex Φ c)) : PE X (.Subscript x (.Slice lo hi none p2) pos) (tE w Ex Φ (.sl a b c)) := (pe_slice (sl_list.or sl_tupA) ha hl hh).imp fun σ H Q h => by
  obtain ⟨c, rfl, rfl, r, h⟩ := tE_in h
  refine tE_seq h (SStep.refl c) r fun c2 u du r2 x2 x02 hσ rel fr fr0 h2 => ?_
  rw [← hσ]
  refine tP_seq h2 x02 r2 fun c3 lo r3 x3 x03 hσ3 h3 => ?_
  rw [← hσ3]
  refine tP_seq h3 x03 r3 fun c4 hi r4 x4 x04 hσ4 h4 => ?_
  obtain ⟨d, l, h5⟩ := h4.look r4 ((rel.step x3).step x4)
  obtain ⟨dv, e, h6⟩ := h5.opt0
  cases d <;> first | (cases e; done) | skip
  · rename_i ds
    cases e
    obtain ⟨p, vs, rfl, s1, rep⟩ := l
    have hlen := rep.length
    refine .inr ⟨p, vs, rfl, by rw [hK]; exact r4.sub.sqT s1, fun hw => ?_, fun hw q hq => ?_⟩
    · rw [hlen] at hw
      rw [cutD_whole hw] at h6
      exact Aft.fin h6 x04 r4 ⟨p, vs, rfl, s1, rep⟩ trivial
    · exact Aft.newTup h6 x04 r4 (cutD_rep rep lo hi) hq
  · rename_i ds
    cases e
    obtain ⟨p, vs, rfl, s1, rep⟩ := l
    exact .inl ⟨p, vs, rfl, SqL.of s1, fun q hq => Aft.newLst h6 x04 r4 (cutD_rep rep lo hi) hq⟩
  · rename_i ns
    cases e
    obtain ⟨p, rfl, s1⟩ := l
    exact .inl ⟨p, ns.map V.int, rfl, by rw [hK]; exact r4.sub.sqL s1, fun q hq => Aft.newLst h6 x04 r4 (cutD_rep (RepAll.ofInts ns) lo hi) hq⟩
theorem j_rev {k : Nat} {p1 p2 p3 : Pos} (ha : PE X x (tE w Ex Φ a)) : PE X (.Subscript x (.Slice none none (some (.UnaryOp .USub (.Constant (.int 1) k p1) p2)) p3) pos) (tE w Ex Φ (.rev a)) := (pe_revL ha).imp fun σ H Q h => by
  obtain ⟨c, rfl, rfl, r, h⟩ := tE_in h
  refine tE_seq h (SStep.refl c) r fun c2 u du r2 x2 x02 hσ rel fr fr0 h2 => ?_
  obtain ⟨d, l, h5⟩ := h2.look r2 rel
  cases d <;> first | exact h5.elim | skip
  obtain ⟨p, vs, rfl, s1, rep⟩ := l
  exact ⟨p, vs, rfl, SqL.of s1, fun q hq => Aft.newLst h5 x02 r2 rep.reverse hq⟩
/-- a class of the text: plain, its fields not the class's own -/
structure ClsOk (w : Wd) (c : Nat) : Prop where
  cls : w.T.fl c ≠ [] → Cls w.K (w.ca c)
  no : ∀ k ∈ w.T.fl c, NoAttr w.K (w.ca c) (w.fn k)
  inj : ∀ j k, j ∈ w.T.fl c → k ∈ w.T.fl c → w.fn j = w.fn k → j = k
theorem lookup_ok {dl : Dl} {F : Hp} {f : Nat → Str} : ∀ {ks : List Nat} {ds : List D} {vs : List V} {k : Nat} {d : D}, (∀ j, j ∈ ks → f j = f k → j = k) → RepAll w dl F ds vs → (ks.zip ds).lookup k = some d →
    k ∈ ks ∧ ∃ v, ((ks.map f).zip vs).lookup (f k) = some v ∧ RepD w dl F d v
  | [], _, _, _, _, _, _, h => by simp at h
  | j :: ks, [], _, _, _, _, _, h => by simp at h
  | j :: ks, d' :: ds, _, k, d, hi, ⟨v, vs, e, h1, h2⟩, h => by
    subst e
    simp only [List.zip_cons_cons, List.lookup_cons] at h
    by_cases hk : k = j
    · subst hk
      simp at h
      subst h
      refine ⟨List.mem_cons_self, v, ?_, h1⟩
      simp [List.lookup_cons]
    · have hb : (k == j) = false := beq_false_of_ne hk
      rw [hb] at h
      obtain ⟨m, u, e1, e2⟩ := lookup_ok (f := f) (fun i hm => hi i (List.mem_cons_of_mem _ hm)) h2 h
      refine ⟨List.mem_cons_of_mem _ m, u, ?_, e2⟩
      have hf : (f k == f j) = false := beq_false_of_ne fun z => hk (hi j List.mem_cons_self z.symm).symm
      simp only [List.map_cons, List.zip_cons_cons, List.lookup_cons, hf]
      exact e1
theorem j_fld (hK : X.K = w.K) (hc : ∀ c, ClsOk w c) {k : Nat} {n : Str} (hn : w.fn k = n) (ha : PE X x (tE w Ex Φ a)) (hb : attributeBase x n X.env (eval x X.env) = eval x X.env) : PE X (.Attribute x n pos) (tE w Ex Φ (.fld a k)) := (pe_fld ha hb).imp fun σ H Q h => by
  obtain ⟨c, rfl, rfl, r, h⟩ := tE_in h
  refine tE_seq h (SStep.refl c) r fun c2 u du r2 x2 x02 hσ rel fr fr0 h2 => ?_
  obtain ⟨d, l, h5⟩ := h2.look r2 rel
  cases d <;> first | exact h5.elim | skip
  rename_i kc ds
  obtain ⟨d, e, h6⟩ := h5.opt
  obtain ⟨p, dx, vs, rfl, s1, hlen, rep⟩ := l
  have ck := hc kc
  have hk : k ∈ w.T.fl kc := by
    have q : ∀ {ks : List Nat} {ds : List D} {k : Nat} {d : D}, (ks.zip ds).lookup k = some d → k ∈ ks := by
      intro ks
      induction ks with
      | nil => intro ds k d h; simp at h
      | cons j ks ih =>
        intro ds k d h
        cases ds with
        | nil => simp at h
        | cons d' ds =>
          simp only [List.zip_cons_cons, List.lookup_cons] at h
          by_cases hk : k = j
          · subst hk; exact List.mem_cons_self
          · rw [beq_false_of_ne hk] at h
            exact List.mem_cons_of_mem _ (ih h)
    exact q e
  obtain ⟨_, v, e1, e2⟩ := lookup_ok (f := w.fn) (fun j hj z => ck.inj j k hj hk z) rep e
  subst hn
  exact ⟨p, _, dx, _, v, rfl, r2.sub _ _ s1, by rw [hK]; exact ck.cls (List.ne_nil_of_mem hk), by rw [hK]; exact ck.no k hk, e1, Aft.fin h6 x02 r2 e2 trivial⟩
/-! ### a list that a slot owns, changed -/
theorem R.write {c : C} {i : Nat} {p : Addr} {vs' : List V} {ds' : List D} (r : R w c) (hi : c.σ[i]? = some (some (.ref p))) {ds : List D} (hρ : c.ρ[i]? = some (some (.o ds))) (rep : RepAll w c.dl c.F ds' vs') :
    R w { c with H := upd c.H p (.lst vs'), ρ := c.ρ.set i (some (.o ds')) } ∧ SStep c { c with H := upd c.H p (.lst vs'), ρ := c.ρ.set i (some (.o ds')) } := by
  have oi : Own c i p := ⟨hi, _, hρ, rfl⟩
  have hlt : i < c.ρ.length := (List.getElem?_eq_some_iff.mp hρ).1
  obtain ⟨o, hH, hF⟩ := r.ownH oi
  have sm : ∀ (j : Nat) (dv : DV), (c.ρ.set i (some (.o ds')))[j]? = some (some dv) → (i = j ∧ dv = .o ds') ∨ (i ≠ j ∧ c.ρ[j]? = some (some dv)) := fun j dv h => by
    by_cases z : i = j
    · subst z
      rw [List.getElem?_set_self hlt] at h
      cases h
      exact .inl ⟨rfl, rfl⟩
    · rw [List.getElem?_set_ne z] at h
      exact .inr ⟨z, h⟩
  have own : ∀ (j : Nat) (q : Addr), Own { c with H := upd c.H p (.lst vs'), ρ := c.ρ.set i (some (.o ds')) } j q → Own c j q := fun j q ⟨h1, dv, h2, h3⟩ => by
    rcases sm j dv h2 with ⟨rfl, rfl⟩ | ⟨_, h⟩
    · exact ⟨h1, _, hρ, rfl⟩
    · exact ⟨h1, dv, h, h3⟩
  refine ⟨⟨fun q o e => ?_, by show c.σ.length = (c.ρ.set i _).length; rw [List.length_set]; exact r.len, fun j dv h => ?_, fun j k q h1 h2 => r.dist j k q (own j q h1) (own k q h2), fun j q d h e => r.ndeal j q d (own j q h) e, ?_⟩,
    ⟨⟨Le.refl _, fun q o e n _ => ?_, fun q e => ?_, fun q e => .inl e, fun q t => ?_, DlLe.refl _⟩, rfl, fun j dv h => ?_, fun j k fs h => by
      rcases sm j _ h with ⟨_, q⟩ | ⟨_, q⟩
      · cases q
      · exact ⟨fs, q⟩⟩⟩
  · have hq : q ≠ p := fun z => by subst z; rw [hF] at e; cases e
    show upd c.H p _ q = _
    rw [upd_ne hq]
    exact r.sub q o e
  · rcases sm j dv h with ⟨rfl, rfl⟩ | ⟨hne, h⟩
    · exact ⟨_, hi, p, vs', rfl, hF, upd_same, rep⟩
    · obtain ⟨v, e1, e2⟩ := r.slot j dv h
      refine ⟨v, e1, ?_⟩
      cases dv with
      | f d => exact e2
      | p pds => exact e2
      | b k => exact e2
      | o es =>
        obtain ⟨q, us, q1, q2, q3, q4⟩ := e2
        have hq : q ≠ p := fun z => hne (r.dist i j p oi ⟨by rw [← z, ← q1]; exact e1, _, h, rfl⟩)
        exact ⟨q, us, q1, q2, by show upd c.H p _ q = _; rw [upd_ne hq]; exact q3, q4⟩
      | n k es =>
        obtain ⟨q, dx, us, q1, q2, q3, q5, q4⟩ := e2
        have hq : q ≠ p := fun z => hne (r.dist i j p oi ⟨by rw [← z, ← q1]; exact e1, _, h, rfl⟩)
        exact ⟨q, dx, us, q1, q2, by show upd c.H p _ q = _; rw [upd_ne hq]; exact q3, q5, q4⟩
  · refine ⟨DealAt.imp r.deal.1 fun q hq => ?_, r.deal.2.imp (KeepT.upd (r.ownFx oi)) noTb_refl (noTb_upd rfl)⟩
    obtain ⟨n1, n2⟩ := r.ndeal i p q oi hq
    exact ⟨fun h => h, fun h => h, fun o h => by show upd c.H p _ q.1 = _; rw [upd_ne n1.symm]; exact h, fun o h => by show upd c.H p _ q.2 = _; rw [upd_ne n2.symm]; exact h⟩
  · have hq : q ≠ p := fun z => n (by subst z; exact .inl ⟨i, oi⟩)
    show upd c.H p _ q = _
    rw [upd_ne hq]
    exact e
  · have e' : upd c.H p (.lst vs') q = none := e
    by_cases z : q = p
    · subst z
      rw [upd_same] at e'
      cases e'
    · rw [upd_ne z] at e'
      exact e'
  · rcases t with ⟨j, h⟩ | t
    · exact .inl (.inl ⟨j, own j q h⟩)
    · exact .inl (.inr t)
  · by_cases z : i = j
    · subst z
      exact ⟨_, List.getElem?_set_self hlt⟩
    · exact ⟨dv, by show (c.ρ.set i _)[j]? = _; rw [List.getElem?_set_ne z]; exact h⟩
/-- the list that slot i owns -/
theorem Aft.own {β : Type} {i : Nat} {f : List D → M β} {c0 c : C} {Q : C → β → Prop} (h : Aft w Ex c0 (DI.bnd (ownAt i) f c.s) Q) (r : R w c) :
    ∃ ds p vs, c.ρ[i]? = some (some (.o ds)) ∧ c.σ[i]? = some (some (.ref p)) ∧ c.H p = some (.lst vs) ∧ RepAll w c.dl c.F ds vs ∧ Aft w Ex c0 (f ds c.s) Q := by
  unfold DI.bnd ownAt at h
  cases e : c.ρ[i]? with
  | none =>
    simp only [C.s, e] at h
    exact h.elim
  | some o =>
    cases o with
    | none =>
      simp only [C.s, e] at h
      exact h.elim
    | some dv =>
      cases dv with
      | o ds =>
        simp only [C.s, e] at h
        obtain ⟨v, e1, p, vs, rfl, q2, q3, q4⟩ := r.slot i _ e
        exact ⟨ds, p, vs, rfl, e1, q3, q4, h⟩
      | f d =>
        simp only [C.s, e] at h
        exact h.elim
      | p d =>
        simp only [C.s, e] at h
        exact h.elim
      | b j =>
        simp only [C.s, e] at h
        exact h.elim
      | n k fs =>
        simp only [C.s, e] at h
        exact h.elim
theorem setR_ok {c : C} {i : Nat} {v : DV} (h : i < c.ρ.length) : setR i v c.s = .ok () { c.s with r := c.ρ.set i (some v) } := by
  unfold setR
  rw [if_pos (show i < c.s.r.length from h)]
  rfl
theorem Aft.setO {β : Type} {i : Nat} {p : Addr} {ds ds' : List D} {vs' : List V} {f : Unit → M β} {c0 c : C} {Q : C → β → Prop} (h : Aft w Ex c0 (DI.bnd (setR i (.o ds')) f c.s) Q) (r : R w c) (x : SStep c0 c) (hρ : c.ρ[i]? = some (some (.o ds))) (hσ : c.σ[i]? = some (some (.ref p)))
    (rep : RepAll w c.dl c.F ds' vs') : ∃ c', c'.H = upd c.H p (.lst vs') ∧ c'.σ = c.σ ∧ c'.F = c.F ∧ c'.dl = c.dl ∧ R w c' ∧ SStep c0 c' ∧ Aft w Ex c0 (f () c'.s) Q := by
  obtain ⟨r', x'⟩ := r.write hσ hρ rep
  have hlt : i < c.ρ.length := (List.getElem?_eq_some_iff.mp hρ).1
  unfold DI.bnd at h
  rw [setR_ok hlt] at h
  exact ⟨{ c with H := upd c.H p (.lst vs'), ρ := c.ρ.set i (some (.o ds')) }, rfl, rfl, rfl, rfl, r', x.trans x', h⟩
end
section
variable {w : Wd} {Ex : Nat → D → C → Prop} {Φ : Fns} {X : Cx} {a b : E} {x y : Expr} {pos apos npos : Pos} {i : Nat} {n : Str}
theorem few1 {e : Expr} {cpos : Pos} (hst : starEach [e] X.env = (false, eval e X.env) :: starEach [] X.env) : ((backTo cpos (starEach [e] X.env)).all (fun x => !x.1) && (backToKw cpos (keywordEach [] X.env)).all (fun x => x.1.isSome)
      && decide (([e] : List Expr).length + ([] : List Keyword).length + (if ([] : List Keyword).isEmpty then 0 else 1) < 30)) = true := by
  rw [hst]
  rfl
theorem j_append (hN : X.N[i]? = some n) (hv : Vis X.env.scope n) (hd : (n == ("__debug__" : Str)) = false) (hcd : (n == ("__classdict__" : Str)) = false) (ha : PE X x (tE w Ex Φ a)) (hline : (apos.endLine == pos.line) = true)
    (hst : starEach [x] X.env = (false, eval x X.env) :: starEach [] X.env) : PE X (.Call (.Attribute (.Name n npos) "append" apos) [x] [] pos) (tE w Ex Φ (.append i a)) :=
  (pe_bm PySem.F.plainAttrs_list PySem.F.slot_list_append PySem.F.type_list_append mt_append (pe_var hN hv hd hcd) (j_cons ha j_nil hst) (by rfl) (few1 hst) hline hst (by rfl)).imp fun σ H Q h => by
    obtain ⟨c, rfl, rfl, r, h⟩ := tE_in h
    obtain ⟨ds0, p0, vs0, e1, e2, e3, e4, h⟩ := Aft.own h r
    refine ⟨.ref p0, e2, .inl ⟨rfl, _, SqL.of e3⟩, ?_⟩
    have h' : Aft w Ex c (bnd (evs w Φ [a]) (fun l => bnd (match l with | [v] => frz v | _ => stk) fun d => bnd (ownAt i) fun xs => if xs.length < lim then bnd (setR i (.o (xs ++ [d]))) fun _ => ret (.f .non) else stk) c.s) (Fin w c Q) := by
      have e : bnd (evs w Φ [a]) (fun l => bnd (match l with | [v] => frz v | _ => stk) fun d => bnd (ownAt i) fun xs => if xs.length < lim then bnd (setR i (.o (xs ++ [d]))) fun _ => ret (DV.f .non) else stk) =
          bnd (ev w Φ a) (fun v => bnd (frz v) fun d => bnd (ownAt i) fun xs => if xs.length < lim then bnd (setR i (.o (xs ++ [d]))) fun _ => ret (DV.f .non) else stk) := by
        show bnd (bnd (ev w Φ a) fun v => bnd (evs w Φ []) fun vs => ret (v :: vs)) _ = _
        rw [bnd_assoc]
        rfl
      rw [e]
      exact h
    refine tEs_seq h' (SStep.refl c) r fun c2 us dvs r2 x2 x02 hσ rels rels0 h2 => ?_
    rcases dvs with _ | ⟨dv, _ | ⟨dv2, dvs⟩⟩
    · exact h2.elim
    · rcases us with _ | ⟨u, _ | ⟨u2, us⟩⟩ <;> first | exact rels0.elim | exact rels0.2.2.2.elim | skip
      obtain ⟨rel, fr, _, _⟩ := rels0
      obtain ⟨d, c3, hH, r3, x3, rep, _, _, _, h3⟩ := Aft.frz h2 r2 x02 rel fr
      obtain ⟨ds, p, vs, q1, q2, q3, q4, h4⟩ := Aft.own h3 r3
      obtain ⟨hz, h5⟩ := h4.if_
      have hp : p0 = p := by
        rw [x3.σ, e2] at q2
        cases q2
        rfl
      subst hp
      rw [← hH]
      refine ⟨p0, vs, u, rfl, rfl, q3, by rw [q4.length, ← lim_eq]; exact hz, ?_⟩
      obtain ⟨c5, g1, _, _, _, r5, x5, h6⟩ := Aft.setO h5 r3 x3 q1 q2 (q4.append (.one rep))
      rw [← g1]
      exact Aft.fin h6 x5 r5 rfl trivial
    · exact h2.elim
theorem j_pop (hN : X.N[i]? = some n) (hv : Vis X.env.scope n) (hd : (n == ("__debug__" : Str)) = false) (hcd : (n == ("__classdict__" : Str)) = false) (hline : (apos.endLine == pos.line) = true) :
    PE X (.Call (.Attribute (.Name n npos) "pop" apos) [] [] pos) (tE w Ex Φ (.pop i)) :=
  (pe_bm0 PySem.F.plainAttrs_list PySem.F.slot_list_pop PySem.F.type_list_pop mt_pop (pe_var hN hv hd hcd) (by rfl) hline).imp fun σ H Q h => by
    obtain ⟨c, rfl, rfl, r, h⟩ := tE_in h
    obtain ⟨ds, p, vs, e1, e2, e3, e4, h⟩ := Aft.own h r
    refine ⟨.ref p, e2, .inl ⟨rfl, _, SqL.of e3⟩, ?_⟩
    obtain ⟨d, e, h2⟩ := h.opt
    obtain ⟨v, e5, e6⟩ := e4.get e
    rw [← e4.length] at e5
    refine ⟨p, vs, v, rfl, rfl, e3, e5, ?_⟩
    obtain ⟨c5, g1, g2, g3, g4, r5, x5, h6⟩ := Aft.setO h2 r (SStep.refl c) e1 e2 e4.dropLast
    rw [← g1]
    exact Aft.fin h6 x5 r5 (by show RepD w c5.dl c5.F d v; rw [g3, g4]; exact e6) trivial
theorem j_popAt (hN : X.N[i]? = some n) (hv : Vis X.env.scope n) (hd : (n == ("__debug__" : Str)) = false) (hcd : (n == ("__classdict__" : Str)) = false) (ha : PE X x (tE w Ex Φ a)) (hline : (apos.endLine == pos.line) = true)
    (hst : starEach [x] X.env = (false, eval x X.env) :: starEach [] X.env) : PE X (.Call (.Attribute (.Name n npos) "pop" apos) [x] [] pos) (tE w Ex Φ (.popAt i a)) :=
  (pe_bm PySem.F.plainAttrs_list PySem.F.slot_list_pop PySem.F.type_list_pop mt_popAt (pe_var hN hv hd hcd) (j_cons ha j_nil hst) (by rfl) (few1 hst) hline hst (by rfl)).imp fun σ H Q h => by
    obtain ⟨c, rfl, rfl, r, h⟩ := tE_in h
    obtain ⟨ds0, p0, vs0, e1, e2, e3, e4, h⟩ := Aft.own h r
    refine ⟨.ref p0, e2, .inl ⟨rfl, _, SqL.of e3⟩, ?_⟩
    have h' : Aft w Ex c (bnd (evs w Φ [a]) (fun l => bnd (match l with | [v] => look v | _ => stk) fun k => bnd (int? k) fun j => bnd (ownAt i) fun xs => if 0 ≤ j ∧ j < xs.length ∧ j < 2 ^ 62 then bnd (opt xs[j.toNat]?) fun d => bnd (setR i (.o (xs.eraseIdx j.toNat))) fun _ => ret (.f d) else stk) c.s) (Fin w c Q) := by
      have e : bnd (evs w Φ [a]) (fun l => bnd (match l with | [v] => look v | _ => stk) fun k => bnd (int? k) fun j => bnd (ownAt i) fun xs => if 0 ≤ j ∧ j < xs.length ∧ j < 2 ^ 62 then bnd (opt xs[j.toNat]?) fun d => bnd (setR i (.o (xs.eraseIdx j.toNat))) fun _ => ret (DV.f d) else stk) =
          bnd (ev w Φ a) (fun v => bnd (look v) fun k => bnd (int? k) fun j => bnd (ownAt i) fun xs => if 0 ≤ j ∧ j < xs.length ∧ j < 2 ^ 62 then bnd (opt xs[j.toNat]?) fun d => bnd (setR i (.o (xs.eraseIdx j.toNat))) fun _ => ret (DV.f d) else stk) := by
        show bnd (bnd (ev w Φ a) fun v => bnd (evs w Φ []) fun vs => ret (v :: vs)) _ = _
        rw [bnd_assoc]
        rfl
      rw [e]
      exact h
    refine tEs_seq h' (SStep.refl c) r fun c2 us dvs r2 x2 x02 hσ rels rels0 h2 => ?_
    rcases dvs with _ | ⟨dv, _ | ⟨dv2, dvs⟩⟩
    · exact h2.elim
    · rcases us with _ | ⟨u, _ | ⟨u2, us⟩⟩ <;> first | exact rels0.elim | exact rels0.2.2.2.elim | skip
      obtain ⟨rel, fr, _, _⟩ := rels0
      obtain ⟨d, l, h3⟩ := Aft.look h2 r2 rel
      obtain ⟨j, rfl, h3⟩ := h3.int
      obtain ⟨ds, p, vs, q1, q2, q3, q4, h4⟩ := Aft.own h3 r2
      obtain ⟨⟨hz1, hz2, hz3⟩, h5⟩ := h4.if_
      obtain ⟨d, e, h6⟩ := h5.opt
      have hp : p0 = p := by
        rw [hσ, e2] at q2
        cases q2
        rfl
      subst hp
      obtain ⟨v, e5, e6⟩ := q4.get e
      refine ⟨p0, vs, j, j.toNat, v, rfl, by rw [show u = .int j from l], q3, by omega, by omega, ?_, e5, ?_⟩
      · unfold seqIndex?
        rw [q4.length]
        simp only [show ¬ j < 0 by omega, if_false]
        simp [hz1, hz2]
      · obtain ⟨c5, g1, g2, g3, g4, r5, x5, h7⟩ := Aft.setO h6 r2 x02 q1 q2 (q4.erase j.toNat)
        rw [← g1]
        exact Aft.fin h7 x5 r5 (by show RepD w c5.dl c5.F d v; rw [g3, g4]; exact e6) trivial
    · exact h2.elim
end
end DI

end
section
set_option Elab.async false
set_option linter.all false
set_option maxRecDepth 100000
set_option maxHeartbeats 4000000
/-! DI8: built-in functions, isinstance, ranges as lists. Own text. -/
namespace DI
open PySem PySem.Spec PyProof.Rows L2
section
variable {w : Wd} {Ex : Nat → D → C → Prop} {Φ : Fns} {X : Cx} {a b : E} {x y : Expr} {pos : Pos} {es : List E} {l : List Expr} {n : Str} {p : Pos}
def CallOk (w : Wd) (Ex : Nat → D → C → Prop) (X : Cx) (f : Value) (k : List D → Option DV) : Prop :=
  ∃ r : List V → Hp → VK → Prop, CallR X f r ∧ ∀ {c0 c : C} {Q : VK} {vs : List V} {ds : List D}, R w c → SStep c0 c → Lks w c vs ds → Aft w Ex c0 (opt (k ds) c.s) (Fin w c0 Q) → r vs c.H Q
/-- what a name of the built-in ones stands for -/
structure BltN (X : Cx) (n : Str) (v : Value) : Prop where
  gl : Gl X n
  no : X.mg n = none
  boot : bootBuiltins n = some v
  nn : n ≠ "__name__"
  nd : (n == ("__debug__" : Str)) = false
theorem j_bltB {id : String} {bf : Blt} (N : BltN X n (.builtin id)) (ok : CallOk w Ex X (.builtin id) (bltD bf)) (hs : PA X (x :: l) (tEs w Ex Φ es)) (hst : starEach (x :: l) X.env = (false, eval x X.env) :: starEach l X.env) (hpl : (backTo pos (starEach l X.env)).any (·.1) = false) :
    PE X (.Call (.Name n p) (x :: l) [] pos) (tE w Ex Φ (.blt bf es)) := by
  obtain ⟨r, h1, h2⟩ := ok
  refine (pe_callB h1 N.gl N.no N.boot hs N.nn N.nd hst hpl).imp fun σ H Q h => ?_
  obtain ⟨c, rfl, rfl, hr, h⟩ := tE_in h
  refine tEs_seq h (SStep.refl c) hr fun c2 vs dvs r2 x2 x02 hσ rels rels0 h3 => ?_
  obtain ⟨ds, lks, h4⟩ := Aft.looks h3 r2 rels0
  exact h2 r2 x02 lks h4
theorem j_bltT {T : String} {bf : Blt} (N : BltN X n (.type T)) (ok : CallOk w Ex X (.type T) (bltD bf)) (hs : PA X (x :: l) (tEs w Ex Φ es)) (hst : starEach (x :: l) X.env = (false, eval x X.env) :: starEach l X.env) (hpl : (backTo pos (starEach l X.env)).any (·.1) = false) :
    PE X (.Call (.Name n p) (x :: l) [] pos) (tE w Ex Φ (.blt bf es)) := by
  obtain ⟨r, h1, h2⟩ := ok
  refine (pe_callTy h1 N.gl N.no N.boot hs N.nn N.nd hst hpl).imp fun σ H Q h => ?_
  obtain ⟨c, rfl, rfl, hr, h⟩ := tE_in h
  refine tEs_seq h (SStep.refl c) hr fun c2 vs dvs r2 x2 x02 hσ rels rels0 h3 => ?_
  obtain ⟨ds, lks, h4⟩ := Aft.looks h3 r2 rels0
  exact h2 r2 x02 lks h4
/-! ### each -/
theorem Lk.seqL {c : C} {v : V} {ds : List D} (h : Lk w c v (.lst ds)) : ∃ q vs, v = .ref q ∧ SqL w.K c.H q vs ∧ RepAll w c.dl c.F ds vs := by
  obtain ⟨q, vs, e, h1, h2⟩ := h
  exact ⟨q, vs, e, SqL.of h1, h2⟩
theorem Lk.seqT {c : C} {v : V} {ds : List D} (r : R w c) (h : Lk w c v (.tup ds)) : ∃ q vs, v = .ref q ∧ SqT w.K c.H q vs ∧ RepAll w c.dl c.F ds vs := by
  obtain ⟨q, vs, e, h1, h2⟩ := h
  exact ⟨q, vs, e, r.sub.sqT h1, h2⟩
theorem Lks.nil {c : C} {vs : List V} (h : Lks w c vs []) : vs = [] := by
  cases vs with
  | nil => rfl
  | cons v vs => exact h.elim
theorem len_ok (hK : X.K = w.K) : CallOk w Ex X (.builtin "len") (bltD .len) := by
  refine ⟨_, call_len_seq, fun {c0 c Q vs ds} r st h q => ?_⟩
  obtain ⟨dv, e, q⟩ := q.opt0
  rcases ds with _ | ⟨d, _ | ⟨d2, ds⟩⟩ <;> first | (cases e; done) | (cases d <;> cases e; done) | skip
  obtain ⟨v, rfl, l⟩ := h.one
  cases d <;> first | (cases e; done) | skip
  · cases e
    obtain ⟨p, us, rfl, s1, rep⟩ := l.seqT r
    refine ⟨p, us, rfl, .inr (by rw [hK]; exact s1), ?_⟩
    rw [rep.length]
    exact q.fin st r rfl trivial
  · cases e
    obtain ⟨p, us, rfl, s1, rep⟩ := l.seqL
    refine ⟨p, us, rfl, .inl (by rw [hK]; exact s1), ?_⟩
    rw [rep.length]
    exact q.fin st r rfl trivial
  · cases e
    rename_i ns
    obtain ⟨p, rfl, s1⟩ := l
    refine ⟨p, _, rfl, .inl (by rw [hK]; exact r.sub.sqL s1), ?_⟩
    rw [List.length_map]
    exact q.fin st r rfl trivial
theorem int_ok : CallOk w Ex X (.type "int") (bltD .int) := by
  refine ⟨_, call_int1, fun {c0 c Q vs ds} r st h q => ?_⟩
  obtain ⟨dv, e, q⟩ := q.opt0
  rcases ds with _ | ⟨d, _ | ⟨d2, ds⟩⟩ <;> first | (cases e; done) | (cases d <;> cases e; done) | skip
  obtain ⟨v, rfl, l⟩ := h.one
  cases d <;> first | (cases e; done) | skip
  cases e
  exact .inl ⟨_, by rw [show v = .int _ from l], q.fin st r rfl trivial⟩
theorem abs_ok : CallOk w Ex X (.builtin "abs") (bltD .abs) := by
  refine ⟨_, call_abs, fun {c0 c Q vs ds} r st h q => ?_⟩
  obtain ⟨dv, e, q⟩ := q.opt0
  rcases ds with _ | ⟨d, _ | ⟨d2, ds⟩⟩ <;> first | (cases e; done) | (cases d <;> cases e; done) | skip
  obtain ⟨v, rfl, l⟩ := h.one
  cases d <;> first | (cases e; done) | skip
  rename_i i
  cases e
  refine ⟨i, by rw [show v = .int _ from l], ?_⟩
  have e : (if i < 0 then -i else i) = (i.natAbs : Int) := by split <;> omega
  rw [e]
  exact q.fin st r rfl trivial
theorem list_ok (hK : X.K = w.K) : CallOk w Ex X (.type "list") (bltD .list) := by
  refine ⟨_, call_list_of, fun {c0 c Q vs ds} r st h q => ?_⟩
  obtain ⟨dv, e, q⟩ := q.opt0
  rcases ds with _ | ⟨d, _ | ⟨d2, ds⟩⟩ <;> first | (cases e; done) | (cases d <;> cases e; done) | skip
  obtain ⟨v, rfl, l⟩ := h.one
  cases d <;> first | (cases e; done) | skip
  · cases e
    obtain ⟨p, us, rfl, s1, rep⟩ := l.seqT r
    exact ⟨p, us, rfl, .inr (by rw [hK]; exact s1), fun o ho => q.newLst st r rep ho⟩
  · cases e
    obtain ⟨p, us, rfl, s1, rep⟩ := l.seqL
    exact ⟨p, us, rfl, .inl (by rw [hK]; exact s1), fun o ho => q.newLst st r rep ho⟩
theorem tuple_ok (hK : X.K = w.K) : CallOk w Ex X (.type "tuple") (bltD .tuple) := by
  refine ⟨_, call_tuple_of, fun {c0 c Q vs ds} r st h q => ?_⟩
  obtain ⟨dv, e, q⟩ := q.opt0
  rcases ds with _ | ⟨d, _ | ⟨d2, ds⟩⟩ <;> first | (cases e; done) | (cases d <;> cases e; done) | skip
  obtain ⟨v, rfl, l⟩ := h.one
  cases d <;> first | (cases e; done) | skip
  · cases e
    obtain ⟨p, us, rfl, s1, rep⟩ := l.seqT r
    exact ⟨p, us, rfl, .inr ⟨by rw [hK]; exact s1, q.fin st r l trivial⟩⟩
  · cases e
    obtain ⟨p, us, rfl, s1, rep⟩ := l.seqL
    exact ⟨p, us, rfl, .inl ⟨by rw [hK]; exact s1, fun o ho => q.newTup st r rep ho⟩⟩
theorem maxI_mem : ∀ {ns : List Int}, ns ≠ [] → maxI ns ∈ ns ∧ ∀ y ∈ ns, y ≤ maxI ns
  | [], h => absurd rfl h
  | [x], _ => by simp [maxI]
  | x :: y :: r, _ => by
    obtain ⟨h1, h2⟩ := maxI_mem (ns := y :: r) (by simp)
    show (if maxI (y :: r) ≤ x then x else maxI (y :: r)) ∈ x :: y :: r ∧ ∀ z ∈ x :: y :: r, z ≤ (if maxI (y :: r) ≤ x then x else maxI (y :: r))
    split
    · refine ⟨List.mem_cons_self, fun z hz => ?_⟩
      rcases List.mem_cons.mp hz with rfl | hz
      · exact Int.le_refl _
      · have := h2 z hz; omega
    · refine ⟨List.mem_cons_of_mem _ h1, fun z hz => ?_⟩
      rcases List.mem_cons.mp hz with rfl | hz
      · omega
      · exact h2 z hz
theorem minI_mem : ∀ {ns : List Int}, ns ≠ [] → minI ns ∈ ns ∧ ∀ y ∈ ns, minI ns ≤ y
  | [], h => absurd rfl h
  | [x], _ => by simp [minI]
  | x :: y :: r, _ => by
    obtain ⟨h1, h2⟩ := minI_mem (ns := y :: r) (by simp)
    show (if x ≤ minI (y :: r) then x else minI (y :: r)) ∈ x :: y :: r ∧ ∀ z ∈ x :: y :: r, (if x ≤ minI (y :: r) then x else minI (y :: r)) ≤ z
    split
    · refine ⟨List.mem_cons_self, fun z hz => ?_⟩
      rcases List.mem_cons.mp hz with rfl | hz
      · exact Int.le_refl _
      · have := h2 z hz; omega
    · refine ⟨List.mem_cons_of_mem _ h1, fun z hz => ?_⟩
      rcases List.mem_cons.mp hz with rfl | hz
      · omega
      · exact h2 z hz
theorem Lk.intsD {c : C} {v : V} {ds : List D} {ns : List Int} (h : Lk w c v (.lst ds)) (e : DI.intsD ds = some ns) : ∃ q, v = .ref q ∧ SqL w.K c.H q (ns.map V.int) := by
  obtain ⟨q, vs, e1, h1, h2⟩ := h.seqL
  obtain ⟨e2, _⟩ := h2.intsD e
  exact ⟨q, e1, by rw [← e2]; exact h1⟩
theorem max_ok (hK : X.K = w.K) (hc : X.calm = true) : CallOk w Ex X (.builtin "max") (bltD .max) := by
  refine ⟨_, (call_max2 hc).or (cr_max hc), fun {c0 c Q vs ds} r st h q => ?_⟩
  obtain ⟨dv, e, q⟩ := q.opt0
  rcases ds with _ | ⟨d, _ | ⟨d2, _ | ⟨d3, ds⟩⟩⟩ <;> first | (cases e; done) | (cases d <;> cases e; done) | (cases d <;> cases d2 <;> cases e; done) | skip
  · obtain ⟨v, rfl, l⟩ := h.one
    cases d <;> first | (cases e; done) | skip
    rename_i xs
    obtain ⟨ns, e1, e2⟩ := Option.bind_eq_some_iff.mp (show (DI.intsD xs).bind _ = some dv from e)
    split at e2
    · cases e2
    · rename_i hne
      cases e2
      obtain ⟨p, rfl, s1⟩ := l.intsD e1
      obtain ⟨m1, m2⟩ := maxI_mem hne
      refine .inr ⟨p, ns, rfl, by rw [hK]; exact s1, List.length_pos_iff.mpr hne, fun m hm hall => ?_⟩
      have em : m = maxI ns := Int.le_antisymm (m2 m hm) (hall _ m1)
      subst em
      exact q.fin st r rfl trivial
  · obtain ⟨v, u, rfl, l1, l2⟩ := h.two
    cases d <;> first | (cases e; done) | (cases d2 <;> cases e; done) | skip
    cases d2 <;> first | (cases e; done) | skip
    rename_i i j
    cases e
    refine .inl ⟨i, j, by rw [show v = .int _ from l1, show u = .int _ from l2], ?_⟩
    have e : (if j > i then j else i) = (if j ≤ i then i else j) := by split <;> split <;> omega
    rw [e]
    exact q.fin st r rfl trivial
theorem min_ok (hK : X.K = w.K) (hc : X.calm = true) : CallOk w Ex X (.builtin "min") (bltD .min) := by
  refine ⟨_, (call_min2 hc).or (cr_min hc), fun {c0 c Q vs ds} r st h q => ?_⟩
  obtain ⟨dv, e, q⟩ := q.opt0
  rcases ds with _ | ⟨d, _ | ⟨d2, _ | ⟨d3, ds⟩⟩⟩ <;> first | (cases e; done) | (cases d <;> cases e; done) | (cases d <;> cases d2 <;> cases e; done) | skip
  · obtain ⟨v, rfl, l⟩ := h.one
    cases d <;> first | (cases e; done) | skip
    rename_i xs
    obtain ⟨ns, e1, e2⟩ := Option.bind_eq_some_iff.mp (show (DI.intsD xs).bind _ = some dv from e)
    split at e2
    · cases e2
    · rename_i hne
      cases e2
      obtain ⟨p, rfl, s1⟩ := l.intsD e1
      obtain ⟨m1, m2⟩ := minI_mem hne
      refine .inr ⟨p, ns, rfl, by rw [hK]; exact s1, List.length_pos_iff.mpr hne, fun m hm hall => ?_⟩
      have em : m = minI ns := Int.le_antisymm (hall _ m1) (m2 m hm)
      subst em
      exact q.fin st r rfl trivial
  · obtain ⟨v, u, rfl, l1, l2⟩ := h.two
    cases d <;> first | (cases e; done) | (cases d2 <;> cases e; done) | skip
    cases d2 <;> first | (cases e; done) | skip
    rename_i i j
    cases e
    refine .inl ⟨i, j, by rw [show v = .int _ from l1, show u = .int _ from l2], ?_⟩
    have e : (if j < i then j else i) = (if i ≤ j then i else j) := by split <;> split <;> omega
    rw [e]
    exact q.fin st r rfl trivial
theorem pre_take {f : Nat → Int} {ns : List Int} (hf : ∀ i, f i = ns.getD i 0) : ∀ k, k ≤ ns.length → preSum f k = (ns.take k).sum
  | 0, _ => by simp [preSum]
  | k + 1, h => by
    rw [List.take_succ_eq_append_getElem (by omega), List.sum_append, ← pre_take hf k (by omega)]
    show preSum f k + f k = _
    rw [hf, List.getD_eq_getElem?_getD, List.getElem?_eq_getElem (by omega)]
    simp
def rSumT (K : PySem.W.Frag) : List V → Hp → VK → Prop := fun vs H Q => ∃ (a : Addr) (ns : List Int), vs = [V.ref a] ∧ (SqL K H a (ns.map V.int) ∨ SqT K H a (ns.map V.int)) ∧ Q (.int ns.sum) H
theorem cr_sumT {X : Cx} (hc : X.calm = true) : CallR X (.builtin "sum") (rSumT X.K) := fun pins s σ H xs us Q I vs h => by
  obtain ⟨a, ns, rfl, hq | hq, q⟩ := h
  · exact cr_sum hc pins s σ H _ us Q I vs ⟨a, ns, rfl, hq, q⟩
  · cases vs with
    | cons r0 r1 =>
    cases r1
    cases r0
    obtain ⟨its, r, pl, hz⟩ := I.tuple hq
    have hh := I.ok.hd hc
    have hsz : a < s.heap.objs.size := by
      obtain ⟨o, ho, _⟩ := pl
      exact Heap.lt_size ho
    have hlen : its.toArray.size = ns.length := by rw [List.size_toArray, ← r.length, List.length_map]
    refine PySem.call_sum_walkG (wpAny_pyIter_tuple pl ?_)
    refine ⟨s.heap.objs.size, _, _, _, _, _, fun i => ns.getD i 0, rfl, Walks.tuple (A := X.A.in1) (show X.A.in1.handled = none from hh) s.heap.objs.size a (Nat.ne_of_lt hsz) its.toArray, ⟨?_, ?_⟩, ?_, ?_, fun h' tk t' hk => ?_⟩
    · exact ⟨_, Heap.get?_push_size _ rfl, rfl, rfl⟩
    · obtain ⟨o, ho, h2⟩ := pl
      exact ⟨o, Heap.get?_push_of_some _ ho, h2⟩
    · intro b hb
      have e : (s.heap.push { cls := Value.type "tuple_iterator", data := Data.fields #[Value.ref a, Value.int 0 0] }).objs.size = s.heap.objs.size + 1 := Heap.size_push ..
      show b < (s.heap.push _).objs.size
      rw [e]
      simp only [List.mem_cons, List.not_mem_nil, or_false] at hb
      rcases hb with rfl | rfl
      · exact Nat.lt_succ_self _
      · exact Nat.lt_succ_of_lt hsz
    · intro i v hv
      have hv' : its[i]? = some v := by simpa using hv
      obtain ⟨hi, _⟩ := List.getElem?_eq_some_iff.mp hv'
      have hi2 : i < ns.length := by
        rw [List.size_toArray] at hlen
        omega
      obtain ⟨u, hu, ru⟩ := r.get (i := i) (x := V.int ns[i]) (by rw [List.getElem?_map, List.getElem?_eq_getElem hi2]; rfl)
      rw [hv'] at hu
      cases hu
      have e : ns.getD i 0 = ns[i] := by
        rw [List.getD_eq_getElem?_getD, List.getElem?_eq_getElem hi2]
        rfl
      show ∃ t, v = Value.int (ns.getD i 0) t
      rw [e]
      exact ru
    · have I2 : Inv X pins σ H { s with heap := h', toks := tk } := I.kept fun b o e => hk b o (by
        intro hb
        rw [List.mem_singleton] at hb
        subst hb
        exact absurd (Heap.lt_size e) (Nat.lt_irrefl _)) (Heap.get?_push_of_some _ e)
      refine ⟨.int ns.sum, H, I2, ⟨t', ?_⟩, q⟩
      rw [hlen, pre_take (fun _ => rfl) _ (Nat.le_refl _), List.take_length]
theorem sum_ok (hK : X.K = w.K) (hc : X.calm = true) : CallOk w Ex X (.builtin "sum") (bltD .sum) := by
  refine ⟨_, cr_sumT hc, fun {c0 c Q vs ds} r st h q => ?_⟩
  obtain ⟨dv, e, q⟩ := q.opt0
  rcases ds with _ | ⟨d, _ | ⟨d2, ds⟩⟩ <;> first | (cases e; done) | (cases d <;> cases e; done) | skip
  obtain ⟨v, rfl, l⟩ := h.one
  cases d <;> first | (cases e; done) | skip
  · rename_i xs
    obtain ⟨ns, e1, e2⟩ := Option.bind_eq_some_iff.mp (show (DI.intsD xs).bind _ = some dv from e)
    cases e2
    obtain ⟨A, us, rfl, s1, rep⟩ := l.seqT r
    obtain ⟨e4, _⟩ := rep.intsD e1
    subst e4
    exact ⟨A, ns, rfl, .inr (by rw [hK]; exact s1), q.fin st r rfl trivial⟩
  · rename_i xs
    obtain ⟨ns, e1, e2⟩ := Option.bind_eq_some_iff.mp (show (DI.intsD xs).bind _ = some dv from e)
    cases e2
    obtain ⟨p, rfl, s1⟩ := l.intsD e1
    exact ⟨p, ns, rfl, .inl (by rw [hK]; exact s1), q.fin st r rfl trivial⟩
theorem Lk.bools {c : C} {v : V} {ds : List D} {ns : List Bool} (h : Lk w c v (.lst ds)) (e : DI.bools ds = some ns) : ∃ q, v = .ref q ∧ SqL w.K c.H q (ns.map V.bl) := by
  obtain ⟨q, vs, e1, h1, h2⟩ := h.seqL
  have e2 := h2.bools e
  exact ⟨q, e1, by rw [← e2]; exact h1⟩
theorem all_ok (hK : X.K = w.K) (hc : X.calm = true) : CallOk w Ex X (.builtin "all") (bltD .all) := by
  refine ⟨_, cr_all hc, fun {c0 c Q vs ds} r st h q => ?_⟩
  obtain ⟨dv, e, q⟩ := q.opt0
  rcases ds with _ | ⟨d, _ | ⟨d2, ds⟩⟩ <;> first | (cases e; done) | (cases d <;> cases e; done) | skip
  obtain ⟨v, rfl, l⟩ := h.one
  cases d <;> first | (cases e; done) | skip
  rename_i xs
  obtain ⟨ns, e1, e2⟩ := Option.bind_eq_some_iff.mp (show (DI.bools xs).bind _ = some dv from e)
  cases e2
  obtain ⟨p, rfl, s1⟩ := l.bools e1
  exact ⟨p, ns, rfl, by rw [hK]; exact s1, q.fin st r rfl trivial⟩
theorem any_ok (hK : X.K = w.K) (hc : X.calm = true) : CallOk w Ex X (.builtin "any") (bltD .any) := by
  refine ⟨_, cr_any hc, fun {c0 c Q vs ds} r st h q => ?_⟩
  obtain ⟨dv, e, q⟩ := q.opt0
  rcases ds with _ | ⟨d, _ | ⟨d2, ds⟩⟩ <;> first | (cases e; done) | (cases d <;> cases e; done) | skip
  obtain ⟨v, rfl, l⟩ := h.one
  cases d <;> first | (cases e; done) | skip
  rename_i xs
  obtain ⟨ns, e1, e2⟩ := Option.bind_eq_some_iff.mp (show (DI.bools xs).bind _ = some dv from e)
  cases e2
  obtain ⟨p, rfl, s1⟩ := l.bools e1
  exact ⟨p, ns, rfl, by rw [hK]; exact s1, q.fin st r rfl trivial⟩
theorem insertI_perm (x : Int) : ∀ l : List Int, (insertI x l).Perm (x :: l)
  | [] => .refl _
  | y :: r => by
    unfold insertI
    split
    · exact .refl _
    · exact ((insertI_perm x r).cons y).trans (.swap x y r)
theorem sortI_perm : ∀ l : List Int, (sortI l).Perm l
  | [] => .refl _
  | x :: r => (insertI_perm x (sortI r)).trans ((sortI_perm r).cons x)
theorem insertI_sorted (x : Int) : ∀ l : List Int, l.Pairwise (· ≤ ·) → (insertI x l).Pairwise (· ≤ ·)
  | [], _ => List.pairwise_singleton _ _
  | y :: r, h => by
    obtain ⟨h1, h2⟩ := List.pairwise_cons.mp h
    unfold insertI
    split
    · rename_i hxy
      refine List.pairwise_cons.mpr ⟨fun z hz => ?_, h⟩
      rcases List.mem_cons.mp hz with rfl | hz
      · exact hxy
      · exact Int.le_trans hxy (h1 z hz)
    · rename_i hxy
      refine List.pairwise_cons.mpr ⟨fun z hz => ?_, insertI_sorted x r h2⟩
      rcases List.mem_cons.mp ((insertI_perm x r).mem_iff.mp hz) with rfl | hz
      · omega
      · exact h1 z hz
theorem sortI_sorted : ∀ l : List Int, (sortI l).Pairwise (· ≤ ·)
  | [] => List.Pairwise.nil
  | x :: r => insertI_sorted x _ (sortI_sorted r)
theorem sorted_uniq {l m : List Int} (p : l.Perm m) (hl : l.Pairwise (· ≤ ·)) (hm : m.Pairwise (· ≤ ·)) : l = m := p.eq_of_pairwise (fun a b _ _ h1 h2 => Int.le_antisymm h1 h2) hl hm
section
open PySem.W
theorem each_ints {h : Heap} {a : Addr} : ∀ {vs : List Value} {ns : List Int}, IntsAre vs ns → EachIs (fun v (b : Int) => ∃ t, v = .int b t) vs ns ∧ EachIs (fun v (b : Int) => ∃ as, Reads h v (PyData.int b) as ∧ ¬ a ∈ as) vs ns
  | _, _, .nil => ⟨.nil, .nil⟩
  | _, _, .cons n t r => ⟨.cons ⟨t, rfl⟩ (each_ints (h := h) (a := a) r).1, .cons ⟨[], .int n t, List.not_mem_nil⟩ (each_ints r).2⟩
theorem ints_each : ∀ {vs : List Value} {ns : List Int}, EachIs (fun v (b : Int) => ∃ t, v = .int b t) vs ns → IntsAre vs ns
  | _, _, .nil => .nil
  | _, _, .cons ⟨t, e⟩ r => by
    subst e
    exact .cons _ t (ints_each r)
theorem sorted_tupI {prog : Program} {w : World} {A : Around} {E : Value → Shared → Prop} {P : PySem.Fin → Shared → Prop} {s : Shared} {t : Addr} {o : Obj} {items : Array Value} {n : Nat} {ns : List Int} (h1 : s.heap.get? t = some o) (h2 : o.cls = .type "tuple") (h3 : o.data = .seq items n) (h4 : items.size ≤ sizeLine)
    (hi : IntsAre items.toList ns) (hu : A.units + 8 < cLine)
    (hQ : ∀ (h0 h' : Heap) (a : Addr) (e : Nat) (out : List Value), (∀ b u, s.heap.get? b = some u → h0.get? b = some u) → a = h0.objs.size → (∀ b u, h0.get? b = some u → h'.get? b = some u) → h'.get? a = some (seqObj "list" out.toArray e) → IntsAre out (ns.mergeSort fun a b => decide (a ≤ b)) → P (.done (.ret (.ref a))) { s with heap := h' }) : wpAny (model prog w) A (Builtin.sorted { pos := [Value.ref t] }) P E s := by
  have hlen : items.toList.length = ns.length := by
    clear h3 hQ
    generalize items.toList = l at hi
    induction hi with
    | nil => rfl
    | cons n t r ih => rw [List.length_cons, List.length_cons, ih]
  have hlen2 : ns.length ≤ sizeLine := by
    rw [← hlen, Array.length_toList]
    exact h4
  unfold PySem.Builtin.sorted
  refine wpAny_bind ?_
  show wpAny (model prog w) A (pure ()) _ E s
  refine wpAny_pure ?_
  refine wpAny_bind (wpAny_collect_seq t (.inr rfl) h1 h2 h3 (fun h' hk => ?_) h4)
  refine wpAny_bind (wpAny_newList ?_ (by rw [hlen]; exact hlen2))
  refine wpAny_bind (wpAny_holding ?_)
  have hg : (h'.push { cls := Value.type "list", data := Data.seq items.toList.toArray }).get? h'.objs.size = some (seqObj "list" items.toList.toArray 0) := Heap.get?_push_size _ rfl
  obtain ⟨e1, e2⟩ := each_ints (h := h'.push { cls := Value.type "list", data := Data.seq items.toList.toArray }) (a := h'.objs.size) hi
  refine list_sort_data (enc := PyData.int) (R := fun v b => ∃ t, v = .int b t) hg e1 e2 (AllAlike.of fun b b' => rfl) (Sortable.others fun b => ⟨(by intro z; cases z), fun xs z => by cases z⟩) hlen2 (fun b _ => by show A.units + 1 + (PyData.int b).depth < cLine; simp only [PyData.depth]; omega) fun out ho hr => ?_
  show wpAny (model prog w) A (pure _) P E _
  refine wpAny_pure ?_
  obtain ⟨e, he⟩ := sortedHeap_at (out := out.toArray) hg
  refine hQ h' _ _ e out hk rfl (fun b u hb => ?_) he ?_
  · have hlt := Heap.lt_size hb
    rw [sortedHeap_old (Nat.ne_of_lt hlt) (by rw [Heap.size_push]; exact Nat.lt_succ_of_lt hlt)]
    exact Heap.get?_push_of_some _ hb
  · have e3 := dataLe_int (β := Int) (fun k => k)
    have e4 : (dataLe false PyData.int) = fun a b => decide (a ≤ b) := e3
    rw [e4] at hr
    exact ints_each hr
end
theorem merge_sortI (ns : List Int) : (ns.mergeSort fun a b => decide (a ≤ b)) = sortI ns := by
  refine sorted_uniq ((List.mergeSort_perm ns _).trans (sortI_perm ns).symm) ?_ (sortI_sorted ns)
  have h := List.pairwise_mergeSort (le := fun (a b : Int) => decide (a ≤ b)) (fun a b c h1 h2 => by simp at *; omega) (fun a b => by simp; omega) ns
  exact h.imp fun h => by simpa using h
def rSortT (K : PySem.W.Frag) : List V → Hp → VK → Prop := fun vs H Q => ∃ (a : Addr) (ns : List Int), vs = [V.ref a] ∧ SqT K H a (ns.map V.int) ∧ ∀ p, H p = none → Q (.ref p) (upd H p (.lst ((sortI ns).map V.int)))
theorem cr_sortT {X : Cx} (hu : X.A.units + 20 < cLine) : CallR X (.builtin "sorted") (rSortT X.K) := fun pins s σ H xs us Q I vs h => by
  obtain ⟨a, ns, rfl, hq, q⟩ := h
  cases vs with
  | cons r0 r1 =>
  cases r1
  cases r0
  obtain ⟨its, r, pl, hz⟩ := I.tuple hq
  obtain ⟨o, h1, h2, n, h3⟩ := pl
  have hlen : its.length = ns.length := by rw [← r.length, List.length_map]
  refine call_function_tree kind_sorted plain_sorted entry_sorted (args_sorted1 _) ?_
  refine sorted_tupI (ns := ns) h1 h2 h3 (by rw [List.size_toArray, hlen, ← List.length_map (f := V.int)]; exact hz) (by simpa using RZ.intsAre_vals r) (by show X.A.in1.units + 8 < cLine; show (X.A.units + _) + 8 < cLine; omega) fun h0 h' p e out k0 kp k1 hg hi => ?_
  have I2 : Inv X pins σ H { s with heap := h0 } := I.kept (t' := s.toks) k0
  rw [merge_sortI] at hi
  have hol : out.length = (sortI ns).length := by
    have := (vals_ints hi).length
    rw [List.length_map] at this
    exact this.symm
  have I3 : Inv X pins σ (upd H p (.lst ((sortI ns).map V.int))) { s with heap := h' } := by
    refine Inv.laid (s := { s with heap := h0 }) (t' := s.toks) I2 k1 (Nat.le_of_eq kp.symm) ?_
    unfold ObjOk
    refine ⟨?_, out, e, vals_ints hi, hg⟩
    rw [List.length_map, (sortI_perm ns).length_eq, ← List.length_map (f := V.int)]
    exact hz
  have hp : H p = none := by
    rw [kp]
    exact Inv.fresh I2
  exact ⟨.ref p, _, I3, rfl, q p hp⟩
theorem sorted_ok (hK : X.K = w.K) (hu : X.A.units + 20 < cLine) : CallOk w Ex X (.builtin "sorted") (bltD .sorted) := by
  refine ⟨_, (cr_sortedI).or (cr_sortT hu), fun {c0 c Q vs ds} r st h q => ?_⟩
  obtain ⟨dv, e, q⟩ := q.opt0
  rcases ds with _ | ⟨d, _ | ⟨d2, ds⟩⟩ <;> first | (cases e; done) | (cases d <;> cases e; done) | skip
  obtain ⟨v, rfl, l⟩ := h.one
  cases d <;> first | (cases e; done) | skip
  · rename_i xs
    obtain ⟨ns, e1, e2⟩ := Option.bind_eq_some_iff.mp (show (DI.intsD xs).bind _ = some dv from e)
    split at e2
    · cases e2
      obtain ⟨A, us, rfl, s1, rep⟩ := l.seqT r
      obtain ⟨e4, _⟩ := rep.intsD e1
      subst e4
      exact .inr ⟨A, ns, rfl, by rw [hK]; exact s1, fun o ho => q.newLst st r (RepAll.ofInts _) ho⟩
    · cases e2
  · rename_i xs
    obtain ⟨ns, e1, e2⟩ := Option.bind_eq_some_iff.mp (show (DI.intsD xs).bind _ = some dv from e)
    split at e2
    · cases e2
      obtain ⟨p, rfl, s1⟩ := l.intsD e1
      refine .inl ⟨p, ns, rfl, by rw [hK]; exact s1, fun ns' o hp hs ho => ?_⟩
      have e : ns' = sortI ns := sorted_uniq (hp.trans (sortI_perm ns).symm) hs (sortI_sorted ns)
      subst e
      exact q.newLst st r (RepAll.ofInts _) ho
    · cases e2
/-! ### isinstance -/
def tyN : D → String
  | .non => "NoneType" | .bl _ => "bool" | .int _ => "int" | .str _ => "str" | .tup _ => "tuple" | .lst _ => "list" | .ins _ _ => "" | .deal => "" | .scr _ => "" | .exn _ _ => ""
theorem Lk.ty {c : C} {v : V} {d : D} (r : R w c) (h : Lk w c v d) (hd : tyN d ≠ "") : TyX w.K c.H v (.type (tyN d)) := by
  cases d with
  | non => rw [show v = .non from h]; exact .base .non
  | bl i => rw [show v = .bl i from h]; exact .base (.bl i)
  | int i => rw [show v = .int i from h]; exact .base (.int i)
  | str i => rw [show v = .str i from h]; exact .base (.str i)
  | tup ds =>
    obtain ⟨p, us, rfl, s1, _⟩ := h.seqT r
    rcases s1 with (s1 | ⟨o, s1⟩) | ⟨o, its, n, s1, s2, _⟩
    · exact .base (.tup s1)
    · exact .fTuple s1
    · exact .kTuple s1 s2
  | lst ds =>
    obtain ⟨p, us, rfl, s1, _⟩ := h
    exact .base (.lst s1)
  | ins k ds => exact absurd rfl hd
  | deal => exact absurd rfl hd
  | scr ns => exact absurd rfl hd
  | exn _ _ => exact absurd rfl hd
def tyS : Ty → String
  | .int => "int" | .bool => "bool" | .str => "str" | .list => "list" | .tuple => "tuple" | .seq => "" | .cls _ => ""
theorem kit_isD {t : Ty} {d : D} {k : Bool} (ht : tyS t ≠ "") (h : isD t d = some k) : tyN d ≠ "" ∧ kitB (tyN d) (tyS t) = some k := by
  cases t <;> first | exact absurd rfl ht | skip
  all_goals (cases d <;> first
    | (cases h; done)
    | (cases h; dsimp only [tyN, tyS]; exact ⟨by decide, by decide +kernel⟩))
theorem isI_ok (hK : X.K = w.K) {t : Ty} (ht : tyS t ≠ "") {c0 c : C} {Q : VK} {v : V} {d : D} {k : Bool} (r : R w c) (st : SStep c0 c) (l : Lk w c v d) (e : isD t d = some k) (q : Q (.bl k) c.H) :
    rIsi X.K [v, .ty (tyS t)] c.H Q := by
  obtain ⟨h1, h2⟩ := kit_isD ht e
  exact ⟨v, .ty (tyS t), .type (tyN d), .type (tyS t), k, rfl, .ty _, by rw [hK]; exact l.ty r h1, kit_ty h2, q⟩
/-- isinstance(x, T) -/
theorem j_isI (hK : X.K = w.K) {t : Ty} {m : Str} {p2 : Pos} (ht : tyS t ≠ "") (N : BltN X n (.builtin "isinstance")) (M : BltN X m (.type (tyS t))) (ha : PE X x (tE w Ex Φ a))
    (hst : starEach [x, .Name m p2] X.env = (false, eval x X.env) :: starEach [.Name m p2] X.env) : PE X (.Call (.Name n p) [x, .Name m p2] [] pos) (tE w Ex Φ (.isI a t)) :=
  (pe_callB call_isi N.gl N.no N.boot (pa_cons ha (pa_cons (pe_bltn (v := .ty (tyS t)) M.gl M.no M.boot rfl M.nn M.nd) pa_nil (by rfl)) hst) N.nn N.nd hst (by rfl)).imp fun σ H Q h => by
    obtain ⟨c, rfl, rfl, r, h⟩ := tE_in h
    refine tE_seq h (SStep.refl c) r fun c2 u du r2 x2 x02 hσ rel fr fr0 h2 => ?_
    obtain ⟨d, l, h3⟩ := h2.look r2 rel
    obtain ⟨k, e, h4⟩ := h3.opt
    exact isI_ok hK ht r2 x02 l e (Aft.fin h4 x02 r2 rfl trivial)
theorem kit_seq {K : PySem.W.Frag} {d : D} {k : Bool} (h : isD .seq d = some k) : tyN d ≠ "" ∧ PySem.W.kitAny K (.type (tyN d)) [.type "list", .type "tuple"] = some k := by
  cases d <;> first
    | (cases h; done)
    | (cases h; dsimp only [tyN]; exact ⟨by decide, kitAny_cons (b := true) (kit_ty (by decide +kernel)) (by intro z; cases z) (fun _ => rfl)⟩)
    | (cases h; dsimp only [tyN]; exact ⟨by decide, kitAny_cons (b := false) (kit_ty (by decide +kernel)) (fun _ => kitAny_cons (b := true) (kit_ty (by decide +kernel)) (by intro z; cases z) (fun _ => rfl)) (by intro z; cases z)⟩)
    | (cases h; dsimp only [tyN]; exact ⟨by decide, kitAny_cons (b := false) (kit_ty (by decide +kernel)) (fun _ => kitAny_cons (b := false) (kit_ty (by decide +kernel)) (fun _ => kitAny_nil) (by intro z; cases z)) (by intro z; cases z)⟩)
/-- isinstance(x, (list, tuple)) -/
theorem j_isS (hK : X.K = w.K) {m1 m2 : Str} {p1 p2 p3 : Pos} {kk : Nat} (N : BltN X n (.builtin "isinstance")) (M1 : BltN X m1 (.type "list")) (M2 : BltN X m2 (.type "tuple")) (ha : PE X x (tE w Ex Φ a))
    (hst : starEach [x, .Tuple [.Name m1 p1, .Name m2 p2] kk p3] X.env = (false, eval x X.env) :: starEach [.Tuple [.Name m1 p1, .Name m2 p2] kk p3] X.env) :
    PE X (.Call (.Name n p) [x, .Tuple [.Name m1 p1, .Name m2 p2] kk p3] [] pos) (tE w Ex Φ (.isI a .seq)) :=
  (pe_callB call_isiT N.gl N.no N.boot (pa_cons ha (pa_cons (pe_tup (pa_cons (pe_bltn (v := .ty "list") M1.gl M1.no M1.boot rfl M1.nn M1.nd) (pa_cons (pe_bltn (v := .ty "tuple") M2.gl M2.no M2.boot rfl M2.nn M2.nd) pa_nil (by rfl)) (by rfl))) pa_nil (by rfl)) hst) N.nn N.nd hst (by rfl)).imp fun σ H Q h => by
    obtain ⟨c, rfl, rfl, r, h⟩ := tE_in h
    refine tE_seq h (SStep.refl c) r fun c2 u du r2 x2 x02 hσ rel fr fr0 h2 => ?_
    obtain ⟨d, l, h3⟩ := h2.look r2 rel
    obtain ⟨k, e, h4⟩ := h3.opt
    obtain ⟨e1, e2⟩ := kit_seq (K := X.K) e
    refine ⟨by decide, fun q hq => ?_⟩
    obtain ⟨r3, x3⟩ := r2.lay hq (.tup [.ty "list", .ty "tuple"])
    have ty := l.ty r2 e1
    have le : Le c2.H (upd c2.H q (.tup [.ty "list", .ty "tuple"])) := le_upd hq
    have l3 : Lk w { c2 with H := upd c2.H q (.tup [.ty "list", .ty "tuple"]) } u d := by
      cases d with
      | lst ds =>
        obtain ⟨p, us, q1, q2, q3⟩ := l
        exact ⟨p, us, q1, le _ _ q2, q3⟩
      | _ => exact l
    refine ⟨u, q, _, .type (tyN d), [.type "list", .type "tuple"], k, rfl, upd_same, .cons (.ty _) (.cons (.ty _) .nil), by rw [hK]; exact l3.ty r3 e1, e2, ?_⟩
    exact h4 { c2 with H := upd c2.H q (.tup [.ty "list", .ty "tuple"]) } rfl r3 (x02.trans x3) (.bl k) rfl trivial
/-! ### ranges as lists, as tuples -/
theorem rgV_rep {dl : Dl} {F : Hp} (i j : Int) : RepAll w dl F (rngI i j) (rgV i j) := by
  unfold rngI rgV
  have q : ∀ l : List Nat, RepAll w dl F (l.map fun (k : Nat) => D.int (i + k)) (l.map fun (k : Nat) => V.int (i + (k : Nat))) := by
    intro l
    induction l with
    | nil => rfl
    | cons k l ih => exact ⟨_, _, rfl, rfl, ih⟩
  exact q _
theorem rngD_some {i j : Int} {ds : List D} (h : rngD i j = some ds) : ds = rngI i j ∧ RgOk i j := by
  unfold rngD at h
  split at h
  · rename_i z
    simp only [Bool.and_eq_true, bnd62, decide_eq_true_eq] at z
    obtain ⟨⟨⟨z1, z2⟩, z3, z4⟩, z5⟩ := z
    cases h
    refine ⟨rfl, z1, z2, z3, z4, ?_⟩
    rw [lim_eq, sizeLine_eq] at z5
    have e : (2 : Nat) ^ 24 = 16777216 := by decide
    rw [e]
    exact z5
  · cases h
/-- range(..) as a reading of its ends -/
def tRG (w : Wd) (Ex : Nat → D → C → Prop) (Φ : Fns) (a b : E) : L2.St → Hp → (Int → Int → Hp → Prop) → Prop := fun σ H Q => ∃ c, c.σ = σ ∧ c.H = H ∧ R w c ∧
  Aft w Ex c (bnd (zeroM a (ev w Φ a)) (fun x => bnd (ev w Φ b) fun y => bnd (look x) fun dx => bnd (look y) fun dy => bnd (int? dx) fun i => bnd (int? dy) fun j => ret (i, j)) c.s) fun c' p => Q p.1 p.2 c'.H
theorem PRg.imp {e : Expr} {t t' : L2.St → Hp → (Int → Int → Hp → Prop) → Prop} (h : PRg X e t) (f : ∀ σ H Q, t' σ H Q → t σ H Q) : PRg X e t' :=
  fun pins s σ H Q I q => h pins s σ H Q I (f σ H Q q)
theorem two_intP {β : Type} {du dv : DV} {f : Int → Int → M β} {Q : C → β → Prop} {c0 c : C} {u v : V} (r : R w c) (l1 : Rel w c u du) (l2 : Rel w c v dv)
    (h : Aft w Ex c0 (bnd (look du) (fun dx => bnd (look dv) fun dy => bnd (int? dx) fun i => bnd (int? dy) fun j => f i j) c.s) Q) : ∃ i j, u = .int i ∧ v = .int j ∧ Aft w Ex c0 (f i j c.s) Q := by
  obtain ⟨d1, q1, h1⟩ := h.look r l1
  obtain ⟨d2, q2, h2⟩ := h1.look r l2
  obtain ⟨i, e1, h3⟩ := h2.int
  obtain ⟨j, e2, h4⟩ := h3.int
  subst e1
  subst e2
  exact ⟨i, j, q1, q2, h4⟩
theorem j_rg1 {b : E} {pr : Pos} (hg : Gl X "range") (hm : X.mg "range" = none) (hb : PE X y (tE w Ex Φ b)) (nb : starEach [y] X.env = (false, eval y X.env) :: starEach [] X.env) : PRg X (.Call (.Name "range" p) [y] [] pr) (tRG w Ex Φ .nop b) :=
  PRg.imp (prg_1 hg hm hb nb) fun σ H Q h => by
    obtain ⟨c, rfl, rfl, r, h⟩ := h
    have h' : Aft w Ex c (bnd (ev w Φ b) (fun y => bnd (look (.f (.int 0))) fun dx => bnd (look y) fun dy => bnd (int? dx) fun i => bnd (int? dy) fun j => ret (i, j)) c.s) fun c' p => Q p.1 p.2 c'.H := h
    refine tE_seq h' (SStep.refl c) r fun c2 u du r2 x2 x02 hσ rel fr fr0 h2 => ?_
    obtain ⟨i, j, e, rfl, h3⟩ := two_intP (u := .int 0) (du := .f (.int 0)) r2 rfl rel h2
    cases e
    exact ⟨j, rfl, Aft.ret h3 x02 r2⟩
theorem zeroM_id {a : E} {m : M DV} (h : a ≠ .nop) : zeroM a m = m := by cases a <;> first | rfl | exact absurd rfl h
theorem j_rg2 {pr : Pos} (hn : a ≠ .nop) (hg : Gl X "range") (hm : X.mg "range" = none) (ha : PE X x (tE w Ex Φ a)) (hb : PE X y (tE w Ex Φ b)) (na : starEach [x, y] X.env = (false, eval x X.env) :: starEach [y] X.env)
    (nb : starEach [y] X.env = (false, eval y X.env) :: starEach [] X.env) (hp : (backTo pr (starEach [y] X.env)).any (·.1) = false) : PRg X (.Call (.Name "range" p) [x, y] [] pr) (tRG w Ex Φ a b) :=
  PRg.imp (prg_2 hg hm ha hb na nb hp) fun σ H Q h => by
    obtain ⟨c, rfl, rfl, r, h⟩ := h
    rw [zeroM_id hn] at h
    refine tE_seq h (SStep.refl c) r fun c2 u du r2 x2 x02 hσ rel fr fr0 h2 => ?_
    rw [← hσ]
    refine tE_seq h2 x02 r2 fun c3 v dv r3 x3 x03 hσ3 rel3 fr3 fr03 h3 => ?_
    obtain ⟨i, j, rfl, rfl, h4⟩ := two_intP r3 (rel.step x3) rel3 h3
    exact ⟨i, j, rfl, rfl, Aft.ret h4 x03 r3⟩
theorem rg_split {β : Type} {f : Int → Int → M β} : bnd (zeroM a (ev w Φ a)) (fun x => bnd (ev w Φ b) fun y => bnd (look x) fun dx => bnd (look y) fun dy => bnd (int? dx) fun i => bnd (int? dy) fun j => f i j)
    = bnd (bnd (zeroM a (ev w Φ a)) fun x => bnd (ev w Φ b) fun y => bnd (look x) fun dx => bnd (look y) fun dy => bnd (int? dx) fun i => bnd (int? dy) fun j => ret (i, j)) fun p => f p.1 p.2 := by
  simp only [bnd_assoc]
  rfl
theorem RgOk.of {i j : Int} {ds : List D} (h : rngD i j = some ds) : RgOk i j := (rngD_some h).2
theorem j_lrg {pl : Pos} (hc : X.calm = true) (hg : Gl X "list") (hm : X.mg "list" = none) (he : PRg X x (tRG w Ex Φ a b)) (na : starEach [x] X.env = (false, eval x X.env) :: starEach [] X.env) : PE X (.Call (.Name "list" p) [x] [] pl) (tE w Ex Φ (.lrg a b)) :=
  (pe_listRg hc hg hm he na).imp fun σ H Q h => by
    obtain ⟨c, rfl, rfl, r, h⟩ := tE_in h
    rw [show ev w Φ (.lrg a b) = _ from rg_split (f := fun i j => bnd (opt (rngD i j)) fun ds => ret (DV.o ds))] at h
    refine ⟨c, rfl, rfl, r, (h.bnd (SStep.refl c)).imp fun c2 p r2 x2 ⟨_, _, q⟩ => ?_⟩
    obtain ⟨ds, e, q⟩ := q.opt
    obtain ⟨rfl, ok⟩ := rngD_some e
    exact ⟨ok, fun o ho => q.newLst x2 r2 (rgV_rep _ _) ho⟩
theorem j_trg {pl : Pos} (hc : X.calm = true) (hg : Gl X "tuple") (hm : X.mg "tuple" = none) (he : PRg X x (tRG w Ex Φ a b)) (na : starEach [x] X.env = (false, eval x X.env) :: starEach [] X.env) : PE X (.Call (.Name "tuple" p) [x] [] pl) (tE w Ex Φ (.trg a b)) :=
  (pe_tupRg hc hg hm he na).imp fun σ H Q h => by
    obtain ⟨c, rfl, rfl, r, h⟩ := tE_in h
    rw [show ev w Φ (.trg a b) = _ from rg_split (f := fun i j => bnd (opt (rngD i j)) fun ds => ret (DV.f (.tup ds)))] at h
    refine ⟨c, rfl, rfl, r, (h.bnd (SStep.refl c)).imp fun c2 p r2 x2 ⟨_, _, q⟩ => ?_⟩
    obtain ⟨ds, e, q⟩ := q.opt
    obtain ⟨rfl, ok⟩ := rngD_some e
    exact ⟨ok, fun o ho => q.newTup x2 r2 (rgV_rep _ _) ho⟩
end
end DI

end
section
set_option Elab.async false
set_option linter.all false
set_option maxRecDepth 100000
set_option maxHeartbeats 4000000
/-! DG: what a def promises where no repr is under way (guards known to be none), and the calls. Own text over the layer's FnOk. -/
namespace DI
open PySem PySem.Spec PyProof.Rows L2
/-- the layer's FnOk where the stack holds no guard -/
structure FnG (P : Program) (W : World) (K : PySem.W.Frag) (mg : Str → Option Value) (base : Heap) (CX : CXT) (k : Nat) (f : Addr) (fd : FuncData) (ps : List Str) (sp : Sp) : Prop where
  len : ∀ {vs H Q E}, sp vs H Q E → vs.length = ps.length
  go : ∀ {A : Around} {out : List Env} {s : Shared} {H : Hp} {ar : Args} {us : List Value} {vs : List V} {Q : VK} {E : XK}, Room k A → A.guards = some [] → Env0 P W K mg base A out s H → BindsTo s fd ar (ps.zip us) → Vals vs us →
    sp vs H Q E → codeAny (model P W) A (.call (.ref f) ar) (CR CX out P W H s Q E) s
section
variable {X : Cx} {CX : CXT} {k n : Nat} {f C : Addr} {fd : FuncData} {ps ks : List Str} {sp : Sp} {E : XK} {x : Str} {p pos : Pos} {e : Expr} {es : List Expr} {t tk : TA} {kws : List Keyword}
/-- what a call's end tells -/
theorem end_of {pins : List (Addr × Obj)} {σ : L2.St} {H : Hp} {s s' : Shared} {Q : VK} {r : Result} (I : Inv X pins σ H s) (hx : Passes CX X E) (h : CR CX X.stack X.prog X.w H s Q E r s') :
    (∃ e, r = .error e ∧ X.xe e s') ∨ ∃ u, r = .ok (.ret u) ∧ EP X pins σ Q u s' := by
  match r, h with
  | .error e, h => exact .inl ⟨e, rfl, hx pins σ H s e s' I h⟩
  | .ok (.ret u), h => exact .inr ⟨u, rfl, I.after h⟩
theorem runG {pins : List (Addr × Obj)} {σ : L2.St} {H : Hp} {s : Shared} {Q : VK} {us : List Value} {vs : List V} (F : FnG X.prog X.w X.K X.mg X.base CX k f fd ps sp) (hr : Room k X.A) (hgd : X.A.guards = some []) (hb : Binds X.K fd ps []) (hx : Passes CX X E)
    (I : Inv X pins σ H s) (r : Vals vs us) (h : sp vs H Q E) : wpAny (model X.prog X.w) X.A (call (.ref f) us) (EP X pins σ Q) X.xe s := by
  have e1 : us ++ [] = us := List.append_nil us
  have hl : (us ++ []).length = ps.length := by rw [e1, ← r.length, F.len h]
  have bd := hb s us I.kIn hl
  rw [e1] at bd
  refine wpAny_call (codeAny_mono (F.go hr hgd I.env0 bd r h) fun r s' hq => ?_)
  rcases end_of I hx hq with ⟨e, rfl, q⟩ | ⟨u, rfl, q⟩
  · exact q
  · exact q
theorem pe_callG (F : FnG X.prog X.w X.K X.mg X.base CX k f fd ps sp) (hr : Room k X.A) (hgd : X.A.guards = some []) (hg : Gl X x) (hm : X.mg x = some (.ref f)) (hk : PySem.W.keepIn X.K (.ref f) = true) (hb : Binds X.K fd ps []) (hx : Passes CX X E)
    (ha : PA X (e :: es) t) (hdb : (x == ("__debug__" : Str)) = false) (he : starEach (e :: es) X.env = (false, eval e X.env) :: starEach es X.env) (hpl : (backTo pos (starEach es X.env)).any (·.1) = false) :
    PE X (.Call (.Name x p) (e :: es) [] pos) (tCall sp [] E t) := ⟨fun pins s σ H Q I h => by
  refine wpAny_Call_Name_kw (ld_glob I hg hm ?_ hdb)
  refine PySem.W.callWith_K (h₀ := X.base) I.ok.mod.kin hk (thn (ha.run pos pins s σ H _ I h) fun us s1 z => ?_) he hpl
  obtain ⟨vs, H1, I1, r, q⟩ := z
  rw [List.append_nil] at q
  exact ⟨I1.kIn, runG F hr hgd hb hx I1 r q⟩⟩
theorem pe_call0G (F : FnG X.prog X.w X.K X.mg X.base CX k f fd ps sp) (hr : Room k X.A) (hgd : X.A.guards = some []) (hg : Gl X x) (hm : X.mg x = some (.ref f)) (hk : PySem.W.keepIn X.K (.ref f) = true) (hb : Binds X.K fd ps []) (hx : Passes CX X E)
    (hdb : (x == ("__debug__" : Str)) = false) : PE X (.Call (.Name x p) [] [] pos) (tCall sp [] E tNil) := ⟨fun pins s σ H Q I h =>
  wpAny_Call_Name_kw (ld_glob I hg hm (PySem.W.callWith_K0 I.kIn hk (runG (us := []) F hr hgd hb hx I .nil h)) hdb)⟩
/-- f(k = v, ..) -/
theorem pe_callKw0 {g : List Value → List Value → List Value} {gV : List V → List V → List V} (F : FnG X.prog X.w X.K X.mg X.base CX k f fd ps sp) (hr : Room k X.A) (hgd : X.A.guards = some []) (hg : Gl X x) (hm : X.mg x = some (.ref f)) (hk : PySem.W.keepIn X.K (.ref f) = true) (hb : KBn X.K fd ps 0 ks g gV) (hx : Passes CX X E) (hkw : PK X kws tk)
    (hall : (backToKw pos (keywordEach kws X.env)).all (·.1.isSome) = true) (hks : (backToKw pos (keywordEach kws X.env)).filterMap (·.1) = ks) (hdb : (x == ("__debug__" : Str)) = false)
    (hpl : ((backTo pos (starEach [] X.env)).any (·.1) || (backToKw pos (keywordEach kws X.env)).any (·.1.isNone)) = false) :
    PE X (.Call (.Name x p) [] kws pos) (tCallN 0 ks.length sp gV E tNil tk) := by
  refine ⟨fun pins s σ H Q I h => ?_⟩
  refine wpAny_Call_Name_kw (ld_glob I hg hm ?_ hdb)
  refine PySem.W.callWith_KW0 (h₀ := X.base) I.ok.mod.kin hk hall ?_ hpl
  refine thn (hkw.run pos pins s σ H _ I h) fun ws s2 z => ?_
  obtain ⟨zs, H2, I2, rz, l1, l2, q2⟩ := z
  refine ⟨I2.kIn, ?_⟩
  rw [hks]
  have bd := hb.to s2 [] ws I2.kIn rfl (rz.length.symm.trans l2)
  have r2 := hb.rel (.nil : Vals [] []) rz
  refine wpAny_call (codeAny_mono (F.go hr hgd I2.env0 bd r2 q2) fun r s' hq => ?_)
  rcases end_of I2 hx hq with ⟨e, rfl, q⟩ | ⟨u, rfl, q⟩
  · exact q
  · exact q
theorem make_guards {A : Around} {C : Addr} {us : List Value} {kw : List (Str × Value)} (h : A.guards = some []) : (A.under (.builtin "type.__call__" ⟨.ref C :: us, kw⟩)).guards = some [] := by
  show pushGuards (Code.guards (.builtin "type.__call__" ⟨.ref C :: us, kw⟩)) A.guards = _
  rw [h]
  simp [Code.guards, pushGuards, Code.isGuard, guardIds]
/-- C(..) -/
theorem pe_makeG (M : Mk X.K C f) (F : FnG X.prog X.w X.K X.mg X.base CX k f fd ps sp) (hr : Room (k + 1) X.A) (hgd : X.A.guards = some []) (hg : Gl X x) (hm : X.mg x = some (.ref C)) (hb : Binds X.K fd ps []) (hx : Passes CX X E)
    (ha : PA X (e :: es) t) (hdb : (x == ("__debug__" : Str)) = false) (he : starEach (e :: es) X.env = (false, eval e X.env) :: starEach es X.env) (hpl : (backTo pos (starEach es X.env)).any (·.1) = false) :
    PE X (.Call (.Name x p) (e :: es) [] pos) (tMake C sp [] E t) := ⟨fun pins s σ H Q I h => by
  refine wpAny_Call_Name_kw (ld_glob I hg hm ?_ hdb)
  refine PySem.W.callWith_K (h₀ := X.base) I.ok.mod.kin M.kp (thn (ha.run pos pins s σ H _ I h) fun us s1 z => ?_) he hpl
  obtain ⟨vs, H1, I1, r, q⟩ := z
  refine ⟨I1.kIn, ?_⟩
  have q' := q (s1.heap.objs.size + 1) s1.heap.objs.size (I1.hok.fresh (Nat.le_succ _)) (I1.hok.fresh (Nat.le_refl _)) (Nat.ne_of_lt (Nat.lt_succ_self _))
  rw [List.append_nil] at q'
  have I2 := Inv.made (C := C) I1
  have r2 : Vals (V.ref (s1.heap.objs.size + 1) :: vs) (Value.ref (s1.heap.objs.size + 1) :: us) := .cons rfl r
  have bd := hb _ (Value.ref (s1.heap.objs.size + 1) :: us) I2.kIn (by rw [List.append_nil, ← r2.length, F.len q'])
  rw [List.append_nil] at bd
  refine wpAny_call (make_map (f := f) I1.kIn M.makes M.init (beq_iff_eq.mp M.fn) (codeAny_mono (F.go (hr.make C us []) (make_guards hgd) (I2.env0.make C us []) bd r2 q') fun r s' hq => ?_))
  rcases end_of I2 hx hq with ⟨e, rfl, z⟩ | ⟨u, rfl, z⟩
  · exact z
  · obtain ⟨v, H', I3, rv, ev, q3⟩ := z
    subst ev
    exact ⟨rv, ⟨V.ref (s1.heap.objs.size + 1), H', I3, rfl, q3⟩⟩⟩
end
/-! ### a def by its body -/
section
variable {P : Program} {W : World} {K : PySem.W.Frag} {mg : Str → Option Value} {base : Heap} {CX : CXT} {x qual : Str} {params : Arguments} {body : List Stmt} {scope : Scope} {f : Addr} {fd : FuncData} {kws : List (Str × V)} {N ps : List Str} {k : Nat} {sp : Sp}
theorem okG (F : FunD K x qual params body scope [] kws f fd) (S : FnScope N ps scope) (len : ∀ {vs H Q E}, sp vs H Q E → vs.length = ps.length)
    (hbody : ∀ (cdv : Value) (A : Around) (out : List Env) (s : Shared) (H : Hp) (vs : List V) (Q : VK) (E : XK), Room k (A.deeper (envOfC qual scope s.heap.objs.size f cdv)) → A.guards = some [] → sp vs H Q E →
      ∃ t, PSs (cxOf CX P W K mg base N qual scope f cdv A out s H E) body t ∧ t { nx := fun _ H' => Q .non H', rt := Q } (start N vs) H) : FnG P W K mg base CX (k + 1) f fd ps sp := by
  obtain ⟨oc, od, dV, kV, doc, pm, an, cdv, ct, osl, rfl, lk, hcd, _, _⟩ := F.ex
  refine ⟨len, fun {A out s H ar us vs Q E} hr hgd e0 hb r hsp => ?_⟩
  have hl := len hsp
  have kin : K.In s.heap := e0.mod.kin.keeps fun b o e => (e0.bs b o e).1
  have lm : s.heap.NoLimit := e0.mod.nolimit.keeps fun b o e => (e0.bs b o e).1
  have par : ∀ y ∈ ps.zip us, scope.names.lookup y.1 = some .local ∨ (scope.names.lookup y.1 = some .cell ∧ ((cellsFrom (s.heap.objs.size + 1) scope.names []).lookup y.1).isSome = true) := by
    rintro ⟨m, v⟩ hy
    rcases S.par m (List.of_mem_zip hy).1 with q | q
    · exact .inl q
    · exact .inr ⟨q, PySem.W.cellsFrom_some _ _ _ (.inl q)⟩
  refine codeAny_call_function hr.depth (kin _ _ lk) rfl S.co S.gen rfl (PySem.W.codeRec_of kin hcd) (hb _ _ _ _ (wpAny_newFunctionEnv_cells S.kind par fun env he s1 ic => ?_))
  subst he
  refine ⟨lm.keeps ic.toInCall.keep, codeAny_func ?_⟩
  obtain ⟨t, ht, hq⟩ := hbody cdv A out s H vs Q E (hr.deeper _) hgd hsp
  have I := inv_start (CX := CX) (E := E) S hr.hd e0 hl r ic
  have fin : ∀ {σ' : L2.St} {H' : Hp} {v : V} {u : Value} {s' : Shared}, Inv (cxOf CX P W K mg base N qual scope f cdv A out s H E) [] σ' H' s' → RelV v u → Q v H' → CE out P W H s Q u s' := fun J rv q => ⟨_, _, J.os, J.bare, J.base, J.hok, rv, q⟩
  refine wpAny_mono (ht.run [] s1 (start N vs) H _ I hq) (fun fl s' hs => ?_) fun e s' z => z
  match fl, hs with
  | .next, ⟨σ', H', J, q⟩ => exact fin (v := V.non) (u := Value.none) J rfl q
  | .ret u, ⟨v, σ', H', J, rv, q⟩ => exact fin J rv q
  | .brk, ⟨_, _, _, q⟩ => exact q.elim
  | .cont, ⟨_, _, _, q⟩ => exact q.elim
end
end DI

end
section
set_option Elab.async false
set_option linter.all false
set_option maxRecDepth 100000
set_option maxHeartbeats 4000000
/-! DI9: calls of defs. Own text. -/
namespace DI
open PySem PySem.Spec PyProof.Rows L2
/-- the same heap with no slot -/
def C.bare (c : C) : C := ⟨c.dl, c.F, c.H, [], [], c.g⟩
/-- e's heap with c's slots -/
def C.back (c e : C) : C := ⟨e.dl, e.F, e.H, c.σ, c.ρ, e.g⟩
section
variable {w : Wd} {Ex : Nat → D → C → Prop} {c c0 e : C} {v : V} {dv : DV} {a : Addr}
theorem R.bare (r : R w c) : R w c.bare where
  sub := r.sub
  len := rfl
  slot := fun i dv h => by simp [C.bare] at h
  dist := fun i j a ⟨h, _⟩ => by simp [C.bare] at h
  ndeal := fun i a p ⟨h, _⟩ => by simp [C.bare] at h
  deal := r.deal
theorem Touch.ofBare (h : Touch c.bare a) : ∃ p, c.dl = some p ∧ (a = p.1 ∨ a = p.2) := by
  rcases h with ⟨i, h, _⟩ | h
  · simp [C.bare] at h
  · exact h
/-- from where the callee ended: the slots as they were -/
theorem R.back (r : R w c) (x : Step c.bare e) (re : R w e) : R w (c.back e) ∧ SStep c (c.back e) := by
  have nt : ∀ {i : Nat} {a : Addr}, Own c i a → ¬ Touch c.bare a := fun {i a} o t => by
    obtain ⟨p, h1, h2⟩ := t.ofBare
    obtain ⟨n1, n2⟩ := r.ndeal i a p o h1
    rcases h2 with h2 | h2
    · exact n1 h2
    · exact n2 h2
  refine ⟨⟨re.sub, r.len, fun i dv h => ?_, r.dist, fun i a p o hp => ?_, re.deal⟩, ⟨⟨x.mono, fun a o h n => x.keep a o h fun t => n (.inr t.ofBare), x.live, fun a h => ?_, fun a h => ?_, x.dl⟩, rfl, fun i dv h => ⟨dv, h⟩, fun _ _ fs h => ⟨fs, h⟩⟩⟩
  · obtain ⟨v, e1, e2⟩ := r.slot i dv h
    refine ⟨v, e1, ?_⟩
    cases dv with
    | f d => exact RepD.mono x.mono x.dl d v e2
    | p pds => exact PlR.mono x.mono x.dl e2
    | o ds =>
      obtain ⟨a, vs, rfl, h2, h3, h4⟩ := e2
      have n := nt (i := i) (a := a) ⟨e1, _, h, rfl⟩
      exact ⟨a, vs, rfl, x.noF h3 h2 n, x.keep a _ h3 n rfl, RepAll.mono x.mono x.dl ds vs h4⟩
    | n k ds =>
      obtain ⟨a, dx, vs, rfl, h2, h3, h4, h5⟩ := e2
      have n := nt (i := i) (a := a) ⟨e1, _, h, rfl⟩
      exact ⟨a, dx, vs, rfl, x.noF h3 h2 n, x.keep a _ h3 n rfl, h4, RepAll.mono x.mono x.dl ds vs h5⟩
    | b j => exact e2
  · have o' : Own c i a := o
    have key : ¬ Touch e a := fun t => by
      rcases x.tch a t with q | q
      · exact nt o' q
      · obtain ⟨u, h1, _⟩ := r.ownH o'
        have q' : c.H a = none := q
        rw [h1] at q'
        cases q'
    exact ⟨fun z => key (.inr ⟨p, hp, .inl z⟩), fun z => key (.inr ⟨p, hp, .inr z⟩)⟩
  · rcases x.newF a h with q | q | q
    · exact .inl q
    · exact .inr (.inl (.inr q.ofBare))
    · exact .inr (.inr q)
  · rcases h with h | h
    · exact .inl (.inl h)
    · rcases x.tch a (.inr h) with q | q
      · exact .inl (.inr q.ofBare)
      · exact .inr q
theorem Rel.back (r : R w c) (x : SStep c.bare e) (rel : Rel w e v dv) (fr : Frs c.H v dv) : Rel w (c.back e) v dv := by
  cases dv with
  | f d => exact rel
  | p pds => exact rel
  | o ds =>
    obtain ⟨a, vs, rfl, h2, h3, h4, h5⟩ := rel
    obtain ⟨a', q1, q2⟩ := fr
    cases q1
    refine ⟨a, vs, rfl, h2, h3, h4, fun t => ?_⟩
    rcases t with ⟨i, o⟩ | t
    · obtain ⟨u, h1, _⟩ := r.ownH (i := i) (a := a) o
      rw [q2] at h1
      cases h1
    · exact h5 (.inr t)
  | b i =>
    obtain ⟨h, _⟩ := rel
    rw [x.σ] at h
    simp [C.bare] at h
  | n k ds => exact rel
end
/-! ### what a def promises -/
section
variable (w : Wd) (EF : XK → Nat → D → C → Prop)
/-- from the callee's start c (no slots), by the data result r -/
def AftF (c : C) (E : XK) (r : Res DV) (Q : VK) : Prop := match r with
  | .ok dv s => ∀ e : C, e.g = s.g → R w e → SStep c e → Fin w c Q e dv
  | .exc k d s => ∀ e : C, e.g = s.g → R w e → SStep c e → EF E k d e
  | .stuck => False
def spF (φ : List D → G → Res DV) : Sp := fun vs H Q E => ∃ (c : C) (ds : List D), c.σ = [] ∧ c.ρ = [] ∧ c.H = H ∧ R w c ∧ RepAll w c.dl c.F ds vs ∧ AftF w EF c E (φ ds c.g) Q
end
section
variable {w : Wd} {EF : XK → Nat → D → C → Prop} {Ex : Nat → D → C → Prop} {Φ : Fns} {f : Nat} {ds : List D} {c c0 : C} {vs : List V} {Q : VK} {E : XK}
/-- at the caller -/
theorem Aft.call (h : Aft w Ex c0 (callM Φ f ds c.s) (Fin w c0 Q)) (x : SStep c0 c) (r : R w c) (rep : RepAll w c.dl c.F ds vs) (hE : ∀ k d e, Ex k d (c.back e) → EF E k d e) : spF w EF (Φ f) vs c.H Q E := by
  refine ⟨c.bare, ds, rfl, rfl, rfl, r.bare, rep, ?_⟩
  show AftF w EF c.bare E (Φ f ds c.g) Q
  unfold callM at h
  rw [show c.s.g = c.g from rfl] at h
  cases e : Φ f ds c.g with
  | ok dv s =>
    rw [e] at h
    intro e' hg re xe v rel fr
    obtain ⟨r1, x1⟩ := r.back xe.toStep re
    refine h (c.back e') ?_ r1 (x.trans x1) v (Rel.back r xe rel fr) (fr.weak x.live)
    rw [← hg]
    rfl
  | exc k d s =>
    rw [e] at h
    intro e' hg re xe
    obtain ⟨r1, x1⟩ := r.back xe.toStep re
    refine hE k d e' (h (c.back e') ?_ r1 (x.trans x1))
    rw [← hg]
    rfl
  | stuck => rw [e] at h; exact h.elim
end
/-! ### names of defs -/
/-- the name n stands for a def that keeps φ, with p parameters -/
structure DefN (w : Wd) (EF : XK → Nat → D → C → Prop) (CX : CXT) (X : Cx) (n : Str) (ps : List Str) (φ : List D → G → Res DV) (k : Nat) (f : Addr) (fd : FuncData) : Prop where
  ok : FnG X.prog X.w X.K X.mg X.base CX k f fd ps (spF w EF φ)
  room : Room k X.A
  gd : X.A.guards = some []
  gl : Gl X n
  mg : X.mg n = some (.ref f)
  keep : PySem.W.keepIn X.K (.ref f) = true
  bind : Binds X.K fd ps []
  nd : (n == ("__debug__" : Str)) = false
section
variable {w : Wd} {EF : XK → Nat → D → C → Prop} {Ex : Nat → D → C → Prop} {Φ : Fns} {CX : CXT} {X : Cx} {x : Expr} {es : List E} {l : List Expr} {n : Str} {p pos : Pos} {ps : List Str} {i k : Nat} {f : Addr} {fd : FuncData} {E : XK}
theorem j_call (N : DefN w EF CX X n ps (Φ i) k f fd) (hx : Passes CX X E) (hE : ∀ k d c e, Ex k d (C.back c e) → EF E k d e) (hs : PA X (x :: l) (tEs w Ex Φ es)) (hst : starEach (x :: l) X.env = (false, eval x X.env) :: starEach l X.env) (hpl : (backTo pos (starEach l X.env)).any (·.1) = false) :
    PE X (.Call (.Name n p) (x :: l) [] pos) (tE w Ex Φ (.call i es)) :=
  (pe_callG N.ok N.room N.gd N.gl N.mg N.keep N.bind hx hs N.nd hst hpl).imp fun σ H Q h => by
    obtain ⟨c, rfl, rfl, hr, h⟩ := tE_in h
    refine tEs_seq h (SStep.refl c) hr fun c2 vs dvs r2 x2 x02 hσ rels rels0 h3 => ?_
    obtain ⟨ds, c3, hH, r3, x3, rep, h4⟩ := h3.frzs r2 x02 rels0
    rw [← hH, List.append_nil]
    exact h4.call x3 r3 rep fun k d e => hE k d c3 e
theorem j_call0 (N : DefN w EF CX X n ps (Φ i) k f fd) (hx : Passes CX X E) (hE : ∀ k d c e, Ex k d (C.back c e) → EF E k d e) : PE X (.Call (.Name n p) [] [] pos) (tE w Ex Φ (.call i [])) :=
  (pe_call0G N.ok N.room N.gd N.gl N.mg N.keep N.bind hx N.nd).imp fun σ H Q h => by
    obtain ⟨c, rfl, rfl, hr, h⟩ := tE_in h
    exact Aft.call h (SStep.refl c) hr rfl fun k d e => hE k d c e
end
end DI

end
section
set_option Elab.async false
set_option linter.all false
set_option maxRecDepth 100000
set_option maxHeartbeats 4000000
/-! DI10: keywords, new instances. Own text. -/
namespace DI
open PySem PySem.Spec PyProof.Rows L2
section
variable {w : Wd} {EF : XK → Nat → D → C → Prop} {Ex : Nat → D → C → Prop} {Φ : Fns} {CX : CXT} {X : Cx} {x : Expr} {a : E} {es : List E} {l : List Expr} {kws : List Keyword} {n : Str} {p pos kpos : Pos} {ps ks : List Str} {i k m : Nat} {f : Addr} {fd : FuncData} {E : XK} {nm : Option Str} {t tk : TA} {sp : Sp}
theorem _root_.L2.PK.imp {t t' : TA} (h : PK X kws t) (f : ∀ σ H Q, t' σ H Q → t σ H Q) : PK X kws t' := ⟨fun pos pins s σ H Q I q => h.run pos pins s σ H Q I (f σ H Q q)⟩
theorem tEs_cons {σ : L2.St} {H : Hp} {Q : List V → Hp → Prop} (h : tEs w Ex Φ (a :: es) σ H Q) : tCons (tE w Ex Φ a) (tEs w Ex Φ es) σ H Q := by
  obtain ⟨c, rfl, rfl, r, h⟩ := h
  refine tE_seq h (SStep.refl c) r fun c2 u du r2 x2 x02 hσ rel fr fr0 h2 => ?_
  rw [← hσ]
  refine tEs_seq h2 x02 r2 fun c3 vs dvs r3 x3 x03 hσ3 rels rels0 h3 => ?_
  refine h3 c3 rfl r3 x03 (u :: vs) ⟨rel.step x3, fr0, fun i v e hv he ho1 ho2 => ?_, rels0⟩
  obtain ⟨v', e1, rl, f⟩ := rels.at_ he
  rw [hv] at e1
  cases e1
  cases du with
  | o ds =>
    obtain ⟨a1, vs1, rfl, q2, q3, _⟩ := rel
    cases e with
    | o es =>
      obtain ⟨a2, rfl, q4⟩ := f
      intro z
      cases z
      rw [q3] at q4
      cases q4
    | _ => cases ho2
  | _ => cases ho1
theorem k_nil : PK X [] (tEs w Ex Φ []) := pk_nil.imp fun σ H Q h => by
  obtain ⟨c, rfl, rfl, r, h⟩ := h
  exact h c rfl r (SStep.refl c) [] trivial
theorem k_cons (ha : PE X x (tE w Ex Φ a)) (hs : PK X kws (tEs w Ex Φ es)) : PK X (⟨nm, x, kpos⟩ :: kws) (tEs w Ex Φ (a :: es)) := (pk_cons ha hs).imp fun σ H Q h => tEs_cons h
/-- values by their places -/
def permL {α : Type} (js : List Nat) (l : List α) : List α := js.filterMap (l[·]?)
theorem permL_vals {vs : List V} {us : List Value} (r : Vals vs us) : ∀ js : List Nat, Vals (permL js vs) (permL js us)
  | [] => .nil
  | j :: js => by
    have ih := permL_vals r js
    unfold permL at ih ⊢
    cases e : vs[j]? with
    | some v =>
      obtain ⟨u, e2, rv⟩ := r.get e
      rw [List.filterMap_cons_some e, List.filterMap_cons_some e2]
      exact .cons rv ih
    | none =>
      have e2 : us[j]? = none := by
        rw [List.getElem?_eq_none_iff] at e ⊢
        rw [← r.length]
        exact e
      rw [List.filterMap_cons_none e, List.filterMap_cons_none e2]
      exact ih
theorem permD_rep {dl : Dl} {F : Hp} {ds : List D} {vs : List V} (r : RepAll w dl F ds vs) : ∀ {js : List Nat} {ds' : List D}, permD js ds = some ds' → RepAll w dl F ds' (permL js vs)
  | [], ds', h => by
    have e : ds' = [] := by
      have h' : some ([] : List D) = some ds' := h
      exact (Option.some.inj h').symm
    subst e
    rfl
  | j :: js, ds', h => by
    have h' : ((ds[j]?).bind fun d => (permD js ds).bind fun r => some (d :: r)) = some ds' := by
      rw [← h]
      show _ = List.mapM _ (j :: js)
      rw [List.mapM_cons]
      rfl
    obtain ⟨d, e1, h2⟩ := Option.bind_eq_some_iff.mp h'
    obtain ⟨r2, e2, h3⟩ := Option.bind_eq_some_iff.mp h2
    cases h3
    obtain ⟨v, e3, rv⟩ := r.get e1
    unfold permL
    rw [List.filterMap_cons_some e3]
    exact ⟨v, _, rfl, rv, permD_rep r e2⟩
/-- the keywords ks of a def with no defaults: the parameters' places in them -/
theorem kbn_of {x qual : Str} {params : Arguments} {body : List Stmt} {scope : Scope} {kws : List (Str × V)} {j : Nat} {js : List Nat} (F : FunD X.K x qual params body scope [] kws f fd)
    (h : ∀ (kV doc pm : Value) (an : Option Addr) (cdv ct : Value) (us ws : List Value), us.length = j → ws.length = ks.length → bindArgs (PySem.W.fnOf x qual params body scope .none kV doc pm an cdv ct) ⟨us, ks.zip ws⟩ = pure (ps.zip (permL js (us ++ ws)))) :
    KBn X.K fd ps j ks (fun us ws => permL js (us ++ ws)) (fun vs zs => permL js (vs ++ zs)) := by
  obtain ⟨oc, od, dV, kV, doc, pm, an, cdv, ct, osl, rfl, lk, hcd, hD, hK⟩ := F.ex
  rcases hD with ⟨_, rfl⟩ | ⟨e, _⟩
  · exact ⟨fun s us ws _ l1 l2 => .of_eq (h kV doc pm an cdv ct us ws l1 l2), fun r1 r2 => permL_vals (r1.append r2) js⟩
  · exact absurd rfl e
theorem Rels.length {H : Hp} {c : C} : ∀ {vs : List V} {ds : List DV}, Rels w H c vs ds → vs.length = ds.length
  | [], [], _ => rfl
  | _ :: _, _ :: _, ⟨_, _, _, h⟩ => congrArg (· + 1) (Rels.length h)
  | [], _ :: _, h => h.elim
  | _ :: _, [], h => h.elim
theorem evs_length : ∀ {es : List DI.E} {s : S} {vs : List DV} {s' : S}, evs w Φ es s = .ok vs s' → vs.length = es.length
  | [], s, vs, s', h => by cases h; rfl
  | e :: es, s, vs, s', h => by
    obtain ⟨v, s1, _, h2⟩ := bnd_ok (show bnd (ev w Φ e) (fun v => bnd (evs w Φ es) fun vs => ret (v :: vs)) s = .ok vs s' from h)
    obtain ⟨vs', s2, h3, h4⟩ := bnd_ok h2
    cases h4
    rw [List.length_cons, List.length_cons, evs_length h3]
def chk (n : Nat) (vs : List DV) : M Unit := fun s => if vs.length = n then .ok () s else .stuck
theorem chk_bnd {β : Type} {es : List DI.E} {f : List DV → M β} : bnd (evs w Φ es) f = bnd (evs w Φ es) fun vs => bnd (chk es.length vs) fun _ => f vs := by
  funext s
  simp only [bnd]
  cases q : evs w Φ es s with
  | ok vs s' => simp only [chk, evs_length q, if_true]
  | exc k d s' => rfl
  | stuck => rfl
theorem chk_in {β : Type} {c0 c : C} {n : Nat} {vs : List DV} {f : M β} {Q : C → β → Prop} (h : Aft w Ex c0 (bnd (chk n vs) (fun _ => f) c.s) Q) : vs.length = n ∧ Aft w Ex c0 (f c.s) Q := by
  simp only [bnd, chk] at h
  by_cases hv : vs.length = n
  · rw [if_pos hv] at h
    exact ⟨hv, h⟩
  · rw [if_neg hv] at h
    exact h.elim
theorem j_callk {js : List Nat} (N : DefN w EF CX X n ps (Φ i) k f fd) (hb : KBn X.K fd ps 0 ks (fun us ws => permL js (us ++ ws)) (fun vs zs => permL js (vs ++ zs))) (hx : Passes CX X E) (hE : ∀ k d c e, Ex k d (C.back c e) → EF E k d e) (hkw : PK X kws (tEs w Ex Φ es)) (hl : es.length = ks.length)
    (hall : (backToKw pos (keywordEach kws X.env)).all (·.1.isSome) = true) (hks : (backToKw pos (keywordEach kws X.env)).filterMap (·.1) = ks)
    (hpl : ((backTo pos (starEach [] X.env)).any (·.1) || (backToKw pos (keywordEach kws X.env)).any (·.1.isNone)) = false) :
    PE X (.Call (.Name n p) [] kws pos) (tE w Ex Φ (.callk i js es)) :=
  (pe_callKw0 N.ok N.room N.gd N.gl N.mg N.keep hb hx hkw hall hks N.nd hpl).imp fun σ H Q h => by
    obtain ⟨c, rfl, rfl, hr, h⟩ := tE_in h
    rw [show ev w Φ (.callk i js es) = _ from chk_bnd (f := fun vs => bnd (frzs vs) fun ds => bnd (opt (permD js ds)) fun ds' => callM Φ i ds')] at h
    show tEs w Ex Φ es c.σ c.H (fun zs H2 => ([] : List V).length = 0 ∧ zs.length = ks.length ∧ spF w EF (Φ i) (permL js ([] ++ zs)) H2 Q E)
    refine tEs_seq h (SStep.refl c) hr fun c2 vs dvs r2 x2 x02 hσ rels rels0 h3 => ?_
    obtain ⟨hv, h3⟩ := chk_in h3
    obtain ⟨ds, c3, hH, r3, x3, rep, h4⟩ := Aft.frzs (f := fun ds => bnd (opt (permD js ds)) fun ds' => callM Φ i ds') h3 r2 x02 rels0
    obtain ⟨ds', e1, h5⟩ := h4.opt
    rw [← hH]
    exact ⟨rfl, by rw [rels.length, hv, hl], h5.call x3 r3 (permD_rep rep e1) fun k d e => hE k d c3 e⟩
end
/-! ### a new instance -/
section
variable (w : Wd) (EF : XK → Nat → D → C → Prop)
def AftI (k0 : Nat) (c : C) (E : XK) (r : Res DV) (Q : VK) : Prop := match r with
  | .ok dv s => ∀ (e : C) (fs : List D), e.g = s.g → R w e → SStep c e → dv = .f (.ins k0 fs) → e.ρ = [some (.n k0 fs)] → fs.length = (w.T.fl k0).length → Q .non e.H
  | .exc k d s => ∀ e : C, e.g = s.g → R w e → Step c e → e.σ = [] → EF E k d e
  | .stuck => False
def spI (k0 : Nat) (φ : List D → G → Res DV) : Sp := fun vs H Q E => ∃ (c : C) (ds : List D) (x : Addr) (us : List V), vs = .ref x :: us ∧ c.σ = [some (.ref x)] ∧ c.ρ = [some (.n k0 [])] ∧ c.H = H ∧ R w c ∧ RepAll w c.dl c.F ds us ∧ AftI w EF k0 c E (φ ds c.g) Q
end
section
variable {w : Wd} {EF : XK → Nat → D → C → Prop} {Ex : Nat → D → C → Prop} {Φ : Fns} {f k0 : Nat} {ds : List D} {c c0 : C} {vs : List V} {Q : VK} {E : XK}
/-- the new object and its dict lie in the heap -/
def C.mk1 (c : C) (x dx C0 : Addr) (k0 : Nat) : C := ⟨c.dl, c.F, upd (upd c.H dx (.own x)) x (.ins C0 dx []), [some (.ref x)], [some (.n k0 [])], c.g⟩
theorem R.mk1 (r : R w c) {x dx : Addr} (hx : c.H x = none) (hd : c.H dx = none) (hn : dx ≠ x) : R w (c.mk1 x dx (w.ca k0) k0) := by
  obtain ⟨r1, x1⟩ := r.bare.lay (p := dx) hd (.own x)
  have hx1 : upd c.H dx (.own x) x = none := by rw [upd_ne (fun z => hn z.symm)]; exact hx
  obtain ⟨r2, x2⟩ := r1.lay (p := x) hx1 (.ins (w.ca k0) dx [])
  have own : ∀ {i : Nat} {a : Addr}, Own (c.mk1 x dx (w.ca k0) k0) i a → i = 0 ∧ a = x := fun {i a} ⟨h1, _⟩ => by
    cases i with
    | zero =>
      have h1' : some (some (V.ref x)) = some (some (V.ref a)) := h1
      cases h1'
      exact ⟨rfl, rfl⟩
    | succ i => simp [C.mk1] at h1
  refine ⟨r2.sub, rfl, fun i dv h => ?_, fun i j a h1 h2 => by rw [(own h1).1, (own h2).1], fun i a p h hp => ?_, r2.deal⟩
  · cases i with
    | zero =>
      have h' : some (some (DV.n k0 [])) = some (some dv) := h
      cases h'
      exact ⟨.ref x, rfl, x, dx, [], rfl, r.noF hx, by rw [show (c.mk1 x dx (w.ca k0) k0).H x = _ from upd_same, List.zip_nil_right], Nat.zero_le _, rfl⟩
    | succ i => simp [C.mk1] at h
  · rw [(own h).2]
    have nt : ¬ Touch c.bare x := R.noT r.bare hx
    exact ⟨fun z => nt (.inr ⟨p, hp, .inl z⟩), fun z => nt (.inr ⟨p, hp, .inr z⟩)⟩
/-- from the end of __init__: the instance is let be -/
theorem back_mk {x dx : Addr} {e : C} {fs : List D} (r : R w c) (hx : c.H x = none) (hd : c.H dx = none) (hn : dx ≠ x) (re : R w e) (xe : SStep (c.mk1 x dx (w.ca k0) k0) e) (hρ : e.ρ = [some (.n k0 fs)]) (hl : fs.length = (w.T.fl k0).length) :
    ∃ c' : C, c'.H = e.H ∧ c'.σ = c.σ ∧ c'.ρ = c.ρ ∧ c'.g = e.g ∧ R w c' ∧ SStep c c' ∧ RepD w c'.dl c'.F (.ins k0 fs) (.ref x) := by
  have hσ : e.σ = [some (.ref x)] := xe.σ
  obtain ⟨v, e1, e2⟩ := re.slot 0 (.n k0 fs) (by rw [hρ]; rfl)
  rw [hσ] at e1
  cases e1
  obtain ⟨a, dx', vs, q1, q2, q3, q4, q5⟩ := e2
  cases q1
  have own0 : Own e 0 x := ⟨by rw [hσ]; rfl, _, by rw [hρ]; rfl, rfl⟩
  have le : Le c.H (c.mk1 x dx (w.ca k0) k0).H := fun a o h => by
    have h1 : a ≠ x := fun z => by rw [z, hx] at h; cases h
    have h2 : a ≠ dx := fun z => by rw [z, hd] at h; cases h
    show upd (upd c.H dx (.own x)) x (.ins (w.ca k0) dx []) a = _
    rw [upd_ne h1, upd_ne h2]
    exact h
  have live : ∀ a, (c.mk1 x dx (w.ca k0) k0).H a = none → c.H a = none := fun a h => by
    cases q : c.H a with
    | none => rfl
    | some o => rw [le a o q] at h; cases h
  have tm : ∀ {a : Addr}, Touch (c.mk1 x dx (w.ca k0) k0) a → a = x ∨ Touch c.bare a := fun {a} h => by
    rcases h with ⟨i, h1, _⟩ | h
    · cases i with
      | zero =>
        have h1' : some (some (V.ref x)) = some (some (V.ref a)) := h1
        cases h1'
        exact .inl rfl
      | succ i => simp [C.mk1] at h1
    · exact .inr (.inr h)
  have leF : Le e.F (upd e.F x (.ins (w.ca k0) dx' ((w.names k0).zip vs))) := le_upd q2
  have re' : R w ⟨e.dl, upd e.F x (.ins (w.ca k0) dx' ((w.names k0).zip vs)), e.H, [], [], e.g⟩ := by
    refine ⟨fun a o h => ?_, rfl, fun i dv h => by simp at h, fun i j a ⟨h, _⟩ => by simp at h, fun i a p ⟨h, _⟩ => by simp at h, ?_⟩
    · by_cases z : a = x
      · subst z
        have h' : upd e.F a _ a = some o := h
        rw [upd_same] at h'
        cases h'
        exact q3
      · have h' : upd e.F x _ a = some o := h
        rw [upd_ne z] at h'
        exact re.sub a o h'
    · refine ⟨DealAt.imp re.deal.1 fun p hp => ?_, re.deal.2.imp (KeepT.refl _) (noTb_upd rfl) noTb_refl⟩
      obtain ⟨n1, n2⟩ := re.ndeal 0 x p own0 hp
      exact ⟨fun h => (upd_ne (fun z => n1 z.symm)).trans h, fun h => (upd_ne (fun z => n2 z.symm)).trans h, fun o h => h, fun o h => h⟩
  have st : Step c.bare ⟨e.dl, upd e.F x (.ins (w.ca k0) dx' ((w.names k0).zip vs)), e.H, [], [], e.g⟩ := by
    refine ⟨fun a o h => leF a o (xe.mono a o h), fun a o h n => ?_, fun a h => live a (xe.live a h), fun a h => ?_, fun a h => ?_, xe.dl⟩
    · refine xe.keep a o (le a o h) fun t => ?_
      rcases tm t with z | z
      · subst z
        have h' : c.H a = some o := h
        rw [hx] at h'
        cases h'
      · exact n z
    · by_cases z : a = x
      · subst z
        exact .inr (.inr hx)
      · have h' : upd e.F x _ a ≠ none := h
        rw [upd_ne z] at h'
        rcases xe.newF a h' with q | q | q
        · exact .inl q
        · rcases tm q with q | q
          · exact absurd q z
          · exact .inr (.inl q)
        · exact .inr (.inr (live a q))
    · have h' : Touch e a := by
        rcases h with ⟨i, h, _⟩ | h
        · simp at h
        · exact .inr h
      rcases xe.tch a h' with q | q
      · rcases tm q with q | q
        · subst q
          exact .inr hx
        · exact .inl q
      · exact .inr (live a q)
  obtain ⟨r3, x3⟩ := r.back st re'
  exact ⟨c.back ⟨e.dl, upd e.F x (.ins (w.ca k0) dx' ((w.names k0).zip vs)), e.H, [], [], e.g⟩, rfl, rfl, rfl, rfl, r3, x3, x, dx', vs, rfl, upd_same, by rw [q5.length, hl, List.length_map], RepAll.mono leF (DlLe.refl _) fs vs q5⟩
theorem Aft.make (h : Aft w Ex c0 (callM Φ f ds c.s) (Fin w c0 Q)) (x0 : SStep c0 c) (r : R w c) (rep : RepAll w c.dl c.F ds vs) (hE : ∀ k d e, Ex k d (c.back e) → EF E k d e) {x dx : Addr} (hx : c.H x = none) (hd : c.H dx = none) (hn : dx ≠ x) :
    spI w EF k0 (Φ f) (.ref x :: vs) (upd (upd c.H dx (.own x)) x (.ins (w.ca k0) dx [])) (fun v H2 => v = .non ∧ Q (.ref x) H2) E := by
  refine ⟨c.mk1 x dx (w.ca k0) k0, ds, x, vs, rfl, rfl, rfl, rfl, r.mk1 hx hd hn, rep, ?_⟩
  show AftI w EF k0 _ E (Φ f ds c.g) _
  unfold callM at h
  rw [show c.s.g = c.g from rfl] at h
  cases e : Φ f ds c.g with
  | ok dv s =>
    rw [e] at h
    intro e' fs hg re xe hdv hρ hl
    obtain ⟨c', e1, e2, e3, e4, r1, x1, rp⟩ := back_mk r hx hd hn re xe hρ hl
    subst hdv
    refine ⟨rfl, ?_⟩
    rw [← e1]
    refine h c' ?_ r1 (x0.trans x1) (.ref x) rp trivial
    show S.mk c'.ρ c'.g = _
    rw [e3, e4, hg]
    rfl
  | exc k d s =>
    rw [e] at h
    intro e' hg re xe hs
    have hl : e'.ρ = [] := List.eq_nil_of_length_eq_zero (by rw [← re.len, hs]; rfl)
    have le : Le c.H (c.mk1 x dx (w.ca k0) k0).H := fun a o h => by
      have h1 : a ≠ x := fun z => by rw [z, hx] at h; cases h
      have h2 : a ≠ dx := fun z => by rw [z, hd] at h; cases h
      show upd (upd c.H dx (.own x)) x (.ins (w.ca k0) dx []) a = _
      rw [upd_ne h1, upd_ne h2]
      exact h
    have live : ∀ a, (c.mk1 x dx (w.ca k0) k0).H a = none → c.H a = none := fun a h => by
      cases q : c.H a with
      | none => rfl
      | some o => rw [le a o q] at h; cases h
    have tm : ∀ {a : Addr}, Touch (c.mk1 x dx (w.ca k0) k0) a → a = x ∨ Touch c.bare a := fun {a} h => by
      rcases h with ⟨i, h1, _⟩ | h
      · cases i with
        | zero =>
          have h1' : some (some (V.ref x)) = some (some (V.ref a)) := h1
          cases h1'
          exact .inl rfl
        | succ i => simp [C.mk1] at h1
      · exact .inr (.inr h)
    have st : Step c.bare e' := by
      refine ⟨xe.mono, fun a o h n => ?_, fun a h => live a (xe.live a h), fun a h => ?_, fun a h => ?_, xe.dl⟩
      · refine xe.keep a o (le a o h) fun t => ?_
        rcases tm t with z | z
        · subst z
          have h' : c.H a = some o := h
          rw [hx] at h'
          cases h'
        · exact n z
      · rcases xe.newF a h with q | q | q
        · exact .inl q
        · rcases tm q with q | q
          · subst q
            exact .inr (.inr hx)
          · exact .inr (.inl q)
        · exact .inr (.inr (live a q))
      · rcases xe.tch a h with q | q
        · rcases tm q with q | q
          · subst q
            exact .inr hx
          · exact .inl q
        · exact .inr (live a q)
    obtain ⟨r1, x1⟩ := r.back st re
    refine hE k d e' (h (c.back e') ?_ r1 (x0.trans x1))
    show S.mk c.ρ e'.g = _
    rw [hg]
    rfl
  | stuck => rw [e] at h; exact h.elim
end
/-- the name n stands for a class whose __init__ keeps φ -/
structure MakN (w : Wd) (EF : XK → Nat → D → C → Prop) (CX : CXT) (X : Cx) (n : Str) (ps : List Str) (k0 : Nat) (φ : List D → G → Res DV) (k : Nat) (f : Addr) (fd : FuncData) : Prop where
  ok : FnG X.prog X.w X.K X.mg X.base CX k f fd ps (spI w EF k0 φ)
  room : Room (k + 1) X.A
  gd : X.A.guards = some []
  gl : Gl X n
  cl : Mk X.K (w.ca k0) f
  mg : X.mg n = some (.ref (w.ca k0))
  bind : Binds X.K fd ps []
  nd : (n == ("__debug__" : Str)) = false
section
variable {w : Wd} {EF : XK → Nat → D → C → Prop} {Ex : Nat → D → C → Prop} {Φ : Fns} {CX : CXT} {X : Cx} {x : Expr} {es : List E} {l : List Expr} {n : Str} {p pos : Pos} {ps : List Str} {i k k0 : Nat} {f : Addr} {fd : FuncData} {E : XK}
theorem j_make (N : MakN w EF CX X n ps k0 (Φ i) k f fd) (hx : Passes CX X E) (hE : ∀ k d c e, Ex k d (C.back c e) → EF E k d e) (hs : PA X (x :: l) (tEs w Ex Φ es)) (hst : starEach (x :: l) X.env = (false, eval x X.env) :: starEach l X.env) (hpl : (backTo pos (starEach l X.env)).any (·.1) = false) :
    PE X (.Call (.Name n p) (x :: l) [] pos) (tE w Ex Φ (.make i es)) :=
  (pe_makeG N.cl N.ok N.room N.gd N.gl N.mg N.bind hx hs N.nd hst hpl).imp fun σ H Q h => by
    obtain ⟨c, rfl, rfl, hr, h⟩ := tE_in h
    refine tEs_seq h (SStep.refl c) hr fun c2 vs dvs r2 x2 x02 hσ rels rels0 h3 => ?_
    obtain ⟨ds, c3, hH, r3, x3, rep, h4⟩ := h3.frzs r2 x02 rels0
    rw [← hH, List.append_nil]
    exact fun x dx q1 q2 q3 => h4.make x3 r3 rep (fun k d e => hE k d c3 e) q1 q2 q3
end
end DI

end
section
set_option Elab.async false
set_option linter.all false
set_option maxRecDepth 100000
set_option maxHeartbeats 4000000
/-! DI11: statements. Own text. -/
namespace DI
open PySem PySem.Spec PyProof.Rows L2
/-- slots may change, but none is forgotten -/
structure LStep (c c' : C) : Prop extends Step c c' where
  pres : ∀ (i : Nat) (dv : DV), c.ρ[i]? = some (some dv) → ∃ dv', c'.ρ[i]? = some (some dv')
  ini : ∀ (i k : Nat) (fs : List D), c'.ρ[i]? = some (some (.n k fs)) → (∃ fs0, c.ρ[i]? = some (some (.n k fs0))) ∧ c'.σ[i]? = c.σ[i]?
theorem SStep.l {c c' : C} (x : SStep c c') : LStep c c' := ⟨x.toStep, x.pres, fun i k fs h => ⟨x.ini i k fs h, by rw [x.σ]⟩⟩
theorem LStep.refl (c : C) : LStep c c := ⟨Step.refl c, fun _ dv h => ⟨dv, h⟩, fun _ _ fs h => ⟨⟨fs, h⟩, rfl⟩⟩
theorem LStep.trans {a b c : C} (x : LStep a b) (y : LStep b c) : LStep a c := ⟨x.toStep.trans y.toStep, fun i dv h => by
  obtain ⟨dv', h'⟩ := x.pres i dv h
  exact y.pres i dv' h', fun i k fs h => by
  obtain ⟨⟨f1, h1⟩, e1⟩ := y.ini i k fs h
  obtain ⟨h2, e2⟩ := x.ini i k f1 h1
  exact ⟨h2, e1.trans e2⟩⟩
section
variable (w : Wd) (Ex : Nat → D → C → Prop)
/-- what a result is to reach; slots may have changed -/
def AftP {α : Type} (c : C) (r : Res α) (Q : C → α → Prop) : Prop := match r with
  | .ok a s => ∀ c', c'.s = s → R w c' → LStep c c' → Q c' a
  | .exc k d s => ∀ c', c'.s = s → R w c' → LStep c c' → Ex k d c'
  | .stuck => False
/-- a list handed back: new since c, or a slot's own at c -/
def FrsT (c : C) (v : V) : DV → Prop
  | .o _ => ∃ a, v = .ref a ∧ (c.H a = none ∨ ∃ i, Own c i a)
  | _ => True
def FlQ (c0 : C) (D : Ends) : C → Fl → Prop := fun c fl => match fl with
  | .nx => D.nx c.σ c.H
  | .bk => D.bk c.σ c.H
  | .ct => D.ct c.σ c.H
  | .rt dv => ∀ v, Rel w c.bare v dv → FrsT c0 v dv → D.rt v c.H
variable (Φ : Fns)
def tS (st : Sm) : TS := fun D σ H => ∃ c, c.σ = σ ∧ c.H = H ∧ R w c ∧ AftP w Ex c (evS w.T Φ st c.s) (FlQ w c D)
def tSs (st : List Sm) : TS := fun D σ H => ∃ c, c.σ = σ ∧ c.H = H ∧ R w c ∧ AftP w Ex c (evSs w.T Φ st c.s) (FlQ w c D)
end
section
variable {w : Wd} {Ex : Nat → D → C → Prop} {Φ : Fns} {α β : Type} {c c0 c1 : C} {r : Res α} {Q Q' : C → α → Prop} {X : Cx} {e : E} {es : List E} {v : V} {dv : DV} {D D' : Ends}
theorem AftP.imp (h : AftP w Ex c r Q) (f : ∀ c' a, R w c' → LStep c c' → Q c' a → Q' c' a) : AftP w Ex c r Q' := by
  cases r with
  | ok a s => exact fun c' e r x => f c' a r x (h c' e r x)
  | exc k d s => exact h
  | stuck => exact h
theorem AftP.base (h : AftP w Ex c0 r Q) (x : LStep c0 c1) : AftP w Ex c1 r Q := by
  cases r with
  | ok a s => exact fun c' e r x' => h c' e r (x.trans x')
  | exc k d s => exact fun c' e r x' => h c' e r (x.trans x')
  | stuck => exact h
theorem AftP.bnd {m : M α} {f : α → M β} {Q : C → β → Prop} (h : AftP w Ex c0 (DI.bnd m f c1.s) Q) (x : LStep c0 c1) : AftP w Ex c1 (m c1.s) fun c2 a => LStep c1 c2 ∧ R w c2 ∧ AftP w Ex c0 (f a c2.s) Q := by
  unfold DI.bnd at h
  cases e : m c1.s with
  | ok a s =>
    rw [e] at h
    intro c2 hs r2 x2
    exact ⟨x2, r2, by rw [hs]; exact h⟩
  | exc k d s =>
    rw [e] at h
    intro c2 hs r2 x2
    exact h c2 hs r2 (x.trans x2)
  | stuck => rw [e] at h; exact h
/-- an expression's part of a statement -/
theorem AftP.expr {m : M α} {f : α → M β} {Q : C → β → Prop} (h : AftP w Ex c0 (DI.bnd m f c1.s) Q) (x : LStep c0 c1) : Aft w Ex c1 (m c1.s) fun c2 a => SStep c1 c2 ∧ R w c2 ∧ AftP w Ex c0 (f a c2.s) Q := by
  unfold DI.bnd at h
  cases e : m c1.s with
  | ok a s =>
    rw [e] at h
    intro c2 hs r2 x2
    exact ⟨x2, r2, by rw [hs]; exact h⟩
  | exc k d s =>
    rw [e] at h
    intro c2 hs r2 x2
    exact h c2 hs r2 (x.trans x2.l)
  | stuck => rw [e] at h; exact h
theorem AftP.ret {a : α} (h : AftP w Ex c0 (DI.ret a c.s) Q) (x : LStep c0 c) (r : R w c) : Q c a := h c rfl r x
theorem AftP.opt {o : Option α} {f : α → M β} {Q : C → β → Prop} (h : AftP w Ex c0 (DI.bnd (opt o) f c.s) Q) : ∃ a, o = some a ∧ AftP w Ex c0 (f a c.s) Q := by
  cases o with
  | none => exact h.elim
  | some a => exact ⟨a, rfl, h⟩
theorem AftP.bool {f : Bool → M β} {Q : C → β → Prop} (h : AftP w Ex c0 (DI.bnd (bool? dv) f c.s) Q) : ∃ i, dv = .f (.bl i) ∧ AftP w Ex c0 (f i c.s) Q := by
  cases dv with
  | f d =>
    cases d with
    | bl i => exact ⟨i, rfl, h⟩
    | _ => exact h.elim
  | _ => exact h.elim
theorem AftP.int {d : DI.D} {f : Int → M β} {Q : C → β → Prop} (h : AftP w Ex c0 (DI.bnd (int? d) f c.s) Q) : ∃ i, d = .int i ∧ AftP w Ex c0 (f i c.s) Q := by
  cases d with
  | int i => exact ⟨i, rfl, h⟩
  | _ => exact h.elim
theorem AftP.look {f : DI.D → M β} {Q : C → β → Prop} (h : AftP w Ex c0 (DI.bnd (DI.look dv) f c.s) Q) (r : R w c) (rel : Rel w c v dv) : ∃ d, Lk w c v d ∧ AftP w Ex c0 (f d c.s) Q := by
  obtain ⟨d, h1, h2⟩ := look_ok r rel rfl (f := f) rfl (fun z => by rw [z] at h; exact h)
  rw [h2] at h
  exact ⟨d, h1, h⟩
/-- c1: where the value's expression began -/
theorem AftP.frz {f : DI.D → M β} {Q : C → β → Prop} (h : AftP w Ex c0 (DI.bnd (DI.frz dv) f c.s) Q) (r : R w c) (x : SStep c1 c) (rel : Rel w c v dv) (fr : Frs c1.H v dv) :
    ∃ d c', c'.H = c.H ∧ R w c' ∧ SStep c1 c' ∧ RepD w c'.dl c'.F d v ∧ Le c.F c'.F ∧ c'.dl = c.dl ∧ Others w c c' v dv ∧ AftP w Ex c0 (f d c'.s) Q := by
  unfold DI.bnd at h
  cases e : DI.frz dv c.s with
  | ok d s' =>
    rw [e] at h
    obtain ⟨c', rfl, hH, r', x', rep, le, hdl, oth⟩ := frz_ok r rel x fr e
    exact ⟨d, c', hH, r', x', rep, le, hdl, oth, h⟩
  | exc k d s => exact (frz_noExc e).elim
  | stuck => rw [e] at h; exact h.elim
theorem tE_seqP {f : DV → M β} {Q : C → β → Prop} {P : VK} (h : AftP w Ex c0 (DI.bnd (ev w Φ e) f c1.s) Q) (x : LStep c0 c1) (r : R w c1)
    (k : ∀ c2 v dv, R w c2 → SStep c1 c2 → LStep c0 c2 → c2.σ = c1.σ → Rel w c2 v dv → Frs c1.H v dv → AftP w Ex c0 (f dv c2.s) Q → P v c2.H) : tE w Ex Φ e c1.σ c1.H P :=
  ⟨c1, rfl, rfl, r, (h.expr x).imp fun c2 dv r2 x2 ⟨_, _, q⟩ v rel fr => k c2 v dv r2 x2 (x.trans x2.l) x2.σ rel fr q⟩
theorem tEs_seqP {f : List DV → M β} {Q : C → β → Prop} {P : List V → Hp → Prop} (h : AftP w Ex c0 (DI.bnd (evs w Φ es) f c1.s) Q) (x : LStep c0 c1) (r : R w c1)
    (k : ∀ c2 vs dvs, R w c2 → SStep c1 c2 → LStep c0 c2 → c2.σ = c1.σ → Rels w c1.H c2 vs dvs → AftP w Ex c0 (f dvs c2.s) Q → P vs c2.H) : tEs w Ex Φ es c1.σ c1.H P :=
  ⟨c1, rfl, rfl, r, (h.expr x).imp fun c2 dv r2 x2 ⟨_, _, q⟩ v rel => k c2 v dv r2 x2 (x.trans x2.l) x2.σ rel q⟩
theorem tT_seqP {f : Bool → M β} {Q : C → β → Prop} {P : Bool → Hp → Prop} (h : AftP w Ex c0 (DI.bnd (ev w Φ e) (fun p => DI.bnd (bool? p) f) c1.s) Q) (x : LStep c0 c1) (r : R w c1)
    (k : ∀ c2 i, R w c2 → SStep c1 c2 → LStep c0 c2 → c2.σ = c1.σ → AftP w Ex c0 (f i c2.s) Q → P i c2.H) : tT w Ex Φ e c1.σ c1.H P := by
  rw [← bnd_assoc] at h
  exact ⟨c1, rfl, rfl, r, (h.expr x).imp fun c2 i r2 x2 ⟨_, _, q⟩ => k c2 i r2 x2 (x.trans x2.l) x2.σ q⟩
theorem FrsT.base (h : FrsT c1 v dv) (r : R w c1) (x : LStep c0 c1) : FrsT c0 v dv := by
  cases dv with
  | o ds =>
    obtain ⟨a, e, h⟩ := h
    refine ⟨a, e, ?_⟩
    rcases h with h | ⟨i, h⟩
    · exact .inl (x.live a h)
    · rcases x.tch a (.inl ⟨i, h⟩) with (q | ⟨p, q1, q2⟩) | q
      · exact .inr q
      · obtain ⟨n1, n2⟩ := r.ndeal i a p h (x.dl p q1)
        rcases q2 with q2 | q2
        · exact absurd q2 n1
        · exact absurd q2 n2
      · exact .inl q
  | _ => trivial
theorem FlQ.base {fl : Fl} (h : FlQ w c0 D c fl) (r : R w c1) (x : LStep c0 c1) : FlQ w c1 D c fl := by
  cases fl with
  | rt dv => exact fun v rel fr => h v rel (fr.base r x)
  | _ => exact h
theorem tSs_go {ss : List Sm} (h : AftP w Ex c0 (evSs w.T Φ ss c1.s) (FlQ w c0 D)) (x : LStep c0 c1) (r : R w c1) : tSs w Ex Φ ss D c1.σ c1.H :=
  ⟨c1, rfl, rfl, r, (h.base x).imp fun _ _ _ _ q => q.base r x⟩
theorem _root_.L2.PS.imp {st : Stmt} {t t' : TS} (h : PS X st t) (f : ∀ D σ H, t' D σ H → t D σ H) : PS X st t' := ⟨fun pins s σ H D I q => h.run pins s σ H D I (f D σ H q)⟩
theorem _root_.L2.PSs.imp {st : List Stmt} {t t' : TS} (h : PSs X st t) (f : ∀ D σ H, t' D σ H → t D σ H) : PSs X st t' := ⟨fun pins s σ H D I q => h.run pins s σ H D I (f D σ H q)⟩
theorem ss_nil : PSs X [] (tSs w Ex Φ []) := pss_nil.imp fun D σ H h => by
  obtain ⟨c, rfl, rfl, r, h⟩ := h
  exact AftP.ret (a := Fl.nx) h (LStep.refl c) r
theorem ss_cons {st : Stmt} {rest : List Stmt} {s : Sm} {ss : List Sm} (h1 : PS X st (tS w Ex Φ s)) (h2 : PSs X rest (tSs w Ex Φ ss)) : PSs X (st :: rest) (tSs w Ex Φ (s :: ss)) := (pss_cons h1 h2).imp fun D σ H h => by
  obtain ⟨c, rfl, rfl, r, h⟩ := h
  refine ⟨c, rfl, rfl, r, (AftP.bnd (m := evS w.T Φ s) (f := fun fl => match fl with | .nx => evSs w.T Φ ss | fl => ret fl) h (LStep.refl c)).imp fun c2 fl r2 x2 ⟨_, _, q⟩ => ?_⟩
  cases fl with
  | nx => exact tSs_go q x2 r2
  | bk => exact AftP.ret (Ex := Ex) (a := Fl.bk) q x2 r2
  | ct => exact AftP.ret (Ex := Ex) (a := Fl.ct) q x2 r2
  | rt dv => exact AftP.ret (Ex := Ex) (a := Fl.rt dv) q x2 r2
section
variable {pos pos' : Pos} {x y : Expr} {a b : E} {st : Stmt} {n : Str} {i : Nat}
theorem s_pass : PS X (.Pass pos) (tS w Ex Φ .pass) := ps_pass.imp fun D σ H h => by
  obtain ⟨c, rfl, rfl, r, h⟩ := h
  exact AftP.ret (a := Fl.nx) h (LStep.refl c) r
theorem s_brk : PS X (.Break pos) (tS w Ex Φ .brk) := ps_break.imp fun D σ H h => by
  obtain ⟨c, rfl, rfl, r, h⟩ := h
  exact AftP.ret (a := Fl.bk) h (LStep.refl c) r
theorem s_cont : PS X (.Continue pos) (tS w Ex Φ .cont) := ps_continue.imp fun D σ H h => by
  obtain ⟨c, rfl, rfl, r, h⟩ := h
  exact AftP.ret (a := Fl.ct) h (LStep.refl c) r
/-- nothing comes here -/
theorem s_never : PS X st (tS w Ex Φ (.expr .nop)) := ps_never.imp fun D σ H h => by
  obtain ⟨c, rfl, rfl, r, h⟩ := h
  exact h.elim
/-- what a raise may tell: no call, no new list -/
def pureE : E → Bool
  | .var _ => true
  | .int _ => true
  | .non => true
  | .bin _ a b => pureE a && pureE b
  | .ix a b => pureE a && pureE b
  | .blt .len [a] => pureE a
  | .fld a _ => pureE a
  | _ => false
theorem pure_bnd {m : M α} {f : α → M β} {s : S} (h : (∃ a, m s = .ok a s) ∨ m s = .stuck) (h2 : ∀ a, (∃ b, f a s = .ok b s) ∨ f a s = .stuck) : (∃ b, DI.bnd m f s = .ok b s) ∨ DI.bnd m f s = .stuck := by
  unfold DI.bnd
  rcases h with ⟨a, e⟩ | e
  · rw [e]
    exact h2 a
  · rw [e]
    exact .inr rfl
theorem pure_opt {o : Option α} {s : S} : (∃ a, opt o s = .ok a s) ∨ opt o s = .stuck := by
  cases o with
  | none => exact .inr rfl
  | some a => exact .inl ⟨a, rfl⟩
theorem pure_look {dv : DV} {s : S} : (∃ a, look dv s = .ok a s) ∨ look dv s = .stuck := by
  cases dv with
  | f d => exact .inl ⟨d, rfl⟩
  | p pds => exact .inl ⟨_, rfl⟩
  | o d => exact .inl ⟨_, rfl⟩
  | n c d => exact .inr rfl
  | b i =>
    unfold look
    dsimp only
    split
    · exact .inl ⟨_, rfl⟩
    · exact .inl ⟨_, rfl⟩
    · exact .inr rfl
theorem pure_ev {T : Tab} {Φ : Fns} : ∀ (e : E), pureE e = true → ∀ s, (∃ v, evE T Φ e s = .ok v s) ∨ evE T Φ e s = .stuck
  | .var i, _, s => by
    unfold evE
    split
    · exact .inl ⟨_, rfl⟩
    · exact .inl ⟨_, rfl⟩
    · exact .inl ⟨_, rfl⟩
    · exact .inr rfl
  | .int i, _, s => .inl ⟨_, rfl⟩
  | .non, _, s => .inl ⟨_, rfl⟩
  | .bin o a b, h, s => by
    have h' : (pureE a && pureE b) = true := h
    rw [Bool.and_eq_true] at h'
    exact pure_bnd (pure_ev a h'.1 s) fun x => pure_bnd (pure_ev b h'.2 s) fun y => pure_bnd pure_look fun _ => pure_bnd pure_look fun _ => pure_opt
  | .ix a b, h, s => by
    have h' : (pureE a && pureE b) = true := h
    rw [Bool.and_eq_true] at h'
    exact pure_bnd (pure_ev a h'.1 s) fun x => pure_bnd (pure_ev b h'.2 s) fun y => pure_bnd pure_look fun _ => pure_bnd pure_look fun _ => pure_bnd pure_opt fun _ => .inl ⟨_, rfl⟩
  | .fld a k, h, s => pure_bnd (pure_ev a h s) fun x => pure_bnd pure_look fun d => by
    cases d <;> first | exact .inr rfl | exact pure_bnd pure_opt fun _ => .inl ⟨_, rfl⟩
  | .blt .len [a], h, s => pure_bnd (pure_bnd (pure_ev a h s) fun x => pure_bnd (.inl ⟨_, rfl⟩) fun _ => .inl ⟨_, rfl⟩) fun vs => pure_bnd (by
      cases vs with
      | nil => exact .inl ⟨_, rfl⟩
      | cons v vs =>
        have key : ∀ vs : List DV, (∃ a, looks vs s = .ok a s) ∨ looks vs s = .stuck := fun vs => by
          induction vs with
          | nil => exact .inl ⟨_, rfl⟩
          | cons v vs ih => exact pure_bnd pure_look fun _ => pure_bnd ih fun _ => .inl ⟨_, rfl⟩
        exact key _) fun _ => pure_opt
/-- a raise that is not come to -/
theorem s_neverR {w : Wd} {Φ : Fns} {X : Cx} {st : Stmt} {k : Nat} {e : E} (hp : pureE e = true := by rfl) : PS X st (tS w (fun _ _ _ => False) Φ (.raise k e)) := ps_never.imp fun D σ H h => by
  obtain ⟨c, rfl, rfl, r, h⟩ := h
  have h' : AftP w (fun _ _ _ => False) c (DI.bnd (evE w.T Φ e) (fun v => raiseM k v) c.s) (FlQ w c D) := h
  unfold DI.bnd at h'
  rcases pure_ev (T := w.T) (Φ := Φ) e hp c.s with ⟨v, ev⟩ | ev
  · rw [ev] at h'
    cases v with
    | f d => exact h' c rfl r (LStep.refl c)
    | p pds => exact h'.elim
    | o d => exact h'.elim
    | b i => exact h'.elim
    | n c d => exact h'.elim
  · rw [ev] at h'
    exact h'.elim
theorem s_expr (ha : PE X x (tE w Ex Φ a)) (hs : swapsWith x none pos.line X.env = pure false) : PS X (.Expr x pos) (tS w Ex Φ (.expr a)) := (ps_expr ha hs).imp fun D σ H h => by
  obtain ⟨c, rfl, rfl, r, h⟩ := h
  exact tE_seqP h (LStep.refl c) r fun c2 v dv r2 _ x2 hσ _ _ q => by
    rw [← hσ]
    exact AftP.ret (a := Fl.nx) q x2 r2
theorem s_retN : PS X (.Return none pos) (tS w Ex Φ .retN) := ps_retN.imp fun D σ H h => by
  obtain ⟨c, rfl, rfl, r, h⟩ := h
  exact AftP.ret (a := Fl.rt (.f .non)) h (LStep.refl c) r .non rfl trivial
/-- a value that a def hands back -/
theorem moveOut_ok {f : DV → M β} {Q : C → β → Prop} (h : AftP w Ex c0 (DI.bnd (moveOut dv) f c.s) Q) (r : R w c) (x : LStep c0 c) (rel : Rel w c v dv) (fr : Frs c0.H v dv) :
    ∃ dv', Rel w c.bare v dv' ∧ FrsT c0 v dv' ∧ AftP w Ex c0 (f dv' c.s) Q := by
  cases dv with
  | f d => exact ⟨.f d, rel, trivial, h⟩
  | p pds => exact ⟨.p pds, rel, trivial, h⟩
  | o ds =>
    obtain ⟨a, vs, e, h2, h3, h4, h5⟩ := rel
    refine ⟨.o ds, ⟨a, vs, e, h2, h3, h4, fun t => h5 (.inr t.ofBare)⟩, ?_, h⟩
    obtain ⟨a', e', n⟩ := fr
    exact ⟨a', e', .inl n⟩
  | n k ds => exact rel.elim
  | b i =>
    obtain ⟨h1, dv, h2⟩ := rel
    obtain ⟨v', h3, h4⟩ := r.slot i dv h2
    have e : v' = v := by
      rw [h1] at h3
      exact ((Option.some.inj (Option.some.inj h3))).symm
    subst e
    unfold DI.bnd moveOut at h
    simp only [C.s, h2] at h
    cases dv with
    | f d => exact ⟨.f d, h4, trivial, h⟩
    | p pds => exact h.elim
    | o ds =>
      obtain ⟨a, vs, e, q2, q3, q4⟩ := h4
      subst e
      have own : Own c i a := ⟨h1, _, h2, rfl⟩
      refine ⟨.o ds, ⟨a, vs, rfl, q2, q3, q4, fun t => ?_⟩, ?_, h⟩
      · obtain ⟨p, e1, e2⟩ := t.ofBare
        obtain ⟨n1, n2⟩ := r.ndeal i a p own e1
        rcases e2 with e2 | e2
        · exact n1 e2
        · exact n2 e2
      · exact FrsT.base (c1 := c) (dv := .o ds) ⟨a, rfl, .inr ⟨i, own⟩⟩ r x
    | n k ds => exact h.elim
    | b j => exact h4.elim
theorem s_ret (ha : PE X x (tE w Ex Φ a)) : PS X (.Return (some x) pos) (tS w Ex Φ (.ret a)) := (ps_ret ha).imp fun D σ H h => by
  obtain ⟨c, rfl, rfl, r, h⟩ := h
  exact tE_seqP h (LStep.refl c) r fun c2 v dv r2 _ x2 hσ rel fr q => by
    obtain ⟨dv', h1, h2, q2⟩ := moveOut_ok q r2 x2 rel fr
    exact AftP.ret (a := Fl.rt dv') q2 x2 r2 v h1 h2
theorem s_if {sa sb : List Sm} {la lb : List Stmt} (hc : PT X x (tT w Ex Φ a)) (ha : PSs X la (tSs w Ex Φ sa)) (hb : PSs X lb (tSs w Ex Φ sb)) : PS X (.If x la lb pos) (tS w Ex Φ (.ifs a sa sb)) := (ps_if hc ha hb).imp fun D σ H h => by
  obtain ⟨c, rfl, rfl, r, h⟩ := h
  refine tT_seqP (f := fun k => if k then evSs w.T Φ sa else evSs w.T Φ sb) h (LStep.refl c) r fun c2 i r2 _ x2 hσ q => ?_
  rw [← hσ]
  cases i with
  | true =>
    rw [if_pos rfl] at q ⊢
    exact tSs_go q x2 r2
  | false =>
    rw [if_neg Bool.false_ne_true] at q ⊢
    exact tSs_go q x2 r2
/-! ### slots -/
theorem R.put {dv : DV} {i : Nat} (r : R w c) (hi : i < c.ρ.length) (sl : Slot w c v dv) (ho : ∀ a, v = .ref a → isOwn dv = true → ¬ Touch c a) :
    R w { c with σ := c.σ.set i (some v), ρ := c.ρ.set i (some dv) } := by
  have hi' : i < c.σ.length := by rw [r.len]; exact hi
  have own : ∀ {j : Nat} {a : Addr}, Own { c with σ := c.σ.set i (some v), ρ := c.ρ.set i (some dv) } j a → (j = i ∧ v = .ref a ∧ isOwn dv = true) ∨ (j ≠ i ∧ Own c j a) := fun {j a} ⟨h1, d, h2, h3⟩ => by
    by_cases z : i = j
    · subst z
      have h1' : (c.σ.set i (some v))[i]? = some (some (.ref a)) := h1
      have h2' : (c.ρ.set i (some dv))[i]? = some (some d) := h2
      rw [List.getElem?_set_self hi'] at h1'
      rw [List.getElem?_set_self hi] at h2'
      cases h1'
      cases h2'
      exact .inl ⟨rfl, rfl, h3⟩
    · have h1' : (c.σ.set i (some v))[j]? = some (some (.ref a)) := h1
      have h2' : (c.ρ.set i (some dv))[j]? = some (some d) := h2
      rw [List.getElem?_set_ne z] at h1' h2'
      exact .inr ⟨fun e => z e.symm, h1', d, h2', h3⟩
  refine ⟨r.sub, by rw [List.length_set, List.length_set]; exact r.len, fun j d h => ?_, fun j k a h1 h2 => ?_, fun j a p h hp => ?_, r.deal⟩
  · by_cases z : i = j
    · subst z
      have h' : (c.ρ.set i (some dv))[i]? = some (some d) := h
      rw [List.getElem?_set_self hi] at h'
      cases h'
      exact ⟨v, List.getElem?_set_self hi', sl⟩
    · have h' : (c.ρ.set i (some dv))[j]? = some (some d) := h
      rw [List.getElem?_set_ne z] at h'
      obtain ⟨u, e1, e2⟩ := r.slot j d h'
      exact ⟨u, (List.getElem?_set_ne z).trans e1, e2⟩
  · rcases own h1 with ⟨e1, q1, q2⟩ | ⟨_, o1⟩
    · rcases own h2 with ⟨e2, _⟩ | ⟨_, o2⟩
      · rw [e1, e2]
      · exact absurd (.inl ⟨k, o2⟩) (ho a q1 q2)
    · rcases own h2 with ⟨e2, q1, q2⟩ | ⟨_, o2⟩
      · exact absurd (.inl ⟨j, o1⟩) (ho a q1 q2)
      · exact r.dist j k a o1 o2
  · rcases own h with ⟨_, q1, q2⟩ | ⟨_, o⟩
    · have nt := ho a q1 q2
      exact ⟨fun z => nt (.inr ⟨p, hp, .inl z⟩), fun z => nt (.inr ⟨p, hp, .inr z⟩)⟩
    · exact r.ndeal j a p o hp
theorem LStep.put {dv : DV} {i : Nat} (x : LStep c0 c) (r : R w c) (hi : i < c.ρ.length) (ho : ∀ a, v = .ref a → isOwn dv = true → c0.H a = none) (hn : ∀ k fs, dv ≠ .n k fs) : LStep c0 { c with σ := c.σ.set i (some v), ρ := c.ρ.set i (some dv) } := by
  have hi' : i < c.σ.length := by rw [r.len]; exact hi
  refine ⟨⟨x.mono, x.keep, x.live, x.newF, fun a t => ?_, x.dl⟩, fun j d h => ?_, fun j k fs h => ?_⟩
  rotate_left
  · obtain ⟨d', h'⟩ := x.pres j d h
    by_cases z : i = j
    · subst z
      exact ⟨dv, List.getElem?_set_self hi⟩
    · exact ⟨d', (List.getElem?_set_ne z).trans h'⟩
  · by_cases z : i = j
    · subst z
      have h' : (c.ρ.set i (some dv))[i]? = some (some (.n k fs)) := h
      rw [List.getElem?_set_self hi] at h'
      cases h'
      exact absurd rfl (hn k fs)
    · have h' : (c.ρ.set i (some dv))[j]? = some (some (.n k fs)) := h
      rw [List.getElem?_set_ne z] at h'
      obtain ⟨q1, q2⟩ := x.ini j k fs h'
      exact ⟨q1, (List.getElem?_set_ne z).trans q2⟩
  rcases t with ⟨j, h1, d, h2, h3⟩ | t
  · by_cases z : i = j
    · subst z
      have h1' : (c.σ.set i (some v))[i]? = some (some (.ref a)) := h1
      have h2' : (c.ρ.set i (some dv))[i]? = some (some d) := h2
      rw [List.getElem?_set_self hi'] at h1'
      rw [List.getElem?_set_self hi] at h2'
      cases h1'
      cases h2'
      exact .inr (ho a rfl h3)
    · have h1' : (c.σ.set i (some v))[j]? = some (some (.ref a)) := h1
      have h2' : (c.ρ.set i (some dv))[j]? = some (some d) := h2
      rw [List.getElem?_set_ne z] at h1' h2'
      exact x.tch a (.inl ⟨j, h1', d, h2', h3⟩)
  · exact x.tch a (.inr t)
theorem setR_out {f : Unit → M β} {Q : C → β → Prop} {dv : DV} {i : Nat} (h : AftP w Ex c0 (DI.bnd (setR i dv) f c.s) Q) : i < c.ρ.length ∧ AftP w Ex c0 (f () { c with ρ := c.ρ.set i (some dv) }.s) Q := by
  unfold DI.bnd at h
  by_cases z : i < c.ρ.length
  · rw [setR_ok z] at h
    exact ⟨z, h⟩
  · rw [show setR i dv c.s = .stuck from if_neg z] at h
    exact h.elim
/-- a value kept in slot i -/
theorem keep_ok {f : Unit → M β} {Q : C → β → Prop} {i : Nat} (h : AftP w Ex c0 (DI.bnd (keep i dv) f c.s) Q) (r : R w c) (x : LStep c0 c) (rel : Rel w c v dv) (fr : Frs c0.H v dv) :
    ∃ c' : C, c'.σ = c.σ.set i (some v) ∧ c'.H = c.H ∧ R w c' ∧ LStep c0 c' ∧ (∀ u e, (∀ j, e ≠ .b j) → (isO dv = true → isO e = true → u ≠ v) → Rel w c u e → Rel w c' u e) ∧ AftP w Ex c0 (f () c'.s) Q := by
  cases dv with
  | f d =>
    obtain ⟨hi, h2⟩ := setR_out h
    refine ⟨{ c with σ := c.σ.set i (some v), ρ := c.ρ.set i (some (.f d)) }, rfl, rfl, r.put hi (v := v) (dv := .f d) rel (fun a _ z => by cases z), x.put r hi (fun a _ z => by cases z) (fun _ _ z => by cases z), fun u e nb _ re => ?_, h2⟩
    cases e with
    | f d' => exact re
    | p pds => exact re
    | o ds =>
      obtain ⟨a, vs, q1, q2, q3, q4, q5⟩ := re
      refine ⟨a, vs, q1, q2, q3, q4, fun t => q5 ?_⟩
      rcases t with ⟨j, h1, d2, h2, h3⟩ | t
      · by_cases z : i = j
        · subst z
          have h2' : (c.ρ.set i (some (.f d)))[i]? = some (some d2) := h2
          rw [List.getElem?_set_self hi] at h2'
          cases h2'
          cases h3
        · have h1' : (c.σ.set i (some v))[j]? = some (some (.ref a)) := h1
          have h2' : (c.ρ.set i (some (.f d)))[j]? = some (some d2) := h2
          rw [List.getElem?_set_ne z] at h1' h2'
          exact .inl ⟨j, h1', d2, h2', h3⟩
      · exact .inr t
    | b j => exact absurd rfl (nb j)
    | n k ds => exact re
  | p dd =>
    obtain ⟨hi, h2⟩ := setR_out h
    refine ⟨{ c with σ := c.σ.set i (some v), ρ := c.ρ.set i (some (.p dd)) }, rfl, rfl, r.put hi (v := v) (dv := .p dd) rel (fun a _ z => by cases z), x.put r hi (fun a _ z => by cases z) (fun _ _ z => by cases z), fun u e nb _ re => ?_, h2⟩
    cases e with
    | f d' => exact re
    | p pds => exact re
    | o ds =>
      obtain ⟨a, vs, q1, q2, q3, q4, q5⟩ := re
      refine ⟨a, vs, q1, q2, q3, q4, fun t => q5 ?_⟩
      rcases t with ⟨j, h1, d2, h2, h3⟩ | t
      · by_cases z : i = j
        · subst z
          have h2' : (c.ρ.set i (some (.p dd)))[i]? = some (some d2) := h2
          rw [List.getElem?_set_self hi] at h2'
          cases h2'
          cases h3
        · have h1' : (c.σ.set i (some v))[j]? = some (some (.ref a)) := h1
          have h2' : (c.ρ.set i (some (.p dd)))[j]? = some (some d2) := h2
          rw [List.getElem?_set_ne z] at h1' h2'
          exact .inl ⟨j, h1', d2, h2', h3⟩
      · exact .inr t
    | b j => exact absurd rfl (nb j)
    | n k ds => exact re
  | o ds =>
    obtain ⟨a, vs, e, q2, q3, q4, q5⟩ := rel
    subst e
    obtain ⟨a', e', hn⟩ := fr
    cases e'
    obtain ⟨hi, h2⟩ := setR_out h
    refine ⟨{ c with σ := c.σ.set i (some (.ref a)), ρ := c.ρ.set i (some (.o ds)) }, rfl, rfl, r.put hi (v := .ref a) (dv := .o ds) ⟨a, vs, rfl, q2, q3, q4⟩ (fun b z _ => by cases z; exact q5), x.put r hi (fun b z _ => by cases z; exact hn) (fun _ _ z => by cases z), fun u e nb ne re => ?_, h2⟩
    cases e with
    | f d' => exact re
    | p pds => exact re
    | o ds' =>
      obtain ⟨b, vs', e1, p2, p3, p4, p5⟩ := re
      subst e1
      refine ⟨b, vs', rfl, p2, p3, p4, fun t => ?_⟩
      rcases t with ⟨j, h1, d2, h2, h3⟩ | t
      · by_cases z : i = j
        · subst z
          have hi' : i < c.σ.length := by rw [r.len]; exact hi
          have h1' : (c.σ.set i (some (V.ref a)))[i]? = some (some (.ref b)) := h1
          rw [List.getElem?_set_self hi'] at h1'
          cases h1'
          exact ne rfl rfl rfl
        · have h1' : (c.σ.set i (some (V.ref a)))[j]? = some (some (.ref b)) := h1
          have h2' : (c.ρ.set i (some (.o ds)))[j]? = some (some d2) := h2
          rw [List.getElem?_set_ne z] at h1' h2'
          exact p5 (.inl ⟨j, h1', d2, h2', h3⟩)
      · exact p5 (.inr t)
    | b j => exact absurd rfl (nb j)
    | n k ds => exact re
  | n k ds => exact rel.elim
  | b j =>
    have h' : AftP w Ex c0 (DI.bnd (DI.frz (.b j)) (fun d => DI.bnd (setR i (.f d)) f) c.s) Q := by
      rw [← bnd_assoc]
      exact h
    obtain ⟨d, c', hH, r', x', rep, le, hdl, oth, h2⟩ := AftP.frz (c1 := c) h' r (SStep.refl c) rel trivial
    obtain ⟨hi, h3⟩ := setR_out h2
    have hσ : c'.σ = c.σ := x'.σ
    refine ⟨{ c' with σ := c'.σ.set i (some v), ρ := c'.ρ.set i (some (.f d)) }, by rw [hσ], hH, r'.put hi (v := v) (dv := .f d) rep (fun a _ z => by cases z), (x.trans x'.l).put r' hi (fun a _ z => by cases z) (fun _ _ z => by cases z), fun u e nb ne re => ?_, h3⟩
    have re' := oth u e re (fun z => by cases z)
    cases e with
    | f d' => exact re'
    | p pds => exact re'
    | o ds =>
      obtain ⟨a, vs, q1, q2, q3, q4, q5⟩ := re'
      refine ⟨a, vs, q1, q2, q3, q4, fun t => q5 ?_⟩
      rcases t with ⟨j2, h1, d2, h2, h3⟩ | t
      · by_cases z : i = j2
        · subst z
          have h2' : (c'.ρ.set i (some (.f d)))[i]? = some (some d2) := h2
          rw [List.getElem?_set_self hi] at h2'
          cases h2'
          cases h3
        · have h1' : (c'.σ.set i (some v))[j2]? = some (some (.ref a)) := h1
          have h2' : (c'.ρ.set i (some (.f d)))[j2]? = some (some d2) := h2
          rw [List.getElem?_set_ne z] at h1' h2'
          exact .inl ⟨j2, h1', d2, h2', h3⟩
      · exact .inr t
    | b j => exact absurd rfl (nb j)
    | n k ds => exact re'
theorem s_set (hN : X.N.Nodup) (hi : X.N[i]? = some n) (hx : Loc X.env.scope n) (ha : PE X x (tE w Ex Φ a)) (hs : swapsWith x (some (.Name n pos')) pos.line X.env = pure false) (hf : X.fn n = true ∨ X.env.scope.names.lookup n = some .local) :
    PS X (.Assign [.Name n pos'] x pos) (tS w Ex Φ (.set i a)) := (ps_set hN hi hx ha hs hf).imp fun D σ H h => by
  obtain ⟨c, rfl, rfl, r, h⟩ := h
  refine tE_seqP h (LStep.refl c) r fun c2 v dv r2 _ x2 hσ rel fr q => ?_
  obtain ⟨c', e1, e2, r3, x3, _, q2⟩ := keep_ok (f := fun _ => ret Fl.nx) q r2 x2 rel fr
  show D.nx (c.σ.set i (some v)) c2.H
  rw [← hσ, ← e1, ← e2]
  exact AftP.ret (a := Fl.nx) q2 x3 r3
end
end
end DI

end
section
set_option Elab.async false
set_option linter.all false
set_option maxRecDepth 100000
set_option maxHeartbeats 4000000
/-! DI12: targets, loops. Own text. -/
namespace DI
open PySem PySem.Spec PyProof.Rows L2
section
variable (w : Wd) (Ex : Nat → D → C → Prop)
def gT (t : Tg) : TG := fun v σ H Q => ∃ (c : C) (d : D), c.σ = σ ∧ c.H = H ∧ R w c ∧ RepD w c.dl c.F d v ∧ AftP w Ex c (asgT t d c.s) fun c' _ => Q c'.σ c'.H
/-- only slots in own change -/
def gO (own : List Nat) (t : Tg) : TG := fun v σ H Q => ∃ (c : C) (d : D), c.σ = σ ∧ c.H = H ∧ R w c ∧ RepD w c.dl c.F d v ∧ AftP w Ex c (asgT t d c.s) fun c' _ => wipe c'.σ own = wipe c.σ own → Q c'.σ c'.H
def gOs (own : List Nat) (ts : List Tg) : TGs := fun vs σ H Q => ∃ (c : C) (ds : List D), c.σ = σ ∧ c.H = H ∧ R w c ∧ RepAll w c.dl c.F ds vs ∧ AftP w Ex c (asgTs ts ds c.s) fun c' _ => wipe c'.σ own = wipe c.σ own → Q c'.σ c'.H
end
section
variable {w : Wd} {Ex : Nat → D → C → Prop} {Φ : Fns} {X : Cx} {x y : Expr} {pos pos' : Pos} {a b : E} {n : Str} {i : Nat} {t : Tg} {ts : List Tg} {l : List Expr} {own : List Nat}
theorem _root_.L2.PG.imp {t t' : TG} (h : PG X x t) (f : ∀ v σ H Q, t' v σ H Q → t v σ H Q) : PG X x t' := ⟨fun pins s σ H v u Q I r q => h.run pins s σ H v u Q I r (f v σ H Q q)⟩
theorem _root_.L2.PGs.imp {t t' : TGs} (h : PGs X l t) (f : ∀ v σ H Q, t' v σ H Q → t v σ H Q) : PGs X l t' := ⟨fun pins s σ H v u Q I r q => h.run pins s σ H v u Q I r (f v σ H Q q)⟩
theorem g_all (h : PG X x (gO w Ex own t)) : PG X x (gT w Ex t) := h.imp fun v σ H Q ⟨c, d, h1, h2, h3, h4, h5⟩ => ⟨c, d, h1, h2, h3, h4, h5.imp fun _ _ _ _ q _ => q⟩
theorem set1 {c : C} {v : V} {d : D} {Q : C → Unit → Prop} (h : AftP w Ex c (setR i (.f d) c.s) Q) (r : R w c) (rep : RepD w c.dl c.F d v) : Q { c with σ := c.σ.set i (some v), ρ := c.ρ.set i (some (.f d)) } () := by
  by_cases z : i < c.ρ.length
  · rw [setR_ok z] at h
    exact h _ rfl (r.put z (v := v) (dv := .f d) rep (fun a _ z => by cases z)) ((LStep.refl c).put r z (fun a _ z => by cases z) (fun _ _ z => by cases z))
  · rw [show setR i (.f d) c.s = .stuck from if_neg z] at h
    exact h.elim
theorem wipe_set {σ : L2.St} {v : Option V} : ∀ {own : List Nat}, i ∈ own → wipe (σ.set i v) own = wipe σ own
  | [], h => by simp at h
  | j :: own, h => by
    unfold wipe
    by_cases z : i ∈ own
    · rw [wipe_set z]
    · have e : i = j := by
        rcases List.mem_cons.mp h with e | e
        · exact e
        · exact absurd e z
      subst e
      rw [wipe_out z, List.set_set]
where
  wipe_out : ∀ {own : List Nat}, i ∉ own → wipe (σ.set i v) own = (wipe σ own).set i v
  | [], _ => rfl
  | j :: own, h => by
    have h1 : i ≠ j := fun e => h (by rw [e]; exact List.mem_cons_self)
    have h2 : i ∉ own := fun e => h (List.mem_cons_of_mem _ e)
    unfold wipe
    rw [wipe_out h2, List.set_comm _ _ h1]
theorem g_nm (hN : X.N.Nodup) (hi : X.N[i]? = some n) (hx : Loc X.env.scope n) (hf : X.fn n = true ∨ X.env.scope.names.lookup n = some .local) (ho : i ∈ own) : PG X (.Name n pos) (gO w Ex own (.nm i)) := (pg_name hN hi hx hf).imp fun v σ H Q h => by
  obtain ⟨c, d, rfl, rfl, r, rep, h⟩ := h
  exact set1 h r rep (wipe_set ho)
theorem gs_nil : PGs X [] (gOs w Ex own []) := pgs_nil.imp fun vs σ H Q h => by
  obtain ⟨c, ds, rfl, rfl, r, rep, h⟩ := h
  cases ds with
  | nil => exact ⟨rep, AftP.ret (a := ()) h (LStep.refl c) r rfl⟩
  | cons d ds => exact h.elim
theorem gs_cons (h1 : PG X x (gO w Ex own t)) (h2 : PGs X l (gOs w Ex own ts)) (hs : (assignEach (x :: l) X.env).map (·.2) = assign x X.env :: (assignEach l X.env).map (·.2)) : PGs X (x :: l) (gOs w Ex own (t :: ts)) := (pgs_cons h1 h2 hs).imp fun vs σ H Q h => by
  obtain ⟨c, ds, rfl, rfl, r, rep, h⟩ := h
  cases ds with
  | nil => exact h.elim
  | cons d ds =>
    obtain ⟨v, us, rfl, r1, r2⟩ := rep
    refine ⟨v, us, rfl, c, d, rfl, rfl, r, r1, (AftP.bnd (m := asgT t d) (f := fun _ => asgTs ts ds) h (LStep.refl c)).imp fun c2 _ r3 x3 ⟨_, _, q⟩ hw => ?_⟩
    exact ⟨c2, ds, rfl, rfl, r3, RepAll.step x3.toStep r2, (q.base x3).imp fun c3 _ _ _ q3 hw3 => q3 (hw3.trans hw)⟩
theorem asgTs_len : ∀ {ts : List Tg} {ds : List D} {s : S}, asgTs ts ds s ≠ .stuck → ds.length = ts.length
  | [], [], _, _ => rfl
  | [], _ :: _, s, h => absurd rfl h
  | _ :: _, [], s, h => absurd rfl h
  | t :: ts, d :: ds, s, h => by
    have h' : bnd (asgT t d) (fun _ => asgTs ts ds) s ≠ .stuck := h
    unfold bnd at h'
    cases e : asgT t d s with
    | ok u s' =>
      rw [e] at h'
      rw [List.length_cons, List.length_cons, asgTs_len (s := s') h']
    | exc k d s' => exact absurd e (asgT_noExc _ _ _ _ _ _)
    | stuck => rw [e] at h'; exact absurd rfl h'
where
  asgT_noExc : ∀ (t : Tg) (d : D) (s : S) k e s', asgT t d s ≠ .exc k e s'
    | .nm i, d, s, k, e, s' => by
      show setR i (.f d) s ≠ _
      unfold setR
      split <;> (intro z; cases z)
    | .tp ts, .tup ds, s, k, e, s' => asgTs_noExc ts ds s k e s'
    | .tp ts, .non, s, k, e, s' => fun z => by cases z
    | .tp ts, .bl _, s, k, e, s' => fun z => by cases z
    | .tp ts, .int _, s, k, e, s' => fun z => by cases z
    | .tp ts, .str _, s, k, e, s' => fun z => by cases z
    | .tp ts, .lst ds, s, k, e, s' => asgTs_noExc ts ds s k e s'
    | .tp ts, .ins _ _, s, k, e, s' => fun z => by cases z
    | .tp ts, .deal, s, k, e, s' => fun z => by cases z
    | .tp ts, .scr _, s, k, e, s' => fun z => by cases z
    | .tp ts, .exn _ _, s, k, e, s' => fun z => by cases z
  asgTs_noExc : ∀ (ts : List Tg) (ds : List D) (s : S) k e s', asgTs ts ds s ≠ .exc k e s'
    | [], [], s, k, e, s' => fun z => by cases z
    | [], _ :: _, s, k, e, s' => fun z => by cases z
    | _ :: _, [], s, k, e, s' => fun z => by cases z
    | t :: ts, d :: ds, s, k, e, s' => fun z => by
      rcases bnd_exc (show bnd (asgT t d) (fun _ => asgTs ts ds) s = _ from z) with h | ⟨_, s1, _, h⟩
      · exact asgT_noExc t d _ _ _ _ h
      · exact asgTs_noExc ts ds _ _ _ _ h
theorem AftP.ne {α : Type} {c : C} {r : Res α} {Q : C → α → Prop} (h : AftP w Ex c r Q) : r ≠ .stuck := fun z => by rw [z] at h; exact h
theorem pg_or {X : Cx} {e : Expr} {g1 g2 : TG} (h1 : PG X e g1) (h2 : PG X e g2) : PG X e (fun v σ H Q => g1 v σ H Q ∨ g2 v σ H Q) := ⟨fun pins s σ H v u Q I r h => h.elim (h1.run pins s σ H v u Q I r) (h2.run pins s σ H v u Q I r)⟩
theorem g_tp {k : Nat} (hK : X.K = w.K) (hc : X.calm = true) (h : PGs X l (gOs w Ex own ts)) (hn : (assignEach l X.env).length = ts.length) (hst : (assignEach l X.env).findIdx? (·.1) = none) : PG X (.Tuple l k pos) (gO w Ex own (.tp ts)) :=
  (pg_or (pg_tup hc h hn hst) (pg_lst hc h hn hst)).imp fun v σ H Q h => by
    obtain ⟨c, d, rfl, rfl, r, rep, h⟩ := h
    cases d with
    | tup ds =>
      obtain ⟨a, us, rfl, s1, r1⟩ := rep
      refine .inl ⟨a, us, rfl, by rw [hK]; exact r.sub.sqT s1, ?_, c, ds, rfl, rfl, r, r1, h⟩
      rw [r1.length]
      exact asgTs_len (AftP.ne h)
    | lst ds =>
      obtain ⟨a, us, rfl, s1, r1⟩ := rep
      refine .inr ⟨a, us, rfl, by rw [hK]; exact SqL.of (r.sub _ _ s1), ?_, c, ds, rfl, rfl, r, r1, h⟩
      rw [r1.length]
      exact asgTs_len (AftP.ne h)
    | _ => exact h.elim
end
/-! ### what a loop walks -/
structure Src (w : Wd) (c0 : C) (J : It) (ds : List D) : Prop where
  go : ∀ c, R w c → Le c0.F c.F → DlLe c0.dl c.dl → ∀ (i : Nat) (d : D), ds[i]? = some d → J.go i c.H ∧ ∀ x H', J.yld i c.H x H' → ∃ c' : C, c'.H = H' ∧ c'.s = c.s ∧ R w c' ∧ SStep c c' ∧ RepD w c'.dl c'.F d x
  stop : ∀ c, R w c → Le c0.F c.F → ∀ i : Nat, ds.length ≤ i → J.stop i c.H
section
variable {w : Wd} {Ex : Nat → D → C → Prop} {Φ : Fns} {X : Cx} {c0 : C} {a b : Addr} {us vs : List V} {ds es : List D}
theorem src_list (hF : SqL w.K c0.F a us) (rep : RepAll w c0.dl c0.F ds us) : Src w c0 (Itl w.K a) ds where
  go := fun c r le ld i d hd => by
    have hq : SqL w.K c.H a us := r.sub.sqL (le.sqL hF)
    obtain ⟨v, e1, e2⟩ := rep.get hd
    refine ⟨⟨us, v, hq, e1⟩, fun x H' ⟨e, hx⟩ => ?_⟩
    subst e
    have e3 := hx us hq
    rw [e1] at e3
    cases e3
    exact ⟨c, rfl, rfl, r, SStep.refl c, RepD.mono le ld d v e2⟩
  stop := fun c r le i hi => ⟨us, r.sub.sqL (le.sqL hF), by rw [rep.length]; exact hi⟩
theorem src_tup (hF : SqT w.K c0.F a us) (rep : RepAll w c0.dl c0.F ds us) : Src w c0 (Itt w.K a) ds where
  go := fun c r le ld i d hd => by
    have hq : SqT w.K c.H a us := r.sub.sqT (le.sqT hF)
    obtain ⟨v, e1, e2⟩ := rep.get hd
    refine ⟨⟨us, v, hq, e1⟩, fun x H' ⟨e, hx⟩ => ?_⟩
    subst e
    have e3 := hx us hq
    rw [e1] at e3
    cases e3
    exact ⟨c, rfl, rfl, r, SStep.refl c, RepD.mono le ld d v e2⟩
  stop := fun c r le i hi => ⟨us, r.sub.sqT (le.sqT hF), by rw [rep.length]; exact hi⟩
theorem src_rng {i j : Int} : Src w c0 (Itr i (j - i).toNat) (rngI i j) where
  go := fun c r le ld k d hd => by
    unfold rngI at hd
    rw [List.getElem?_map] at hd
    obtain ⟨k', e1, e2⟩ := Option.map_eq_some_iff.mp hd
    obtain ⟨hk, e3⟩ := List.getElem?_eq_some_iff.mp e1
    rw [List.length_range] at hk
    rw [List.getElem_range] at e3
    subst e3
    subst e2
    exact ⟨hk, fun x H' ⟨e, hx⟩ => ⟨c, e.symm, rfl, r, SStep.refl c, hx⟩⟩
  stop := fun c r le k hk => by
    unfold rngI at hk
    rw [List.length_map, List.length_range] at hk
    exact hk
/-- a new pair is yielded -/
theorem yldPair {c : C} {T : Addr} {d1 d2 : D} {x y : V} (r : R w c) (hT : c.H T = none) (h1 : RepD w c.dl c.F d1 x) (h2 : RepD w c.dl c.F d2 y) : ∃ c' : C, c'.H = upd c.H T (.tup [x, y]) ∧ c'.s = c.s ∧ R w c' ∧ SStep c c' ∧ RepD w c'.dl c'.F (.tup [d1, d2]) (.ref T) := by
  obtain ⟨r', x'⟩ := r.layF hT (.tup [x, y])
  have le : Le c.F (upd c.F T (.tup [x, y])) := le_upd (r.noF hT)
  exact ⟨{ c with H := upd c.H T (.tup [x, y]), F := upd c.F T (.tup [x, y]) }, rfl, rfl, r', x', T, [x, y], rfl, SqT.of upd_same, x, [y], rfl, RepD.mono le (DlLe.refl _) _ _ h1, y, [], rfl, RepD.mono le (DlLe.refl _) _ _ h2, rfl⟩
theorem zipIdx_get {ds : List D} {i : Nat} {d : D} (h : ((ds.zipIdx).map fun p => D.tup [.int p.2, p.1])[i]? = some d) : ∃ y, ds[i]? = some y ∧ d = .tup [.int (i : Nat), y] := by
  rw [List.getElem?_map, List.getElem?_zipIdx] at h
  cases e : ds[i]? with
  | none => rw [e] at h; simp at h
  | some y => rw [e] at h; simp at h; exact ⟨y, rfl, h.symm⟩
theorem src_enum (hF : SqL w.K c0.F a us) (rep : RepAll w c0.dl c0.F ds us) : Src w c0 (Ite w.K a) ((ds.zipIdx).map fun p => .tup [.int p.2, p.1]) where
  go := fun c r le ld i d hd => by
    have hq : SqL w.K c.H a us := r.sub.sqL (le.sqL hF)
    obtain ⟨y, hy, rfl⟩ := zipIdx_get hd
    obtain ⟨v, e1, e2⟩ := rep.get hy
    refine ⟨⟨us, v, hq, e1⟩, fun x H' ⟨T, z, q1, q2, q3, q4⟩ => ?_⟩
    have e3 := q4 us hq
    rw [e1] at e3
    cases e3
    subst q1
    subst q3
    exact yldPair r q2 rfl (RepD.mono le ld y v e2)
  stop := fun c r le i hi => ⟨us, r.sub.sqL (le.sqL hF), by rw [rep.length]; simpa using hi⟩
theorem zip_get {ds es : List D} {i : Nat} {d : D} (h : ((ds.zip es).map fun p => D.tup [p.1, p.2])[i]? = some d) : ∃ y z, ds[i]? = some y ∧ es[i]? = some z ∧ d = .tup [y, z] := by
  rw [List.getElem?_map] at h
  obtain ⟨p, e1, e2⟩ := Option.map_eq_some_iff.mp h
  obtain ⟨q1, q2⟩ := List.getElem?_zip_eq_some.mp e1
  exact ⟨p.1, p.2, q1, q2, e2.symm⟩
theorem src_zip (hF : SqL w.K c0.F a us) (rep : RepAll w c0.dl c0.F ds us) (hG : SqL w.K c0.F b vs) (rep2 : RepAll w c0.dl c0.F es vs) : Src w c0 (Itz w.K a b) ((ds.zip es).map fun p => .tup [p.1, p.2]) where
  go := fun c r le ld i d hd => by
    have hq : SqL w.K c.H a us := r.sub.sqL (le.sqL hF)
    have hq2 : SqL w.K c.H b vs := r.sub.sqL (le.sqL hG)
    obtain ⟨y, z, hy, hz, rfl⟩ := zip_get hd
    obtain ⟨v, e1, e2⟩ := rep.get hy
    obtain ⟨u, f1, f2⟩ := rep2.get hz
    refine ⟨⟨us, vs, v, u, hq, hq2, e1, f1⟩, fun x H' ⟨T, p, q, q1, q2, q3, q4, q5⟩ => ?_⟩
    have e3 := q4 us hq
    have f3 := q5 vs hq2
    rw [e1] at e3
    rw [f1] at f3
    cases e3
    cases f3
    subst q1
    subst q3
    exact yldPair r q2 (RepD.mono le ld y v e2) (RepD.mono le ld z u f2)
  stop := fun c r le i hi => ⟨us, vs, r.sub.sqL (le.sqL hF), r.sub.sqL (le.sqL hG), by rw [rep.length, rep2.length]; simp at hi; omega⟩
theorem src_zipT (hF : SqT w.K c0.F a us) (rep : RepAll w c0.dl c0.F ds us) (hG : SqT w.K c0.F b vs) (rep2 : RepAll w c0.dl c0.F es vs) : Src w c0 (RZ.ItzT w.K a b) ((ds.zip es).map fun p => .tup [p.1, p.2]) where
  go := fun c r le ld i d hd => by
    have hq : SqT w.K c.H a us := r.sub.sqT (le.sqT hF)
    have hq2 : SqT w.K c.H b vs := r.sub.sqT (le.sqT hG)
    obtain ⟨y, z, hy, hz, rfl⟩ := zip_get hd
    obtain ⟨v, e1, e2⟩ := rep.get hy
    obtain ⟨u, f1, f2⟩ := rep2.get hz
    refine ⟨⟨us, vs, v, u, hq, hq2, e1, f1⟩, fun x H' ⟨T, p, q, q1, q2, q3, q4, q5⟩ => ?_⟩
    have e3 := q4 us hq
    have f3 := q5 vs hq2
    rw [e1] at e3
    rw [f1] at f3
    cases e3
    cases f3
    subst q1
    subst q3
    exact yldPair r q2 (RepD.mono le ld y v e2) (RepD.mono le ld z u f2)
  stop := fun c r le i hi => ⟨us, vs, r.sub.sqT (le.sqT hF), r.sub.sqT (le.sqT hG), by rw [rep.length, rep2.length]; simp at hi; omega⟩
end
def srcP (w : Wd) (Φ : Fns) (k : ItK) (a b : E) : M (List D) := bnd (ev w Φ a) fun x => bnd (srcM b (ev w Φ b)) fun y => bnd (frz x) fun dx => bnd (frz y) fun dy => opt (itemsD k dx dy)
def tI (w : Wd) (Ex : Nat → D → C → Prop) (Φ : Fns) (k : ItK) (a b : E) : TI := fun σ H Q => ∃ c, c.σ = σ ∧ c.H = H ∧ R w c ∧ Aft w Ex c (srcP w Φ k a b c.s) fun c' ds => ∀ J, Src w c' J ds → Q J c'.H
section
variable {w : Wd} {Ex : Nat → D → C → Prop} {Φ : Fns} {X : Cx} {x y tg iter : Expr} {pos pos' : Pos} {a b : E} {n : Str} {i : Nat} {t : Tg} {ts : List Tg} {l : List Expr} {k : ItK} {ss : List Sm} {body : List Stmt}
theorem ev_for : evS w.T Φ (.for t k a b ss) = bnd (srcP w Φ k a b) fun ds => forGo (asgT t) (evSs w.T Φ ss) ds := by
  show bnd (ev w Φ a) _ = _
  unfold srcP
  simp only [bnd_assoc]
/-- behind a loop's turn -/
theorem fl_turn {c0 c : C} {D : Ends} {m : M Fl} {N : L2.St → Hp → Prop} (r : R w c) (x : LStep c0 c) (h : AftP w Ex c0 (bnd (evSs w.T Φ ss) (fun fl => match fl with | .nx => m | .ct => m | .bk => ret Fl.nx | .rt v => ret (Fl.rt v)) c.s) (FlQ w c0 D))
    (hN : ∀ c' : C, R w c' → LStep c c' → AftP w Ex c0 (m c'.s) (FlQ w c0 D) → N c'.σ c'.H) : tSs w Ex Φ ss { D with nx := N, ct := N, bk := D.nx } c.σ c.H := by
  refine ⟨c, rfl, rfl, r, (AftP.bnd h x).imp fun c2 fl r2 x2 ⟨_, _, q⟩ => ?_⟩
  cases fl with
  | nx => exact hN c2 r2 x2 q
  | ct => exact hN c2 r2 x2 q
  | bk => exact AftP.ret (Ex := Ex) (a := Fl.nx) q (x.trans x2) r2
  | rt dv => exact FlQ.base (fl := .rt dv) (AftP.ret (Ex := Ex) (a := Fl.rt dv) q (x.trans x2) r2) r x
theorem s_for (hp : PassesOwn (model X.prog X.w) X.A X.env X.xe) (hc : X.calm = true) (hi : PI X tg iter (tI w Ex Φ k a b)) (hg : PG X tg (gT w Ex t)) (hb : PSs X body (tSs w Ex Φ ss)) (hs : ∀ x, foldedSetIterable iter X.env x = pure x) :
    PS X (.For tg iter body [] pos) (tS w Ex Φ (.for t k a b ss)) := (ps_for hp hc hi hg hb hs).imp fun D σ H h => by
  obtain ⟨c, rfl, rfl, r, h⟩ := h
  rw [ev_for] at h
  refine ⟨c, rfl, rfl, r, (h.expr (LStep.refl c)).imp fun c2 ds r2 x2 ⟨_, _, q⟩ J src => ?_⟩
  have hσ : c2.σ = c.σ := x2.σ
  rw [← hσ]
  refine ⟨fun i m σ H => ∃ c' : C, c'.σ = σ ∧ c'.H = H ∧ R w c' ∧ LStep c c' ∧ Le c2.F c'.F ∧ DlLe c2.dl c'.dl ∧ m = ds.length - i ∧ AftP w Ex c (forGo (asgT t) (evSs w.T Φ ss) (ds.drop i) c'.s) (FlQ w c D), ⟨ds.length, c2, rfl, rfl, r2, x2.l, Le.refl _, DlLe.refl _, rfl, q⟩, ?_⟩
  rintro i m σ H ⟨c', rfl, rfl, r', x', le, ld, hm, q'⟩
  cases e : ds[i]? with
  | none =>
    have hi := List.getElem?_eq_none_iff.mp e
    rw [List.drop_eq_nil_of_le hi] at q'
    exact .inl ⟨src.stop c' r' le i hi, AftP.ret (Ex := Ex) (a := Fl.nx) q' x' r'⟩
  | some d =>
    obtain ⟨hi, he⟩ := List.getElem?_eq_some_iff.mp e
    rw [List.drop_eq_getElem_cons hi, he] at q'
    obtain ⟨g1, g2⟩ := src.go c' r' le ld i d e
    refine .inr ⟨g1, fun σ H => ∃ c3 : C, c3.σ = σ ∧ c3.H = H ∧ R w c3 ∧ LStep c c3 ∧ Le c2.F c3.F ∧ DlLe c2.dl c3.dl ∧ AftP w Ex c (forGo (asgT t) (evSs w.T Φ ss) (ds.drop (i + 1)) c3.s) (FlQ w c D), fun σ' H' ⟨c3, e1, e2, r3, x3, le3, ld3, q3⟩ => ⟨ds.length - (i + 1), by omega, c3, e1, e2, r3, x3, le3, ld3, rfl, q3⟩, fun x H' hy => ?_⟩
    obtain ⟨c4, e1, e2, r4, x4, rp⟩ := g2 x H' hy
    subst e1
    rw [← e2] at q'
    have hσ4 : c4.σ = c'.σ := x4.σ
    rw [← hσ4]
    have st4 := x'.trans x4.l
    refine ⟨c4, d, rfl, rfl, r4, rp, (AftP.bnd (m := asgT t d) q' st4).imp fun c5 _ r5 x5 ⟨_, _, q5⟩ => ?_⟩
    refine fl_turn r5 (st4.trans x5) q5 fun c6 r6 x6 q6 => ?_
    have st6 := (x4.l.trans x5).trans x6
    exact ⟨c6, rfl, rfl, r6, x'.trans st6, le.trans st6.mono, fun p hp => st6.dl p (ld p hp), q6⟩
theorem s_while (hp : PassesOwn (model X.prog X.w) X.A X.env X.xe) (hc : PT X x (tT w Ex Φ a)) (hb : PSs X body (tSs w Ex Φ ss)) : PS X (.While x body [] pos) (tS w Ex Φ (.while a ss)) := (ps_while hp hc hb).imp fun D σ H h => by
  obtain ⟨c, rfl, rfl, r, h⟩ := h
  refine ⟨fun m σ H => ∃ c' : C, c'.σ = σ ∧ c'.H = H ∧ R w c' ∧ LStep c c' ∧ AftP w Ex c (whileGo (bnd (ev w Φ a) bool?) (evSs w.T Φ ss) m c'.s) (FlQ w c D), ⟨FU, c, rfl, rfl, r, LStep.refl c, h⟩, ?_⟩
  rintro m σ H ⟨c', rfl, rfl, r', x', q⟩
  cases m with
  | zero => exact q.elim
  | succ m =>
    have q' : AftP w Ex c (bnd (ev w Φ a) (fun p => bnd (bool? p) fun k => if k then bnd (evSs w.T Φ ss) fun fl => match fl with
      | .nx => whileGo (bnd (ev w Φ a) bool?) (evSs w.T Φ ss) m
      | .ct => whileGo (bnd (ev w Φ a) bool?) (evSs w.T Φ ss) m
      | .bk => ret Fl.nx
      | .rt v => ret (Fl.rt v) else ret Fl.nx) c'.s) (FlQ w c D) := by
      rw [← bnd_assoc]
      exact q
    refine tT_seqP q' x' r' fun c2 k r2 _ x2 hσ q2 => ?_
    cases k with
    | true =>
      rw [if_pos rfl] at q2 ⊢
      refine ⟨fun σ H => ∃ c' : C, c'.σ = σ ∧ c'.H = H ∧ R w c' ∧ LStep c c' ∧ AftP w Ex c (whileGo (bnd (ev w Φ a) bool?) (evSs w.T Φ ss) m c'.s) (FlQ w c D), fun σ' H' h' => ⟨m, Nat.lt_succ_self m, h'⟩, ?_⟩
      rw [← hσ]
      exact fl_turn r2 x2 q2 fun c3 r3 x3 q3 => ⟨c3, rfl, rfl, r3, x2.trans x3, q3⟩
    | false =>
      rw [if_neg Bool.false_ne_true] at q2 ⊢
      rw [← hσ]
      exact AftP.ret (Ex := Ex) (a := Fl.nx) q2 x2 r2
end
end DI

end
section
set_option Elab.async false
set_option linter.all false
set_option maxRecDepth 100000
set_option maxHeartbeats 4000000
/-! DI13: list comprehensions. Own text. -/
namespace DI
open PySem PySem.Spec PyProof.Rows L2
section
variable {w : Wd} {Ex : Nat → D → C → Prop} {c c' cw : C} {vs : List Nat}
theorem wipeR_length (r : List (Option DV)) : ∀ vs, (wipeR r vs).length = r.length
  | [] => rfl
  | i :: is => by unfold wipeR; rw [List.length_set, wipeR_length r is]
theorem wipeR_some {r : List (Option DV)} {i : Nat} {x : DV} : ∀ {vs : List Nat}, (wipeR r vs)[i]? = some (some x) → r[i]? = some (some x) ∧ i ∉ vs
  | [], h => ⟨h, by simp⟩
  | v :: vs, h => by
    unfold wipeR at h
    by_cases hi : v = i
    · subst hi
      by_cases hv : v < (wipeR r vs).length
      · rw [List.getElem?_set_self hv] at h; cases h
      · rw [List.getElem?_eq_none (by simpa using hv)] at h; cases h
    · rw [List.getElem?_set_ne hi] at h
      obtain ⟨h1, h2⟩ := wipeR_some h
      exact ⟨h1, fun z => (List.mem_cons.mp z).elim (fun e => hi e.symm) h2⟩
theorem wipeR_keep {r : List (Option DV)} {i : Nat} : ∀ {vs : List Nat}, i ∉ vs → (wipeR r vs)[i]? = r[i]?
  | [], _ => rfl
  | v :: vs, h => by
    unfold wipeR
    rw [List.getElem?_set_ne (fun e => h (by rw [e]; exact List.mem_cons_self)), wipeR_keep fun z => h (List.mem_cons_of_mem _ z)]
theorem wipe_keep {r : L2.St} {i : Nat} : ∀ {vs : List Nat}, i ∉ vs → (wipe r vs)[i]? = r[i]?
  | [], _ => rfl
  | v :: vs, h => by
    unfold wipe
    rw [List.getElem?_set_ne (fun e => h (by rw [e]; exact List.mem_cons_self)), wipe_keep fun z => h (List.mem_cons_of_mem _ z)]
theorem wipe_wipe (σ : L2.St) : ∀ own own2 : List Nat, (∀ i ∈ own2, i ∈ own) → wipe (wipe σ own2) own = wipe σ own
  | own, [], _ => rfl
  | own, i :: is, h => by
    rw [show wipe σ (i :: is) = (wipe σ is).set i none from rfl, wipe_set (h i List.mem_cons_self)]
    exact wipe_wipe σ own is fun j hj => h j (List.mem_cons_of_mem _ hj)
theorem wipe2 (σ : L2.St) (own : List Nat) : wipe (wipe σ own) own = wipe σ own := wipe_wipe σ own own fun _ h => h
def C.wipe (c : C) (vs : List Nat) : C := ⟨c.dl, c.F, c.H, L2.wipe c.σ vs, wipeR c.ρ vs, c.g⟩
theorem own_wipe {i : Nat} {a : Addr} (h : Own (c.wipe vs) i a) : Own c i a ∧ i ∉ vs := by
  obtain ⟨h1, dv, h2, h3⟩ := h
  obtain ⟨q1, q2⟩ := wipeR_some h2
  exact ⟨⟨(wipe_some h1).1, dv, q1, h3⟩, q2⟩
theorem touch_wipe {a : Addr} (h : Touch (c.wipe vs) a) : Touch c a := by
  rcases h with ⟨i, h⟩ | h
  · exact .inl ⟨i, (own_wipe h).1⟩
  · exact .inr h
theorem R.wipe (r : R w c) : R w (c.wipe vs) where
  sub := r.sub
  len := by
    show (L2.wipe c.σ vs).length = (wipeR c.ρ vs).length
    rw [wipe_length, wipeR_length]
    exact r.len
  slot := fun i dv h => by
    obtain ⟨q1, q2⟩ := wipeR_some h
    obtain ⟨v, e1, e2⟩ := r.slot i dv q1
    exact ⟨v, (wipe_keep q2).trans e1, e2⟩
  dist := fun i j a h1 h2 => r.dist i j a (own_wipe h1).1 (own_wipe h2).1
  ndeal := fun i a p h hp => r.ndeal i a p (own_wipe h).1 hp
  deal := r.deal
theorem Step.wipe (c : C) (vs : List Nat) : Step c (c.wipe vs) := ⟨Le.refl _, fun _ _ h _ _ => h, fun _ h => h, fun _ h => .inl h, fun _ h => .inl (touch_wipe h), DlLe.refl _⟩
/-- an object of nobody's is written -/
theorem R.upd {a : Addr} {o : HO} (r : R w c) (hF : c.F a = none) (hT : ¬ Touch c a) (hX : ∀ u, c.H a = some u → isFx u = false) (nt0 : isTb o = false := by rfl) : R w { c with H := L2.upd c.H a o } where
  sub := fun b u h => by
    have z : b ≠ a := fun z => by
      have h' : c.F b = some u := h
      rw [z, hF] at h'
      cases h'
    exact (upd_ne z).trans (r.sub b u h)
  len := r.len
  slot := fun i dv h => by
    obtain ⟨v, e1, e2⟩ := r.slot i dv h
    refine ⟨v, e1, ?_⟩
    cases dv with
    | f d => exact e2
    | p pds => exact e2
    | o ds =>
      obtain ⟨b, us, rfl, q1, q2, q3⟩ := e2
      exact ⟨b, us, rfl, q1, (upd_ne fun z => hT (.inl ⟨i, by rw [← z]; exact ⟨e1, _, h, rfl⟩⟩)).trans q2, q3⟩
    | n k ds =>
      obtain ⟨b, dx, us, rfl, q1, q2, q3⟩ := e2
      exact ⟨b, dx, us, rfl, q1, (upd_ne fun z => hT (.inl ⟨i, by rw [← z]; exact ⟨e1, _, h, rfl⟩⟩)).trans q2, q3⟩
    | b j => exact e2
  dist := r.dist
  ndeal := r.ndeal
  deal := ⟨DealAt.imp r.deal.1 fun p hp => ⟨fun h => h, fun h => h, fun o h => (upd_ne fun z => hT (.inr ⟨p, hp, .inl z.symm⟩)).trans h, fun o h => (upd_ne fun z => hT (.inr ⟨p, hp, .inr z.symm⟩)).trans h⟩, r.deal.2.imp (KeepT.upd hX) noTb_refl (noTb_upd nt0)⟩
theorem LStep.upd {c0 : C} {a : Addr} {o : HO} (x : LStep c0 c) (h : c0.H a = none) : LStep c0 { c with H := L2.upd c.H a o } := by
  refine ⟨⟨x.mono, fun b u hb n tb => ?_, fun b hb => ?_, x.newF, x.tch, x.dl⟩, x.pres, x.ini⟩
  · exact (upd_ne fun z => by rw [z, h] at hb; cases hb).trans (x.keep b u hb n tb)
  · by_cases z : b = a
    · rw [z]; exact h
    · have hb' : L2.upd c.H a o b = none := hb
      rw [upd_ne z] at hb'
      exact x.live b hb'
theorem backR_at {r0 r : List (Option DV)} {j : Nat} (hl : r0.length = r.length) : ∀ {vs : List Nat}, (backR r0 r vs).length = r.length ∧ (j ∈ vs → (backR r0 r vs)[j]? = r0[j]?) ∧ (j ∉ vs → (backR r0 r vs)[j]? = r[j]?)
  | [] => ⟨rfl, fun h => by simp at h, fun _ => rfl⟩
  | i :: is => by
    obtain ⟨l, h1, h2⟩ := backR_at (r0 := r0) (r := r) (j := j) hl (vs := is)
    unfold backR
    cases e : r0[i]? with
    | none =>
      have hi : r0.length ≤ i := List.getElem?_eq_none_iff.mp e
      refine ⟨l, fun hj => ?_, fun hj => h2 fun z => hj (List.mem_cons_of_mem _ z)⟩
      by_cases z : j ∈ is
      · exact h1 z
      · have ej : j = i := (List.mem_cons.mp hj).elim id fun q => absurd q z
        subst ej
        rw [h2 z, e]
        exact List.getElem?_eq_none_iff.mpr (by omega)
    | some v =>
      obtain ⟨hi, _⟩ := List.getElem?_eq_some_iff.mp e
      refine ⟨by rw [List.length_set]; exact l, fun hj => ?_, fun hj => ?_⟩
      · by_cases z : i = j
        · subst z
          rw [List.getElem?_set_self (by omega), e]
        · rw [List.getElem?_set_ne z]
          exact h1 ((List.mem_cons.mp hj).elim (fun q => absurd q.symm z) id)
      · rw [List.getElem?_set_ne (fun z => hj (by rw [z]; exact List.mem_cons_self))]
        exact h2 fun z => hj (List.mem_cons_of_mem _ z)
/-- behind a block: its own names forgotten, the outer ones of the same places as they were -/
theorem R.restore {r : List (Option DV)} (r2 : R w c) (r' : R w c') (x : LStep (c.wipe vs) c') (hσ : c'.σ = L2.wipe c.σ vs) (hρ : c'.ρ = wipeR r vs) (hl : r.length = c.ρ.length) :
    R w ⟨c'.dl, c'.F, c'.H, c.σ, backR c.ρ r vs, c'.g⟩ ∧ SStep c ⟨c'.dl, c'.F, c'.H, c.σ, backR c.ρ r vs, c'.g⟩ ∧ ∀ a, Touch ⟨c'.dl, c'.F, c'.H, c.σ, backR c.ρ r vs, c'.g⟩ a → Touch c' a ∨ c.H a ≠ none := by
  have at_in : ∀ {j : Nat}, j ∈ vs → (backR c.ρ r vs)[j]? = c.ρ[j]? := fun {j} h => (backR_at (vs := vs) hl.symm).2.1 h
  have at_out : ∀ {j : Nat}, j ∉ vs → (backR c.ρ r vs)[j]? = c'.ρ[j]? := fun {j} h => ((backR_at (vs := vs) hl.symm).2.2 h).trans (by rw [hρ, wipeR_keep h])
  have hlen : (backR c.ρ r vs).length = c.ρ.length := ((backR_at (j := 0) (vs := vs) hl.symm).1).trans hl
  have σ_out : ∀ {j : Nat}, j ∉ vs → c'.σ[j]? = c.σ[j]? := fun {j} h => by rw [hσ, wipe_keep h]
  have own : ∀ {j : Nat} {a : Addr}, Own ⟨c'.dl, c'.F, c'.H, c.σ, backR c.ρ r vs, c'.g⟩ j a → (j ∈ vs ∧ Own c j a) ∨ (j ∉ vs ∧ Own c' j a) := fun {j a} ⟨h1, dv, h2, h3⟩ => by
    by_cases z : j ∈ vs
    · exact .inl ⟨z, h1, dv, (at_in z).symm.trans h2, h3⟩
    · exact .inr ⟨z, (σ_out z).trans h1, dv, (at_out z).symm.trans h2, h3⟩
  -- what a forgotten slot owned nobody touched
  have nt : ∀ {j : Nat} {a : Addr}, j ∈ vs → Own c j a → ¬ Touch (c.wipe vs) a := fun {j a} hj o t => by
    rcases t with ⟨k, h⟩ | ⟨p, h1, h2⟩
    · obtain ⟨q1, q2⟩ := own_wipe h
      exact q2 (by rw [← r2.dist j k a o q1]; exact hj)
    · obtain ⟨n1, n2⟩ := r2.ndeal j a p o h1
      rcases h2 with h2 | h2
      · exact n1 h2
      · exact n2 h2
  have nt' : ∀ {j : Nat} {a : Addr}, j ∈ vs → Own c j a → ¬ Touch c' a := fun {j a} hj o t => by
    rcases x.tch a t with q | q
    · exact nt hj o q
    · obtain ⟨u, h1, _⟩ := r2.ownH o
      have q' : c.H a = none := q
      rw [h1] at q'
      cases q'
  have st : Step (c.wipe vs) c' := x.toStep
  refine ⟨⟨r'.sub, by rw [hlen]; exact r2.len, fun j dv h => ?_, fun i j a h1 h2 => ?_, fun j a p h hp => ?_, r'.deal⟩, ⟨⟨x.mono, fun a o h n => x.keep a o h fun t => n (touch_wipe t), x.live, fun a h => ?_, fun a h => ?_, x.dl⟩, rfl, fun j dv h => ?_, fun j k fs h => ?_⟩, fun a h => ?_⟩
  · by_cases z : j ∈ vs
    · have h' : c.ρ[j]? = some (some dv) := (at_in z).symm.trans h
      obtain ⟨v, e1, e2⟩ := r2.slot j dv h'
      refine ⟨v, e1, ?_⟩
      cases dv with
      | f d => exact RepD.mono x.mono x.dl d v e2
      | p pds => exact PlR.mono x.mono x.dl e2
      | o ds =>
        obtain ⟨a, us, rfl, q1, q2, q3⟩ := e2
        have n := nt z (a := a) ⟨e1, _, h', rfl⟩
        exact ⟨a, us, rfl, st.noF q2 q1 n, st.keep a _ q2 n rfl, RepAll.mono x.mono x.dl ds us q3⟩
      | n k ds =>
        obtain ⟨a, dx, us, rfl, q1, q2, q3, q4⟩ := e2
        have n := nt z (a := a) ⟨e1, _, h', rfl⟩
        exact ⟨a, dx, us, rfl, st.noF q2 q1 n, st.keep a _ q2 n rfl, q3, RepAll.mono x.mono x.dl ds us q4⟩
      | b k => exact e2
    · have h' : c'.ρ[j]? = some (some dv) := (at_out z).symm.trans h
      obtain ⟨v, e1, e2⟩ := r'.slot j dv h'
      exact ⟨v, (σ_out z).symm.trans e1, e2⟩
  · rcases own h1 with ⟨z1, o1⟩ | ⟨z1, o1⟩ <;> rcases own h2 with ⟨z2, o2⟩ | ⟨z2, o2⟩
    · exact r2.dist i j a o1 o2
    · exact absurd (.inl ⟨j, o2⟩) (nt' z1 o1)
    · exact absurd (.inl ⟨i, o1⟩) (nt' z2 o2)
    · exact r'.dist i j a o1 o2
  · rcases own h with ⟨z1, o1⟩ | ⟨z1, o1⟩
    · have n := nt' z1 o1
      exact ⟨fun z => n (.inr ⟨p, hp, .inl z⟩), fun z => n (.inr ⟨p, hp, .inr z⟩)⟩
    · exact r'.ndeal j a p o1 hp
  · rcases x.newF a h with q | q | q
    · exact .inl q
    · exact .inr (.inl (touch_wipe q))
    · exact .inr (.inr q)
  · have h' : Touch c' a ∨ ∃ j, Own c j a := by
      rcases h with ⟨j, h⟩ | h
      · rcases own h with ⟨_, o⟩ | ⟨_, o⟩
        · exact .inr ⟨j, o⟩
        · exact .inl (.inl ⟨j, o⟩)
      · exact .inl (.inr h)
    rcases h' with q | q
    · rcases x.tch a q with q | q
      · exact .inl (touch_wipe q)
      · exact .inr q
    · exact .inl (.inl q)
  · by_cases z : j ∈ vs
    · exact ⟨dv, (at_in z).trans h⟩
    · obtain ⟨dv', h'⟩ := x.pres j dv ((wipeR_keep z).trans h)
      exact ⟨dv', (at_out z).trans h'⟩
  · by_cases z : j ∈ vs
    · exact ⟨fs, (at_in z).symm.trans h⟩
    · obtain ⟨⟨f0, q⟩, _⟩ := x.ini j k fs ((at_out z).symm.trans h)
      exact ⟨f0, (wipeR_some q).1⟩
  · rcases h with ⟨j, h⟩ | h
    · rcases own h with ⟨_, o⟩ | ⟨_, o⟩
      · obtain ⟨u, h1, _⟩ := r2.ownH o
        exact .inr (by rw [h1]; simp)
      · exact .inl (.inl ⟨j, o⟩)
    · exact .inl (.inr h)
end
abbrev noEx : Nat → D → C → Prop := fun _ _ _ => False
def tTst (w : Wd) (Ex : Nat → D → C → Prop) (Φ : Fns) (e : E) : TT := fun σ H Q => ∃ c, c.σ = σ ∧ c.H = H ∧ R w c ∧ Aft w Ex c (tstM e (ev w Φ e) c.s) fun c' k => Q k c'.H
def lcEnd (w : Wd) (Φ : Fns) (own : List Nat) (t : Tg) (c e : E) (ds : List D) : M DV := fun s => match noExc (lcGo own (asgT t) (tstM c (ev w Φ c)) (bnd (ev w Φ e) frz) ds []) s with
  | .ok ys s' => .ok (.o ys) { s' with r := backR s.r s'.r own }
  | _ => .stuck
section
variable {w : Wd} {Ex : Nat → D → C → Prop} {Φ : Fns} {X : Cx} {own : List Nat} {t : Tg} {k : ItK} {a b ce e : E}
theorem ev_lc : ev w Φ (.lc own t k a b ce e) = bnd (srcP w Φ k a b) (lcEnd w Φ own t ce e) := by
  show bnd (ev w Φ a) _ = _
  unfold srcP
  simp only [bnd_assoc]
  rfl
theorem lcEnd_ok {ds : List D} {c0 c : C} {Q : C → DV → Prop} (h : Aft w Ex c0 (lcEnd w Φ own t ce e ds c.s) Q) : ∃ ys s', lcGo own (asgT t) (tstM ce (ev w Φ ce)) (bnd (ev w Φ e) frz) ds [] c.s = .ok ys s' ∧ Aft w Ex c0 (.ok (.o ys) { s' with r := backR c.ρ s'.r own }) Q := by
  unfold lcEnd noExc at h
  cases q : lcGo own (asgT t) (tstM ce (ev w Φ ce)) (bnd (ev w Φ e) frz) ds [] c.s with
  | ok ys s' =>
    rw [q] at h
    exact ⟨ys, s', rfl, h⟩
  | exc k d s => rw [q] at h; exact h.elim
  | stuck => rw [q] at h; exact h.elim
theorem asgT_len : ∀ (t : Tg) (d : D) {s s' : S}, asgT t d s = .ok () s' → s'.r.length = s.r.length
  | .nm i, d, s, s', h => by
    have h' : setR i (.f d) s = .ok () s' := h
    unfold setR at h'
    split at h'
    · cases h'
      exact List.length_set
    · cases h'
  | .tp ts, .tup ds, s, s', h => asgTs_len2 ts ds h
  | .tp ts, .non, s, s', h => by cases h
  | .tp ts, .bl _, s, s', h => by cases h
  | .tp ts, .int _, s, s', h => by cases h
  | .tp ts, .str _, s, s', h => by cases h
  | .tp ts, .lst ds, s, s', h => asgTs_len2 ts ds h
  | .tp ts, .ins _ _, s, s', h => by cases h
  | .tp ts, .deal, s, s', h => by cases h
  | .tp ts, .scr _, s, s', h => by cases h
  | .tp ts, .exn _ _, s, s', h => by cases h
where
  asgTs_len2 : ∀ (ts : List Tg) (ds : List D) {s s' : S}, asgTs ts ds s = .ok () s' → s'.r.length = s.r.length
  | [], [], s, s', h => by cases h; rfl
  | [], _ :: _, s, s', h => by cases h
  | _ :: _, [], s, s', h => by cases h
  | t :: ts, d :: ds, s, s', h => by
    obtain ⟨u, s1, h1, h2⟩ := bnd_ok (show bnd (asgT t d) (fun _ => asgTs ts ds) s = _ from h)
    rw [asgTs_len2 ts ds h2, asgT_len t d h1]
/-- the invariant of a comprehension's turns -/
structure LcW (w : Wd) (Φ : Fns) (own : List Nat) (t : Tg) (ce e : E) (c2 : C) (Da : Addr) (ds ys : List D) (s' : S) (i : Nat) (c : C) : Prop where
  σ : c.σ = L2.wipe c2.σ own
  r : R w c
  x : LStep (c2.wipe own) c
  go : ∃ (acc : List V) (dacc : List D) (s : S), c.ρ = wipeR s.r own ∧ c.g = s.g ∧ s.r.length = c2.ρ.length ∧ c.H Da = some (.lst acc) ∧ RepAll w c.dl c.F dacc acc ∧ lcGo own (asgT t) (tstM ce (ev w Φ ce)) (bnd (ev w Φ e) frz) (ds.drop i) dacc s = .ok ys s'
  F : c.F Da = none
  T : ¬ Touch c Da
theorem lc_in {σ : L2.St} {H : Hp} {Q : VK} (h : tE w Ex Φ (.lc own t k a b ce e) σ H Q) : tLc (tI w Ex Φ k a b) (gO w noEx own t) (tTst w noEx Φ ce) (tE w noEx Φ e) own σ H Q := by
  obtain ⟨c, rfl, rfl, r, h⟩ := tE_in h
  rw [ev_lc] at h
  refine ⟨c, rfl, rfl, r, (h.bnd (SStep.refl c)).imp fun c2 ds r2 x2 ⟨_, _, q⟩ J src Da hD => ?_⟩
  obtain ⟨ys, s', hgo, q2⟩ := lcEnd_ok q
  have hσ : c2.σ = c.σ := x2.σ
  rw [← hσ]
  have nT0 : ¬ Touch (c2.wipe own) Da := fun z => r2.noT hD (touch_wipe z)
  refine ⟨fun i m H => m = ds.length - i ∧ ∃ c', c'.H = H ∧ LcW w Φ own t ce e c2 Da ds ys s' i c', ⟨ds.length, rfl, { c2.wipe own with H := L2.upd c2.H Da (.lst []) }, rfl, rfl, ?_, ?_, ⟨[], [], c2.s, rfl, rfl, rfl, upd_same, rfl, hgo⟩, r2.noF hD, nT0⟩, ?_⟩
  · exact (r2.wipe (vs := own)).upd (r2.noF hD) nT0 fun u hu => by rw [show (c2.wipe own).H Da = none from hD] at hu; cases hu
  · exact LStep.upd (LStep.refl _) hD
  rintro i m H ⟨hm, c', rfl, W⟩
  obtain ⟨acc, dacc, s, hρ, hg, hl, hH, rep, go⟩ := W.go
  have le : Le c2.F c'.F := W.x.mono
  have ld : DlLe c2.dl c'.dl := W.x.dl
  cases ei : ds[i]? with
  | none =>
    have hi := List.getElem?_eq_none_iff.mp ei
    rw [List.drop_eq_nil_of_le hi] at go
    cases go
    refine .inl ⟨src.stop c' W.r le i hi, ?_⟩
    obtain ⟨r3, x3, tc⟩ := r2.restore W.r W.x W.σ hρ hl
    refine q2 ⟨c'.dl, c'.F, c'.H, c2.σ, backR c2.ρ s'.r own, c'.g⟩ ?_ r3 (x2.trans x3) (.ref Da) ⟨Da, acc, rfl, W.F, hH, rep, fun z => ?_⟩ ⟨Da, rfl, x2.live Da hD⟩
    · show S.mk _ c'.g = _
      rw [hg]
    · rcases tc Da z with z | z
      · exact W.T z
      · exact z hD
  | some d =>
    obtain ⟨hi, he⟩ := List.getElem?_eq_some_iff.mp ei
    rw [List.drop_eq_getElem_cons hi, he] at go
    obtain ⟨g1, g2⟩ := src.go c' W.r le ld i d ei
    refine .inr ⟨g1, fun H => ∃ c', c'.H = H ∧ LcW w Φ own t ce e c2 Da ds ys s' (i + 1) c', fun H' h' => ⟨ds.length - (i + 1), by omega, rfl, h'⟩, fun x H' hy => ?_⟩
    obtain ⟨c4, e1, e2, r4, x4, rp⟩ := g2 x H' hy
    subst e1
    obtain ⟨_, s1, h1, h2⟩ := bnd_ok (show bnd (asgT t d) (fun _ => bnd (tstM ce (ev w Φ ce)) fun k => if k then bnd (bnd (ev w Φ e) frz) fun y => if dacc.length < lim then lcGo own (asgT t) (tstM ce (ev w Φ ce)) (bnd (ev w Φ e) frz) (ds.drop (i + 1)) (dacc ++ [y]) else stk else lcGo own (asgT t) (tstM ce (ev w Φ ce)) (bnd (ev w Φ e) frz) (ds.drop (i + 1)) dacc) { s with r := wipeR s.r own } = .ok ys s' from go)
    obtain ⟨kb, s2, h3, h4⟩ := bnd_ok h2
    have es : c4.s = { s with r := wipeR s.r own } := by
      rw [e2]
      show S.mk c'.ρ c'.g = _
      rw [hρ, hg]
    rw [← es] at h1
    have hσ4 : c4.σ = L2.wipe c2.σ own := x4.σ.trans W.σ
    have hσw : L2.wipe c4.σ own = L2.wipe c2.σ own := by rw [hσ4, wipe2]
    rw [← hσ4]
    refine ⟨c4, d, rfl, rfl, r4, rp, ?_⟩
    show AftP w noEx c4 (asgT t d c4.s) _
    rw [h1]
    intro c5 es5 r5 x5 hw
    refine ⟨by rw [hw, hσw, hσ4], c5, rfl, rfl, r5, ?_⟩
    rw [es5, h3]
    intro c6 es6 r6 x6
    have l5 : s1.r.length = c2.ρ.length := by
      rw [asgT_len t d h1, es]
      show (wipeR s.r own).length = _
      rw [wipeR_length, hl]
    -- what stays
    have stay : ∀ {c7 : C} {s7 : S}, R w c7 → LStep c' c7 → c7.s = s7 → L2.wipe c7.σ own = L2.wipe c2.σ own → ∀ {acc' : List V} {dacc' : List D}, RepAll w c7.dl c7.F dacc' acc' → lcGo own (asgT t) (tstM ce (ev w Φ ce)) (bnd (ev w Φ e) frz) (ds.drop (i + 1)) dacc' s7 = .ok ys s' →
        ∀ {c8 : C}, c8.dl = c7.dl → c8.F = c7.F → c8.σ = c7.σ → c8.ρ = c7.ρ → c8.g = c7.g → R w c8 → LStep (c2.wipe own) c8 → c8.H Da = some (.lst acc') → LcW w Φ own t ce e c2 Da ds ys s' (i + 1) (c8.wipe own) := by
      intro c7 s7 r7 x7 es7 hw7 acc' dacc' rp7 go7 c8 q1 q2 q3 q4 q5 r8 x8 hH8
      have nT7 : ¬ Touch c7 Da := x7.toStep.noT hH W.T
      refine ⟨?_, r8.wipe, ⟨x8.toStep.trans (Step.wipe c8 own), fun j dv hj => ?_, fun j k fs hj => ?_⟩, ⟨acc', dacc', s7, ?_, ?_, ?_, hH8, ?_, go7⟩, ?_, fun z => ?_⟩
      · show L2.wipe c8.σ own = _
        rw [q3, hw7]
      · obtain ⟨_, hn⟩ := wipeR_some hj
        obtain ⟨dv', h'⟩ := x8.pres j dv hj
        exact ⟨dv', (wipeR_keep hn).trans h'⟩
      · obtain ⟨q, hn⟩ := wipeR_some hj
        obtain ⟨q1, q2⟩ := x8.ini j k fs q
        exact ⟨q1, (wipe_keep hn).trans q2⟩
      · show wipeR c8.ρ own = _
        rw [q4, ← es7]
        rfl
      · show c8.g = _
        rw [q5, ← es7]
        rfl
      · rw [← es7]
        show c7.ρ.length = _
        rw [← r7.len, ← wipe_length c7.σ own, hw7, wipe_length, r2.len]
      · show RepAll w c8.dl c8.F dacc' acc'
        rw [q1, q2]
        exact rp7
      · show c8.F Da = none
        rw [q2]
        exact x7.toStep.noF hH W.F W.T
      · refine nT7 ?_
        rcases touch_wipe z with ⟨j, o1, o2⟩ | z
        · rw [q3] at o1
          rw [q4] at o2
          exact .inl ⟨j, o1, o2⟩
        · rw [q1] at z
          exact .inr z
    have x46 : LStep c' c6 := x4.l.trans (x5.trans x6.l)
    have hσ6 : c6.σ = c5.σ := x6.σ
    cases kb with
    | false =>
      rw [if_neg Bool.false_ne_true] at h4
      have hH6 : c6.H Da = some (.lst acc) := x46.toStep.keep Da _ hH W.T rfl
      exact ⟨c6.wipe own, rfl, stay r6 x46 es6 (by rw [hσ6, hw, hσw]) (RepAll.step x46.toStep rep) h4 rfl rfl rfl rfl rfl r6 (W.x.trans x46) hH6⟩
    | true =>
      rw [if_pos rfl] at h4
      obtain ⟨y, s4, h5, h6⟩ := bnd_ok h4
      obtain ⟨dv, s3, h7, h8⟩ := bnd_ok h5
      simp only [if_true]
      rw [← hσ6]
      refine ⟨c6, rfl, rfl, r6, ?_⟩
      rw [es6, h7]
      intro c7 es7 r7 x7 v rel fr
      rw [← es7] at h8
      obtain ⟨c8, es8, hH8, r8, x8, rp8, _, _, _⟩ := frz_ok (c0 := c6) r7 rel x7 fr h8
      have x48 : LStep c' c8 := x46.trans x8.l
      have hD8 : c8.H Da = some (.lst acc) := x48.toStep.keep Da _ hH W.T rfl
      have hσ8 : c8.σ = c5.σ := (x8.σ).trans hσ6
      by_cases hlim : dacc.length < lim
      · rw [if_pos hlim] at h6
        refine ⟨acc, by rw [← hH8]; exact hD8, by rw [rep.length, ← lim_eq]; exact hlim, ?_⟩
        rw [← hH8]
        have rp' : RepAll w c8.dl c8.F (dacc ++ [y]) (acc ++ [v]) := RepAll.append (RepAll.step x48.toStep rep) (RepAll.one rp8)
        have nT8 : ¬ Touch c8 Da := x48.toStep.noT hH W.T
        have nF8 : c8.F Da = none := x48.toStep.noF hH W.F W.T
        exact ⟨({ c8 with H := L2.upd c8.H Da (.lst (acc ++ [v])) } : C).wipe own, rfl, stay r8 x48 es8 (by rw [hσ8, hw, hσw]) rp' h6 (c8 := { c8 with H := L2.upd c8.H Da (.lst (acc ++ [v])) }) rfl rfl rfl rfl rfl (r8.upd nF8 nT8 fun u hu => by rw [hD8] at hu; cases hu; rfl) (LStep.upd (W.x.trans x48) hD) upd_same⟩
      · rw [if_neg hlim] at h6
        cases h6
section
variable {elt tg iter : Expr} {ifs : List Expr} {scope : Scope} {own2 : List (Str × Nat)} {pos spos : Pos} {py : Pos} {n : Str} {i : Nat}
theorem j_lc (hc : X.calm = true) (hN : X.N.Nodup) (hi : PI X tg iter (tI w Ex Φ k a b)) (ok : BlkOk X.N X.env.scope scope own2)
    (hg : ∀ (s : Shared) (H : Hp) (C : Addr) (cl : List (Str × Addr)) (fp : List Addr), PG (X.blk s H scope (compEnvC scope cl C X.env) fp) tg (gO w noEx (own2.map (·.2)) t)) (ht : ∀ (s : Shared) (H : Hp) (C : Addr) (cl : List (Str × Addr)) (fp : List Addr), PTs (X.blk s H scope (compEnvC scope cl C X.env) fp) ifs (tTst w noEx Φ ce))
    (he : ∀ (s : Shared) (H : Hp) (C : Addr) (cl : List (Str × Addr)) (fp : List Addr), PE (X.blk s H scope (compEnvC scope cl C X.env) fp) elt (tE w noEx Φ e)) (hs : ∀ x, foldedSetIterable iter X.env x = pure x) :
    PE X (.ListComp elt [⟨tg, iter, ifs, 0⟩] scope pos) (tE w Ex Φ (.lc (own2.map (·.2)) t k a b ce e)) := (pe_lc hc hN hi ok hg ht he hs).imp fun σ H Q h => lc_in h
theorem s_setLc (hc : X.calm = true) (hN : X.N.Nodup) (hy : X.N[i]? = some n) (hyl : X.env.scope.names.lookup n = some .local)
    (hsw : swapsWith (.ListComp elt [⟨tg, iter, ifs, 0⟩] scope pos) (some (.Name n py)) spos.line X.env = pure true) (hi : PI X tg iter (tI w Ex Φ k a b)) (ok : BlkOk X.N X.env.scope scope own2)
    (hg : ∀ (s : Shared) (H : Hp) (C : Addr) (cl : List (Str × Addr)) (fp : List Addr), PG (X.blk s H scope (compEnvC scope cl C X.env) fp) tg (gO w noEx (own2.map (·.2)) t)) (ht : ∀ (s : Shared) (H : Hp) (C : Addr) (cl : List (Str × Addr)) (fp : List Addr), PTs (X.blk s H scope (compEnvC scope cl C X.env) fp) ifs (tTst w noEx Φ ce))
    (he : ∀ (s : Shared) (H : Hp) (C : Addr) (cl : List (Str × Addr)) (fp : List Addr), PE (X.blk s H scope (compEnvC scope cl C X.env) fp) elt (tE w noEx Φ e)) (hs : ∀ x, foldedSetIterable iter X.env x = pure x) :
    PS X (.Assign [.Name n py] (.ListComp elt [⟨tg, iter, ifs, 0⟩] scope pos) spos) (tS w Ex Φ (.set i (.lc (own2.map (·.2)) t k a b ce e))) := (ps_setLc hc hN hy hyl hsw hi ok hg ht he hs).imp fun D σ H h => by
  refine lc_in ?_
  obtain ⟨c, rfl, rfl, r, h⟩ := h
  refine tE_seqP h (LStep.refl c) r fun c2 v dv r2 _ x2 hσ rel fr q => ?_
  obtain ⟨c', e1, e2, r3, x3, _, q2⟩ := keep_ok (f := fun _ => ret Fl.nx) q r2 x2 rel fr
  show D.nx (c.σ.set i (some v)) c2.H
  rw [← hσ, ← e1, ← e2]
  exact AftP.ret (a := Fl.nx) q2 x3 r3
end
end
end DI

end
section
set_option Elab.async false
set_option linter.all false
set_option maxRecDepth 100000
set_option maxHeartbeats 4000000
/-! DI14: what loops walk. Own text. -/
namespace DI
open PySem PySem.Spec PyProof.Rows L2
section
variable {w : Wd} {Ex : Nat → D → C → Prop} {Φ : Fns} {X : Cx} {x y tg : Expr} {p pos tpos : Pos} {a b e : E} {elts : List Expr} {kk : Nat} {α β : Type}
theorem bnd_eq {m : M α} {f g : α → M β} {s : S} (h : ∀ v s', m s = .ok v s' → f v s' = g v s') : bnd m f s = bnd m g s := by
  unfold bnd
  cases e : m s with
  | ok v s' => exact h v s' e
  | exc k d s' => rfl
  | stuck => rfl
def gL (f : List D → M β) : D → M β
  | .lst ds => f ds
  | _ => stk
def gU (f : List D → M β) : D → M β
  | .tup ds => f ds
  | _ => stk
theorem srcP_val : srcP w Φ .val a .nop = bnd (bnd (ev w Φ a) frz) fun dx => opt (seqOf dx) := by
  rw [bnd_assoc]
  rfl
/-- by what the source turns out to be -/
theorem val_cases {f : D → M β} {s : S} (h : bnd (bnd (ev w Φ a) frz) f s ≠ .stuck) (hf : ∀ d s, f d s ≠ .stuck → seqOf d ≠ none) :
    bnd (bnd (ev w Φ a) frz) f s = bnd (ev w Φ a) (fun v => bnd (frz v) (gL fun ds => f (.lst ds))) s ∨ bnd (bnd (ev w Φ a) frz) f s = bnd (ev w Φ a) (fun v => bnd (frz v) (gU fun ds => f (.tup ds))) s := by
  rw [← bnd_assoc, ← bnd_assoc]
  cases e : bnd (ev w Φ a) frz s with
  | ok d s' =>
    have h' : f d s' ≠ .stuck := by
      unfold bnd at h e
      rw [e] at h
      exact h
    have hq := hf d s' h'
    cases d with
    | lst ds =>
      left
      refine bnd_eq fun v s2 q => ?_
      rw [e] at q
      cases q
      rfl
    | tup ds =>
      right
      refine bnd_eq fun v s2 q => ?_
      rw [e] at q
      cases q
      rfl
    | _ => exact absurd rfl hq
  | exc k d s' =>
    left
    refine bnd_eq fun v s2 q => ?_
    rw [e] at q
    cases q
  | stuck =>
    left
    refine bnd_eq fun v s2 q => ?_
    rw [e] at q
    cases q
theorem Aft.ne {c : C} {r : Res α} {Q : C → α → Prop} (h : Aft w Ex c r Q) : r ≠ .stuck := fun z => by rw [z] at h; exact h
theorem opt_seq {d : D} {s : S} (h : (opt (seqOf d) : M (List D)) s ≠ .stuck) : seqOf d ≠ none := fun z => by rw [z] at h; exact h rfl
/-- a list at hand, let be -/
theorem lst_in {f : List D → M β} {Q : C → β → Prop} {c0 c : C} {v : V} {dv : DV} (h : Aft w Ex c0 (bnd (frz dv) (gL f) c.s) Q) (r : R w c) (x : SStep c0 c) (rel : Rel w c v dv) (fr : Frs c0.H v dv) :
    ∃ (ds : List D) (p : Addr) (us : List V) (c' : C), v = .ref p ∧ c'.H = c.H ∧ R w c' ∧ SStep c0 c' ∧ SqL w.K c'.F p us ∧ RepAll w c'.dl c'.F ds us ∧ Aft w Ex c0 (f ds c'.s) Q := by
  obtain ⟨d, c', hH, r', x', rep, _, _, _, h2⟩ := h.frz r x rel fr
  cases d with
  | lst ds =>
    obtain ⟨p, us, e, q1, q2⟩ := rep
    exact ⟨ds, p, us, c', e, hH, r', x', SqL.of q1, q2, h2⟩
  | _ => exact h2.elim
theorem tup_in {f : List D → M β} {Q : C → β → Prop} {c0 c : C} {v : V} {dv : DV} (h : Aft w Ex c0 (bnd (frz dv) (gU f) c.s) Q) (r : R w c) (x : SStep c0 c) (rel : Rel w c v dv) (fr : Frs c0.H v dv) :
    ∃ (ds : List D) (p : Addr) (us : List V) (c' : C), v = .ref p ∧ c'.H = c.H ∧ R w c' ∧ SStep c0 c' ∧ SqT w.K c'.F p us ∧ RepAll w c'.dl c'.F ds us ∧ Aft w Ex c0 (f ds c'.s) Q := by
  obtain ⟨d, c', hH, r', x', rep, _, _, _, h2⟩ := h.frz r x rel fr
  cases d with
  | tup ds =>
    obtain ⟨p, us, e, q1, q2⟩ := rep
    exact ⟨ds, p, us, c', e, hH, r', x', q1, q2, h2⟩
  | _ => exact h2.elim
/-- for .. in e: a list or a tuple -/
theorem i_val (hK : X.K = w.K) (ha : PE X x (tE w Ex Φ a)) : PI X tg x (tI w Ex Φ .val a .nop) := by
  refine ⟨fun pins s σ H R I h => ?_⟩
  obtain ⟨c, rfl, rfl, r, h⟩ := h
  rw [srcP_val] at h
  rcases val_cases (f := fun dx => opt (seqOf dx)) h.ne (fun d s z => opt_seq z) with q | q
  · rw [q] at h
    refine (pi_list ha).run pins s _ _ R I ?_
    refine tE_seq h (SStep.refl c) r fun c2 u du r2 x2 x02 hσ rel fr fr0 h2 => ?_
    obtain ⟨ds, p, us, c3, rfl, hH, r3, x3, s1, rep, h3⟩ := lst_in h2 r2 x02 rel fr0
    rw [← hH]
    refine ⟨p, rfl, ⟨us, by rw [hK]; exact r3.sub.sqL s1⟩, ?_⟩
    rw [hK]
    exact Aft.ret (a := ds) h3 x3 r3 _ (src_list s1 rep)
  · rw [q] at h
    refine (pi_tup ha).run pins s _ _ R I ?_
    refine tE_seq h (SStep.refl c) r fun c2 u du r2 x2 x02 hσ rel fr fr0 h2 => ?_
    obtain ⟨ds, p, us, c3, rfl, hH, r3, x3, s1, rep, h3⟩ := tup_in h2 r2 x02 rel fr0
    rw [← hH]
    refine ⟨p, rfl, ⟨us, by rw [hK]; exact r3.sub.sqT s1⟩, ?_⟩
    rw [hK]
    exact Aft.ret (a := ds) h3 x3 r3 _ (src_tup s1 rep)
/-! ### ranges -/
theorem _root_.L2.PI.imp {t t' : TI} (h : PI X tg x t) (f : ∀ σ H Q, t' σ H Q → t σ H Q) : PI X tg x t' := ⟨fun pins s σ H R I q => h.run pins s σ H R I (f σ H R q)⟩
theorem rng_some {d1 d2 : D} {ds : List D} (h : itemsD .rng d1 d2 = some ds) : ∃ i j, d1 = .int i ∧ d2 = .int j ∧ ds = rngI i j ∧ (-(2 ^ 62) ≤ i ∧ i < 2 ^ 62 ∧ -(2 ^ 62) ≤ j ∧ j < 2 ^ 62) := by
  cases d1 <;> first | (cases h; done) | skip
  cases d2 <;> first | (cases h; done) | skip
  rename_i i j
  have h' : (if bnd62 i && bnd62 j then some (rngI i j) else none) = some ds := h
  split at h'
  · rename_i z
    cases h'
    simp only [bnd62, Bool.and_eq_true, decide_eq_true_eq] at z
    exact ⟨i, j, rfl, rfl, rfl, z.1.1, z.1.2, z.2.1, z.2.2⟩
  · cases h'
theorem evs1 : evs w Φ [a] = bnd (ev w Φ a) fun v => ret [v] := rfl
theorem evs2 : evs w Φ [a, b] = bnd (ev w Φ a) fun v => bnd (ev w Φ b) fun u => ret [v, u] := by
  show bnd (ev w Φ a) (fun v => bnd (bnd (ev w Φ b) fun u => bnd (ret []) fun vs => ret (u :: vs)) fun vs => ret (v :: vs)) = _
  simp only [bnd_assoc]
  rfl
theorem frzs2 {v u : DV} : frzs [v, u] = bnd (frz v) fun d => bnd (frz u) fun f => ret [d, f] := by
  show bnd (frz v) (fun d => bnd (bnd (frz u) fun f => bnd (ret []) fun vs => ret (f :: vs)) fun vs => ret (d :: vs)) = _
  simp only [bnd_assoc]
  rfl
theorem frzs1 {v : DV} : frzs [v] = bnd (frz v) fun d => ret [d] := rfl
def two? {β : Type} (f : D → D → M β) : List D → M β
  | [d, e] => f d e
  | _ => stk
theorem srcM_id {m : M DV} (h : b ≠ .nop) : srcM b m = m := by cases b <;> first | rfl | exact absurd rfl h
theorem srcP2 {k : ItK} (hb : b ≠ .nop) : srcP w Φ k a b = bnd (evs w Φ [a, b]) fun vs => bnd (frzs vs) (two? fun dx dy => opt (itemsD k dx dy)) := by
  unfold srcP
  rw [srcM_id hb, evs2]
  simp only [bnd_assoc]
  congr 1
  funext v
  congr 1
  funext u
  show _ = bnd (frzs [v, u]) _
  rw [frzs2]
  simp only [bnd_assoc]
  rfl
theorem two_rep {f : D → D → M β} {Q : C → β → Prop} {c0 c : C} {ds : List D} {us : List V} (h : Aft w Ex c0 (two? f ds c.s) Q) (rep : RepAll w c.dl c.F ds us) :
    ∃ d1 d2 u v, us = [u, v] ∧ RepD w c.dl c.F d1 u ∧ RepD w c.dl c.F d2 v ∧ Aft w Ex c0 (f d1 d2 c.s) Q := by
  rcases ds with _ | ⟨d1, _ | ⟨d2, _ | ⟨d3, ds⟩⟩⟩
  · exact h.elim
  · exact h.elim
  · obtain ⟨u, r1, rfl, q1, v, r2, rfl, q2, q3⟩ := rep
    rw [show r2 = [] from q3]
    exact ⟨d1, d2, u, v, rfl, q1, q2, h⟩
  · exact h.elim
theorem i_rng2 (hb : b ≠ .nop) (hg : Gl X "range") (hm : X.mg "range" = none) (ha : PA X [x, y] (tEs w Ex Φ [a, b])) (hs : starEach [x, y] X.env = [(false, eval x X.env), (false, eval y X.env)]) (hs2 : starEach [y] X.env = [(false, eval y X.env)]) :
    PI X tg (.Call (.Name "range" p) [x, y] [] pos) (tI w Ex Φ .rng a b) := (pi_range2 hg hm ha hs hs2).imp fun σ H R h => by
  obtain ⟨c, rfl, rfl, r, h⟩ := h
  rw [srcP2 hb] at h
  refine tEs_seq h (SStep.refl c) r fun c2 vs dvs r2 x2 x02 hσ rels rels0 h2 => ?_
  obtain ⟨ds, c3, hH, r3, x3, rep, h3⟩ := h2.frzs r2 x02 rels0
  obtain ⟨d1, d2, u, v, rfl, q1, q2, h4⟩ := two_rep h3 rep
  obtain ⟨es, he, h5⟩ := h4.opt1 x3 r3
  obtain ⟨i, j, rfl, rfl, rfl, z⟩ := rng_some he
  rw [← hH]
  exact ⟨i, j, by rw [show u = .int i from q1, show v = .int j from q2], z, h5 _ src_rng⟩
theorem i_rng1 (hb : b ≠ .nop) (hg : Gl X "range") (hm : X.mg "range" = none) (ha : PA X [y] (tEs w Ex Φ [b])) (hs : starEach [y] X.env = [(false, eval y X.env)]) :
    PI X tg (.Call (.Name "range" p) [y] [] pos) (tI w Ex Φ .rng (.int 0) b) := (pi_range1 hg hm ha hs).imp fun σ H R h => by
  obtain ⟨c, rfl, rfl, r, h⟩ := h
  have e : srcP w Φ .rng (.int 0) b = bnd (evs w Φ [b]) fun vs => bnd (frzs vs) fun ds => match ds with | [d] => opt (itemsD .rng (.int 0) d) | _ => stk := by
    unfold srcP
    rw [srcM_id hb, evs1, bnd_assoc]
    show bnd (ev w Φ b) (fun y => bnd (frz y) fun dy => opt (itemsD .rng (.int 0) dy)) = _
    congr 1
    funext v
    show _ = bnd (frzs [v]) _
    rw [frzs1, bnd_assoc]
    rfl
  rw [e] at h
  refine tEs_seq h (SStep.refl c) r fun c2 vs dvs r2 x2 x02 hσ rels rels0 h2 => ?_
  obtain ⟨ds, c3, hH, r3, x3, rep, h3⟩ := h2.frzs r2 x02 rels0
  rcases ds with _ | ⟨d1, _ | ⟨d2, ds⟩⟩
  · exact h3.elim
  · obtain ⟨u, r1, rfl, q1, q2⟩ := rep
    obtain ⟨es, he, h5⟩ := Aft.opt1 (o := itemsD .rng (.int 0) d1) h3 x3 r3
    obtain ⟨i, j, ei, rfl, rfl, z⟩ := rng_some he
    cases ei
    rw [← hH]
    refine ⟨j, by rw [show u = .int j from q1, show r1 = [] from q2], z.2.2.1, z.2.2.2, ?_⟩
    have q := h5 _ (src_rng (w := w) (c0 := c3) (i := 0) (j := j))
    rw [Int.sub_zero] at q
    exact q
  · exact h3.elim
/-! ### zip -/
theorem zip_some {d1 d2 : D} {ds : List D} (h : itemsD .zip d1 d2 = some ds) : (∃ xs ys, d1 = .lst xs ∧ d2 = .lst ys ∧ ds = (xs.zip ys).map fun p => .tup [p.1, p.2]) ∨ ∃ xs ys, d1 = .tup xs ∧ d2 = .tup ys ∧ ds = (xs.zip ys).map fun p => .tup [p.1, p.2] := by
  cases d1 <;> first | (cases h; done) | skip
  · cases d2 <;> first | (cases h; done) | skip
    cases h
    exact .inr ⟨_, _, rfl, rfl, rfl⟩
  · cases d2 <;> first | (cases h; done) | skip
    cases h
    exact .inl ⟨_, _, rfl, rfl, rfl⟩
theorem i_zip (hK : X.K = w.K) (hb : b ≠ .nop) (hg : Gl X "zip") (hm : X.mg "zip" = none) (ha : PA X [x, y] (tEs w Ex Φ [a, b])) (hs : starEach [x, y] X.env = (false, eval x X.env) :: starEach [y] X.env) (hpl : (backTo pos (starEach [y] X.env)).any (·.1) = false) :
    PI X (.Tuple elts kk tpos) (.Call (.Name "zip" p) [x, y] [] pos) (tI w Ex Φ .zip a b) := (RZ.pi_zipA hg hm ha hs hpl).imp fun σ H R h => by
  obtain ⟨c, rfl, rfl, r, h⟩ := h
  rw [srcP2 hb] at h
  refine tEs_seq h (SStep.refl c) r fun c2 vs dvs r2 x2 x02 hσ rels rels0 h2 => ?_
  obtain ⟨ds, c3, hH, r3, x3, rep, h3⟩ := h2.frzs r2 x02 rels0
  obtain ⟨d1, d2, u, v, rfl, q1, q2, h4⟩ := two_rep h3 rep
  obtain ⟨es, he, h5⟩ := h4.opt1 x3 r3
  rw [← hH, hK]
  rcases zip_some he with ⟨xs, ys, rfl, rfl, rfl⟩ | ⟨xs, ys, rfl, rfl, rfl⟩
  · obtain ⟨A, us, rfl, f1, g1⟩ := q1
    obtain ⟨B, vs, rfl, f2, g2⟩ := q2
    exact ⟨A, B, us, vs, rfl, .inl ⟨r3.sub.sqL (SqL.of f1), r3.sub.sqL (SqL.of f2), h5 _ (src_zip (SqL.of f1) g1 (SqL.of f2) g2)⟩⟩
  · obtain ⟨A, us, rfl, f1, g1⟩ := q1
    obtain ⟨B, vs, rfl, f2, g2⟩ := q2
    exact ⟨A, B, us, vs, rfl, .inr ⟨r3.sub.sqT f1, r3.sub.sqT f2, h5 _ (src_zipT f1 g1 f2 g2)⟩⟩
/-! ### tests of a comprehension -/
theorem ts_nil : PTs X [] (tTst w Ex Φ .nop) := ⟨fun pins s σ H Q I h => by
  obtain ⟨c, rfl, rfl, r, h⟩ := h
  exact pts_nil.run pins s _ _ Q I (Aft.ret (a := true) h (SStep.refl c) r)⟩
theorem tstM_id {m : M DV} (h : e ≠ .nop) : tstM e m = bnd m bool? := by cases e <;> first | rfl | exact absurd rfl h
theorem ts_one (hn : e ≠ .nop) (h : PT X x (tT w Ex Φ e)) : PTs X [x] (tTst w Ex Φ e) := ⟨fun pins s σ H Q I q => by
  refine (pts_one h).run pins s σ H Q I ?_
  obtain ⟨c, h1, h2, h3, h4⟩ := q
  rw [tstM_id hn] at h4
  exact ⟨c, h1, h2, h3, h4⟩⟩
end
end DI

end
section
set_option Elab.async false
set_option linter.all false
set_option maxRecDepth 100000
set_option maxHeartbeats 4000000
/-! DI15: stores. Own text. -/
namespace DI
open PySem PySem.Spec PyProof.Rows L2
section
variable {w : Wd} {Ex : Nat → D → C → Prop} {Φ : Fns} {X : Cx} {x y tg : Expr} {p pos pos' tpos : Pos} {a b e : E} {es : List E} {l : List Expr} {kk k2 : Nat} {α β : Type} {n : Str} {i : Nat}
theorem AftP.own {i : Nat} {f : List DI.D → M β} {c0 c : C} {Q : C → β → Prop} (h : AftP w Ex c0 (DI.bnd (ownAt i) f c.s) Q) (r : R w c) :
    ∃ ds p vs, c.ρ[i]? = some (some (.o ds)) ∧ c.σ[i]? = some (some (.ref p)) ∧ c.H p = some (.lst vs) ∧ RepAll w c.dl c.F ds vs ∧ AftP w Ex c0 (f ds c.s) Q := by
  unfold DI.bnd ownAt at h
  cases e : c.ρ[i]? with
  | none =>
    simp only [C.s, e] at h
    exact h.elim
  | some o =>
    cases o with
    | none =>
      simp only [C.s, e] at h
      exact h.elim
    | some dv =>
      cases dv with
      | o ds =>
        simp only [C.s, e] at h
        obtain ⟨v, e1, p, vs, rfl, q2, q3, q4⟩ := r.slot i _ e
        exact ⟨ds, p, vs, rfl, e1, q3, q4, h⟩
      | f d =>
        simp only [C.s, e] at h
        exact h.elim
      | p d =>
        simp only [C.s, e] at h
        exact h.elim
      | b j =>
        simp only [C.s, e] at h
        exact h.elim
      | n k fs =>
        simp only [C.s, e] at h
        exact h.elim
theorem AftP.if_ {c0 c : C} {p : Prop} [Decidable p] {m : M α} {Q : C → α → Prop} (h : AftP w Ex c0 ((if p then m else stk : M α) c.s) Q) : p ∧ AftP w Ex c0 (m c.s) Q := by
  by_cases hp : p
  · rw [if_pos hp] at h
    exact ⟨hp, h⟩
  · rw [if_neg hp] at h
    exact h.elim
theorem bnd_if {p : Prop} [Decidable p] {m : M α} {f : α → M β} : DI.bnd (if p then m else stk) f = if p then DI.bnd m f else stk := by
  by_cases hp : p
  · rw [if_pos hp, if_pos hp]
  · rw [if_neg hp, if_neg hp]
    rfl
/-- o[k] = v where slot i owns the list -/
theorem setAt_in {f : Unit → M β} {Q : C → β → Prop} {P : Hp → Prop} {c0 c : C} {v : V} {d : DI.D} (h : AftP w Ex c0 (DI.bnd (setAt w.T Φ i e d) f c.s) Q) (r : R w c) (x0 : LStep c0 c) (rep : RepD w c.dl c.F d v)
    (k : ∀ c' : C, c'.σ = c.σ → R w c' → LStep c0 c' → LStep c c' → AftP w Ex c0 (f () c'.s) Q → P c'.H) :
    ∃ o, c.σ[i]? = some (some o) ∧ tE w Ex Φ e c.σ c.H fun u H2 => rSetL o u v H2 P := by
  have h' : AftP w Ex c0 (DI.bnd (ownAt i) (fun _ => DI.bnd (ev w Φ e) (fun x => DI.bnd (look x) fun dk => DI.bnd (int? dk) fun j => DI.bnd (ownAt i) fun xs => if 0 ≤ j ∧ j < xs.length ∧ j < 2 ^ 62 then DI.bnd (setR i (.o (xs.set j.toNat d))) f else stk)) c.s) Q := by
    have q : DI.bnd (setAt w.T Φ i e d) f = DI.bnd (ownAt i) (fun _ => DI.bnd (ev w Φ e) (fun x => DI.bnd (look x) fun dk => DI.bnd (int? dk) fun j => DI.bnd (ownAt i) fun xs => if 0 ≤ j ∧ j < xs.length ∧ j < 2 ^ 62 then DI.bnd (setR i (.o (xs.set j.toNat d))) f else stk)) := by
      unfold setAt
      simp only [bnd_assoc, bnd_if]
    rw [← q]
    exact h
  obtain ⟨ds0, p0, us0, _, ei, _, _, h2⟩ := h'.own r
  refine ⟨.ref p0, ei, tE_seqP h2 x0 r fun c2 u du r2 x2 x02 hσ rel fr q => ?_⟩
  obtain ⟨dk, lk, q⟩ := q.look r2 rel
  obtain ⟨j, ej, q2⟩ := q.int
  subst ej
  obtain ⟨ds, pa, us, e1, e2, e3, e4, q3⟩ := q2.own r2
  obtain ⟨⟨z1, z2, z3⟩, q4⟩ := q3.if_
  rw [hσ, ei] at e2
  cases e2
  have rep2 : RepD w c2.dl c2.F d v := RepD.step x2.toStep rep
  have hσi : c2.σ[i]? = some (some (.ref p0)) := by rw [hσ]; exact ei
  obtain ⟨r', x'⟩ := r2.write hσi e1 (RepAll.set j.toNat e4 rep2)
  obtain ⟨_, q5⟩ := setR_out q4
  refine ⟨p0, us, j, j.toNat, rfl, lk, e3, ?_, ?_⟩
  · unfold L2.ixN
    rw [if_pos z1, if_pos (by rw [e4.length]; exact z2)]
  · exact k { c2 with H := L2.upd c2.H p0 (.lst (us.set j.toNat v)), ρ := c2.ρ.set i (some (.o (ds.set j.toNat d))) } hσ r' (x02.trans x'.l) (x2.l.trans x'.l) q5
/-- the index is no slice -/
def AsgIx (X : Cx) (n : Str) (npos : Pos) (y : Expr) (tpos : Pos) : Prop := ∀ v, assign (.Subscript (.Name n npos) y tpos) X.env v = (do
  let ov ← holding [v] (eval (.Name n npos) X.env)
  let iv ← holding [v, ov] (eval y X.env)
  standAt tpos
  holding [v, ov, iv] (setItem ov iv v)
  release [v, ov, iv] [])
/-- xs[k] = e -/
theorem s_setIx {npos : Pos} (hN : X.N[i]? = some n) (hv : Vis X.env.scope n) (hd : (n == ("__debug__" : Str)) = false) (hcd : (n == ("__classdict__" : Str)) = false) (hk : PE X y (tE w Ex Φ e)) (ha : PE X x (tE w Ex Φ a))
    (hs : swapsWithSole [.Subscript (.Name n npos) y tpos] x pos.line X.env = pure false) (hx : AsgIx X n npos y tpos) : PS X (.Assign [.Subscript (.Name n npos) y tpos] x pos) (tS w Ex Φ (.setIx i e a)) :=
  (ps_asg ha (pg_sub (pe_var hN hv hd hcd) hk set_list hx) hs (by rfl) (by rfl)).imp fun D σ H h => by
    obtain ⟨c, rfl, rfl, r, h⟩ := h
    refine tE_seqP h (LStep.refl c) r fun c2 v dv r2 x2 x02 hσ rel fr q => ?_
    obtain ⟨d, c3, hH, r3, x3, rep, _, _, _, q3⟩ := AftP.frz (f := fun d => bnd (setAt w.T Φ i e d) fun _ => ret Fl.nx) q r2 x2 rel fr
    obtain ⟨o, ho, q4⟩ := setAt_in (P := fun H3 => D.nx c.σ H3) q3 r3 x3.l rep fun c4 hσ4 r4 x4 _ q4 => by
      have e5 : c4.σ = c.σ := hσ4.trans x3.σ
      have q5 := AftP.ret (Ex := Ex) (a := Fl.nx) q4 x4 r4
      have q6 : D.nx c4.σ c4.H := q5
      rw [e5] at q6
      exact q6
    have e3 : c3.σ = c.σ := x3.σ
    rw [e3] at ho q4
    rw [hH] at q4
    exact ⟨o, ho, q4⟩
/-! ### names, stored from the right -/
def sets {α : Type} : List (Option α) → List Nat → List α → List (Option α)
  | l, j :: js, v :: vs => sets (l.set j (some v)) js vs
  | l, _, _ => l
theorem sets_out {l : List (Option α)} {j : Nat} {v : α} : ∀ {js : List Nat} {vs : List α} {l : List (Option α)}, j ∉ js → sets (l.set j (some v)) js vs = (sets l js vs).set j (some v)
  | [], _, _, _ => rfl
  | _ :: _, [], _, _ => rfl
  | i :: js, u :: vs, l, h => by
    have h1 : j ≠ i := fun z => h (by rw [z]; exact List.mem_cons_self)
    have h2 : j ∉ js := fun z => h (List.mem_cons_of_mem _ z)
    show sets ((l.set j (some v)).set i (some u)) js vs = (sets (l.set i (some u)) js vs).set j (some v)
    rw [List.set_comm _ _ h1, sets_out (l := l) h2]
theorem sets_end {j : Nat} {v : α} : ∀ {js : List Nat} {vs : List α} {l : List (Option α)}, js.length = vs.length → sets l (js ++ [j]) (vs ++ [v]) = (sets l js vs).set j (some v)
  | [], [], _, _ => rfl
  | _ :: js, _ :: vs, l, h => sets_end (js := js) (vs := vs) (by simpa using h)
  | [], _ :: _, _, h => by simp at h
  | _ :: _, [], _, h => by simp at h
theorem sets_rev : ∀ {js : List Nat} {vs : List α} {l : List (Option α)}, js.Nodup → js.length = vs.length → sets l js.reverse vs.reverse = sets l js vs
  | [], [], _, _, _ => rfl
  | j :: js, v :: vs, l, nd, h => by
    obtain ⟨n1, n2⟩ := List.nodup_cons.mp nd
    have hl : js.length = vs.length := by simpa using h
    rw [List.reverse_cons, List.reverse_cons, sets_end (by simpa using hl), sets_rev n2 hl]
    exact (sets_out (l := l) n1).symm
  | [], _ :: _, _, _, h => by simp at h
  | _ :: _, [], _, _, h => by simp at h
theorem vals_rev : ∀ {vs : List V} {us : List Value}, Vals vs us → Vals vs.reverse us.reverse
  | _, _, .nil => .nil
  | _, _, .cons r rr => by
    rw [List.reverse_cons, List.reverse_cons]
    exact (vals_rev rr).append (.cons r .nil)
/-- names and their slots -/
inductive NmS (X : Cx) : List Str → List Nat → Prop where
  | nil : NmS X [] []
  | cons {n : Str} {i : Nat} {ns : List Str} {js : List Nat} (hi : X.N[i]? = some n) (hl : X.env.scope.names.lookup n = some .local) (r : NmS X ns js) : NmS X (n :: ns) (i :: js)
theorem NmS.append {ns ms : List Str} {js ks : List Nat} (a : NmS X ns js) (b : NmS X ms ks) : NmS X (ns ++ ms) (js ++ ks) := by
  induction a with
  | nil => exact b
  | cons hi hl _ ih => exact .cons hi hl ih
theorem NmS.rev {ns : List Str} {js : List Nat} (a : NmS X ns js) : NmS X ns.reverse js.reverse := by
  induction a with
  | nil => exact .nil
  | cons hi hl _ ih =>
    rw [List.reverse_cons, List.reverse_cons]
    exact ih.append (.cons hi hl .nil)
theorem NmS.length {ns : List Str} {js : List Nat} (a : NmS X ns js) : ns.length = js.length := by
  induction a with
  | nil => rfl
  | cons _ _ _ ih => rw [List.length_cons, List.length_cons, ih]
theorem stores {pins : List (Addr × Obj)} {Hx : Hp} {Q : Unit → Shared → Prop} (hN : X.N.Nodup) : ∀ {ns : List Str} {js : List Nat} {vs : List V} {us : List Value} {σ : L2.St} {s : Shared}, NmS X ns js → Vals vs us → vs.length = js.length → Inv X pins σ Hx s →
    (∀ s', Inv X pins (sets σ js vs) Hx s' → Q () s') → wpAny (model X.prog X.w) X.A (assignInOrder (ns.map fun n => bindName X.env n) us) Q X.xe s
  | _, _, _, _, _, _, .nil, .nil, _, I, hq => assignInOrder_nil (hq _ I)
  | _, _, _, _, _, _, .cons hi hl r, .cons rv rr, hlen, I, hq =>
    assignInOrder_cons (wpAny_bindName (store_ok I hN hi (.inl hl) rv (fun s2 I2 => stores hN r rr (by simpa using hlen) I2 hq) (.inr hl)))
  | _, _, _, _, _, _, .nil, .cons _ _, h, _, _ => by simp at h
  | _, _, _, _, _, _, .cons _ _ _, .nil, h, _, _ => by simp at h
def tSw (js : List Nat) (ta : TA) : TS := fun D σ H => ta σ H fun vs H1 => vs.length = js.length ∧ D.nx (sets σ js vs) H1
theorem ps_sw {ts : List Expr} {ns : List Str} {js : List Nat} {ta : TA} (hc : X.calm = true) (hN : X.N.Nodup) (nd : js.Nodup) (h3 : js.length ≤ 3) (ok : NmS X ns js) (ha : PA X l ta)
    (hw : swappedStores [.Tuple ts kk tpos] (.Tuple l k2 p) X.env = pure (some ns)) (hs : swapsWithSole [.Tuple ts kk tpos] (.Tuple l k2 p) pos.line X.env = pure false) :
    PS X (.Assign [.Tuple ts kk tpos] (.Tuple l k2 p) pos) (tSw js ta) := by
  refine ⟨fun pins s σ H D I h => ?_⟩
  rw [exec_Assign_arm]
  refine wpAny_bind (wpAny_standAt ?_)
  rw [hs]
  refine wpAny_bind (wpAny_pure ?_)
  rw [if_neg (by decide)]
  have hnl := ok.length
  refine wpAny_bind (wpAny_Tuple_spliced (thn (ha.run _ pins s σ H _ I h) fun us s1 ⟨vs, H1, I1, r1, hl, q1⟩ => ?_))
  have hul : us.length = ns.length := by rw [← r1.length, hl, hnl]
  refine ⟨by rw [hul, hnl, sizeLine_eq]; omega, ?_⟩
  · have I2 : Inv X pins σ H1 { s1 with heap := s1.heap.push { cls := .type "tuple", data := .seq us.toArray } } := I1.kept (t' := s1.toks) fun b o e => Heap.get?_push_of_some _ e
    rw [hw]
    refine wpAny_bind (wpAny_pure ?_)
    show wpAny (model X.prog X.w) X.A (do
      rule "assign.swapped-stores"
      let items ← unpackItems (.ref s1.heap.objs.size) ns.length none
      assignInOrder (ns.reverse.map fun n => bindName X.env n) items.reverse
      pure Flow.next) _ _ _
    refine wpAny_bind (wpAny_rule (wpAny_bind ?_))
    have e : ns.length = us.toArray.size := by rw [List.size_toArray, hul]
    rw [e]
    refine unpackItems_tuple (items := us.toArray) (I.ok.hd hc) (IsTup.new s1.heap _) fun h' hx' => ?_
    have I3 := I2.kept (h' := h') (t' := s1.toks) fun b o e => hx' b o (Nat.ne_of_lt (Heap.lt_size e)) e
    refine wpAny_bind (stores hN ok.rev (vals_rev r1) (by rw [List.length_reverse, List.length_reverse, hl]) I3 fun s' I4 => wpAny_pure ?_)
    rw [sets_rev nd hl.symm] at I4
    exact ⟨_, H1, I4, q1⟩
end
end DI

end
section
set_option Elab.async false
set_option linter.all false
set_option maxRecDepth 100000
set_option maxHeartbeats 4000000
/-! DI16: several targets; fields. Own text. -/
namespace DI
open PySem PySem.Spec PyProof.Rows L2
def isB : DV → Bool
  | .b _ => true
  | _ => false
section
variable {w : Wd} {Ex : Nat → D → C → Prop} {Φ : Fns} {X : Cx} {x y tg : Expr} {p pos pos' tpos npos : Pos} {a b e : E} {es : List E} {l : List Expr} {kk k2 : Nat} {α β : Type} {n : Str} {i : Nat}
theorem settle_noExc : ∀ {ds : List DV} {s : S} {k d s'}, settle ds s ≠ .exc k d s'
  | [], _, _, _, _, h => by cases h
  | .b i :: ds, s, k, d', s', h => by
    rcases bnd_exc (show DI.bnd (DI.frz (.b i)) (fun y => DI.bnd (settle ds) fun ys => DI.ret (.f y :: ys)) s = .exc k d' s' from h) with h1 | ⟨a, s1, _, h1⟩
    · exact frz_noExc h1
    · rcases bnd_exc h1 with h2 | ⟨b, s2, _, h2⟩
      · exact settle_noExc h2
      · cases h2
  | .f d :: ds, s, k, d', s', h => by
    rcases bnd_exc (show DI.bnd (settle ds) (fun ys => DI.ret (.f d :: ys)) s = .exc k d' s' from h) with h1 | ⟨a, s1, _, h1⟩
    · exact settle_noExc h1
    · cases h1
  | .o d :: ds, s, k, d', s', h => by
    rcases bnd_exc (show DI.bnd (settle ds) (fun ys => DI.ret (.o d :: ys)) s = .exc k d' s' from h) with h1 | ⟨a, s1, _, h1⟩
    · exact settle_noExc h1
    · cases h1
  | .p d :: ds, s, k, d', s', h => by
    rcases bnd_exc (show DI.bnd (settle ds) (fun ys => DI.ret (.p d :: ys)) s = .exc k d' s' from h) with h1 | ⟨a, s1, _, h1⟩
    · exact settle_noExc h1
    · cases h1
  | .n c d :: ds, s, k, d', s', h => by
    rcases bnd_exc (show DI.bnd (settle ds) (fun ys => DI.ret (.n c d :: ys)) s = .exc k d' s' from h) with h1 | ⟨a, s1, _, h1⟩
    · exact settle_noExc h1
    · cases h1
/-- values that lean on a slot let it be -/
theorem settle_ok {c0 : C} : ∀ {dvs : List DV} {vs : List V} {c : C} {ws : List DV} {s' : S}, R w c → Rels w c0.H c vs dvs → SStep c0 c → settle dvs c.s = .ok ws s' →
    ∃ c', c'.s = s' ∧ c'.H = c.H ∧ R w c' ∧ SStep c0 c' ∧ SStep c c' ∧ Rels w c0.H c' vs ws ∧ (∀ d ∈ ws, isB d = false) ∧ ∀ (j : Nat) d, ws[j]? = some d → isO d = true → ∃ d', dvs[j]? = some d' ∧ isO d' = true
  | [], [], c, ws, s', r, rel, x, h => by
    cases h
    exact ⟨c, rfl, rfl, r, x, SStep.refl c, trivial, fun d h => by simp at h, fun j d h => by simp at h⟩
  | [], _ :: _, _, _, _, _, rel, _, _ => rel.elim
  | _ :: _, [], _, _, _, _, rel, _, _ => rel.elim
  | dv :: dvs, v :: vs, c, ws, s', r, ⟨h1, h2, h3, h4⟩, x, h => by
    by_cases hb : isB dv = true
    · cases dv with
      | b i =>
        obtain ⟨d, s1, q1, q2⟩ := bnd_ok (show DI.bnd (DI.frz (.b i)) (fun y => DI.bnd (settle dvs) fun ys => DI.ret (.f y :: ys)) c.s = .ok ws s' from h)
        obtain ⟨ws', s2, q3, q4⟩ := bnd_ok q2
        cases q4
        obtain ⟨c1, rfl, hH, r1, x1, rep, _, _, oth⟩ := frz_ok (c0 := c) r h1 (SStep.refl c) trivial q1
        have rels1 : Rels w c0.H c1 vs dvs := Rels.others oth (fun i u e a b z => by cases z) h4
        obtain ⟨c2, e2, hH2, r2, x2, x22, rels2, nb, ow⟩ := settle_ok r1 rels1 (x.trans x1) q3
        refine ⟨c2, e2, hH2.trans hH, r2, x2, x1.trans x22, ⟨RepD.step x22.toStep rep, trivial, (fun i u e _ _ z => by cases z), rels2⟩, fun d hd => ?_, fun j d hd hdo => ?_⟩
        · rcases List.mem_cons.mp hd with rfl | hd
          · rfl
          · exact nb d hd
        · cases j with
          | zero => simp at hd; subst hd; cases hdo
          | succ j => exact ow j d (by simpa using hd) hdo
      | f d => cases hb
      | p d => cases hb
      | o d => cases hb
      | n k d => cases hb
    · have hb' : isB dv = false := by simpa using hb
      have h' : DI.bnd (settle dvs) (fun ys => DI.ret (dv :: ys)) c.s = .ok ws s' := by
        cases dv with
        | b i => cases hb'
        | f d => exact h
        | p pds => exact h
        | o d => exact h
        | n k d => exact h
      obtain ⟨ws', s2, q3, q4⟩ := bnd_ok h'
      cases q4
      obtain ⟨c2, e2, hH2, r2, x2, x22, rels2, nb, ow⟩ := settle_ok r h4 x q3
      refine ⟨c2, e2, hH2, r2, x2, x22, ⟨h1.step x22, h2, fun j u d hu hd ho1 ho2 => ?_, rels2⟩, fun d hd => ?_, fun j d hd hdo => ?_⟩
      · obtain ⟨d', e', o'⟩ := ow j d hd ho2
        exact h3 j u d' hu e' ho1 o'
      · rcases List.mem_cons.mp hd with rfl | hd
        · exact hb'
        · exact nb d hd
      · cases j with
        | zero => simp at hd; subst hd; exact ⟨dv, rfl, hdo⟩
        | succ j => exact ow j d (by simpa using hd) hdo
theorem AftP.settle {c0 c1 c : C} {dvs : List DV} {vs : List V} {f : List DV → M β} {Q : C → β → Prop} (h : AftP w Ex c0 (DI.bnd (DI.settle dvs) f c.s) Q) (r : R w c) (x : SStep c1 c) (rel : Rels w c1.H c vs dvs) :
    ∃ ws c', c'.H = c.H ∧ R w c' ∧ SStep c1 c' ∧ Rels w c1.H c' vs ws ∧ (∀ d ∈ ws, isB d = false) ∧ AftP w Ex c0 (f ws c'.s) Q := by
  unfold DI.bnd at h
  cases e : DI.settle dvs c.s with
  | ok ws s' =>
    rw [e] at h
    obtain ⟨c', rfl, hH, r', x', _, rels, nb, _⟩ := settle_ok r rel x e
    exact ⟨ws, c', hH, r', x', rels, nb, h⟩
  | exc k d s => exact (settle_noExc e).elim
  | stuck => rw [e] at h; exact h.elim
theorem Rels.mono {H : Hp} {c c' : C} (x : ∀ u e, (∀ j, e ≠ .b j) → Rel w c u e → Rel w c' u e) : ∀ {vs : List V} {ds : List DV}, (∀ d ∈ ds, isB d = false) → Rels w H c vs ds → Rels w H c' vs ds
  | [], [], _, h => h
  | _ :: _, d :: _, nb, ⟨h1, h2, h3, h4⟩ => ⟨x _ _ (fun j z => by have := nb d List.mem_cons_self; rw [z] at this; cases this) h1, h2, h3, Rels.mono x (fun d hd => nb d (List.mem_cons_of_mem _ hd)) h4⟩
  | [], _ :: _, _, h => h.elim
  | _ :: _, [], _, h => h.elim
theorem Rels.keep {H : Hp} {c c' : C} {v : V} {dv : DV} (x : ∀ u e, (∀ j, e ≠ .b j) → (isO dv = true → isO e = true → u ≠ v) → Rel w c u e → Rel w c' u e) : ∀ {vs : List V} {ds : List DV}, (∀ d ∈ ds, isB d = false) → (∀ (i : Nat) u e, vs[i]? = some u → ds[i]? = some e → isO dv = true → isO e = true → u ≠ v) → Rels w H c vs ds → Rels w H c' vs ds
  | [], [], _, _, h => h
  | u :: _, d :: _, nb, ne, ⟨h1, h2, h3, h4⟩ => ⟨x _ _ (fun j z => by have := nb d List.mem_cons_self; rw [z] at this; cases this) (ne 0 u d rfl rfl) h1, h2, h3, Rels.keep x (fun d hd => nb d (List.mem_cons_of_mem _ hd)) (fun i u e a b => ne (i + 1) u e (by simpa using a) (by simpa using b)) h4⟩
  | [], _ :: _, _, _, h => h.elim
  | _ :: _, [], _, _, h => h.elim
/-- names kept, from the left -/
theorem asgN_ok {f : Unit → M β} {Q : C → β → Prop} {c0 : C} : ∀ {js : List Nat} {ws : List DV} {vs : List V} {c : C}, AftP w Ex c0 (DI.bnd (asgXs w.T Φ (js.map .nm) ws) f c.s) Q → R w c → LStep c0 c → Rels w c0.H c vs ws → (∀ d ∈ ws, isB d = false) →
    ∃ c' : C, c'.σ = sets c.σ js vs ∧ c'.H = c.H ∧ R w c' ∧ LStep c0 c' ∧ vs.length = js.length ∧ AftP w Ex c0 (f () c'.s) Q
  | [], [], [], c, h, r, x, _, _ => ⟨c, rfl, rfl, r, x, rfl, h⟩
  | j :: js, d :: ds, v :: vs, c, h, r, x, ⟨h1, h2, h3, h4⟩, nb => by
    have h' : AftP w Ex c0 (DI.bnd (keep j d) (fun _ => DI.bnd (asgXs w.T Φ (js.map .nm) ds) f) c.s) Q := by
      rw [← bnd_assoc]
      exact h
    obtain ⟨c1, e1, e2, r1, x1, oth, q⟩ := keep_ok h' r x h1 h2
    have rels := Rels.keep oth (fun d hd => nb d (List.mem_cons_of_mem _ hd)) h3 h4
    obtain ⟨c2, f1, f2, r2, x2, hl, q2⟩ := asgN_ok q r1 x1 rels fun d hd => nb d (List.mem_cons_of_mem _ hd)
    exact ⟨c2, by rw [f1, e1]; rfl, f2.trans e2, r2, x2, by rw [List.length_cons, List.length_cons, hl], q2⟩
  | [], [], _ :: _, _, _, _, _, h, _ => h.elim
  | [], _ :: _, _, _, h, _, _, _, _ => h.elim
  | _ :: _, [], _, _, h, _, _, _, _ => h.elim
  | _ :: _, _ :: _, [], _, _, _, _, h, _ => h.elim
theorem s_parN {ts : List Expr} {ns : List Str} {js : List Nat} (hc : X.calm = true) (hN : X.N.Nodup) (nd : js.Nodup) (h3 : js.length ≤ 3) (ok : NmS X ns js) (ha : PA X l (tEs w Ex Φ es))
    (hw : swappedStores [.Tuple ts kk tpos] (.Tuple l k2 p) X.env = pure (some ns)) (hs : swapsWithSole [.Tuple ts kk tpos] (.Tuple l k2 p) pos.line X.env = pure false) :
    PS X (.Assign [.Tuple ts kk tpos] (.Tuple l k2 p) pos) (tS w Ex Φ (.par (js.map .nm) es)) := (ps_sw hc hN nd h3 ok ha hw hs).imp fun D σ H h => by
  obtain ⟨c, rfl, rfl, r, h⟩ := h
  refine tEs_seqP h (LStep.refl c) r fun c2 vs dvs r2 x2 x02 hσ rels q => ?_
  obtain ⟨ws, c3, hH, r3, x3, rels3, nb, q3⟩ := AftP.settle (f := fun ws => bnd (asgXs w.T Φ (js.map .nm) ws) fun _ => ret Fl.nx) q r2 x2 rels
  obtain ⟨c4, e1, e2, r4, x4, hl, q4⟩ := asgN_ok q3 r3 x3.l rels3 nb
  have e3 : c3.σ = c.σ := x3.σ
  have q5 : D.nx c4.σ c4.H := AftP.ret (Ex := Ex) (a := Fl.nx) q4 x4 r4
  rw [e1, e2, e3, hH] at q5
  exact ⟨hl, q5⟩
/-- targets of any kind, from the left -/
def gXs (w : Wd) (Ex : Nat → D → C → Prop) (Φ : Fns) (ts : List TX) : TGs := fun vs σ H Q => ∃ (c0 c : C) (ws : List DV), c.σ = σ ∧ c.H = H ∧ R w c ∧ LStep c0 c ∧ Rels w c0.H c vs ws ∧ (∀ d ∈ ws, isB d = false) ∧ AftP w Ex c0 (asgXs w.T Φ ts ws c.s) fun c' _ => Q c'.σ c'.H
theorem gx_nil : PGs X [] (gXs w Ex Φ []) := pgs_nil.imp fun vs σ H Q h => by
  obtain ⟨c0, c, ws, rfl, rfl, r, x, rel, nb, h⟩ := h
  cases ws with
  | nil =>
    cases vs with
    | nil => exact ⟨rfl, AftP.ret (a := ()) h x r⟩
    | cons v vs => exact rel.elim
  | cons d ds => exact h.elim
theorem gx_nm {ts : List TX} (hN : X.N.Nodup) (hi : X.N[i]? = some n) (hx : Loc X.env.scope n) (hf : X.fn n = true ∨ X.env.scope.names.lookup n = some .local) (h2 : PGs X l (gXs w Ex Φ ts)) (hs : (assignEach (.Name n npos :: l) X.env).map (·.2) = assign (.Name n npos) X.env :: (assignEach l X.env).map (·.2)) :
    PGs X (.Name n npos :: l) (gXs w Ex Φ (.nm i :: ts)) := (pgs_cons (pg_name hN hi hx hf) h2 hs).imp fun vs σ H Q h => by
  obtain ⟨c0, c, ws, rfl, rfl, r, x, rel, nb, h⟩ := h
  rcases ws with _ | ⟨d, ds⟩
  · exact h.elim
  rcases vs with _ | ⟨v, vs⟩
  · exact rel.elim
  obtain ⟨r1, r2, r3, r4⟩ := rel
  obtain ⟨c1, e1, e2, rc, x1, oth, q⟩ := keep_ok (f := fun _ => asgXs w.T Φ ts ds) h r x r1 r2
  refine ⟨v, vs, rfl, ?_⟩
  have rels := Rels.keep oth (fun d hd => nb d (List.mem_cons_of_mem _ hd)) r3 r4
  exact ⟨c0, c1, ds, e1, e2, rc, x1, rels, fun d hd => nb d (List.mem_cons_of_mem _ hd), q⟩
theorem gx_ix {ts : List TX} (hi : X.N[i]? = some n) (hv : Vis X.env.scope n) (hd : (n == ("__debug__" : Str)) = false) (hcd : (n == ("__classdict__" : Str)) = false) (hk : PE X y (tE w Ex Φ e)) (hx : AsgIx X n npos y tpos) (h2 : PGs X l (gXs w Ex Φ ts))
    (hs : (assignEach (.Subscript (.Name n npos) y tpos :: l) X.env).map (·.2) = assign (.Subscript (.Name n npos) y tpos) X.env :: (assignEach l X.env).map (·.2)) :
    PGs X (.Subscript (.Name n npos) y tpos :: l) (gXs w Ex Φ (.ix i e :: ts)) := (pgs_cons (pg_sub (pe_var hi hv hd hcd) hk set_list hx) h2 hs).imp fun vs σ H Q h => by
  obtain ⟨c0, c, ws, rfl, rfl, r, x, rel, nb, h⟩ := h
  rcases ws with _ | ⟨d, ds⟩
  · exact h.elim
  rcases vs with _ | ⟨v, vs⟩
  · exact rel.elim
  obtain ⟨r1, r2, r3, r4⟩ := rel
  refine ⟨v, vs, rfl, ?_⟩
  cases d with
  | f d =>
    obtain ⟨o, ho, q⟩ := setAt_in (P := fun H3 => gXs w Ex Φ ts vs c.σ H3 Q) (f := fun _ => asgXs w.T Φ ts ds) h r x r1 fun c4 hσ4 r5 x5 x6 q4 => by
      refine ⟨c0, c4, ds, hσ4, rfl, r5, x5, ?_, fun d hd => nb d (List.mem_cons_of_mem _ hd), q4⟩
      refine Rels.mono (fun u e nbe re => ?_) (fun d hd => nb d (List.mem_cons_of_mem _ hd)) r4
      exact Rel.step ⟨x6.toStep, hσ4, x6.pres, fun j k fs h => (x6.ini j k fs h).1⟩ re
    exact ⟨o, ho, q⟩
  | o d => exact h.elim
  | p d => exact h.elim
  | b j => exact h.elim
  | n k d => exact h.elim
theorem chk_inP {c0 c : C} {n : Nat} {vs : List DV} {f : M β} {Q : C → β → Prop} (h : AftP w Ex c0 (DI.bnd (chk n vs) (fun _ => f) c.s) Q) : vs.length = n ∧ AftP w Ex c0 (f c.s) Q := by
  simp only [DI.bnd, chk] at h
  by_cases hv : vs.length = n
  · rw [if_pos hv] at h
    exact ⟨hv, h⟩
  · rw [if_neg hv] at h
    exact h.elim
theorem AftP.bnd0 {c0 c1 : C} {m : M α} {f : α → M β} {Q : C → β → Prop} (h : AftP w Ex c0 (DI.bnd m f c1.s) Q) : AftP w Ex c0 (m c1.s) fun c2 a => LStep c0 c2 ∧ R w c2 ∧ AftP w Ex c0 (f a c2.s) Q := by
  unfold DI.bnd at h
  cases e : m c1.s with
  | ok a s =>
    rw [e] at h
    intro c2 hs r2 x2
    exact ⟨x2, r2, by rw [hs]; exact h⟩
  | exc k d s =>
    rw [e] at h
    exact h
  | stuck => rw [e] at h; exact h
theorem s_parX {ts : List Expr} {xs : List TX} (hK : X.K = w.K) (hc : X.calm = true) (ha : PA X l (tEs w Ex Φ es)) (hg : PGs X ts (gXs w Ex Φ xs)) (hl : es.length = xs.length) (hsz : xs.length ≤ 64) (hn : (assignEach ts X.env).length = xs.length) (hst : (assignEach ts X.env).findIdx? (·.1) = none)
    (hw : swappedStores [.Tuple ts kk tpos] (.Tuple l k2 p) X.env = pure none) (hs : swapsWithSole [.Tuple ts kk tpos] (.Tuple l k2 p) pos.line X.env = pure false) :
    PS X (.Assign [.Tuple ts kk tpos] (.Tuple l k2 p) pos) (tS w Ex Φ (.par xs es)) := (ps_asg (pe_tup ha) (pg_tup hc hg hn hst) hs hw (by rfl)).imp fun D σ H h => by
  obtain ⟨c, rfl, rfl, r, h⟩ := h
  have h' : AftP w Ex c (DI.bnd (evs w Φ es) (fun vs => DI.bnd (chk es.length vs) fun _ => DI.bnd (settle vs) fun ws => DI.bnd (asgXs w.T Φ xs ws) fun _ => ret Fl.nx) c.s) (FlQ w c D) := by
    rw [← chk_bnd (f := fun vs => DI.bnd (settle vs) fun ws => DI.bnd (asgXs w.T Φ xs ws) fun _ => ret Fl.nx)]
    exact h
  show tEs w Ex Φ es c.σ c.H (fun us H1 => us.length ≤ sizeLine ∧ ∀ p, H1 p = none → gTup X.K xs.length (gXs w Ex Φ xs) (.ref p) c.σ (L2.upd H1 p (.tup us)) D.nx)
  refine tEs_seqP h' (LStep.refl c) r fun c2 vs dvs r2 x2 x02 hσ rels q => ?_
  obtain ⟨hv, q⟩ := chk_inP q
  obtain ⟨ws, c3, hH, r3, x3, rels3, nb, q3⟩ := AftP.settle (f := fun ws => DI.bnd (asgXs w.T Φ xs ws) fun _ => ret Fl.nx) q r2 x2 rels
  have len : vs.length = xs.length := by rw [rels.length, hv, hl]
  refine ⟨by rw [len, sizeLine_eq]; omega, fun q hq => ?_⟩
  have hq3 : c3.H q = none := by rw [hH]; exact hq
  obtain ⟨r4, x4⟩ := r3.lay hq3 (.tup vs)
  refine ⟨q, vs, rfl, SqT.of upd_same, len, c, { c3 with H := L2.upd c3.H q (.tup vs) }, ws, x3.σ, by rw [← hH], r4, x3.l.trans x4.l, Rels.step (fun u e re => re.step x4) rels3, nb, ?_⟩
  refine (AftP.bnd0 (c1 := { c3 with H := L2.upd c3.H q (.tup vs) }) (m := asgXs w.T Φ xs ws) q3).imp fun c5 _ r5 x5 ⟨_, _, q5⟩ => ?_
  exact AftP.ret (Ex := Ex) (a := Fl.nx) q5 x5 r5
/-- a, b = e -/
theorem s_unp {ts : List Tg} (ha : PE X x (tE w Ex Φ a)) (hg : PG X tg (gT w Ex (.tp ts))) (hs : swapsWithSole [tg] x pos.line X.env = pure false) (hw : swappedStores [tg] x X.env = pure none) (h1 : (assignEach [tg] X.env).map (·.2) = [assign tg X.env]) :
    PS X (.Assign [tg] x pos) (tS w Ex Φ (.unp ts a)) := (ps_asg ha hg hs hw h1).imp fun D σ H h => by
  obtain ⟨c, rfl, rfl, r, h⟩ := h
  refine tE_seqP h (LStep.refl c) r fun c2 v dv r2 x2 x02 hσ rel fr q => ?_
  obtain ⟨d, c3, hH, r3, x3, rep, _, _, _, q2⟩ := AftP.frz (f := fun d => DI.bnd (asgT (.tp ts) d) fun _ => ret Fl.nx) q r2 x2 rel fr
  refine ⟨c3, d, x3.σ, hH, r3, rep, (AftP.bnd (m := asgT (.tp ts) d) q2 x3.l).imp fun c5 _ r5 x5 ⟨_, _, q5⟩ => ?_⟩
  exact AftP.ret (Ex := Ex) (a := Fl.nx) q5 (x3.l.trans x5) r5
/-! ### a field of the instance in the making -/
/-- the class at K has no attribute of these names: an instance's own are found -/
structure FldOk (w : Wd) (X : Cx) (k0 : Nat) (f : Str) : Prop where
  cls : Cls X.K (w.ca k0)
  no : NoAttr X.K (w.ca k0) f
  few : (w.T.fl k0).length < 900
theorem putF_new (f : Str) (v : V) : ∀ {fs : List (Str × V)}, (∀ p ∈ fs, p.1 ≠ f) → putF f v fs = fs ++ [(f, v)]
  | [], _ => rfl
  | (g, u) :: r, h => by
    show (if g = f then (g, v) :: r else (g, u) :: putF f v r) = _
    rw [if_neg (h _ List.mem_cons_self), putF_new f v fun p hp => h p (List.mem_cons_of_mem _ hp)]
    rfl
theorem zip_snoc {α β : Type} : ∀ {ns : List α} {vs : List β} {n : α} {v : β}, ns[vs.length]? = some n → ns.zip (vs ++ [v]) = ns.zip vs ++ [(n, v)]
  | [], vs, n, v, h => by simp at h
  | m :: ns, [], n, v, h => by
    simp at h
    subst h
    simp
  | m :: ns, u :: vs, n, v, h => by
    show (m, u) :: ns.zip (vs ++ [v]) = _
    rw [zip_snoc (by simpa using h)]
    rfl
theorem s_fset {k : Nat} {fpos opos : Pos} {f : Str} (hK : X.K = w.K) (h0 : X.N[(0 : Nat)]? = some n) (hv : Vis X.env.scope n) (hd : (n == ("__debug__" : Str)) = false) (hcd : (n == ("__classdict__" : Str)) = false) (hf : w.fn k = f) (ok : ∀ k0, k ∈ w.T.fl k0 → FldOk w X k0 f ∧ (w.names k0).Nodup)
    (ha : PE X x (tE w Ex Φ a)) (hs : swapsWith x (some (.Attribute (.Name n opos) f fpos)) pos.line X.env = pure false) : PS X (.Assign [.Attribute (.Name n opos) f fpos] x pos) (tS w Ex Φ (.fset k a)) := (ps_fld (pe_var h0 hv hd hcd) ha hs).imp fun D σ H h => by
  obtain ⟨c, rfl, rfl, r, h⟩ := h
  refine tE_seqP h (LStep.refl c) r fun c2 v dv r2 x2 x02 hσ rel fr q => ?_
  obtain ⟨d, c3, hH, r3, x3, rep, _, _, _, q3⟩ := AftP.frz (f := fun d => DI.bnd (fsetM w.T k d) fun _ => ret Fl.nx) q r2 x2 rel fr
  have e3 : c3.σ = c.σ := x3.σ
  unfold DI.bnd fsetM at q3
  cases e0 : c3.ρ[(0 : Nat)]? with
  | none =>
    simp only [C.s, e0] at q3
    exact q3.elim
  | some o =>
    cases o with
    | none =>
      simp only [C.s, e0] at q3
      exact q3.elim
    | some d0 =>
      cases d0 with
      | f d' => simp only [C.s, e0] at q3; exact q3.elim
      | p pds => simp only [C.s, e0] at q3; exact q3.elim
      | o d' => simp only [C.s, e0] at q3; exact q3.elim
      | b d' => simp only [C.s, e0] at q3; exact q3.elim
      | n k0 fs =>
        simp only [C.s, e0] at q3
        by_cases hk : (w.T.fl k0)[fs.length]? = some k
        · simp only [hk, if_true] at q3
          obtain ⟨v0, f1, A, dx, us, rfl, f3, f4, f5, f6⟩ := r3.slot 0 _ e0
          obtain ⟨⟨okc, okn, okf⟩, nd⟩ := ok k0 (List.mem_of_getElem? hk)
          have ul : us.length = fs.length := f6.length
          have nm : (w.names k0)[us.length]? = some f := by rw [List.getElem?_map, ul, hk, ← hf]; rfl
          have hlt : fs.length < (w.T.fl k0).length := (List.getElem?_eq_some_iff.mp hk).1
          have znew : ∀ p ∈ (w.names k0).zip us, p.1 ≠ f := fun p hp ep => by
            obtain ⟨j, hj, ej⟩ := List.getElem_of_mem hp
            have hj' : j < us.length := by rw [List.length_zip] at hj; omega
            have q1 : (w.names k0)[j]? = some f := by
              have z : ((w.names k0).zip us)[j]? = some p := by rw [List.getElem?_eq_getElem hj, ej]
              obtain ⟨z1, _⟩ := List.getElem?_zip_eq_some.mp z
              rw [z1, ep]
            have hl1 : j < (w.names k0).length := (List.getElem?_eq_some_iff.mp q1).1
            have := (List.getElem?_inj hl1 nd).mp (q1.trans nm.symm)
            omega
          have pf : putF f v ((w.names k0).zip us) = (w.names k0).zip (us ++ [v]) := by rw [putF_new f v znew, zip_snoc nm]
          have eσ : c.σ[(0 : Nat)]? = some (some (.ref A)) := by rw [← e3]; exact f1
          have own0 : Own c3 0 A := ⟨f1, _, e0, rfl⟩
          refine ⟨.ref A, eσ, A, w.ca k0, dx, (w.names k0).zip us, rfl, by rw [← hH]; exact f4, okc, okn, ?_, ?_⟩
          · rw [List.length_zip, List.length_map]; omega
          · rw [pf, ← e3, ← hH]
            -- the heap behind
            have hρ : (0 : Nat) < c3.ρ.length := (List.getElem?_eq_some_iff.mp e0).1
            have hset : ∀ (j : Nat) (dv : DV), (c3.ρ.set 0 (some (.n k0 (fs ++ [d]))))[j]? = some (some dv) → (j = 0 ∧ dv = .n k0 (fs ++ [d])) ∨ (j ≠ 0 ∧ c3.ρ[j]? = some (some dv)) := fun j dv hj => by
              cases j with
              | zero =>
                rw [List.getElem?_set_self hρ] at hj
                cases hj
                exact .inl ⟨rfl, rfl⟩
              | succ j =>
                rw [List.getElem?_set_ne (by omega)] at hj
                exact .inr ⟨by omega, hj⟩
            have own : ∀ {j : Nat} {b : Addr}, Own { c3 with H := L2.upd c3.H A (.ins (w.ca k0) dx ((w.names k0).zip (us ++ [v]))), ρ := c3.ρ.set 0 (some (.n k0 (fs ++ [d]))) } j b → Own c3 j b := fun {j b} ⟨g1, dv, g2, g3⟩ => by
              rcases hset j dv g2 with ⟨rfl, rfl⟩ | ⟨_, g⟩
              · exact ⟨g1, _, e0, rfl⟩
              · exact ⟨g1, dv, g, g3⟩
            have r4 : R w { c3 with H := L2.upd c3.H A (.ins (w.ca k0) dx ((w.names k0).zip (us ++ [v]))), ρ := c3.ρ.set 0 (some (.n k0 (fs ++ [d]))) } := by
              refine ⟨fun b u hb => ?_, by rw [List.length_set]; exact r3.len, fun j dv hj => ?_, fun i j b g1 g2 => r3.dist i j b (own g1) (own g2), fun i b p g hp => r3.ndeal i b p (own g) hp, ?_⟩
              · have z : b ≠ A := fun z => by
                  have hb' : c3.F b = some u := hb
                  rw [z, f3] at hb'
                  cases hb'
                exact (upd_ne z).trans (r3.sub b u hb)
              · rcases hset j dv hj with ⟨rfl, rfl⟩ | ⟨hj0, g⟩
                · exact ⟨.ref A, f1, A, dx, us ++ [v], rfl, f3, upd_same, by rw [List.length_append, List.length_map, ul]; show fs.length + 1 ≤ _; omega, RepAll.append f6 (RepAll.one rep)⟩
                · obtain ⟨u, g1, g2⟩ := r3.slot j dv g
                  refine ⟨u, g1, ?_⟩
                  cases dv with
                  | f d' => exact g2
                  | p pds => exact g2
                  | o ds =>
                    obtain ⟨b, bs, rfl, q1, q2, q4⟩ := g2
                    have z : b ≠ A := fun z => hj0 (r3.dist j 0 A (by rw [← z]; exact ⟨g1, _, g, rfl⟩) own0)
                    exact ⟨b, bs, rfl, q1, (upd_ne z).trans q2, q4⟩
                  | n k' ds =>
                    obtain ⟨b, bx, bs, rfl, q1, q2, q4⟩ := g2
                    have z : b ≠ A := fun z => hj0 (r3.dist j 0 A (by rw [← z]; exact ⟨g1, _, g, rfl⟩) own0)
                    exact ⟨b, bx, bs, rfl, q1, (upd_ne z).trans q2, q4⟩
                  | b j' => exact g2
              · refine ⟨DealAt.imp r3.deal.1 fun p hp => ?_, r3.deal.2.imp (KeepT.upd (r3.ownFx own0)) noTb_refl (noTb_upd rfl)⟩
                obtain ⟨n1, n2⟩ := r3.ndeal 0 A p own0 hp
                exact ⟨fun h => h, fun h => h, fun o h => (upd_ne fun z => n1 z.symm).trans h, fun o h => (upd_ne fun z => n2 z.symm).trans h⟩
            have x4 : LStep c3 { c3 with H := L2.upd c3.H A (.ins (w.ca k0) dx ((w.names k0).zip (us ++ [v]))), ρ := c3.ρ.set 0 (some (.n k0 (fs ++ [d]))) } := by
              refine ⟨⟨Le.refl _, fun b u hb n _ => ?_, fun b hb => ?_, fun b hb => .inl hb, fun b hb => .inl ?_, DlLe.refl _⟩, fun j dv hj => ?_, fun j k' fs' hj => ?_⟩
              · exact (upd_ne fun z => n (.inl ⟨0, by rw [z]; exact own0⟩)).trans hb
              · by_cases z : b = A
                · have hb' : L2.upd c3.H A _ b = none := hb
                  rw [z, upd_same] at hb'
                  cases hb'
                · have hb' : L2.upd c3.H A _ b = none := hb
                  rw [upd_ne z] at hb'
                  exact hb'
              · rcases hb with ⟨j, g⟩ | g
                · exact .inl ⟨j, own g⟩
                · exact .inr g
              · cases j with
                | zero => exact ⟨_, List.getElem?_set_self hρ⟩
                | succ j => exact ⟨dv, (List.getElem?_set_ne (by omega)).trans hj⟩
              · rcases hset j _ hj with ⟨rfl, q⟩ | ⟨_, q⟩
                · cases q
                  exact ⟨⟨fs, e0⟩, rfl⟩
                · exact ⟨⟨fs', q⟩, rfl⟩
            exact q3 { c3 with H := L2.upd c3.H A (.ins (w.ca k0) dx ((w.names k0).zip (us ++ [v]))), ρ := c3.ρ.set 0 (some (.n k0 (fs ++ [d]))) } rfl r4 (x3.l.trans x4)
        · simp only [hk, if_false] at q3
          exact q3.elim
end
end DI

end
section
set_option Elab.async false
set_option linter.all false
set_option maxRecDepth 100000
set_option maxHeartbeats 4000000
/-! DI17: a def's body keeps its promise. Own text. -/
namespace DI
open PySem PySem.Spec PyProof.Rows L2
/-- what an exception is to reach, at a body of the wish E -/
def exOf (EF : XK → Nat → D → C → Prop) (E : XK) : Nat → D → C → Prop := fun k d c => EF E k d c.bare
section
variable {w : Wd} {EF : XK → Nat → D → C → Prop} {Φ : Fns} {c : C} {ds : List D} {vs : List V} {Q : VK} {E : XK} {N : List Str} {b : List Sm}
/-- at the body's start -/
def C.enter (c : C) (N : List Str) (ds : List D) (vs : List V) : C := ⟨c.dl, c.F, c.H, start N vs, startR N.length ds, c.g⟩
theorem start_len {N : List Str} {vs : List V} (h : vs.length ≤ N.length) : (start N vs).length = N.length := by
  unfold L2.start
  rw [List.length_append, List.length_map, List.length_replicate]
  omega
theorem startR_len {n : Nat} {ds : List D} (h : ds.length ≤ n) : (startR n ds).length = n := by
  unfold startR
  rw [List.length_append, List.length_map, List.length_replicate]
  omega
theorem startR_at {n : Nat} {ds : List D} {i : Nat} {dv : DV} (h : (startR n ds)[i]? = some (some dv)) : ∃ d, ds[i]? = some d ∧ dv = .f d := by
  unfold startR at h
  by_cases hi : i < ds.length
  · rw [List.getElem?_append_left (by simpa using hi), List.getElem?_map] at h
    cases e : ds[i]? with
    | none => rw [e] at h; cases h
    | some d =>
      rw [e] at h
      cases h
      exact ⟨d, rfl, rfl⟩
  · rw [List.getElem?_append_right (by simpa using hi), List.getElem?_replicate] at h
    split at h <;> cases h
theorem start_at {N : List Str} {vs : List V} {i : Nat} {v : V} (h : vs[i]? = some v) : (start N vs)[i]? = some (some v) := by
  have hi : i < vs.length := (List.getElem?_eq_some_iff.mp h).1
  unfold L2.start
  rw [List.getElem?_append_left (by simpa using hi), List.getElem?_map, h]
  rfl
theorem R.enter (r : R w c) (rep : RepAll w c.dl c.F ds vs) (hl : ds.length ≤ N.length) : R w (c.enter N ds vs) := by
  have noOwn : ∀ {i : Nat} {a : Addr}, ¬ Own (c.enter N ds vs) i a := fun {i a} ⟨_, dv, h2, h3⟩ => by
    obtain ⟨d, _, rfl⟩ := startR_at h2
    cases h3
  refine ⟨r.sub, ?_, fun i dv h => ?_, fun i j a h => absurd h noOwn, fun i a p h => absurd h noOwn, r.deal⟩
  · show (start N vs).length = (startR N.length ds).length
    rw [start_len (by rw [rep.length]; exact hl), startR_len hl]
  · obtain ⟨d, e, rfl⟩ := startR_at h
    obtain ⟨v, e1, e2⟩ := rep.get e
    exact ⟨v, start_at e1, e2⟩
/-- a step of the body, seen by the caller -/
theorem step_out {c1 e : C} (hd : c1.dl = c.dl) (hF : c1.F = c.F) (hH : c1.H = c.H) (hσ : c.σ = []) (hρ : c.ρ = []) (hT : ∀ a, Touch c1 a → Touch c a) (x : LStep c1 e) : SStep c e.bare := by
  refine ⟨⟨?_, fun a o h n => ?_, fun a h => ?_, fun a h => ?_, fun a h => ?_, ?_⟩, hσ.symm, fun i dv h => ?_, fun i k fs h => ?_⟩
  · rw [← hF]; exact x.mono
  · exact x.keep a o (by rw [hH]; exact h) fun t => n (hT a t)
  · rw [← hH]; exact x.live a h
  · rcases x.newF a h with q | q | q
    · exact .inl (by rw [← hF]; exact q)
    · exact .inr (.inl (hT a q))
    · exact .inr (.inr (by rw [← hH]; exact q))
  · obtain ⟨p, h1, h2⟩ := h.ofBare
    rcases x.tch a (.inr ⟨p, h1, h2⟩) with q | q
    · exact .inl (hT a q)
    · exact .inr (by rw [← hH]; exact q)
  · rw [← hd]; exact x.dl
  · rw [hρ] at h; simp at h
  · simp [C.bare] at h
theorem body_in {n p : Nat} (hn : n = N.length) (h : spF w EF (runFn w.T Φ (.body n p b)) vs H Q E) : tSs w (exOf EF E) Φ b { nx := fun _ H' => Q .non H', rt := Q } (start N vs) H := by
  subst hn
  obtain ⟨c, ds, hσ, hρ, rfl, r, rep, h⟩ := h
  have h' : AftF w EF c E (if ds.length = p ∧ p ≤ N.length then match evSs w.T Φ b { r := startR N.length ds, g := c.g } with
    | .ok (.rt v) s => .ok v s
    | .ok .nx s => .ok (.f .non) s
    | .exc c d s => .exc c d s
    | _ => .stuck else .stuck) Q := h
  by_cases hp : ds.length = p ∧ p ≤ N.length
  · rw [if_pos hp] at h'
    have noOwn : ∀ {i : Nat} {a : Addr}, ¬ Own (c.enter N ds vs) i a := fun {i a} ⟨_, dv, h2, h3⟩ => by
      obtain ⟨d, _, rfl⟩ := startR_at h2
      cases h3
    have hT : ∀ a, Touch (c.enter N ds vs) a → Touch c a := fun a t => by
      rcases t with ⟨i, o⟩ | t
      · exact absurd o noOwn
      · exact .inr t
    refine ⟨c.enter N ds vs, rfl, rfl, r.enter rep (by omega), ?_⟩
    show AftP w (exOf EF E) (c.enter N ds vs) (evSs w.T Φ b { r := startR N.length ds, g := c.g }) _
    cases e : evSs w.T Φ b { r := startR N.length ds, g := c.g } with
    | stuck => rw [e] at h'; exact h'.elim
    | exc k d s =>
      rw [e] at h'
      intro c' es r' x'
      exact h' c'.bare (by rw [← es]; rfl) r'.bare (step_out (c1 := c.enter N ds vs) rfl rfl rfl hσ hρ hT x')
    | ok fl s =>
      rw [e] at h'
      cases fl with
      | bk => exact h'.elim
      | ct => exact h'.elim
      | nx =>
        intro c' es r' x'
        exact h' c'.bare (by rw [← es]; rfl) r'.bare (step_out (c1 := c.enter N ds vs) rfl rfl rfl hσ hρ hT x') .non rfl trivial
      | rt dv =>
        intro c' es r' x' v rel fr
        refine h' c'.bare (by rw [← es]; rfl) r'.bare (step_out (c1 := c.enter N ds vs) rfl rfl rfl hσ hρ hT x') v rel ?_
        cases dv with
        | o ds =>
          obtain ⟨a, e1, q⟩ := fr
          rcases q with q | ⟨i, q⟩
          · exact ⟨a, e1, q⟩
          · exact absurd q noOwn
        | _ => trivial
  · rw [if_neg hp] at h'
    exact h'.elim
theorem body_len {n p : Nat} (h : spF w EF (runFn w.T Φ (.body n p b)) vs H Q E) : vs.length = p := by
  obtain ⟨c, ds, hσ, hρ, rfl, r, rep, h⟩ := h
  have h' : AftF w EF c E (if ds.length = p ∧ p ≤ n then match evSs w.T Φ b { r := startR n ds, g := c.g } with
    | .ok (.rt v) s => .ok v s
    | .ok .nx s => .ok (.f .non) s
    | .exc c d s => .exc c d s
    | _ => .stuck else .stuck) Q := h
  by_cases hp : ds.length = p ∧ p ≤ n
  · rw [rep.length]; exact hp.1
  · rw [if_neg hp] at h'
    exact h'.elim
/-! ### __init__ -/
def C.enterI (c : C) (k0 : Nat) (N : List Str) (ds : List D) (x : Addr) (us : List V) : C := ⟨c.dl, c.F, c.H, start N (.ref x :: us), some (.n k0 []) :: startR (N.length - 1) ds, c.g⟩
theorem init_len {n p k0 : Nat} (h : spI w EF k0 (runFn w.T Φ (.init k0 n p b)) vs H Q E) : vs.length = p := by
  obtain ⟨c, ds, x, us, rfl, hσ, hρ, rfl, r, rep, h⟩ := h
  by_cases hp : ds.length + 1 = p ∧ p ≤ n
  · rw [List.length_cons, rep.length]; exact hp.1
  · have e : runFn w.T Φ (.init k0 n p b) ds c.g = .stuck := if_neg hp
    rw [e] at h
    exact h.elim
theorem init_in {n p k0 : Nat} (hn : n = N.length) (h : spI w EF k0 (runFn w.T Φ (.init k0 n p b)) vs H Q E) : tSs w (exOf EF E) Φ b { nx := fun _ H' => Q .non H', rt := fun _ _ => False } (start N vs) H := by
  subst hn
  obtain ⟨c, ds, x, us, rfl, hσ, hρ, rfl, r, rep, h⟩ := h
  by_cases hp : ds.length + 1 = p ∧ p ≤ N.length
  · have e1 : runFn w.T Φ (.init k0 N.length p b) ds c.g = match evSs w.T Φ b { r := some (.n k0 []) :: startR (N.length - 1) ds, g := c.g } with
      | .ok .nx s => match s.r[(0 : Nat)]? with
        | some (some (.n c' fs)) => if c' = k0 ∧ fs.length = (w.T.fl k0).length then .ok (.f (.ins k0 fs)) s else .stuck
        | _ => .stuck
      | .exc c d s => .exc c d s
      | _ => .stuck := if_pos hp
    have hN1 : 1 ≤ N.length := by omega
    have at0 : ∀ {i : Nat} {dv : DV}, (some (DV.n k0 []) :: startR (N.length - 1) ds)[i]? = some (some dv) → (i = 0 ∧ dv = .n k0 []) ∨ ∃ j d, i = j + 1 ∧ ds[j]? = some d ∧ dv = .f d := fun {i dv} h => by
      cases i with
      | zero =>
        have h' : some (some (DV.n k0 [])) = some (some dv) := h
        cases h'
        exact .inl ⟨rfl, rfl⟩
      | succ j =>
        obtain ⟨d, q1, q2⟩ := startR_at (show (startR (N.length - 1) ds)[j]? = _ from by simpa using h)
        exact .inr ⟨j, d, rfl, q1, q2⟩
    have s0 : (start N (.ref x :: us))[(0 : Nat)]? = some (some (V.ref x)) := start_at rfl
    have own : ∀ {i : Nat} {a : Addr}, Own (c.enterI k0 N ds x us) i a → i = 0 ∧ a = x := fun {i a} ⟨h1, dv, h2, h3⟩ => by
      rcases at0 h2 with ⟨rfl, rfl⟩ | ⟨j, d, _, _, rfl⟩
      · have h1' : (start N (.ref x :: us))[(0 : Nat)]? = some (some (V.ref a)) := h1
        rw [s0] at h1'
        cases h1'
        exact ⟨rfl, rfl⟩
      · cases h3
    have cown : Own c 0 x := ⟨by rw [hσ]; rfl, _, by rw [hρ]; rfl, rfl⟩
    have hT : ∀ a, Touch (c.enterI k0 N ds x us) a → Touch c a := fun a t => by
      rcases t with ⟨i, o⟩ | t
      · rw [(own o).2]
        exact .inl ⟨0, cown⟩
      · exact .inr t
    have hT' : ∀ a, Touch c a → Touch (c.enterI k0 N ds x us) a := fun a t => by
      rcases t with ⟨i, o1, dv, o2, o3⟩ | t
      · cases i with
        | zero =>
          rw [hσ] at o1
          cases o1
          exact .inl ⟨0, s0, _, rfl, rfl⟩
        | succ i =>
          rw [hσ] at o1
          simp at o1
      · exact .inr t
    have r1 : R w (c.enterI k0 N ds x us) := by
      refine ⟨r.sub, ?_, fun i dv h => ?_, fun i j a h1 h2 => by rw [(own h1).1, (own h2).1], fun i a p h hp => ?_, r.deal⟩
      · show (start N (.ref x :: us)).length = (some (DV.n k0 []) :: startR (N.length - 1) ds).length
        rw [start_len (by rw [List.length_cons, rep.length]; omega), List.length_cons, startR_len (by omega)]
        omega
      · rcases at0 h with ⟨rfl, rfl⟩ | ⟨j, d, rfl, q1, rfl⟩
        · obtain ⟨v, q1, q2⟩ := r.slot 0 (.n k0 []) (by rw [hρ]; rfl)
          rw [hσ] at q1
          cases q1
          exact ⟨.ref x, s0, q2⟩
        · obtain ⟨v, q2, q3⟩ := rep.get q1
          exact ⟨v, start_at (i := j + 1) (by simpa using q2), q3⟩
      · rw [(own h).2]
        exact r.ndeal 0 x p cown hp
    refine ⟨c.enterI k0 N ds x us, rfl, rfl, r1, ?_⟩
    show AftP w (exOf EF E) (c.enterI k0 N ds x us) (evSs w.T Φ b { r := some (.n k0 []) :: startR (N.length - 1) ds, g := c.g }) _
    rw [e1] at h
    cases e : evSs w.T Φ b { r := some (.n k0 []) :: startR (N.length - 1) ds, g := c.g } with
    | stuck => rw [e] at h; exact h.elim
    | exc k d s =>
      rw [e] at h
      intro c' es r' x'
      refine h c'.bare (by rw [← es]; rfl) r'.bare ⟨x'.mono, fun a o ho n => x'.keep a o ho fun t => n (hT a t), x'.live, fun a ha => ?_, fun a ha => ?_, x'.dl⟩ rfl
      · rcases x'.newF a ha with q | q | q
        · exact .inl q
        · exact .inr (.inl (hT a q))
        · exact .inr (.inr q)
      · obtain ⟨p, h1, h2⟩ := ha.ofBare
        rcases x'.tch a (.inr ⟨p, h1, h2⟩) with q | q
        · exact .inl (hT a q)
        · exact .inr q
    | ok fl s =>
      rw [e] at h
      cases fl with
      | bk => exact h.elim
      | ct => exact h.elim
      | rt dv => exact h.elim
      | nx =>
        intro c' es r' x'
        show Q .non c'.H
        have es' : s.r[(0 : Nat)]? = c'.ρ[(0 : Nat)]? := by rw [← es]; rfl
        have h : AftI w EF k0 c E (match s.r[(0 : Nat)]? with
          | some (some (.n c' fs)) => if c' = k0 ∧ fs.length = (w.T.fl k0).length then .ok (.f (.ins k0 fs)) s else .stuck
          | _ => .stuck) Q := h
        cases e0 : c'.ρ[(0 : Nat)]? with
        | none => rw [es', e0] at h; exact h.elim
        | some o =>
          rw [es', e0] at h
          cases o with
          | none => exact h.elim
          | some dv =>
            cases dv with
            | f d => exact h.elim
            | p pds => exact h.elim
            | o d => exact h.elim
            | b j => exact h.elim
            | n k' fs =>
              have h2 : AftI w EF k0 c E (if k' = k0 ∧ fs.length = (w.T.fl k0).length then .ok (.f (.ins k0 fs)) s else .stuck) Q := h
              by_cases hk : k' = k0 ∧ fs.length = (w.T.fl k0).length
              · rw [if_pos hk] at h2
                obtain ⟨rfl, hl⟩ := hk
                obtain ⟨_, eσ⟩ := x'.ini 0 k' fs e0
                have eσ' : c'.σ[(0 : Nat)]? = some (some (.ref x)) := eσ.trans s0
                have own' : ∀ {i : Nat} {a : Addr}, Own (⟨c'.dl, c'.F, c'.H, [some (.ref x)], [some (.n k' fs)], c'.g⟩ : C) i a → i = 0 ∧ a = x := fun {i a} ⟨h1, _⟩ => by
                  cases i with
                  | zero =>
                    have h1' : some (some (V.ref x)) = some (some (V.ref a)) := h1
                    cases h1'
                    exact ⟨rfl, rfl⟩
                  | succ i => simp at h1
                have cown' : Own c' 0 x := ⟨eσ', _, e0, rfl⟩
                have tt : ∀ a, Touch (⟨c'.dl, c'.F, c'.H, [some (.ref x)], [some (.n k' fs)], c'.g⟩ : C) a → Touch c' a := fun a t => by
                  rcases t with ⟨i, o⟩ | t
                  · rw [(own' o).2]
                    exact .inl ⟨0, cown'⟩
                  · exact .inr t
                refine h2 ⟨c'.dl, c'.F, c'.H, [some (.ref x)], [some (.n k' fs)], c'.g⟩ fs (by rw [← es]; rfl) ?_ ?_ rfl rfl hl
                · refine ⟨r'.sub, rfl, fun i dv h => ?_, fun i j a h1 h2 => by rw [(own' h1).1, (own' h2).1], fun i a p h hp => ?_, r'.deal⟩
                  · cases i with
                    | zero =>
                      have h' : some (some (DV.n k' fs)) = some (some dv) := h
                      cases h'
                      obtain ⟨v, q1, q2⟩ := r'.slot 0 _ e0
                      rw [eσ'] at q1
                      cases q1
                      exact ⟨.ref x, rfl, q2⟩
                    | succ i => simp at h
                  · rw [(own' h).2]
                    exact r'.ndeal 0 x p cown' hp
                · refine ⟨⟨x'.mono, fun a o ho n => x'.keep a o ho fun t => n (hT a t), x'.live, fun a ha => ?_, fun a ha => ?_, x'.dl⟩, hσ.symm, fun i dv hi => ?_, fun i k fs' hi => ?_⟩
                  · rcases x'.newF a ha with q | q | q
                    · exact .inl q
                    · exact .inr (.inl (hT a q))
                    · exact .inr (.inr q)
                  · rcases x'.tch a (tt a ha) with q | q
                    · exact .inl (hT a q)
                    · exact .inr q
                  · rw [hρ] at hi
                    cases i with
                    | zero => exact ⟨_, rfl⟩
                    | succ i => simp at hi
                  · cases i with
                    | zero =>
                      have hi' : some (some (DV.n k' fs)) = some (some (.n k fs')) := hi
                      cases hi'
                      exact ⟨[], by rw [hρ]; rfl⟩
                    | succ i => simp at hi
              · rw [if_neg hk] at h2
                exact h2.elim
  · have e : runFn w.T Φ (.init k0 N.length p b) ds c.g = .stuck := if_neg hp
    rw [e] at h
    exact h.elim
end
/-! ### the rules -/
section
variable {P : Program} {W : World} {K : PySem.W.Frag} {mg : Str → Option Value} {base : Heap} {CX : CXT} {w : Wd} {EF : XK → Nat → D → C → Prop} {Φ : Fns} {x qual : Str} {params : Arguments} {body : List Stmt} {scope : Scope} {f : Addr} {fd : FuncData} {kws : List (Str × V)} {N ps : List Str} {n k p : Nat} {b : List Sm}
theorem fn_body (F : FunD K x qual params body scope [] kws f fd) (S : FnScope N ps scope) (hn : n = N.length) (hp : p = ps.length)
    (h : ∀ (cdv : Value) (A : Around) (outer : List Env) (s : Shared) (H : Hp) (E : XK), Room k (A.deeper (envOfC qual scope s.heap.objs.size f cdv)) → A.guards = some [] → PSs (cxOf CX P W K mg base N qual scope f cdv A outer s H E) body (tSs w (exOf EF E) Φ b)) :
    FnG P W K mg base CX (k + 1) f fd ps (spF w EF (runFn w.T Φ (.body n p b))) :=
  okG F S (fun h => (body_len h).trans hp) fun cdv A outer s H vs Q E hr hgd hs => ⟨_, h cdv A outer s H E hr hgd, body_in hn hs⟩
theorem fn_init {k0 : Nat} (F : FunD K x qual params body scope [] kws f fd) (S : FnScope N ps scope) (hn : n = N.length) (hp : p = ps.length)
    (h : ∀ (cdv : Value) (A : Around) (outer : List Env) (s : Shared) (H : Hp) (E : XK), Room k (A.deeper (envOfC qual scope s.heap.objs.size f cdv)) → A.guards = some [] → PSs (cxOf CX P W K mg base N qual scope f cdv A outer s H E) body (tSs w (exOf EF E) Φ b)) :
    FnG P W K mg base CX (k + 1) f fd ps (spI w EF k0 (runFn w.T Φ (.init k0 n p b))) :=
  okG F S (fun h => (init_len h).trans hp) fun cdv A outer s H vs Q E hr hgd hs => ⟨_, h cdv A outer s H E hr hgd, by
    obtain ⟨c, h1, h2, h3, h4⟩ := init_in hn hs
    exact ⟨c, h1, h2, h3, h4.imp fun c' fl r' x' q => by
      cases fl with
      | nx => exact q
      | bk => exact q
      | ct => exact q
      | rt dv => exact fun v rel fr => (q v rel fr).elim⟩⟩
end
end DI

end
section
set_option Elab.async false
set_option linter.all false
set_option maxRecDepth 100000
set_option maxHeartbeats 4000000
/-! DI18: the rules as a def's text takes them. Own text. -/
namespace DI
open PySem PySem.Spec PyProof.Rows L2
/-- what holds all through a body -/
class NoExn (w : Wd) : Prop where
  h : w.xn = none
structure Gx (w : Wd) (X : Cx) : Prop where
  hK : X.K = w.K
  hu : X.A.units + 65 < cLine
  hc : w.xn = none → X.calm = true
  hN : X.N.Nodup
  hp : PassesOwn (model X.prog X.w) X.A X.env X.xe
  gd : X.A.guards = some []
  cls : ∀ c, ClsOk w c
  tab : ∀ c, (w.T.fl c).length < 900 ∧ (w.names c).Nodup
section
variable {w : Wd} {Ex : Nat → D → C → Prop} {Φ : Fns} {X : Cx} {x y z tg iter : Expr} {a b c e : E} {es : List E} {l : List Expr} {pos p apos npos tpos cpos : Pos} {n : Str} {k kk : Nat} {s : Sm} {ss : List Sm} {st : Stmt} {rest : List Stmt}
theorem Gx.blk (g : Gx w X) (s : Shared) (H : Hp) (scope : Scope) (cenv : Env) (fp : List Addr) : Gx w (X.blk s H scope cenv fp) := ⟨g.hK, g.hu, g.hc, g.hN, PassesOwn.never, g.gd, g.cls, g.tab⟩
theorem gx_of {CX : CXT} {P : Program} {W : World} {K : PySem.W.Frag} {mg : Str → Option Value} {base : Heap} {N : List Str} {qual : Str} {scope : Scope} {f : Addr} {cd : Value} {A : Around} {outer : List Env} {s : Shared} {H : Hp} {E : XK} {j : Nat} (hr : Room j (A.deeper (envOfC qual scope s.heap.objs.size f cd))) (hgd : A.guards = some []) (hN : N.Nodup) (hK : K = w.K) (cls : ∀ c, ClsOk w c) (tab : ∀ c, (w.T.fl c).length < 900 ∧ (w.names c).Nodup) :
    Gx w (cxOf CX P W K mg base N qual scope f cd A outer s H E).nox := ⟨hK, by have := hr.un; show (A.deeper (envOfC qual scope s.heap.objs.size f cd)).units + 65 < _; omega, fun _ => rfl, hN, PassesOwn.never, hgd, cls, tab⟩
theorem q_var (i : Nat) (hN : X.N[i]? = some n := by rfl) (hv : Vis X.env.scope n := by first | exact Or.inl rfl | exact Or.inr (Or.inl rfl) | exact Or.inr (Or.inr rfl)) (hd : (n == ("__debug__" : Str)) = false := by decide) (hcd : (n == ("__classdict__" : Str)) = false := by decide) :
    PE X (.Name n pos) (tE w Ex Φ (.var i)) := j_var hN hv hd hcd
theorem q_bin (g : Gx w X) (o : BOp) (ha : PE X x (tE w Ex Φ a)) (hb : PE X y (tE w Ex Φ b)) : PE X (.BinOp x (opOf o) y pos) (tE w Ex Φ (.bin o a b)) := j_bin g.hK ha hb
theorem q_cmp (g : Gx w X) (o : COp) (ha : PE X x (tE w Ex Φ a)) (hb : PE X y (tE w Ex Φ b)) (hm : behindInMarks (copOf o) y = false := by first | exact nomark _ | rfl | with_unfolding_all rfl) : PE X (.Compare x [copOf o] [y] pos) (tE w Ex Φ (.cmp o a b)) := j_cmp g.hK g.hu hm ha hb
theorem q_tcmp (g : Gx w X) (o : COp) (ha : PE X x (tE w Ex Φ a)) (hb : PE X y (tE w Ex Φ b)) (hm : behindInMarks (copOf o) y = false := by first | exact nomark _ | rfl | with_unfolding_all rfl) : PT X (.Compare x [copOf o] [y] pos) (tT w Ex Φ (.cmp o a b)) := t_cmp g.hK g.hu hm ha hb
theorem q_and (ha : PE X x (tE w Ex Φ a)) (hb : PE X (.BoolOp .And (y :: l) pos) (tE w Ex Φ b)) : PE X (.BoolOp .And (x :: y :: l) pos) (tE w Ex Φ (.and a b)) := j_and (p2 := pos) ha hb
theorem q_or (ha : PE X x (tE w Ex Φ a)) (hb : PE X (.BoolOp .Or (y :: l) pos) (tE w Ex Φ b)) : PE X (.BoolOp .Or (x :: y :: l) pos) (tE w Ex Φ (.or a b)) := j_or ha hb
theorem q_one {op : BoolOp} (ha : PE X x (tE w Ex Φ a)) : PE X (.BoolOp op [x] pos) (tE w Ex Φ a) := pe_one ha
theorem q_val (ha : PE X x (tE w Ex Φ a)) (he : ∀ whole, isTrue x X.env whole = (do let v ← whole; standAt x.pos; holding [v] (truthy v)) := by intro _; rfl) : PT X x (tT w Ex Φ a) := t_val ha he
theorem q_cons (ha : PE X x (tE w Ex Φ a)) (hs : PA X l (tEs w Ex Φ es)) (hst : starEach (x :: l) X.env = (false, eval x X.env) :: starEach l X.env := by rfl) : PA X (x :: l) (tEs w Ex Φ (a :: es)) := j_cons ha hs hst
theorem q_ix (g : Gx w X) (ha : PE X x (tE w Ex Φ a)) (hb : PE X y (tE w Ex Φ b)) (hs : PlainIx y := by intro _ _; rfl) : PE X (.Subscript x y pos) (tE w Ex Φ (.ix a b)) := j_ix g.hK ha hb hs
theorem q_sl (g : Gx w X) {lo hi : Option Expr} {p2 : Pos} (ha : PE X x (tE w Ex Φ a)) (hl : PO X lo (tP w Ex Φ b)) (hh : PO X hi (tP w Ex Φ c)) : PE X (.Subscript x (.Slice lo hi none p2) pos) (tE w Ex Φ (.sl a b c)) := j_sl g.hK ha hl hh
theorem q_fld (g : Gx w X) (k : Nat) (ha : PE X x (tE w Ex Φ a)) (hn : w.fn k = n := by rfl) (hb : attributeBase x n X.env (eval x X.env) = eval x X.env := by rfl) : PE X (.Attribute x n pos) (tE w Ex Φ (.fld a k)) := j_fld g.hK g.cls hn ha hb
theorem q_append (i : Nat) (ha : PE X x (tE w Ex Φ a)) (hN : X.N[i]? = some n := by rfl) (hv : Vis X.env.scope n := by first | exact Or.inl rfl | exact Or.inr (Or.inl rfl) | exact Or.inr (Or.inr rfl)) (hd : (n == ("__debug__" : Str)) = false := by decide) (hcd : (n == ("__classdict__" : Str)) = false := by decide)
    (hline : (apos.endLine == pos.line) = true := by rfl) (hst : starEach [x] X.env = (false, eval x X.env) :: starEach [] X.env := by rfl) : PE X (.Call (.Attribute (.Name n npos) "append" apos) [x] [] pos) (tE w Ex Φ (.append i a)) := j_append hN hv hd hcd ha hline hst
theorem q_pop (i : Nat) (hN : X.N[i]? = some n := by rfl) (hv : Vis X.env.scope n := by first | exact Or.inl rfl | exact Or.inr (Or.inl rfl) | exact Or.inr (Or.inr rfl)) (hd : (n == ("__debug__" : Str)) = false := by decide) (hcd : (n == ("__classdict__" : Str)) = false := by decide)
    (hline : (apos.endLine == pos.line) = true := by rfl) : PE X (.Call (.Attribute (.Name n npos) "pop" apos) [] [] pos) (tE w Ex Φ (.pop i)) := j_pop hN hv hd hcd hline
theorem q_popAt (i : Nat) (ha : PE X x (tE w Ex Φ a)) (hN : X.N[i]? = some n := by rfl) (hv : Vis X.env.scope n := by first | exact Or.inl rfl | exact Or.inr (Or.inl rfl) | exact Or.inr (Or.inr rfl)) (hd : (n == ("__debug__" : Str)) = false := by decide) (hcd : (n == ("__classdict__" : Str)) = false := by decide)
    (hline : (apos.endLine == pos.line) = true := by rfl) (hst : starEach [x] X.env = (false, eval x X.env) :: starEach [] X.env := by rfl) : PE X (.Call (.Attribute (.Name n npos) "pop" apos) [x] [] pos) (tE w Ex Φ (.popAt i a)) := j_popAt hN hv hd hcd ha hline hst
theorem q_tisN {k : Nat} {p : Pos} (ha : PE X x (tE w Ex Φ a)) : PT X (.Compare x [.Is] [.Constant .none k p] pos) (tT w Ex Φ (.isN a)) := (pt_cmp (pc_isN ha) rfl).imp fun σ H Q h => by
  obtain ⟨c, rfl, rfl, r, h⟩ := h
  have h' : Aft w Ex c (bnd (ev w Φ a) (fun v => bnd (look v) fun d => ret (isNonD d)) c.s) fun c' k => Q k c'.H := by
    have e : bnd (ev w Φ (.isN a)) bool? = bnd (ev w Φ a) (fun v => bnd (look v) fun d => ret (isNonD d)) := by
      show bnd (bnd (ev w Φ a) fun v => bnd (look v) fun d => ret (.f (.bl (isNonD d)))) bool? = _
      simp only [bnd_assoc]
      rfl
    rw [← e]
    exact h
  refine tE_seq h' (SStep.refl c) r fun c2 u du r2 x2 x02 hσ rel fr fr0 h2 => ?_
  obtain ⟨d, l, h4⟩ := h2.look r2 rel
  have h5 := Aft.ret (a := isNonD d) h4 x02 r2
  rw [l.isNon] at h5
  exact ⟨_, rfl, h5⟩
theorem q_tnotN {k : Nat} {p : Pos} (ha : PE X x (tE w Ex Φ a)) : PT X (.Compare x [.IsNot] [.Constant .none k p] pos) (tT w Ex Φ (.notN a)) := (pt_cmp (pc_notN ha) rfl).imp fun σ H Q h => by
  obtain ⟨c, rfl, rfl, r, h⟩ := h
  have h' : Aft w Ex c (bnd (ev w Φ a) (fun v => bnd (look v) fun d => ret (!isNonD d)) c.s) fun c' k => Q k c'.H := by
    have e : bnd (ev w Φ (.notN a)) bool? = bnd (ev w Φ a) (fun v => bnd (look v) fun d => ret (!isNonD d)) := by
      show bnd (bnd (ev w Φ a) fun v => bnd (look v) fun d => ret (.f (.bl (!isNonD d)))) bool? = _
      simp only [bnd_assoc]
      rfl
    rw [← e]
    exact h
  refine tE_seq h' (SStep.refl c) r fun c2 u du r2 x2 x02 hσ rel fr fr0 h2 => ?_
  obtain ⟨d, l, h4⟩ := h2.look r2 rel
  have h5 := Aft.ret (a := !isNonD d) h4 x02 r2
  rw [l.isNon] at h5
  exact ⟨_, rfl, h5⟩
/-! ### built-in functions -/
/-- a built-in function's name, not hidden by the module's -/
def Fr (X : Cx) (n : Str) : Prop := X.mg n = none
theorem q_len (g : Gx w X) (f : Fr X "len") (ha : PA X (x :: l) (tEs w Ex Φ es)) (hg : Gl X "len" := by rfl) (hst : starEach (x :: l) X.env = (false, eval x X.env) :: starEach l X.env := by rfl) (hpl : (backTo pos (starEach l X.env)).any (·.1) = false := by rfl) : PE X (.Call (.Name "len" p) (x :: l) [] pos) (tE w Ex Φ (.blt .len es)) :=
  j_bltB ⟨hg, f, rfl, by decide, by decide⟩ (len_ok g.hK) ha hst hpl
theorem q_int (f : Fr X "int") (ha : PA X (x :: l) (tEs w Ex Φ es)) (hg : Gl X "int" := by rfl) (hst : starEach (x :: l) X.env = (false, eval x X.env) :: starEach l X.env := by rfl) (hpl : (backTo pos (starEach l X.env)).any (·.1) = false := by rfl) : PE X (.Call (.Name "int" p) (x :: l) [] pos) (tE w Ex Φ (.blt .int es)) :=
  j_bltT ⟨hg, f, rfl, by decide, by decide⟩ int_ok ha hst hpl
theorem q_abs (f : Fr X "abs") (ha : PA X (x :: l) (tEs w Ex Φ es)) (hg : Gl X "abs" := by rfl) (hst : starEach (x :: l) X.env = (false, eval x X.env) :: starEach l X.env := by rfl) (hpl : (backTo pos (starEach l X.env)).any (·.1) = false := by rfl) : PE X (.Call (.Name "abs" p) (x :: l) [] pos) (tE w Ex Φ (.blt .abs es)) :=
  j_bltB ⟨hg, f, rfl, by decide, by decide⟩ abs_ok ha hst hpl
theorem q_list (g : Gx w X) (f : Fr X "list") (ha : PA X (x :: l) (tEs w Ex Φ es)) (hg : Gl X "list" := by rfl) (hst : starEach (x :: l) X.env = (false, eval x X.env) :: starEach l X.env := by rfl) (hpl : (backTo pos (starEach l X.env)).any (·.1) = false := by rfl) : PE X (.Call (.Name "list" p) (x :: l) [] pos) (tE w Ex Φ (.blt .list es)) :=
  j_bltT ⟨hg, f, rfl, by decide, by decide⟩ (list_ok g.hK) ha hst hpl
theorem q_tuple (g : Gx w X) (f : Fr X "tuple") (ha : PA X (x :: l) (tEs w Ex Φ es)) (hg : Gl X "tuple" := by rfl) (hst : starEach (x :: l) X.env = (false, eval x X.env) :: starEach l X.env := by rfl) (hpl : (backTo pos (starEach l X.env)).any (·.1) = false := by rfl) : PE X (.Call (.Name "tuple" p) (x :: l) [] pos) (tE w Ex Φ (.blt .tuple es)) :=
  j_bltT ⟨hg, f, rfl, by decide, by decide⟩ (tuple_ok g.hK) ha hst hpl
theorem q_max [NoExn w] (g : Gx w X) (f : Fr X "max") (ha : PA X (x :: l) (tEs w Ex Φ es)) (hg : Gl X "max" := by rfl) (hst : starEach (x :: l) X.env = (false, eval x X.env) :: starEach l X.env := by rfl) (hpl : (backTo pos (starEach l X.env)).any (·.1) = false := by rfl) : PE X (.Call (.Name "max" p) (x :: l) [] pos) (tE w Ex Φ (.blt .max es)) :=
  j_bltB ⟨hg, f, rfl, by decide, by decide⟩ (max_ok g.hK (g.hc NoExn.h)) ha hst hpl
theorem q_min [NoExn w] (g : Gx w X) (f : Fr X "min") (ha : PA X (x :: l) (tEs w Ex Φ es)) (hg : Gl X "min" := by rfl) (hst : starEach (x :: l) X.env = (false, eval x X.env) :: starEach l X.env := by rfl) (hpl : (backTo pos (starEach l X.env)).any (·.1) = false := by rfl) : PE X (.Call (.Name "min" p) (x :: l) [] pos) (tE w Ex Φ (.blt .min es)) :=
  j_bltB ⟨hg, f, rfl, by decide, by decide⟩ (min_ok g.hK (g.hc NoExn.h)) ha hst hpl
theorem q_sum [NoExn w] (g : Gx w X) (f : Fr X "sum") (ha : PA X (x :: l) (tEs w Ex Φ es)) (hg : Gl X "sum" := by rfl) (hst : starEach (x :: l) X.env = (false, eval x X.env) :: starEach l X.env := by rfl) (hpl : (backTo pos (starEach l X.env)).any (·.1) = false := by rfl) : PE X (.Call (.Name "sum" p) (x :: l) [] pos) (tE w Ex Φ (.blt .sum es)) :=
  j_bltB ⟨hg, f, rfl, by decide, by decide⟩ (sum_ok g.hK (g.hc NoExn.h)) ha hst hpl
theorem q_all [NoExn w] (g : Gx w X) (f : Fr X "all") (ha : PA X (x :: l) (tEs w Ex Φ es)) (hg : Gl X "all" := by rfl) (hst : starEach (x :: l) X.env = (false, eval x X.env) :: starEach l X.env := by rfl) (hpl : (backTo pos (starEach l X.env)).any (·.1) = false := by rfl) : PE X (.Call (.Name "all" p) (x :: l) [] pos) (tE w Ex Φ (.blt .all es)) :=
  j_bltB ⟨hg, f, rfl, by decide, by decide⟩ (all_ok g.hK (g.hc NoExn.h)) ha hst hpl
theorem q_any [NoExn w] (g : Gx w X) (f : Fr X "any") (ha : PA X (x :: l) (tEs w Ex Φ es)) (hg : Gl X "any" := by rfl) (hst : starEach (x :: l) X.env = (false, eval x X.env) :: starEach l X.env := by rfl) (hpl : (backTo pos (starEach l X.env)).any (·.1) = false := by rfl) : PE X (.Call (.Name "any" p) (x :: l) [] pos) (tE w Ex Φ (.blt .any es)) :=
  j_bltB ⟨hg, f, rfl, by decide, by decide⟩ (any_ok g.hK (g.hc NoExn.h)) ha hst hpl
theorem q_sorted (g : Gx w X) (f : Fr X "sorted") (ha : PA X (x :: l) (tEs w Ex Φ es)) (hg : Gl X "sorted" := by rfl) (hst : starEach (x :: l) X.env = (false, eval x X.env) :: starEach l X.env := by rfl) (hpl : (backTo pos (starEach l X.env)).any (·.1) = false := by rfl) : PE X (.Call (.Name "sorted" p) (x :: l) [] pos) (tE w Ex Φ (.blt .sorted es)) :=
  j_bltB ⟨hg, f, rfl, by decide, by decide⟩ (sorted_ok g.hK (by have := g.hu; omega)) ha hst hpl
theorem q_isI (g : Gx w X) (t : Ty) {m : Str} {p2 : Pos} (f : Fr X "isinstance") (f2 : Fr X m) (ha : PE X x (tE w Ex Φ a)) (ht : tyS t ≠ "" := by decide) (hg : Gl X "isinstance" := by rfl) (hg2 : Gl X m := by rfl) (hb : bootBuiltins m = some (.type (tyS t)) := by rfl) (h1 : m ≠ "__name__" := by decide) (h2 : (m == ("__debug__" : Str)) = false := by decide)
    (hst : starEach [x, .Name m p2] X.env = (false, eval x X.env) :: starEach [.Name m p2] X.env := by rfl) : PE X (.Call (.Name "isinstance" p) [x, .Name m p2] [] pos) (tE w Ex Φ (.isI a t)) :=
  j_isI g.hK ht ⟨hg, f, rfl, by decide, by decide⟩ ⟨hg2, f2, hb, h1, h2⟩ ha hst
theorem q_isS (g : Gx w X) {p1 p2 p3 : Pos} (f : Fr X "isinstance") (f1 : Fr X "list") (f2 : Fr X "tuple") (ha : PE X x (tE w Ex Φ a)) (hg : Gl X "isinstance" := by rfl) (hg1 : Gl X "list" := by rfl) (hg2 : Gl X "tuple" := by rfl)
    (hst : starEach [x, .Tuple [.Name "list" p1, .Name "tuple" p2] kk p3] X.env = (false, eval x X.env) :: starEach [.Tuple [.Name "list" p1, .Name "tuple" p2] kk p3] X.env := by rfl) : PE X (.Call (.Name "isinstance" p) [x, .Tuple [.Name "list" p1, .Name "tuple" p2] kk p3] [] pos) (tE w Ex Φ (.isI a .seq)) :=
  j_isS g.hK ⟨hg, f, rfl, by decide, by decide⟩ ⟨hg1, f1, rfl, by decide, by decide⟩ ⟨hg2, f2, rfl, by decide, by decide⟩ ha hst
theorem q_rg1 (f : Fr X "range") (hb : PE X y (tE w Ex Φ b)) (hg : Gl X "range" := by rfl) (nb : starEach [y] X.env = (false, eval y X.env) :: starEach [] X.env := by rfl) : PRg X (.Call (.Name "range" p) [y] [] cpos) (tRG w Ex Φ .nop b) := j_rg1 hg f hb nb
theorem q_rg2 (f : Fr X "range") (ha : PE X x (tE w Ex Φ a)) (hb : PE X y (tE w Ex Φ b)) (hn : a ≠ .nop := by intro z; cases z) (hg : Gl X "range" := by rfl) (na : starEach [x, y] X.env = (false, eval x X.env) :: starEach [y] X.env := by rfl) (nb : starEach [y] X.env = (false, eval y X.env) :: starEach [] X.env := by rfl)
    (hp : (backTo cpos (starEach [y] X.env)).any (·.1) = false := by rfl) : PRg X (.Call (.Name "range" p) [x, y] [] cpos) (tRG w Ex Φ a b) := j_rg2 hn hg f ha hb na nb hp
theorem q_lrg [NoExn w] (g : Gx w X) (f : Fr X "list") (he : PRg X x (tRG w Ex Φ a b)) (hg : Gl X "list" := by rfl) (na : starEach [x] X.env = (false, eval x X.env) :: starEach [] X.env := by rfl) : PE X (.Call (.Name "list" p) [x] [] cpos) (tE w Ex Φ (.lrg a b)) := j_lrg (g.hc NoExn.h) hg f he na
theorem q_trg [NoExn w] (g : Gx w X) (f : Fr X "tuple") (he : PRg X x (tRG w Ex Φ a b)) (hg : Gl X "tuple" := by rfl) (na : starEach [x] X.env = (false, eval x X.env) :: starEach [] X.env := by rfl) : PE X (.Call (.Name "tuple" p) [x] [] cpos) (tE w Ex Φ (.trg a b)) := j_trg (g.hc NoExn.h) hg f he na
/-! ### sources, targets -/
theorem q_rng1 (f : Fr X "range") (ha : PA X [y] (tEs w Ex Φ [b])) (hb : b ≠ .nop := by intro z; cases z) (hg : Gl X "range" := by rfl) (hs : starEach [y] X.env = [(false, eval y X.env)] := by rfl) : PI X tg (.Call (.Name "range" p) [y] [] pos) (tI w Ex Φ .rng (.int 0) b) := i_rng1 hb hg f ha hs
theorem q_rng2 (f : Fr X "range") (ha : PA X [x, y] (tEs w Ex Φ [a, b])) (hb : b ≠ .nop := by intro z; cases z) (hg : Gl X "range" := by rfl) (hs : starEach [x, y] X.env = [(false, eval x X.env), (false, eval y X.env)] := by rfl) (hs2 : starEach [y] X.env = [(false, eval y X.env)] := by rfl) : PI X tg (.Call (.Name "range" p) [x, y] [] pos) (tI w Ex Φ .rng a b) := i_rng2 hb hg f ha hs hs2
theorem q_zip (g : Gx w X) {elts : List Expr} (f : Fr X "zip") (ha : PA X [x, y] (tEs w Ex Φ [a, b])) (hb : b ≠ .nop := by intro z; cases z) (hg : Gl X "zip" := by rfl) (hs : starEach [x, y] X.env = (false, eval x X.env) :: starEach [y] X.env := by rfl) (hpl : (backTo pos (starEach [y] X.env)).any (·.1) = false := by rfl) :
    PI X (.Tuple elts kk tpos) (.Call (.Name "zip" p) [x, y] [] pos) (tI w Ex Φ .zip a b) := i_zip g.hK hb hg f ha hs hpl
theorem q_gnm (g : Gx w X) {own : List Nat} (i : Nat) (hi : X.N[i]? = some n := by rfl) (hx : Loc X.env.scope n := by first | exact Or.inl rfl | exact Or.inr rfl) (hf : X.fn n = true ∨ X.env.scope.names.lookup n = some .local := by first | exact .inl rfl | exact .inr rfl) (ho : i ∈ own := by decide) : PG X (.Name n pos) (gO w Ex own (.nm i)) := g_nm g.hN hi hx hf ho
theorem q_gcons {own : List Nat} {t : Tg} {ts : List Tg} (h1 : PG X x (gO w Ex own t)) (h2 : PGs X l (gOs w Ex own ts)) (hs : (assignEach (x :: l) X.env).map (·.2) = assign x X.env :: (assignEach l X.env).map (·.2) := by rfl) : PGs X (x :: l) (gOs w Ex own (t :: ts)) := gs_cons h1 h2 hs
theorem q_gtp [NoExn w] (g : Gx w X) {own : List Nat} {ts : List Tg} (h : PGs X l (gOs w Ex own ts)) (hn : (assignEach l X.env).length = ts.length := by rfl) (hst : (assignEach l X.env).findIdx? (·.1) = none := by rfl) : PG X (.Tuple l kk pos) (gO w Ex own (.tp ts)) := g_tp g.hK (g.hc NoExn.h) h hn hst
/-! ### comprehensions -/
theorem q_lc [NoExn w] (g : Gx w X) {elt : Expr} {ifs : List Expr} {scope : Scope} (own2 : List (Str × Nat)) {t : Tg} {k : ItK} (hi : PI X tg iter (tI w Ex Φ k a b)) (ok : BlkOk X.N X.env.scope scope own2)
    (hb : ∀ (s : Shared) (H : Hp) (C : Addr) (cl : List (Str × Addr)) (fp : List Addr), Gx w (X.blk s H scope (compEnvC scope cl C X.env) fp) → PG (X.blk s H scope (compEnvC scope cl C X.env) fp) tg (gO w noEx (own2.map (·.2)) t) ∧ PTs (X.blk s H scope (compEnvC scope cl C X.env) fp) ifs (tTst w noEx Φ c) ∧ PE (X.blk s H scope (compEnvC scope cl C X.env) fp) elt (tE w noEx Φ e))
    (hs : ∀ x, foldedSetIterable iter X.env x = pure x := by intro _; rfl) : PE X (.ListComp elt [⟨tg, iter, ifs, 0⟩] scope pos) (tE w Ex Φ (.lc (own2.map (·.2)) t k a b c e)) :=
  j_lc (g.hc NoExn.h) g.hN hi ok (fun s H C cl fp => (hb s H C cl fp (g.blk ..)).1) (fun s H C cl fp => (hb s H C cl fp (g.blk ..)).2.1) (fun s H C cl fp => (hb s H C cl fp (g.blk ..)).2.2) hs
theorem q_setLc [NoExn w] (g : Gx w X) {elt : Expr} {ifs : List Expr} {scope : Scope} {spos py : Pos} (i : Nat) (own2 : List (Str × Nat)) {t : Tg} {k : ItK} (hi : PI X tg iter (tI w Ex Φ k a b)) (ok : BlkOk X.N X.env.scope scope own2)
    (hb : ∀ (s : Shared) (H : Hp) (C : Addr) (cl : List (Str × Addr)) (fp : List Addr), Gx w (X.blk s H scope (compEnvC scope cl C X.env) fp) → PG (X.blk s H scope (compEnvC scope cl C X.env) fp) tg (gO w noEx (own2.map (·.2)) t) ∧ PTs (X.blk s H scope (compEnvC scope cl C X.env) fp) ifs (tTst w noEx Φ c) ∧ PE (X.blk s H scope (compEnvC scope cl C X.env) fp) elt (tE w noEx Φ e))
    (hy : X.N[i]? = some n := by rfl) (hyl : X.env.scope.names.lookup n = some .local := by rfl) (hsw : swapsWith (.ListComp elt [⟨tg, iter, ifs, 0⟩] scope pos) (some (.Name n py)) spos.line X.env = pure true := by rfl) (hs : ∀ x, foldedSetIterable iter X.env x = pure x := by intro _; rfl) :
    PS X (.Assign [.Name n py] (.ListComp elt [⟨tg, iter, ifs, 0⟩] scope pos) spos) (tS w Ex Φ (.set i (.lc (own2.map (·.2)) t k a b c e))) :=
  s_setLc (g.hc NoExn.h) g.hN hy hyl hsw hi ok (fun s H C cl fp => (hb s H C cl fp (g.blk ..)).1) (fun s H C cl fp => (hb s H C cl fp (g.blk ..)).2.1) (fun s H C cl fp => (hb s H C cl fp (g.blk ..)).2.2) hs
theorem q_ts1 (h : PT X x (tT w Ex Φ e)) (hn : e ≠ .nop := by intro z; cases z) : PTs X [x] (tTst w Ex Φ e) := ts_one hn h
/-! ### statements -/
theorem q_expr (ha : PE X x (tE w Ex Φ a)) (hs : swapsWith x none pos.line X.env = pure false := by rfl) : PS X (.Expr x pos) (tS w Ex Φ (.expr a)) := s_expr ha hs
theorem q_set (g : Gx w X) (i : Nat) {p1 : Pos} (ha : PE X x (tE w Ex Φ a)) (hi : X.N[i]? = some n := by rfl) (hx : Loc X.env.scope n := by first | exact Or.inl rfl | exact Or.inr rfl) (hs : swapsWith x (some (.Name n p1)) pos.line X.env = pure false := by rfl) (hf : X.fn n = true ∨ X.env.scope.names.lookup n = some .local := by first | exact .inl rfl | exact .inr rfl) :
    PS X (.Assign [.Name n p1] x pos) (tS w Ex Φ (.set i a)) := s_set g.hN hi hx ha hs hf
theorem q_for [NoExn w] (g : Gx w X) {t : Tg} {k : ItK} {body : List Stmt} (own : List Nat) (hi : PI X tg iter (tI w Ex Φ k a b)) (hg : PG X tg (gO w Ex own t)) (hb : PSs X body (tSs w Ex Φ ss)) (hs : ∀ x, foldedSetIterable iter X.env x = pure x := by intro _; rfl) : PS X (.For tg iter body [] pos) (tS w Ex Φ (.for t k a b ss)) := s_for g.hp (g.hc NoExn.h) hi (g_all hg) hb hs
theorem q_while (g : Gx w X) {body : List Stmt} (hc : PT X x (tT w Ex Φ a)) (hb : PSs X body (tSs w Ex Φ ss)) : PS X (.While x body [] pos) (tS w Ex Φ (.while a ss)) := s_while g.hp hc hb
theorem q_setIx (i : Nat) (hk : PE X y (tE w Ex Φ e)) (ha : PE X x (tE w Ex Φ a)) (hN : X.N[i]? = some n := by rfl) (hv : Vis X.env.scope n := by first | exact Or.inl rfl | exact Or.inr (Or.inl rfl) | exact Or.inr (Or.inr rfl)) (hd : (n == ("__debug__" : Str)) = false := by decide) (hcd : (n == ("__classdict__" : Str)) = false := by decide)
    (hs : swapsWithSole [.Subscript (.Name n npos) y tpos] x pos.line X.env = pure false := by rfl) (hx : AsgIx X n npos y tpos := by intro _; rfl) : PS X (.Assign [.Subscript (.Name n npos) y tpos] x pos) (tS w Ex Φ (.setIx i e a)) := s_setIx hN hv hd hcd hk ha hs hx
theorem q_parN [NoExn w] (g : Gx w X) {k2 : Nat} {ts : List Expr} {ns : List Str} (js : List Nat) (ok : NmS X ns js) (ha : PA X l (tEs w Ex Φ es)) (nd : js.Nodup := by decide) (h3 : js.length ≤ 3 := by decide) (hw : swappedStores [.Tuple ts kk tpos] (.Tuple l k2 p) X.env = pure (some ns) := by rfl)
    (hs : swapsWithSole [.Tuple ts kk tpos] (.Tuple l k2 p) pos.line X.env = pure false := by rfl) : PS X (.Assign [.Tuple ts kk tpos] (.Tuple l k2 p) pos) (tS w Ex Φ (.par (js.map .nm) es)) := s_parN (g.hc NoExn.h) g.hN nd h3 ok ha hw hs
theorem q_nm (i : Nat) {ns : List Str} {js : List Nat} (r : NmS X ns js) (hi : X.N[i]? = some n := by rfl) (hl : X.env.scope.names.lookup n = some .local := by rfl) : NmS X (n :: ns) (i :: js) := .cons hi hl r
theorem q_parX [NoExn w] (g : Gx w X) {k2 : Nat} {ts : List Expr} {xs : List TX} (ha : PA X l (tEs w Ex Φ es)) (hg : PGs X ts (gXs w Ex Φ xs)) (hl : es.length = xs.length := by rfl) (hsz : xs.length ≤ 64 := by decide) (hn : (assignEach ts X.env).length = xs.length := by rfl) (hst : (assignEach ts X.env).findIdx? (·.1) = none := by rfl)
    (hw : swappedStores [.Tuple ts kk tpos] (.Tuple l k2 p) X.env = pure none := by rfl) (hs : swapsWithSole [.Tuple ts kk tpos] (.Tuple l k2 p) pos.line X.env = pure false := by rfl) : PS X (.Assign [.Tuple ts kk tpos] (.Tuple l k2 p) pos) (tS w Ex Φ (.par xs es)) := s_parX g.hK (g.hc NoExn.h) ha hg hl hsz hn hst hw hs
theorem q_xnm (g : Gx w X) (i : Nat) {ts : List TX} (h2 : PGs X l (gXs w Ex Φ ts)) (hi : X.N[i]? = some n := by rfl) (hx : Loc X.env.scope n := by first | exact Or.inl rfl | exact Or.inr rfl) (hf : X.fn n = true ∨ X.env.scope.names.lookup n = some .local := by first | exact .inl rfl | exact .inr rfl)
    (hs : (assignEach (.Name n npos :: l) X.env).map (·.2) = assign (.Name n npos) X.env :: (assignEach l X.env).map (·.2) := by rfl) : PGs X (.Name n npos :: l) (gXs w Ex Φ (.nm i :: ts)) := gx_nm g.hN hi hx hf h2 hs
theorem q_xix (i : Nat) {ts : List TX} (hk : PE X y (tE w Ex Φ e)) (h2 : PGs X l (gXs w Ex Φ ts)) (hi : X.N[i]? = some n := by rfl) (hv : Vis X.env.scope n := by first | exact Or.inl rfl | exact Or.inr (Or.inl rfl) | exact Or.inr (Or.inr rfl)) (hd : (n == ("__debug__" : Str)) = false := by decide) (hcd : (n == ("__classdict__" : Str)) = false := by decide) (hx : AsgIx X n npos y tpos := by intro _; rfl)
    (hs : (assignEach (.Subscript (.Name n npos) y tpos :: l) X.env).map (·.2) = assign (.Subscript (.Name n npos) y tpos) X.env :: (assignEach l X.env).map (·.2) := by rfl) : PGs X (.Subscript (.Name n npos) y tpos :: l) (gXs w Ex Φ (.ix i e :: ts)) := gx_ix hi hv hd hcd hk hx h2 hs
theorem q_unp {ts : List Tg} (own : List Nat) (ha : PE X x (tE w Ex Φ a)) (hg : PG X tg (gO w Ex own (.tp ts))) (hs : swapsWithSole [tg] x pos.line X.env = pure false := by rfl) (hw : swappedStores [tg] x X.env = pure none := by rfl) (h1 : (assignEach [tg] X.env).map (·.2) = [assign tg X.env] := by rfl) : PS X (.Assign [tg] x pos) (tS w Ex Φ (.unp ts a)) := s_unp ha (g_all hg) hs hw h1
end
section
variable {w : Wd} {Ex : Nat → D → C → Prop} {Φ : Fns} {X : Cx} {x : Expr} {a : E} {pos : Pos} {n : Str}
theorem q_fset (g : Gx w X) (k : Nat) {fpos opos : Pos} {f : Str} (ha : PE X x (tE w Ex Φ a)) (h0 : X.N[(0 : Nat)]? = some n := by rfl) (hv : Vis X.env.scope n := by first | exact Or.inl rfl | exact Or.inr (Or.inl rfl) | exact Or.inr (Or.inr rfl)) (hd : (n == ("__debug__" : Str)) = false := by decide) (hcd : (n == ("__classdict__" : Str)) = false := by decide) (hf : w.fn k = f := by rfl)
    (hs : swapsWith x (some (.Attribute (.Name n opos) f fpos)) pos.line X.env = pure false := by rfl) : PS X (.Assign [.Attribute (.Name n opos) f fpos] x pos) (tS w Ex Φ (.fset k a)) :=
  s_fset g.hK h0 hv hd hcd hf (fun k0 hk => ⟨⟨by rw [g.hK]; exact (g.cls k0).cls (List.ne_nil_of_mem hk), by rw [g.hK, ← hf]; exact (g.cls k0).no k hk, (g.tab k0).1⟩, (g.tab k0).2⟩) ha hs
def blkB (N : List Str) (sc scope : Scope) (own : List (Str × Nat)) : Bool :=
  decide (scope.kind = .function) && scope.names.all (fun y => decide (scope.names.lookup y.1 = some y.2)) && own.all (fun p => decide (N[p.2]? = some p.1)) &&
    scope.names.all (fun y => if y.2 = .free then decide (sc.names.lookup y.1 = some .cell) || decide (sc.names.lookup y.1 = some .free) else true) &&
    scope.names.all (fun y => if y.2 = .local ∨ y.2 = .cell then decide (y.1 ∈ own.map (·.1)) || decide (y.1 ∉ N) else true)
theorem blk_of {N : List Str} {sc scope : Scope} {own : List (Str × Nat)} (h : blkB N sc scope own = true) : BlkOk N sc scope own := by
  unfold blkB at h
  simp only [Bool.and_eq_true, List.all_eq_true, decide_eq_true_eq] at h
  obtain ⟨⟨⟨⟨h1, h2⟩, h3⟩, h4⟩, h5⟩ := h
  refine ⟨h1, fun y hy => h2 y hy, fun p hp => h3 p hp, fun y hy e => ?_, fun y hy e => ?_⟩
  · have q := h4 y hy
    rw [if_pos e, Bool.or_eq_true, decide_eq_true_eq, decide_eq_true_eq] at q
    exact q
  · have q := h5 y hy
    rw [if_pos e, Bool.or_eq_true, decide_eq_true_eq, decide_eq_true_eq] at q
    exact q
end
/-! ### defs by their names -/
section
variable (P : Program) (W : World) (K : PySem.W.Frag) (mg : Str → Option Value) (base : Heap) (w : Wd)
/-- no exception leaves a def -/
abbrev noEF : XK → Nat → D → C → Prop := fun _ _ _ _ => False
def TF (n : Str) (pr : Arguments) (ps : List Str) (φ : List D → G → Res DV) (k : Nat) : Prop := ∃ f fd bd sc, FnG P W K mg base CX0 k f fd ps (spF w noEF φ) ∧ FunD K n n pr bd sc [] [] f fd ∧ mg n = some (.ref f) ∧ Binds K fd ps []
def MF (n : Str) (ps : List Str) (k0 : Nat) (φ : List D → G → Res DV) (k : Nat) : Prop := ∃ f fd, FnG P W K mg base CX0 k f fd ps (spI w noEF k0 φ) ∧ Mk K (w.ca k0) f ∧ mg n = some (.ref (w.ca k0)) ∧ Binds K fd ps []
end
section
variable {w : Wd} {Φ : Fns} {X : Cx} {x : Expr} {es : List E} {l : List Expr} {kws : List Keyword} {pos p : Pos} {n : Str} {k i k0 : Nat} {ps ks : List Str} {pr : Arguments}
theorem q_call (N : TF X.prog X.w X.K X.mg X.base w n pr ps (Φ i) k) (g : Gx w X) (hr : Room k X.A) (hs : PA X (x :: l) (tEs w noEx Φ es)) (hg : Gl X n := by rfl) (hd : (n == ("__debug__" : Str)) = false := by decide) (hst : starEach (x :: l) X.env = (false, eval x X.env) :: starEach l X.env := by rfl) (hpl : (backTo pos (starEach l X.env)).any (·.1) = false := by rfl) :
    PE X (.Call (.Name n p) (x :: l) [] pos) (tE w noEx Φ (.call i es)) := by
  obtain ⟨f, fd, _, _, h1, h2, h3, h4⟩ := N
  exact j_call (E := fun _ _ _ => False) ⟨h1, hr, g.gd, hg, h3, h2.kp, h4, hd⟩ pass0 (fun _ _ _ _ h => h) hs hst hpl
theorem q_call0 (N : TF X.prog X.w X.K X.mg X.base w n pr ps (Φ i) k) (g : Gx w X) (hr : Room k X.A) (hg : Gl X n := by rfl) (hd : (n == ("__debug__" : Str)) = false := by decide) : PE X (.Call (.Name n p) [] [] pos) (tE w noEx Φ (.call i [])) := by
  obtain ⟨f, fd, _, _, h1, h2, h3, h4⟩ := N
  exact j_call0 (E := fun _ _ _ => False) ⟨h1, hr, g.gd, hg, h3, h2.kp, h4, hd⟩ pass0 (fun _ _ _ _ h => h)
theorem q_make (N : MF X.prog X.w X.K X.mg X.base w n ps k0 (Φ i) k) (g : Gx w X) (hr : Room (k + 1) X.A) (hs : PA X (x :: l) (tEs w noEx Φ es)) (hg : Gl X n := by rfl) (hd : (n == ("__debug__" : Str)) = false := by decide) (hst : starEach (x :: l) X.env = (false, eval x X.env) :: starEach l X.env := by rfl) (hpl : (backTo pos (starEach l X.env)).any (·.1) = false := by rfl) :
    PE X (.Call (.Name n p) (x :: l) [] pos) (tE w noEx Φ (.make i es)) := by
  obtain ⟨f, fd, h1, h2, h3, h4⟩ := N
  exact j_make (E := fun _ _ _ => False) ⟨h1, hr, g.gd, hg, h2, h3, h4, hd⟩ pass0 (fun _ _ _ _ h => h) hs hst hpl
/-- the keywords of a call bind by their places -/
def KB (n : Str) (pr : Arguments) (ps ks : List Str) (js : List Nat) : Prop := ∀ (bd : List Stmt) (sc : Scope) (kV doc pm : Value) (an : Option Addr) (cdv ct : Value) (us ws : List Value), us.length = 0 → ws.length = ks.length →
  bindArgs (PySem.W.fnOf n n pr bd sc .none kV doc pm an cdv ct) ⟨us, ks.zip ws⟩ = pure (ps.zip (permL js (us ++ ws)))
theorem q_callk (ks : List Str) (js : List Nat) (N : TF X.prog X.w X.K X.mg X.base w n pr ps (Φ i) k) (g : Gx w X) (hr : Room k X.A) (hB : KB n pr ps ks js) (hkw : PK X kws (tEs w noEx Φ es)) (hg : Gl X n := by rfl) (hd : (n == ("__debug__" : Str)) = false := by decide) (hl : es.length = ks.length := by rfl)
    (hall : (backToKw pos (keywordEach kws X.env)).all (·.1.isSome) = true := by rfl) (hks : (backToKw pos (keywordEach kws X.env)).filterMap (·.1) = ks := by rfl)
    (hpl : ((backTo pos (starEach [] X.env)).any (·.1) || (backToKw pos (keywordEach kws X.env)).any (·.1.isNone)) = false := by rfl) :
    PE X (.Call (.Name n p) [] kws pos) (tE w noEx Φ (.callk i js es)) := by
  obtain ⟨f, fd, bd, sc, h1, h2, h3, h4⟩ := N
  exact j_callk (E := fun _ _ _ => False) ⟨h1, hr, g.gd, hg, h3, h2.kp, h4, hd⟩ (kbn_of h2 (hB bd sc)) pass0 (fun _ _ _ _ h => h) hkw hl hall hks hpl
end
end DI

end
section
set_option Elab.async false
set_option linter.all false
set_option maxRecDepth 100000
set_option maxHeartbeats 4000000
/-! DI19: enumerate of a list or a tuple. Own text. -/
namespace DI
open PySem PySem.Spec PyProof.Rows L2
section
open PySem.Sem (wp)
set_option maxHeartbeats 8000000 in
theorem enum_new1 {src : Value} {cell : Obj} {ok : Heap → Prop} (B : Begins src cell ok) :
    Meets (Builtin.«enumerate.__new__» ⟨[.type "enumerate", src], []⟩) (fun _ R st => ok st.heap ∧
      R (.ok (.ret (.ref (st.heap.push cell).objs.size))) { st with heap := (st.heap.push cell).push { cls := .type "enumerate", data := .fields #[.none, .bool false, .ref st.heap.objs.size, rawInt 0, .none, .none] } }) :=
  .of_wp fun pr wo Ar Rr st hst => by
    obtain ⟨hh, gg, dd, tt, oo⟩ := st
    obtain ⟨b1, b2⟩ := hst
    have sb := sub_enumerate
    have go : ∀ {A2 : Around} {E2 : Value → Shared → Prop} {Q2 : Value → Shared → Prop}, Q2 (.ref hh.objs.size) ⟨hh.push cell, gg, dd, tt, oo⟩ → wpAny (model pr wo) A2 (pyIter src) Q2 E2 ⟨hh, gg, dd, tt, oo⟩ := fun z => B.iter pr wo _ _ ⟨hh, gg, dd, tt, oo⟩ _ b1 z
    wp_walk using go
    refine wpAny_stack_any fun _ => wpAny_pure ?_
    split
    · rename_i cl _ _ _ _ _
      cases (cl == Value.type "enumerate") <;> (wp_walk using go; exact ⟨_, rfl, b2⟩)
    · wp_walk using go
      exact ⟨_, rfl, b2⟩
theorem enum_call1 {prog : Program} {w : World} {A : Around} {E : Value → Shared → Prop} {s : Shared} {src : Value} {cell : Obj} {ok : Heap → Prop} {Q : Value → Shared → Prop} (B : Begins src cell ok) (h1 : ok s.heap)
    (h : ∀ h2, IsEnum h2 (s.heap.objs.size + 1) s.heap.objs.size 0 .none → h2.get? s.heap.objs.size = some cell → (∀ b o, s.heap.get? b = some o → h2.get? b = some o) → Q (.ref (s.heap.objs.size + 1)) { s with heap := h2 }) :
    wpAny (model prog w) A (call (.type "enumerate") [src]) Q E s := by
  refine callType_new F.called_enumerate (by decide) (F.typeCall_enumerate_1 _) (F.newCall_enumerate_1 _) (fun ob => F.args_object_init_2 ob _) F.entry_enumerate_new (enum_new1 B) ⟨h1, ?_⟩
  have sz : (s.heap.push cell).objs.size = s.heap.objs.size + 1 := Heap.size_push ..
  have en : IsEnum ((s.heap.push cell).push { cls := .type "enumerate", data := .fields #[.none, .bool false, .ref s.heap.objs.size, rawInt 0, .none, .none] }) (s.heap.objs.size + 1) s.heap.objs.size 0 .none := by
    rw [← sz]
    exact Heap.get?_push_size (s.heap.push cell) rfl
  show _ ∧ _
  rw [sz]
  exact ⟨⟨_, en, rfl⟩, h _ en (Heap.get?_push_of_some _ (Heap.get?_push_size _ B.free)) fun b o x => Heap.get?_push_of_some _ (Heap.get?_push_of_some _ x)⟩
end
/-- the tuple at a as it stands, its items in new pairs with their places -/
def IteT (K : PySem.W.Frag) (a : Addr) : It :=
  ⟨fun i H => ∃ us v, SqT K H a us ∧ us[i]? = some v, fun i H v H' => ∃ T x, v = .ref T ∧ H T = none ∧ H' = upd H T (.tup [.int (i : Nat), x]) ∧ ∀ us, SqT K H a us → us[i]? = some x, fun i H => ∃ us, SqT K H a us ∧ us.length ≤ i⟩
theorem turn_enumT {P : Program} {w : World} {K : PySem.W.Frag} {elts : List Expr} {kk : Nat} {tpos : Pos} (a e it : Addr) :
    Turn P w K (.Tuple elts kk tpos) (IteT K a) [e, it] e (fun i h => (∃ old, IsEnum h e it ((i : Nat) : Int) old) ∧ h.IsTupleIter it a i ∧ e ≠ it ∧ a ≠ it ∧ a ≠ e) where
  mem := by simp
  obj := fun i h st b hb => by
    obtain ⟨⟨old, he⟩, ⟨o, ho, hc, hd⟩, _⟩ := st
    rcases List.mem_cons.mp hb with z | z
    · rw [z]; exact ⟨_, he, fun v q => nomatch q⟩
    · rw [List.mem_singleton.mp z]; exact ⟨o, ho, fun v q => by rw [hd] at q; cases q⟩
  keep := fun i h h' st k => by
    obtain ⟨⟨old, he⟩, hi, n1, n2, n3⟩ := st
    exact ⟨⟨old, k e (by simp) _ he⟩, hi.at fun o q => k it (by simp) o q, n1, n2, n3⟩
  item := by
    intro X hP hw hK hc i pins s σ H E I hf st hg
    subst hP hw hK
    obtain ⟨⟨old, he⟩, hit, hne, hai, hae⟩ := st
    obtain ⟨us, x, hq, hx⟩ := hg
    obtain ⟨its, rv, p, hz⟩ := I.tuple hq
    obtain ⟨u, hu, ru⟩ := rv.get hx
    have hel : e < s.heap.objs.size := Heap.lt_size he
    have hil : it < s.heap.objs.size := by obtain ⟨_, q, _⟩ := hit; exact Heap.lt_size q
    have hlt : i < its.toArray.size := by
      rw [List.size_toArray]
      exact (List.getElem?_eq_some_iff.mp hu).1
    have D : Draws X.prog X.w X.A.in1 it [it, a] its.toArray.size (fun i v => its.toArray[i]? = some v) (fun i h => h.IsTupleIter it a i ∧ h.IsTuple a its.toArray) := Draws.tuple (show X.A.in1.handled = none from I.ok.hd hc) it a hai its.toArray
    refine wpAny_pyNext_enum_itemD D he ⟨hit, p⟩ hlt hne (fun z => ?_) fun y h2 tk hy ho hst2 hT hsz hk => ?_
    · rcases List.mem_cons.mp z with z | z
      · exact hne z
      · exact hae (List.mem_singleton.mp z).symm
    have ey : y = u := by
      have q : its.toArray[i]? = some u := by simpa using hu
      rw [q] at hy
      exact (Option.some.inj hy).symm
    subst ey
    refine ⟨_, rfl, wpAny_letOwnedTupleGo_enum (s := { s with heap := h2, toks := tk + 1 }) ho fun h3 he3 sb => ?_⟩
    have hT3 : h3.get? s.heap.objs.size = some { cls := .type "tuple", data := .seq #[.int i tk, y] } := (sb.2 _ (Nat.ne_of_gt hel)).trans hT
    have new : ObjOk X.prog X.w (upd H s.heap.objs.size (.tup [.int (i : Nat), x])) h3 s.heap.objs.size (.tup [.int (i : Nat), x]) :=
      ⟨by show 2 ≤ sizeLine; decide, [.int i tk, y], .cons ⟨_, rfl⟩ (.cons ru .nil), ⟨_, hT3, rfl, _, rfl⟩⟩
    have I1 : Inv X pins σ (upd H s.heap.objs.size (.tup [.int (i : Nat), x])) { s with heap := h3, toks := tk + 1 } :=
      I.turnedNew (ch := [e, it]) (fun b ob hb q => (sb.2 b (fun z => hb (by simp [z]))).trans (hk b ob (fun z => hb (by simp [z])) (fun z => hb (by simp [z])) q)) hf (Nat.le_refl _) new
    refine ⟨.ref s.heap.objs.size, _, I1, rfl, ⟨_, x, rfl, I.hok.fresh (Nat.le_refl _), rfl, fun ys hy2 => by rw [I.tuple_inj hy2 hq]; exact hx⟩, ⟨⟨y, ?_⟩, hst2.1.at fun o q => (sb.2 it (Ne.symm hne)).trans q, hne, hai, hae⟩, fun b hb => ?_⟩
    · have e1 : ((i + 1 : Nat) : Int) = (i : Int) + 1 := by omega
      rw [e1]
      exact he3
    · have hb2 : b < s.heap.objs.size := by
        rcases List.mem_cons.mp hb with z | z
        · rw [z]; exact hel
        · rw [List.mem_singleton.mp z]; exact hil
      rw [upd_ne (Nat.ne_of_lt hb2)]
      exact (hf b hb).1
  done := by
    intro X hP hw hK hc i pins s σ H E I hf st hg
    subst hP hw hK
    obtain ⟨⟨old, he⟩, hit, hne, hai, hae⟩ := st
    obtain ⟨us, hq, hx⟩ := hg
    obtain ⟨its, rv, p, hz⟩ := I.tuple hq
    obtain ⟨f0, f1, f2, f3, f4, f5⟩ := hf it (by simp)
    have hl := rv.length
    have D : Draws X.prog X.w X.A.in1 it [it, a] i (fun _ _ => False) (fun j h => j = i ∧ h.IsTupleIter it a i ∧ h.IsTuple a its.toArray) := {
      live := fun j h st => by
        obtain ⟨_, ⟨o, ho, _⟩, _⟩ := st
        exact ⟨o, ho⟩
      frame := fun j h h2 st k => ⟨st.1, st.2.1.at fun o e => k it (by simp) o e, st.2.2.at fun o e => k a (by simp) o e⟩
      item := fun j s Q E hj st _ => absurd hj (by rw [st.1]; exact Nat.lt_irrefl i)
      done := fun s Q E st hE => RZ.nextOf_tuple_end (show X.A.in1.handled = none from I.ok.hd hc) st.2.1 st.2.2 (by simp; omega) hE }
    exact wpAny_pyNext_enum_endD D he ⟨rfl, hit, p⟩ fun h' eb => ⟨rfl, I.turned (t' := s.toks) (fun b o hb q => eb b o hb q) f0 f1 f3 f4 f5⟩
  self := fun A i s Q E st h => let ⟨⟨_, he⟩, _⟩ := st; wpAny_pyIter_enum he h
section
variable {X : Cx} {e : Expr} {ta : TA} {p pos tpos : Pos} {elts : List Expr} {kk : Nat}
def iEnumT (K : PySem.W.Frag) (ta : TA) : TI := fun σ H R => ta σ H fun vs H1 => ∃ a us, vs = [.ref a] ∧ SqT K H1 a us ∧ R (IteT K a) H1
theorem pi_enumT (hg : Gl X "enumerate") (hm : X.mg "enumerate" = none) (ha : PA X [e] ta) (hs : starEach [e] X.env = [(false, eval e X.env)]) : PI X (.Tuple elts kk tpos) (.Call (.Name "enumerate" p) [e] [] pos) (iEnumT X.K ta) := by
  refine ⟨fun pins s σ H R I h => ?_⟩
  refine Call_ (ld_blt I hg hm boot_enumerate (PyProof.Rows.callWith_type1 (thn (ha.run pos pins s σ H _ I h) fun us s1 ⟨vs, H1, I1, r1, q1⟩ => ?_) hs rfl))
  obtain ⟨a, ws, ex, hq, q⟩ := q1
  subst ex
  obtain ⟨u, rfl, rfl⟩ := vals1 r1
  obtain ⟨its, rv, p', hz⟩ := I1.tuple hq
  have la : a < s1.heap.objs.size := by obtain ⟨o, ho, _⟩ := id p'; exact Heap.lt_size ho
  refine enum_call1 (begins_tuple a its.toArray) (show s1.heap.IsTuple a its.toArray from p') fun h2 he hit hk => wpAny_pyIter_enum he ?_
  have I2 : Inv X pins σ H1 { s1 with heap := h2 } := I1.kept (t' := s1.toks) hk
  refine ⟨s1.heap.objs.size + 1, [s1.heap.objs.size + 1, s1.heap.objs.size], _, _, H1, rfl, I2, turn_enumT a (s1.heap.objs.size + 1) s1.heap.objs.size, ⟨⟨.none, he⟩, ⟨_, hit, rfl, rfl⟩, Nat.succ_ne_self _, Nat.ne_of_lt la, Nat.ne_of_lt (Nat.lt_succ_of_lt la)⟩, fun b hb => ?_, q⟩
  have hle : s1.heap.objs.size ≤ b := by
    rcases List.mem_cons.mp hb with z | z
    · rw [z]; exact Nat.le_succ _
    · rw [List.mem_singleton.mp z]; exact Nat.le_refl _
  exact I1.fpOk hle (I1.hok.fresh hle)
end
section
variable {w : Wd} {Ex : Nat → D → C → Prop} {Φ : Fns} {X : Cx} {c0 : C} {A : Addr} {us : List V} {ds : List D} {x : Expr} {a : E} {p pos tpos : Pos} {elts : List Expr} {kk : Nat}
theorem src_enumT (hF : SqT w.K c0.F A us) (rep : RepAll w c0.dl c0.F ds us) : Src w c0 (IteT w.K A) ((ds.zipIdx).map fun p => .tup [.int p.2, p.1]) where
  go := fun c r le ld i d hd => by
    have hq : SqT w.K c.H A us := r.sub.sqT (le.sqT hF)
    obtain ⟨y, hy, rfl⟩ := zipIdx_get hd
    obtain ⟨v, e1, e2⟩ := rep.get hy
    refine ⟨⟨us, v, hq, e1⟩, fun x H' ⟨T, z, q1, q2, q3, q4⟩ => ?_⟩
    have e3 := q4 us hq
    rw [e1] at e3
    cases e3
    subst q1
    subst q3
    exact yldPair r q2 rfl (RepD.mono le ld y v e2)
  stop := fun c r le i hi => ⟨us, r.sub.sqT (le.sqT hF), by rw [rep.length]; simpa using hi⟩
theorem srcP_enum : srcP w Φ .enum a .nop = bnd (bnd (ev w Φ a) frz) fun dx => opt (itemsD .enum dx .non) := by
  rw [bnd_assoc]
  rfl
theorem opt_enum {d : D} {s : S} (h : (opt (itemsD .enum d .non) : M (List D)) s ≠ .stuck) : seqOf d ≠ none := fun z => by
  have e : itemsD .enum d .non = (seqOf d).map fun xs => (xs.zipIdx).map fun p => .tup [.int p.2, p.1] := by cases d <;> rfl
  rw [e, z] at h
  exact h rfl
theorem i_enum (hK : X.K = w.K) (hg : Gl X "enumerate") (hm : X.mg "enumerate" = none) (ha : PE X x (tE w Ex Φ a)) (hs : starEach [x] X.env = (false, eval x X.env) :: starEach [] X.env) : PI X (.Tuple elts kk tpos) (.Call (.Name "enumerate" p) [x] [] pos) (tI w Ex Φ .enum a .nop) := by
  have hs2 : starEach [x] X.env = [(false, eval x X.env)] := hs
  refine ⟨fun pins s σ H R I h => ?_⟩
  obtain ⟨c, rfl, rfl, r, h⟩ := h
  rw [srcP_enum] at h
  rcases val_cases (f := fun dx => opt (itemsD .enum dx .non)) h.ne (fun d s z => opt_enum z) with q | q
  · rw [q] at h
    refine (pi_enum hg hm (pa_cons ha pa_nil hs) hs2).run pins s _ _ R I ?_
    refine tE_seq h (SStep.refl c) r fun c2 u du r2 x2 x02 hσ rel fr fr0 h2 => ?_
    obtain ⟨ds, p, us, c3, rfl, hH, r3, x3, s1, rep, h3⟩ := lst_in h2 r2 x02 rel fr0
    rw [← hH]
    refine ⟨p, us, rfl, by rw [hK]; exact r3.sub.sqL s1, ?_⟩
    rw [hK]
    exact Aft.ret h3 x3 r3 _ (src_enum s1 rep)
  · rw [q] at h
    refine (pi_enumT hg hm (pa_cons ha pa_nil hs) hs2).run pins s _ _ R I ?_
    refine tE_seq h (SStep.refl c) r fun c2 u du r2 x2 x02 hσ rel fr fr0 h2 => ?_
    obtain ⟨ds, p, us, c3, rfl, hH, r3, x3, s1, rep, h3⟩ := tup_in h2 r2 x02 rel fr0
    rw [← hH]
    refine ⟨p, us, rfl, by rw [hK]; exact r3.sub.sqT s1, ?_⟩
    rw [hK]
    exact Aft.ret h3 x3 r3 _ (src_enumT s1 rep)
theorem q_enum (g : Gx w X) (f : Fr X "enumerate") (ha : PE X x (tE w Ex Φ a)) (hg : Gl X "enumerate" := by rfl) (hs : starEach [x] X.env = (false, eval x X.env) :: starEach [] X.env := by rfl) : PI X (.Tuple elts kk tpos) (.Call (.Name "enumerate" p) [x] [] pos) (tI w Ex Φ .enum a .nop) := i_enum g.hK hg f ha hs
end
end DI

end
section
set_option Elab.async false
set_option linter.all false
set_option maxRecDepth 100000
set_option maxHeartbeats 4000000
/-! DI20: repr. Own text. -/
namespace DI
open PySem PySem.Spec PyProof.Rows L2
def rRepr (K : PySem.W.Frag) : List V → Hp → VK → Prop := fun xs H Q => ∃ v d, xs = [v] ∧ Dp K H v d ∧ d.showable = true ∧ d.hasDict = false ∧ d.depth ≤ 64 ∧ d.shown.length ≤ sizeLine ∧ Q (.str d.shown) H
section
variable {X : Cx}
theorem call_reprD (hu : X.A.units + 65 < cLine) (hgd : X.A.guards = some []) : CallR X (.builtin "repr") (rRepr X.K) := by
  intro pins s σ H xs us Q I r h
  obtain ⟨v, d, rfl, hd, h1, h2, h3, h4, q⟩ := h
  obtain ⟨u, rfl, rv⟩ := vals1 r
  obtain ⟨as, rd⟩ := Dp.reads I d v u hd rv
  cases rd with
  | none => exact PySem.P.repr_of_none ⟨.str _, H, I.tok _, ⟨_, rfl⟩, q⟩
  | bool b => exact PySem.P.repr_of_bool ⟨.str _, H, I.tok _, ⟨_, rfl⟩, q⟩
  | int i t => exact PySem.P.repr_of_int (by simpa [PyData.showable] using h1) ⟨.str _, H, I.tok _, ⟨_, rfl⟩, q⟩
  | str x t => exact PySem.P.repr_of_str ⟨.str _, H, I.tok _, ⟨_, rfl⟩, q⟩ h4
  | list a1 a2 a3 a4 => exact repr_of_reads' (.list a1 a2 a3 a4) h1 (PyData.noDict_hsm h2) hgd (by omega) (fun b o e => e) (fun h' u tk hk => ⟨.str _, H, I.kept hk, ⟨_, rfl⟩, q⟩) h4
  | tuple a1 a2 a3 a4 => exact repr_of_reads' (.tuple a1 a2 a3 a4) h1 (PyData.noDict_hsm h2) hgd (by omega) (fun b o e => e) (fun h' u tk hk => ⟨.str _, H, I.kept hk, ⟨_, rfl⟩, q⟩) h4
  | dict a1 a2 a3 a4 a5 => simp [PyData.hasDict] at h2
end
section
variable {w : Wd} {Ex : Nat → D → C → Prop} {Φ : Fns} {X : Cx} {x : Expr} {es : List E} {l : List Expr} {p pos : Pos}
theorem repr_ok (hK : X.K = w.K) (hu : X.A.units + 65 < cLine) (hgd : X.A.guards = some []) : CallOk w Ex X (.builtin "repr") (bltD .repr) := by
  refine ⟨_, call_reprD hu hgd, fun {c0 c Q vs ds} r st h q => ?_⟩
  obtain ⟨dv, e, q⟩ := q.opt0
  rcases ds with _ | ⟨d, _ | ⟨d2, ds⟩⟩
  · cases e
  · obtain ⟨v, rfl, lk⟩ := h.one
    have e' : (if shp d && PyData.showable d.py && decide ((PyData.shown d.py).length ≤ lim) then some (DV.f (.str (PyData.shown d.py))) else none) = some dv := e
    split at e'
    · rename_i z
      cases e'
      simp only [Bool.and_eq_true, decide_eq_true_eq] at z
      obtain ⟨⟨z1, z2⟩, z3⟩ := z
      refine ⟨v, d.py, rfl, by rw [hK]; exact lk.dp r z1, z2, PyData.hasDict_of_canLay _ (PySem.SeqAt.canLay_of_shaped z1), PySem.SeqAt.depth_of_shaped z1, by rw [← lim_eq]; exact z3, ?_⟩
      exact q.fin st r rfl trivial
    · cases e'
  · cases e
theorem q_repr (g : Gx w X) (f : Fr X "repr") (ha : PA X (x :: l) (tEs w Ex Φ es)) (hg : Gl X "repr" := by rfl) (hst : starEach (x :: l) X.env = (false, eval x X.env) :: starEach l X.env := by rfl) (hpl : (backTo pos (starEach l X.env)).any (·.1) = false := by rfl) : PE X (.Call (.Name "repr" p) (x :: l) [] pos) (tE w Ex Φ (.blt .repr es)) :=
  j_bltB ⟨hg, f, rfl, by decide, by decide⟩ (repr_ok g.hK g.hu g.gd) ha hst hpl
end
end DI

end
section
set_option Elab.async false
set_option linter.all false
set_option maxRecDepth 100000
set_option maxHeartbeats 4000000
/-! DI21: len(set(..)), chains, index. Own text. -/
namespace DI
open PySem PySem.Spec PyProof.Rows L2
theorem firsts_spec : ∀ (ns acc : List Int), acc.Nodup → (ns.foldl (fun acc x => if acc.any (· == x) then acc else acc ++ [x]) acc).Nodup ∧ ∀ y, y ∈ ns.foldl (fun acc x => if acc.any (· == x) then acc else acc ++ [x]) acc ↔ y ∈ acc ∨ y ∈ ns
  | [], acc, h => ⟨h, fun y => by simp⟩
  | x :: ns, acc, h => by
    rw [List.foldl_cons]
    by_cases hx : acc.any (· == x) = true
    · rw [if_pos hx]
      obtain ⟨h1, h2⟩ := firsts_spec ns acc h
      have hm : x ∈ acc := by simpa using hx
      refine ⟨h1, fun y => (h2 y).trans ?_⟩
      constructor
      · rintro (z | z)
        · exact .inl z
        · exact .inr (List.mem_cons_of_mem _ z)
      · rintro (z | z)
        · exact .inl z
        · rcases List.mem_cons.mp z with rfl | z
          · exact .inl hm
          · exact .inr z
    · rw [if_neg hx]
      have hm : x ∉ acc := by simpa using hx
      have nd : (acc ++ [x]).Nodup := by
        rw [List.nodup_append]
        exact ⟨h, by simp, fun a ha b hb => by
          rw [List.mem_singleton] at hb
          subst hb
          exact fun e => hm (e ▸ ha)⟩
      obtain ⟨h1, h2⟩ := firsts_spec ns (acc ++ [x]) nd
      refine ⟨h1, fun y => (h2 y).trans ?_⟩
      simp only [List.mem_append, List.mem_cons, or_assoc, List.not_mem_nil, false_or]
theorem firsts_nodup (ns : List Int) : (firsts ns).Nodup := (firsts_spec ns [] List.nodup_nil).1
theorem mem_firsts {ns : List Int} {y : Int} : y ∈ firsts ns ↔ y ∈ ns := ((firsts_spec ns [] List.nodup_nil).2 y).trans (by simp)
theorem firsts_met (ns : List Int) : firstMet (fun i => ns.getD i 0) ns.length = firsts ns := by
  unfold firstMet firsts
  have e : (List.range ns.length).map (fun i => ns.getD i 0) = ns := by
    refine List.ext_getElem (by simp) fun i h1 h2 => ?_
    simp at h1
    simp [h1]
  rw [e]
  rfl
def rSetN (K : PySem.W.Frag) (ta : TE) : TE := fun σ H Q => ta σ H fun x H1 => ∃ (l : Addr) (ns : List Int), x = V.ref l ∧ (SqL K H1 l (ns.map V.int) ∨ SqT K H1 l (ns.map V.int)) ∧ ns.length ≤ 4000 ∧ Q (.int (firsts ns).length) H1
theorem pe_lenSetN {X : Cx} {a : Expr} {ta : TE} {p p2 q pos : Pos} (hc : X.calm = true) (hg : Gl X "len") (hm : X.mg "len" = none) (hg2 : Gl X "set") (hm2 : X.mg "set" = none) (ha : PE X a ta)
    (na : starEach [a] X.env = (false, eval a X.env) :: starEach [] X.env) : PE X (.Call (.Name "len" p) [.Call (.Name "set" p2) [a] [] q] [] pos) (rSetN X.K ta) := ⟨fun pins s σ H Q I h => by
  refine Call_ (ld_blt I hg hm boot_len (PyProof.Rows.callWith_builtin1 (PyProof.Rows.args_cons ?_ rfl) rfl rfl))
  refine Call_ (ld_blt I hg2 hm2 boot_set (PyProof.Rows.callWith_type1 (PyProof.Rows.args_cons (thn (ha.run pins s σ H _ I h) fun v s1 z => PyProof.Rows.args_nil ?_) na) na rfl))
  obtain ⟨x, H1, I1, r1, l, ns, rfl, hq, hl, q1⟩ := z
  cases r1
  rcases hq with hq | hq
  · obtain ⟨its, r, pl, hz⟩ := I1.list hq
    have hn : its.toArray.size = ns.length := by rw [List.size_toArray, ← r.length, List.length_map]
    refine call_set_list (I1.ok.hd hc) pl.isList (ns := ns) (by simpa using RZ.intsAre_vals r) (by rw [hn]; unfold scanBound; omega) fun h2 tk hS hk => PyProof.Rows.args_nil ?_
    rw [hn, firsts_met] at hS
    obtain ⟨o, es, ep, t, ho, hex, hd, _, _, hb, hf, e⟩ := hS
    have I2 : Inv X pins σ H1 { s1 with heap := h2, toks := tk } := I1.kept fun b o e => hk b o (Heap.lt_size e) e
    exact call_len_set ho hex hd hf (by unfold scanBound at hb; omega) ⟨.int (firsts ns).length, H1, I2.tok _, ⟨_, by rw [e]⟩, q1⟩
  · obtain ⟨its, r, pl, hz⟩ := I1.tuple hq
    refine call_set_tupI (s := s1) ns (I1.ok.hd hc) (show s1.heap.IsTuple l its.toArray from pl) (by simpa using RZ.intsAre_vals r) (by unfold scanBound; omega) fun h2 tk c hS _ hk => PyProof.Rows.args_nil ?_
    obtain ⟨o, es, ep, t, ho, hex, hd, _, nd, hm, hb, hf, e, _⟩ := hS
    have pm : (es.toList.map keyOf).Perm (firsts ns) := (List.perm_ext_iff_of_nodup nd (firsts_nodup ns)).mpr fun k => by
      rw [← hm k, decide_eq_true_eq, mem_firsts]
    have e2 : es.size = (firsts ns).length := by
      have := pm.length_eq
      rw [List.length_map, Array.length_toList] at this
      exact this
    have I2 : Inv X pins σ H1 { s1 with heap := h2, toks := tk } := I1.kept hk
    exact call_len_set ho hex hd hf (by unfold scanBound at hb; omega) ⟨.int (firsts ns).length, H1, I2.tok _, ⟨_, by rw [e2]⟩, q1⟩⟩
section
variable {w : Wd} {Ex : Nat → D → C → Prop} {Φ : Fns} {X : Cx} {x y z : Expr} {a b c : E} {p p2 q pos apos npos : Pos}
theorem q_lenset [NoExn w] (g : Gx w X) (f : Fr X "len") (f2 : Fr X "set") (ha : PE X x (tE w Ex Φ a)) (hg : Gl X "len" := by rfl) (hg2 : Gl X "set" := by rfl) (na : starEach [x] X.env = (false, eval x X.env) :: starEach [] X.env := by rfl) :
    PE X (.Call (.Name "len" p) [.Call (.Name "set" p2) [x] [] q] [] pos) (tE w Ex Φ (.blt .lenset [a])) := (pe_lenSetN (g.hc NoExn.h) hg f hg2 f2 ha na).imp fun σ H Q h => by
  obtain ⟨c, rfl, rfl, r, h⟩ := tE_in h
  have e : ev w Φ (.blt .lenset [a]) = bnd (ev w Φ a) fun v => bnd (look v) fun d => opt (bltD .lenset [d]) := by
    show bnd (bnd (ev w Φ a) fun v => bnd (ret []) fun vs => ret (v :: vs)) (fun vs => bnd (looks vs) fun ds => opt (bltD .lenset ds)) = _
    rw [bnd_assoc]
    congr 1
    funext v
    show bnd (bnd (look v) fun d => bnd (ret []) fun ds => ret (d :: ds)) (fun ds => opt (bltD .lenset ds)) = _
    rw [bnd_assoc]
    rfl
  rw [e] at h
  refine tE_seq h (SStep.refl c) r fun c2 u du r2 x2 x02 hσ rel fr fr0 h2 => ?_
  obtain ⟨d, lk, h3⟩ := h2.look r2 rel
  obtain ⟨dv, e1, h4⟩ := h3.opt0
  cases d <;> first | (cases e1; done) | skip
  · obtain ⟨ns, e2, e3⟩ := Option.bind_eq_some_iff.mp (show (DI.intsD _).bind _ = some dv from e1)
    split at e3
    · rename_i hz
      cases e3
      obtain ⟨A, us, rfl, s1, rep⟩ := lk.seqT r2
      obtain ⟨e4, _⟩ := rep.intsD e2
      subst e4
      exact ⟨A, ns, rfl, .inr (by rw [g.hK]; exact s1), hz, h4.fin x02 r2 rfl trivial⟩
    · cases e3
  · obtain ⟨ns, e2, e3⟩ := Option.bind_eq_some_iff.mp (show (DI.intsD _).bind _ = some dv from e1)
    split at e3
    · rename_i hz
      cases e3
      obtain ⟨A, us, rfl, s1, rep⟩ := lk.seqL
      obtain ⟨e4, _⟩ := rep.intsD e2
      subst e4
      exact ⟨A, ns, rfl, .inl (by rw [g.hK]; exact s1), hz, h4.fin x02 r2 rfl trivial⟩
    · cases e3
end
end DI

end
section
set_option Elab.async false
set_option linter.all false
set_option maxRecDepth 100000
set_option maxHeartbeats 4000000
/-! DI22: the draw of a deal's number. Own text. -/
namespace DI
open PySem PySem.Spec PyProof.Rows L2
section
variable (K : PySem.W.Frag)
def tDeal0 : TE := tOp (rIx K) (tVar 0) (tC (.int 0))
def tDeal1 : TE := tOp (rIx K) (tVar 0) (tC (.int 1))
def tNe0 : TT := tTest (tOp (rNeD K) (tDeal0 K) (tLst tNil))
def tLast0 : TT := tTest (tOp (rEqD K) (tOp (rIx K) (tDeal0 K) (tUn (rU fun i => .int (-i)) (tC (.int 1)))) (tC (.int 0)))
def rInt1 : List V → Hp → VK → Prop := fun xs H Q => (∃ i, xs = [.int i] ∧ Q (.int i) H) ∨ ∃ k, xs = [.bl k] ∧ Q (.int (if k then 1 else 0)) H
def tPop0 : TE := tBM0 K "list" rPop (tDeal0 K)
/-- what _law_any's body reads -/
def tAny : TS := tSeq (tWhile (tAnd (tNe0 K) (tLast0 K)) (tDrop (tPop0 K)))
  (tSeq (tIfS (tNe0 K) (tSeq (tAsg (tCB rInt1 (tCons (tPop0 K) tNil)) (gName 2)) (tSeq (tDrop (tBM K "list" rAppend (tDeal0 K) (tCons (tOp (rI CDivW fun i j => .int (i / j)) (tVar 2) (tVar 1)) tNil))) (tRet (tOp (rI (fun _ j => 0 < j) fun i j => .int (i % j)) (tVar 2) (tVar 1))))) tNext)
  (tSeq (tAsg (tOp (rI (fun _ j => 0 < j) fun i j => .int (i % j)) (tCB rInt1 (tCons (tOp (rI0 fun i j => .int (i + j)) (tOp (rI CMul fun i j => .int (i * j)) (tDeal1 K) (tC (.int 40693))) (tC (.int 71))) tNil)) (tC (.int 2147483647))) (gSub (tVar 0) (tC (.int 1)) rSetL))
    (tRet (tOp (rI (fun _ j => 0 < j) fun i j => .int (i % j)) (tCB rInt1 (tCons (tOp (rI CDivW fun i j => .int (i / j)) (tDeal1 K) (tC (.int 64))) tNil)) (tVar 1)))))
end
section
variable {w : Wd} {p : Addr × Addr} {cs : List Int} {b : Int} {H : Hp} {K : PySem.W.Frag}
/-- a deal in the heap -/
structure DlH (p : Addr × Addr) (cs : List Int) (b : Int) (H : Hp) : Prop where
  ne : p.1 ≠ p.2
  h1 : H p.1 = some (.lst [.ref p.2, .int b])
  h2 : H p.2 = some (.lst (cs.map V.int))
theorem deal0_in {σ : L2.St} {Q : VK} (d : DlH p cs b H) (h0 : σ[(0 : Nat)]? = some (some (.ref p.1))) (q : Q (.ref p.2) H) : tDeal0 K σ H Q :=
  ⟨.ref p.1, h0, .inl ⟨p.1, [.ref p.2, .int b], 0, .ref p.2, rfl, rfl, SqL.of d.h1, rfl, q⟩⟩
theorem deal1_in {σ : L2.St} {Q : VK} (d : DlH p cs b H) (h0 : σ[(0 : Nat)]? = some (some (.ref p.1))) (q : Q (.int b) H) : tDeal1 K σ H Q :=
  ⟨.ref p.1, h0, .inl ⟨p.1, [.ref p.2, .int b], 1, .int b, rfl, rfl, SqL.of d.h1, rfl, q⟩⟩
theorem dpInts : ∀ ns : List Int, DpAll K H (ns.map V.int) (ns.map PyData.int)
  | [] => .nil
  | n :: ns => .cons (.int n) (dpInts ns)
theorem canLayInts : ∀ ns : List Int, PyData.canLayAll0 (ns.map PyData.int) = true
  | [] => rfl
  | n :: ns => by
    show (PyData.canLay0 (.int n) && PyData.canLayAll0 (ns.map PyData.int)) = true
    rw [canLayInts ns]
    rfl
theorem depthInts : ∀ ns : List Int, PyData.depthAll (ns.map PyData.int) ≤ 1
  | [] => by simp [PyData.depthAll]
  | n :: ns => by
    have := depthInts ns
    simp only [List.map_cons, PyData.depthAll, PyData.depth]
    omega
theorem shapedInts (ns : List Int) : SeqAt.shaped (.list (ns.map PyData.int)) = true := by
  unfold SeqAt.shaped
  rw [Bool.and_eq_true]
  refine ⟨by rw [PyData.canLay0]; exact canLayInts ns, decide_eq_true ?_⟩
  have := depthInts ns
  rw [PyData.depth]
  omega
theorem upd_keep {a c : Addr} {o u : HO} (h : H a = some o) (hc : H c = none) : upd H c u a = some o := by
  rw [upd_ne (fun z => by rw [z, hc] at h; cases h)]
  exact h
theorem DlH.lay (d : DlH p cs b H) {c : Addr} {u : HO} (hc : H c = none) : DlH p cs b (upd H c u) := ⟨d.ne, upd_keep d.h1 hc, upd_keep d.h2 hc⟩
theorem eqv_nil (cs : List Int) : PyData.eqv (.list (cs.map PyData.int)) (.list []) = decide (cs = []) := by
  cases cs with
  | nil => simp [PyData.eqv, PyData.eqvAll]
  | cons c cs => simp [PyData.eqv, PyData.eqvAll]
/-- deal[0] != []: a new empty list comes -/
theorem ne0_in {σ : L2.St} {Q : Bool → Hp → Prop} (d : DlH p cs b H) (h0 : σ[(0 : Nat)]? = some (some (.ref p.1))) (q : ∀ e, H e = none → Q (!decide (cs = [])) (upd H e (.lst []))) : tNe0 K σ H Q := by
  refine deal0_in d h0 ⟨Nat.zero_le _, fun e he => ?_⟩
  have d' := d.lay (u := .lst []) he
  refine ⟨.list (cs.map PyData.int), .list [], .lst (SqL.of d'.h2) (dpInts cs), .lst (SqL.of upd_same) .nil, shapedInts cs, shapedInts [], _, rfl, ?_⟩
  rw [eqv_nil]
  exact q e he
theorem last0_in {σ : L2.St} {Q : Bool → Hp → Prop} {x : Int} {ds : List Int} (d : DlH p (ds ++ [x]) b H) (h0 : σ[(0 : Nat)]? = some (some (.ref p.1))) (q : Q (decide (x = 0)) H) : tLast0 K σ H Q := by
  refine deal0_in d h0 ⟨1, rfl, .inl ⟨p.2, (ds ++ [x]).map V.int, -1, .int x, rfl, rfl, SqL.of d.h2, ?_, .int x, .int 0, .int x, .int 0, rfl, rfl, _, rfl, ?_⟩⟩
  · unfold L2.atI L2.ixN
    rw [if_neg (by decide), if_pos (by rw [List.length_map, List.length_append]; simp; omega)]
    show ((ds ++ [x]).map V.int)[_]? = _
    rw [List.length_map, List.length_append, List.map_append]
    have e : ((-1 : Int) + ((ds.length + [x].length : Nat) : Int)).toNat = ds.length := by simp; omega
    rw [e, List.getElem?_append_right (by simp)]
    simp
  · have e : PyData.eqv (.int x) (.int 0) = decide (x = 0) := by
      simp only [PyData.eqv]
      rfl
    rw [e]
    exact q
theorem pop0_in {σ : L2.St} {Q : VK} {x : Int} {ds : List Int} (d : DlH p (ds ++ [x]) b H) (h0 : σ[(0 : Nat)]? = some (some (.ref p.1))) (q : ∀ H', DlH p ds b H' → H' = upd H p.2 (.lst (ds.map V.int)) → Q (.int x) H') : tPop0 K σ H Q := by
  refine deal0_in d h0 ⟨.inl ⟨rfl, _, SqL.of d.h2⟩, p.2, (ds ++ [x]).map V.int, .int x, rfl, rfl, d.h2, ?_, ?_⟩
  · rw [List.length_map, List.length_append, List.map_append]
    simp
  · have e : ((ds ++ [x]).map V.int).dropLast = ds.map V.int := by rw [List.map_append]; simp
    rw [e]
    exact q _ ⟨d.ne, (upd_ne d.ne).trans d.h1, upd_same⟩ rfl
end
/-- only the deal has changed -/
structure DlS (p : Addr × Addr) (H H' : Hp) : Prop where
  keep : ∀ a o, H a = some o → a ≠ p.1 → a ≠ p.2 → H' a = some o
  live : ∀ a, H' a = none → H a = none
  tb : ∀ a o, H' a = some o → H a = some o ∨ isTb o = false
theorem DlS.refl (p : Addr × Addr) (H : Hp) : DlS p H H := ⟨fun _ _ h _ _ => h, fun _ h => h, noTb_refl⟩
theorem DlS.lay {p : Addr × Addr} {H H' : Hp} (s : DlS p H H') {e : Addr} {u : HO} (he : H' e = none) (nt0 : isTb u = false := by rfl) : DlS p H (upd H' e u) := ⟨fun a o h n1 n2 => upd_keep (s.keep a o h n1 n2) he, fun a h => by
  by_cases z : a = e
  · rw [z]
    exact s.live e he
  · rw [upd_ne z] at h
    exact s.live a h, fun a o h => (noTb_upd nt0 a o h).elim (s.tb a o) .inr⟩
theorem DlS.wr {p : Addr × Addr} {H H' : Hp} (s : DlS p H H') {e : Addr} {u : HO} (he : e = p.1 ∨ e = p.2) (hs : ∃ o, H' e = some o) (nt0 : isTb u = false := by rfl) : DlS p H (upd H' e u) := ⟨fun a o h n1 n2 => by
  rw [upd_ne (fun z => he.elim (fun he => n1 (z.trans he)) fun he => n2 (z.trans he))]
  exact s.keep a o h n1 n2, fun a h => by
  by_cases z : a = e
  · rw [z, upd_same] at h
    cases h
  · rw [upd_ne z] at h
    exact s.live a h, fun a o h => (noTb_upd nt0 a o h).elim (s.tb a o) .inr⟩
theorem dropZ_snoc (ds : List Int) : ∀ x : Int, dropZ (ds ++ [x]) = if x = 0 then dropZ ds else ds ++ [x] := by
  induction ds with
  | nil =>
    intro x
    by_cases h : x = 0 <;> simp [dropZ, h]
  | cons d ds ih =>
    intro x
    show dropZ (d :: (ds ++ [x])) = _
    unfold dropZ
    rw [ih x]
    by_cases h : x = 0
    · simp only [h, if_true]
    · simp only [h, if_false]
      cases ds <;> simp
theorem anyD_eq (k : Int) (cs : List Int) (b : Int) : anyD k (cs, b) = (match (dropZ cs).getLast? with
  | some x => (x % k, (dropZ cs).dropLast ++ [x / k], b)
  | none => ((b * 40693 + 71) % 2147483647 / 64 % k, [], (b * 40693 + 71) % 2147483647)) := rfl
theorem dropZ_len : ∀ cs : List Int, (dropZ cs).length ≤ cs.length
  | [] => Nat.le_refl _
  | x :: r => by
    have ih := dropZ_len r
    unfold dropZ
    split
    · split
      · simp
      · simp
    · rename_i y r' e
      rw [e] at ih
      simpa using ih
section
variable {p : Addr × Addr} {cs : List Int} {b k : Int} {H : Hp} {K : PySem.W.Frag}
/-- what the body does -/
theorem any_reads {σ : L2.St} {Q : VK} {Nx : L2.St → Hp → Prop} (d : DlH p cs b H) (h0 : σ[(0 : Nat)]? = some (some (.ref p.1))) (h1 : σ[(1 : Nat)]? = some (some (.int k))) (hl : 3 ≤ σ.length) (hk : 0 < k) (hk2 : k.natAbs.log2 < 9000) (hc : cs.length ≤ 100)
    (q : ∀ H', DlH p (anyD k (cs, b)).2.1 (anyD k (cs, b)).2.2 H' → DlS p H H' → Q (.int (anyD k (cs, b)).1) H') : tAny K { nx := Nx, rt := Q } σ H := by
  refine ⟨fun m σ' H' => σ' = σ ∧ ∃ ds, m = ds.length ∧ DlH p ds b H' ∧ DlS p H H' ∧ dropZ ds = dropZ cs, ⟨cs.length, rfl, cs, rfl, d, DlS.refl p H, rfl⟩, ?_⟩
  rintro m σ' H' ⟨rfl, ds, rfl, d1, s1, hz⟩
  have rest : ∀ {ds : List Int} {H' : Hp}, DlH p ds b H' → DlS p H H' → ds = dropZ cs → tSeq (tIfS (tNe0 K) (tSeq (tAsg (tCB rInt1 (tCons (tPop0 K) tNil)) (gName 2)) (tSeq (tDrop (tBM K "list" rAppend (tDeal0 K) (tCons (tOp (rI CDivW fun i j => .int (i / j)) (tVar 2) (tVar 1)) tNil))) (tRet (tOp (rI (fun _ j => 0 < j) fun i j => .int (i % j)) (tVar 2) (tVar 1))))) tNext)
      (tSeq (tAsg (tOp (rI (fun _ j => 0 < j) fun i j => .int (i % j)) (tCB rInt1 (tCons (tOp (rI0 fun i j => .int (i + j)) (tOp (rI CMul fun i j => .int (i * j)) (tDeal1 K) (tC (.int 40693))) (tC (.int 71))) tNil)) (tC (.int 2147483647))) (gSub (tVar 0) (tC (.int 1)) rSetL))
        (tRet (tOp (rI (fun _ j => 0 < j) fun i j => .int (i % j)) (tCB rInt1 (tCons (tOp (rI CDivW fun i j => .int (i / j)) (tDeal1 K) (tC (.int 64))) tNil)) (tVar 1)))) { nx := Nx, rt := Q } σ' H' := by
    intro ds H' d1 s1 hds
    refine ne0_in d1 h0 fun e he => ?_
    have d2 := d1.lay (u := .lst []) he
    have s2 := s1.lay (u := .lst []) he
    rcases List.eq_nil_or_concat ds with rfl | ⟨ds', x, rfl⟩
    · rw [show (!decide (([] : List Int) = [])) = false from rfl, if_neg Bool.false_ne_true]
      -- the blend
      have ea : anyD k (cs, b) = ((b * 40693 + 71) % 2147483647 / 64 % k, [], (b * 40693 + 71) % 2147483647) := by
        rw [anyD_eq, ← hds]
        rfl
      refine deal1_in d2 h0 ⟨b, 40693, rfl, rfl, .inr ⟨by decide, by decide⟩, b * 40693, 71, rfl, rfl, .inl ⟨b * 40693 + 71, rfl, b * 40693 + 71, 2147483647, rfl, rfl, (by show (0 : Int) < 2147483647; decide), .ref p.1, h0, p.1, [.ref p.2, .int b], 1, 1, rfl, rfl, d2.h1, rfl, ?_⟩⟩
      have d3 : DlH p [] ((b * 40693 + 71) % 2147483647) (upd (upd H' e (.lst [])) p.1 (.lst [.ref p.2, .int ((b * 40693 + 71) % 2147483647)])) := ⟨d2.ne, upd_same, (upd_ne d2.ne.symm).trans d2.h2⟩
      have s3 : DlS p H (upd (upd H' e (.lst [])) p.1 (.lst [.ref p.2, .int ((b * 40693 + 71) % 2147483647)])) := s2.wr (.inl rfl) ⟨_, d2.h1⟩
      refine deal1_in d3 h0 ⟨_, 64, rfl, rfl, ⟨by decide, by decide⟩, .inl ⟨_, rfl, .int k, h1, _, k, rfl, rfl, hk, ?_⟩⟩
      rw [ea] at q
      exact q _ d3 s3
    · rw [List.concat_eq_append] at *
      have e1 : (!decide (ds' ++ [x] = [])) = true := by simp
      rw [e1, if_pos rfl]
      have ea : anyD k (cs, b) = (x % k, ds' ++ [x / k], b) := by
        rw [anyD_eq, ← hds]
        simp
      refine pop0_in d2 h0 fun H3 d3 e3 => .inl ⟨x, rfl, ?_⟩
      have s3 : DlS p H H3 := by
        rw [e3]
        exact s2.wr (.inr rfl) ⟨_, d2.h2⟩
      have hσ : ∀ j : Nat, j ≠ 2 → (σ'.set 2 (some (.int x)))[j]? = σ'[j]? := fun j hj => List.getElem?_set_ne (fun z => hj z.symm)
      have h2 : (σ'.set 2 (some (V.int x)))[(2 : Nat)]? = some (some (.int x)) := List.getElem?_set_self (by omega)
      have g0 : (σ'.set 2 (some (V.int x)))[(0 : Nat)]? = some (some (.ref p.1)) := (hσ 0 (by decide)).trans h0
      have g1 : (σ'.set 2 (some (V.int x)))[(1 : Nat)]? = some (some (.int k)) := (hσ 1 (by decide)).trans h1
      have hlen : ds'.length < 100 := by
        have := dropZ_len cs
        rw [← hds, List.length_append] at this
        simp at this
        omega
      refine deal0_in d3 g0 ⟨.inl ⟨rfl, _, SqL.of d3.h2⟩, .int x, h2, .int k, g1, x, k, rfl, rfl, ⟨hk, hk2⟩, p.2, ds'.map V.int, .int (x / k), rfl, rfl, d3.h2, by rw [List.length_map, sizeLine_eq]; omega, ?_⟩
      have d4 : DlH p (ds' ++ [x / k]) b (upd H3 p.2 (.lst (ds'.map V.int ++ [.int (x / k)]))) := ⟨d3.ne, (upd_ne d3.ne).trans d3.h1, by rw [List.map_append]; exact upd_same⟩
      have s4 : DlS p H (upd H3 p.2 (.lst (ds'.map V.int ++ [.int (x / k)]))) := s3.wr (.inr rfl) ⟨_, d3.h2⟩
      refine ⟨.int x, h2, .int k, g1, x, k, rfl, rfl, hk, ?_⟩
      rw [ea] at q
      exact q _ d4 s4
  refine ne0_in d1 h0 fun e he => ?_
  have d2 := d1.lay (u := .lst []) he
  have s2 := s1.lay (u := .lst []) he
  rcases List.eq_nil_or_concat ds with rfl | ⟨ds', x, rfl⟩
  · rw [show (!decide (([] : List Int) = [])) = false from rfl]
    simp only [Bool.false_eq_true, if_false]
    exact rest d2 s2 hz
  · rw [List.concat_eq_append] at *
    have e1 : (!decide (ds' ++ [x] = [])) = true := by simp
    rw [e1, if_pos rfl]
    refine last0_in d2 h0 ?_
    by_cases hx : x = 0
    · rw [decide_eq_true hx]
      simp only [if_true]
      refine ⟨fun σ3 H3 => σ3 = σ' ∧ ∃ es, es.length = ds'.length ∧ DlH p es b H3 ∧ DlS p H H3 ∧ dropZ es = dropZ cs, fun σ3 H3 ⟨e3, es, hes, q1, q2, q3⟩ => ⟨es.length, by rw [hes, List.length_append]; simp, e3, es, rfl, q1, q2, q3⟩, ?_⟩
      refine pop0_in d2 h0 fun H3 d3 e3 => ⟨rfl, ds', rfl, d3, ?_, ?_⟩
      · rw [e3]
        exact s2.wr (.inr rfl) ⟨_, d2.h2⟩
      · rw [← hz, dropZ_snoc, if_pos hx]
    · rw [decide_eq_false hx]
      simp only [Bool.false_eq_true, if_false]
      refine rest d2 s2 ?_
      rw [← hz, dropZ_snoc, if_neg hx]
end
end DI

end
section
set_option Elab.async false
set_option linter.all false
set_option maxRecDepth 100000
set_option maxHeartbeats 4000000
/-! DI23: the deal: its number drawn, made. Own text. -/
namespace DI
open PySem PySem.Spec PyProof.Rows L2
section
variable {w : Wd} {EF : XK → Nat → D → C → Prop} {T : Tab} {Φ : Fns} {vs : List V} {H : Hp} {Q : VK} {E : XK} {K : PySem.W.Frag} {N : List Str}
theorem any_len (h : spF w EF (runFn T Φ .any) vs H Q E) : vs.length = 2 := by
  obtain ⟨c, ds, hσ, hρ, rfl, r, rep, h⟩ := h
  rcases ds with _ | ⟨d1, _ | ⟨d2, _ | ⟨d3, ds⟩⟩⟩
  · exact h.elim
  · cases d1 <;> exact h.elim
  · exact rep.length
  · cases d1 <;> first | exact h.elim | skip
    all_goals (cases d2 <;> exact h.elim)
theorem any_in (hN : N.length = 3) (h : spF w EF (runFn T Φ .any) vs H Q E) : tAny K { nx := fun _ H' => Q .non H', rt := Q } (start N vs) H := by
  obtain ⟨c, ds, hσ, hρ, rfl, r, rep, h⟩ := h
  rcases ds with _ | ⟨d1, _ | ⟨d2, _ | ⟨d3, ds⟩⟩⟩
  · exact h.elim
  · cases d1 <;> exact h.elim
  · obtain ⟨v1, r1, rfl, q1, v2, r2, rfl, q2, q3⟩ := rep
    rw [show r2 = [] from q3]
    cases d1 <;> first | exact h.elim | skip
    cases d2 <;> first | exact h.elim | skip
    rename_i k
    cases eg : c.g with
    | none => rw [eg] at h; exact h.elim
    | some g =>
      rw [eg] at h
      obtain ⟨cs, b⟩ := g
      have h' : AftF w EF c E (if 0 < k ∧ k.natAbs.log2 < 9000 then .ok (.f (.int (anyD k (cs, b)).1)) ⟨[], some (anyD k (cs, b)).2⟩ else .stuck) Q := h
      by_cases hk : 0 < k ∧ k.natAbs.log2 < 9000
      · rw [if_pos hk] at h'
        obtain ⟨p, hp, rfl⟩ := q1
        have q2' : v2 = .int k := q2
        subst q2'
        have dd : DealAt c.F c.H (some p) (some (cs, b)) := by
          have := r.deal.1
          rw [hp, eg] at this
          exact this
        obtain ⟨z1, z2, z3, z4, z5, z6⟩ := dd
        refine any_reads (p := p) (cs := cs) (b := b) (k := k) ⟨z1, z4, z5⟩ (start_at rfl) (start_at rfl) (by rw [start_len (by rw [hN]; show 2 ≤ 3; decide), hN]; exact Nat.le_refl _) hk.1 hk.2 z6 fun H' d s => ?_
        have hT : ∀ a, Touch c a → a = p.1 ∨ a = p.2 := fun a t => by
          rcases t with ⟨i, t, _⟩ | ⟨q, t1, t2⟩
          · rw [hσ] at t
            simp at t
          · rw [hp] at t1
            cases t1
            exact t2
        have hT' : ∀ a, a = p.1 ∨ a = p.2 → Touch c a := fun a t => .inr ⟨p, hp, t⟩
        have hlen : (anyD k (cs, b)).2.1.length ≤ 100 := by
          rw [anyD_eq]
          have z7 : cs.length ≤ 100 := z6
          have := dropZ_len cs
          cases e : (dropZ cs).getLast? with
          | none => simp
          | some x =>
            have hne : dropZ cs ≠ [] := fun z => by rw [z] at e; simp at e
            have := List.length_pos_iff.mpr hne
            simp
            omega
        have re : R w ⟨c.dl, c.F, H', c.σ, c.ρ, some (anyD k (cs, b)).2⟩ := by
          refine ⟨fun a o ha => s.keep a o (r.sub a o ha) (fun z => ?_) fun z => ?_, r.len, fun i dv hi => ?_, fun i j a hi => ?_, fun i a q hi => ?_, ?_⟩
          · have ha' : c.F a = some o := ha
            rw [z, z2] at ha'
            cases ha'
          · have ha' : c.F a = some o := ha
            rw [z, z3] at ha'
            cases ha'
          · have hi' : c.ρ[i]? = _ := hi
            rw [hρ] at hi'
            simp at hi'
          · have hi' : c.σ[i]? = _ := hi.1
            rw [hσ] at hi'
            simp at hi'
          · have hi' : c.σ[i]? = _ := hi.1
            rw [hσ] at hi'
            simp at hi'
          · refine ⟨?_, r.deal.2.imp (fun a o ha ho => s.keep a o ha (fun z => ?_) fun z => ?_) noTb_refl s.tb⟩
            · show DealAt c.F H' c.dl (some (anyD k (cs, b)).2)
              rw [hp]
              exact ⟨z1, z2, z3, d.h1, d.h2, hlen⟩
            · rw [z, z4] at ha
              cases ha
              cases ho
            · rw [z, z5] at ha
              cases ha
              cases ho
        have st : SStep c ⟨c.dl, c.F, H', c.σ, c.ρ, some (anyD k (cs, b)).2⟩ := by
          refine ⟨⟨Le.refl _, fun a o ha n _ => s.keep a o ha (fun z => n (hT' a (.inl z))) fun z => n (hT' a (.inr z)), s.live, fun a ha => .inl ha, fun a ha => .inl ?_, DlLe.refl _⟩, rfl, fun i dv hi => ⟨dv, hi⟩, fun i k fs hi => ⟨fs, hi⟩⟩
          rcases ha with ⟨i, ha, _⟩ | ha
          · have ha' : c.σ[i]? = _ := ha
            rw [hσ] at ha'
            simp at ha'
          · exact .inr ha
        exact h' _ rfl re st (.int _) rfl trivial
      · rw [if_neg hk] at h'
        exact h'.elim
  · cases d1 <;> first | exact h.elim | skip
    all_goals (cases d2 <;> exact h.elim)
end
/-- the def _law_any, by its body's reading -/
theorem fn_any {P : Program} {W : World} {K : PySem.W.Frag} {mg : Str → Option Value} {base : Heap} {CX : CXT} {w : Wd} {EF : XK → Nat → D → C → Prop} {T : Tab} {Φ : Fns} {x qual : Str} {params : Arguments} {body : List Stmt} {scope : Scope} {f : Addr} {fd : FuncData} {kws : List (Str × V)} {N ps : List Str} {k : Nat}
    (F : FunD K x qual params body scope [] kws f fd) (S : FnScope N ps scope) (hN : N.length = 3) (hp : ps.length = 2)
    (h : ∀ (cdv : Value) (A : Around) (outer : List Env) (s : Shared) (H : Hp) (E : XK), Room k (A.deeper (envOfC qual scope s.heap.objs.size f cdv)) → A.guards = some [] → PSs (cxOf CX P W K mg base N qual scope f cdv A outer s H E) body (tAny K)) :
    FnG P W K mg base CX (k + 1) f fd ps (spF w EF (runFn T Φ .any)) :=
  okG F S (fun h => (any_len h).trans hp.symm) fun cdv A outer s H vs Q E hr hgd hs => ⟨_, h cdv A outer s H E hr hgd, any_in hN hs⟩
end DI

end
section
set_option Elab.async false
set_option linter.all false
set_option maxRecDepth 100000
set_option maxHeartbeats 4000000
/-! DI24: the deal made. Own text. -/
namespace DI
open PySem PySem.Spec PyProof.Rows L2
def drI1 : Sm := .set 2 (.lc [4] (.nm 4) .val (.sl (.var 0) .nop (.int 48)) .nop .nop (.blt .abs [(.blt .int [(.var 4)])]))
def drI2 : Sm := .set 3 (.bin .add (.int 7919) (.bin .mul (.int 104729) (.var 1)))
def drI3 : Sm := .for (.nm 4) .val (.var 2) .nop [.set 3 (.bin .mod (.blt .int [(.bin .add (.bin .add (.bin .mul (.var 3) (.int 48271)) (.bin .mod (.var 4) (.int 2147483549))) (.int 11))]) (.int 2147483647))]
def drE : E := .rev (.lc [4] (.nm 4) .val (.var 2) .nop (.cmp .ge (.var 4) (.bin .pow (.int 10) (.int 18))) (.var 4))
/-- what _law_draw's body reads -/
def tDraw (w : Wd) (Φ : Fns) : TS := tSeq (tS w noEx Φ drI1) (tSeq (tS w noEx Φ drI2) (tSeq (tS w noEx Φ drI3) (tRet (tLst (tCons (tE w noEx Φ drE) (tCons (tE w noEx Φ (.var 3)) tNil))))))
section
variable {T : Tab} {Φ : Fns}
def stD (ns : List Int) (salt : Int) (a b x : Option DV) : S := ⟨[some (.f (.scr ns)), some (.f (.int salt)), a, b, x], none⟩
def absL (ns : List Int) : List Int := (ns.take 48).map fun (i : Int) => (i.natAbs : Int)
def blStep (b c : Int) : Int := (b * 48271 + c % 2147483549 + 11) % 2147483647
theorem cut48 (xs : List D) : cutD xs none (some 48) = xs.take 48 := by
  show (xs.drop 0).take ((if (48 : Int) < 0 then ((48 : Int) + xs.length).toNat else min (48 : Int).toNat xs.length) - 0) = _
  rw [if_neg (by decide), List.drop_zero, Nat.sub_zero, List.take_eq_take_iff]
  show min (min 48 xs.length) xs.length = min 48 xs.length
  omega
theorem dr1 (ns : List Int) (salt : Int) : evS T Φ drI1 (stD ns salt none none none) = .ok .nx (stD ns salt (some (.o ((absL ns).map D.int))) none none) := by
  have e : evE T Φ (.lc [4] (.nm 4) .val (.sl (.var 0) .nop (.int 48)) .nop .nop (.blt .abs [(.blt .int [(.var 4)])])) (stD ns salt none none none) = .ok (.o ((((ns.take 48).map D.int).filter fun _ => true).map fun d => match d with | .int i => .int (i.natAbs : Int) | d => d)) (stD ns salt none none none) := by
    refine lc_pure (i := 4) (r := (stD ns salt none none none).r) (g := none) (v := .o ((ns.take 48).map D.int)) (xs := .lst ((ns.take 48).map D.int)) (y := .f .non) (dy := .non) (ds := (ns.take 48).map D.int) (by show 4 < 5; decide) ?_ rfl rfl rfl rfl (fun d hd => ?_) ?_
    · show Res.ok (DV.o (cutD (ns.map .int) none (some 48))) _ = _
      rw [cut48, List.map_take]
    · obtain ⟨i, _, rfl⟩ := List.mem_map.mp hd
      exact ⟨rfl, fun _ => rfl⟩
    · rw [List.length_map, List.length_take]
      have : (48 : Nat) ≤ lim := by decide
      omega
  show bnd (evE T Φ _) _ _ = _
  rw [bnd_of e]
  have e2 : (((ns.take 48).map D.int).filter fun _ => true).map (fun d => match d with | .int i => D.int (i.natAbs : Int) | d => d) = (absL ns).map D.int := by
    rw [List.filter_eq_self.mpr (fun _ _ => rfl)]
    unfold absL
    rw [List.map_map, List.map_map]
    rfl
  rw [e2]
  rfl
theorem dr2 (ns : List Int) (salt : Int) (a : DV) : evS T Φ drI2 (stD ns salt (some a) none none) = .ok .nx (stD ns salt (some a) (some (.f (.int (7919 + 104729 * salt)))) none) := rfl
theorem dr3 (ns : List Int) (salt b : Int) (cs : List Int) : ∃ x, evS T Φ drI3 (stD ns salt (some (.o (cs.map D.int))) (some (.f (.int b))) none) = .ok .nx (stD ns salt (some (.f (.lst (cs.map D.int)))) (some (.f (.int (cs.foldl blStep b)))) x) := by
  show ∃ x, forGo (asgT (.nm 4)) _ (cs.map D.int) (stD ns salt (some (.f (.lst (cs.map D.int)))) (some (.f (.int b))) none) = _
  have key := forGo_inv (st := asgT (.nm 4)) (body := evSs T Φ [.set 3 (.bin .mod (.blt .int [(.bin .add (.bin .add (.bin .mul (.var 3) (.int 48271)) (.bin .mod (.var 4) (.int 2147483549))) (.int 11))]) (.int 2147483647))])
    (fun ds s => ∃ (es : List Int) (b' : Int) (x : Option DV), ds = es.map D.int ∧ es.foldl blStep b' = cs.foldl blStep b ∧ s = stD ns salt (some (.f (.lst (cs.map D.int)))) (some (.f (.int b'))) x) (fun d ds s hI => by
      obtain ⟨es, b', x, h1, h2, rfl⟩ := hI
      cases es with
      | nil => cases h1
      | cons c es =>
        cases h1
        refine ⟨stD ns salt (some (.f (.lst (cs.map D.int)))) (some (.f (.int b'))) (some (.f (.int c))), stD ns salt (some (.f (.lst (cs.map D.int)))) (some (.f (.int (blStep b' c)))) (some (.f (.int c))), rfl, ?_, es, blStep b' c, _, rfl, h2, rfl⟩
        have hm : mulOk b' 48271 = true := by
          unfold mulOk
          rw [show small64 48271 = true from by decide]
          simp
        have e : evE T Φ (.bin .mul (.var 3) (.int 48271)) (stD ns salt (some (.f (.lst (cs.map D.int)))) (some (.f (.int b'))) (some (.f (.int c)))) = .ok (.f (.int (b' * 48271))) (stD ns salt (some (.f (.lst (cs.map D.int)))) (some (.f (.int b'))) (some (.f (.int c)))) := by
          show opt (if mulOk b' 48271 then some (DV.f (.int (b' * 48271))) else none) _ = _
          rw [if_pos hm]
          rfl
        have e3 : evE T Φ (.bin .mod (.blt .int [(.bin .add (.bin .add (.bin .mul (.var 3) (.int 48271)) (.bin .mod (.var 4) (.int 2147483549))) (.int 11))]) (.int 2147483647)) (stD ns salt (some (.f (.lst (cs.map D.int)))) (some (.f (.int b'))) (some (.f (.int c)))) = .ok (.f (.int (blStep b' c))) (stD ns salt (some (.f (.lst (cs.map D.int)))) (some (.f (.int b'))) (some (.f (.int c)))) := by
          exact ev_bin (ev_blt1 (ev_bin (ev_bin e (ev_bin rfl rfl rfl) rfl) rfl rfl) rfl) rfl rfl
        show bnd (evS T Φ (.set 3 _)) _ _ = _
        rw [bnd_of (evS_set e3 (by show 3 < 5; decide))]
        rfl)
  obtain ⟨s', h1, es, b', x, h2, h3, rfl⟩ := key (cs.map D.int) (stD ns salt (some (.f (.lst (cs.map D.int)))) (some (.f (.int b))) none) ⟨cs, b, none, rfl, rfl, rfl⟩
  have he : es = [] := by simpa using h2.symm
  subst he
  refine ⟨x, ?_⟩
  rw [← h3]
  exact h1
theorem dr4 (ns : List Int) (salt b : Int) (cs : List Int) (x : Option DV) (hl : cs.length ≤ lim) : evE T Φ drE (stD ns salt (some (.f (.lst (cs.map D.int)))) (some (.f (.int b))) x) = .ok (.o (((cs.filter fun c => decide ((10 : Int) ^ 18 ≤ c)).reverse).map D.int)) (stD ns salt (some (.f (.lst (cs.map D.int)))) (some (.f (.int b))) x) := by
  have e : evE T Φ (.lc [4] (.nm 4) .val (.var 2) .nop (.cmp .ge (.var 4) (.bin .pow (.int 10) (.int 18))) (.var 4)) (stD ns salt (some (.f (.lst (cs.map D.int)))) (some (.f (.int b))) x) = .ok (.o (((cs.map D.int).filter fun d => match d with | .int c => decide ((10 : Int) ^ 18 ≤ c) | _ => false).map id)) (stD ns salt (some (.f (.lst (cs.map D.int)))) (some (.f (.int b))) x) := by
    refine lc_pure (i := 4) (r := (stD ns salt (some (.f (.lst (cs.map D.int)))) (some (.f (.int b))) x).r) (g := none) (v := .f (.lst (cs.map D.int))) (xs := .lst (cs.map D.int)) (y := .f .non) (dy := .non) (ds := cs.map D.int) (by show 4 < 5; decide) rfl rfl rfl rfl rfl (fun d hd => ?_) (by rw [List.length_map]; exact hl)
    obtain ⟨i, _, rfl⟩ := List.mem_map.mp hd
    exact ⟨rfl, fun _ => rfl⟩
  show bnd (evE T Φ _) _ _ = _
  rw [bnd_of e]
  have e2 : ((cs.map D.int).filter fun d => match d with | .int c => decide ((10 : Int) ^ 18 ≤ c) | _ => false).map id = (cs.filter fun c => decide ((10 : Int) ^ 18 ≤ c)).map D.int := by
    rw [List.map_id, List.filter_map]
    rfl
  rw [e2]
  show Res.ok (DV.o (((cs.filter fun c => decide ((10 : Int) ^ 18 ≤ c)).map D.int).reverse)) _ = _
  rw [List.map_reverse]
end
theorem ints_map : ∀ ns : List Int, DI.intsD (ns.map D.int) = some ns
  | [] => rfl
  | n :: ns => by
    show (DI.intsD (ns.map D.int)).map (n :: ·) = _
    rw [ints_map ns]
    rfl
section
variable {w : Wd} {T : Tab} {Φ : Fns} {vs : List V} {H : Hp} {Q : VK} {E : XK} {N : List Str} {EF : XK → Nat → D → C → Prop}
theorem draw_len (h : spF w EF (runFn T Φ .draw) vs H Q E) : vs.length = 2 := by
  obtain ⟨c, ds, hσ, hρ, rfl, r, rep, h⟩ := h
  rcases ds with _ | ⟨d1, _ | ⟨d2, _ | ⟨d3, ds⟩⟩⟩
  · exact h.elim
  · cases d1 <;> exact h.elim
  · exact rep.length
  · cases d1 <;> first | exact h.elim | skip
    all_goals (cases d2 <;> exact h.elim)
theorem draw_in (hN : N.length = 5) (h : spF w EF (runFn w.T Φ .draw) vs H Q E) : tDraw w Φ { nx := fun _ H' => Q .non H', rt := Q } (start N vs) H := by
  obtain ⟨c, ds, hσ, hρ, rfl, r, rep, h⟩ := h
  rcases ds with _ | ⟨d1, _ | ⟨d2, _ | ⟨d3, ds⟩⟩⟩
  · exact h.elim
  · cases d1 <;> exact h.elim
  · cases d1 <;> first | exact h.elim | skip
    cases d2 <;> first | exact h.elim | skip
    rename_i ns salt
    cases eg : c.g with
    | some g => rw [eg] at h; exact h.elim
    | none =>
      rw [eg] at h
      have h' : AftF w EF c E (if 0 ≤ salt ∧ salt < 1000000 then .ok (.f .deal) ⟨[], some (drawD salt ns)⟩ else .stuck) Q := h
      by_cases hk : 0 ≤ salt ∧ salt < 1000000
      · rw [if_pos hk] at h'
        have nd : c.dl = none := by
          have := r.deal.1
          rw [eg] at this
          cases e : c.dl with
          | none => rfl
          | some p => rw [e] at this; exact this.elim
        have r1 := r.enter (N := N) rep (by rw [hN]; show 2 ≤ 5; decide)
        have e1 : (c.enter N [.scr ns, .int salt] vs).s = stD ns salt none none none := by
          show S.mk (startR N.length [.scr ns, .int salt]) c.g = _
          rw [hN, eg]
          rfl
        have hT : ∀ a, Touch (c.enter N [.scr ns, .int salt] vs) a → Touch c a := fun a t => by
          rcases t with ⟨i, _, dv, h2, h3⟩ | t
          · obtain ⟨d, _, rfl⟩ := startR_at h2
            cases h3
          · exact .inr t
        refine ⟨c.enter N [.scr ns, .int salt] vs, rfl, rfl, r1, ?_⟩
        rw [e1, dr1]
        intro c2 e2 r2 x2
        refine ⟨c2, rfl, rfl, r2, ?_⟩
        rw [e2, dr2]
        intro c3 e3 r3 x3
        refine ⟨c3, rfl, rfl, r3, ?_⟩
        obtain ⟨x, ex⟩ := dr3 (T := w.T) (Φ := Φ) ns salt (7919 + 104729 * salt) (absL ns)
        rw [e3, ex]
        intro c4 e4 r4 x4
        have hlen : (absL ns).length ≤ 48 := by
          unfold absL
          rw [List.length_map, List.length_take]
          omega
        have hl : (absL ns).length ≤ lim := Nat.le_trans hlen (by decide)
        have x14 := (x2.trans x3).trans x4
        refine ⟨c4, rfl, rfl, r4, ?_⟩
        show Aft w noEx c4 (evE w.T Φ drE c4.s) _
        rw [e4, dr4 _ _ _ _ _ hl]
        intro c5 e5 r5 x5 v rel fr
        refine ⟨c5, x5.σ, rfl, r5, ?_⟩
        show Aft w noEx c5 (evE w.T Φ (.var 3) c5.s) _
        rw [e5]
        intro c6 e6 r6 x6 v2 rel2 fr2
        obtain ⟨a, us, rfl, f1, f2, f3, f4⟩ := rel
        obtain ⟨a', ea, f5⟩ := fr
        cases ea
        obtain ⟨f6, _⟩ := f3.intsD (ints_map _)
        subst f6
        have hv2 : v2 = .int ((absL ns).foldl blStep (7919 + 104729 * salt)) := rel2
        subst hv2
        refine ⟨by show 2 ≤ sizeLine; decide, fun q hq => ?_⟩
        have g2 := x6.keep a _ f2 f4 rfl
        have g1 := x6.toStep.noF f2 f1 f4
        have hqa : q ≠ a := fun z => by rw [z, g2] at hq; cases hq
        have x16 : LStep (c.enter N [.scr ns, .int salt] vs) c6 := x14.trans (x5.l.trans x6.l)
        have la : c.H a = none := x14.live a f5
        have lq : c.H q = none := x16.live q hq
        have hcl : ((absL ns).filter fun c => decide ((10 : Int) ^ 18 ≤ c)).reverse.length ≤ 100 := by
          rw [List.length_reverse]
          exact Nat.le_trans (List.length_filter_le _ _) (by omega)
        have re : R w ⟨some (q, a), c6.F, upd c6.H q (.lst [.ref a, .int ((absL ns).foldl blStep (7919 + 104729 * salt))]), [], [], some (((absL ns).filter fun c => decide ((10 : Int) ^ 18 ≤ c)).reverse, (absL ns).foldl blStep (7919 + 104729 * salt))⟩ := by
          refine ⟨fun b o hb => upd_keep (r6.sub b o hb) hq, rfl, fun i dv hi => by simp at hi, fun i j b hi => by simp [Own] at hi, fun i b p hi => by simp [Own] at hi, ?_⟩
          exact ⟨⟨hqa, r6.noF hq, g1, upd_same, (upd_ne (fun z => hqa z.symm)).trans g2, hcl⟩, r6.deal.2.imp (KeepT.le fun b o hb => upd_keep hb hq) noTb_refl (noTb_upd rfl)⟩
        have st : SStep c ⟨some (q, a), c6.F, upd c6.H q (.lst [.ref a, .int ((absL ns).foldl blStep (7919 + 104729 * salt))]), [], [], some (((absL ns).filter fun c => decide ((10 : Int) ^ 18 ≤ c)).reverse, (absL ns).foldl blStep (7919 + 104729 * salt))⟩ := by
          refine ⟨⟨x16.mono, fun b o hb n tb => upd_keep (x16.keep b o hb (fun t => n (hT b t)) tb) hq, fun b hb => ?_, fun b hb => ?_, fun b hb => ?_, fun p hp => by rw [nd] at hp; cases hp⟩, hσ.symm, fun i dv hi => by rw [hρ] at hi; simp at hi, fun i k fs hi => by simp at hi⟩
          · by_cases z : b = q
            · rw [z]; exact lq
            · have hb' : upd c6.H q _ b = none := hb
              rw [upd_ne z] at hb'
              exact x16.live b hb'
          · rcases x16.newF b hb with z | z | z
            · exact .inl z
            · exact .inr (.inl (hT b z))
            · exact .inr (.inr z)
          · rcases hb with ⟨i, hb⟩ | ⟨p, hp, hb⟩
            · simp [Own] at hb
            · cases hp
              rcases hb with rfl | rfl
              · exact .inr lq
              · exact .inr la
        exact h' _ rfl re st (.ref q) ⟨(q, a), rfl, rfl⟩ trivial
      · rw [if_neg hk] at h'
        exact h'.elim
  · cases d1 <;> first | exact h.elim | skip
    all_goals (cases d2 <;> exact h.elim)
end
/-- the def _law_draw, by its body's reading -/
theorem fn_draw {EF : XK → Nat → D → C → Prop} {P : Program} {W : World} {K : PySem.W.Frag} {mg : Str → Option Value} {base : Heap} {CX : CXT} {w : Wd} {Φ : Fns} {x qual : Str} {params : Arguments} {body : List Stmt} {scope : Scope} {f : Addr} {fd : FuncData} {kws : List (Str × V)} {N ps : List Str} {k : Nat}
    (F : FunD K x qual params body scope [] kws f fd) (S : FnScope N ps scope) (hN : N.length = 5) (hp : ps.length = 2)
    (h : ∀ (cdv : Value) (A : Around) (outer : List Env) (s : Shared) (H : Hp) (E : XK), Room k (A.deeper (envOfC qual scope s.heap.objs.size f cdv)) → A.guards = some [] → PSs (cxOf CX P W K mg base N qual scope f cdv A outer s H E) body (tDraw w Φ)) :
    FnG P W K mg base CX (k + 1) f fd ps (spF w EF (runFn w.T Φ .draw)) :=
  okG F S (fun h => (draw_len h).trans hp.symm) fun cdv A outer s H vs Q E hr hgd hs => ⟨_, h cdv A outer s H E hr hgd, draw_in hN hs⟩
end DI

end
section
set_option Elab.async false
set_option linter.all false
set_option maxRecDepth 100000
set_option maxHeartbeats 4000000
/-! DI25: a law's end over FnG. Own text, after the layer's ends. -/
namespace DI
open PySem PySem.Spec PyProof.Rows L2
section
variable {P : Program} {w : World} {K : PySem.W.Frag} {mg mb : Str → Option Value} {k : Nat} {fa a : Addr} {fd : FuncData} {x : Str} {sp : Sp} {s1 : Shared} {vs : List Value} {ns : List Int}
abbrev LawEnd (s1 : Shared) : Result → Shared → Prop := fun r s' => r = .ok (.ret (.bool true)) ∧ OldK s1.heap s'.heap ∧ s'.os = s1.os ∧ AllBare s'.gens
/-- from an abstract heap that tracks the script at the most -/
theorem lawFrom (kx : K.In s1.heap) (hns : s1.heap.Ns mainGlobals mg) (hb : s1.heap.Ns builtinsNs mb) (hbb : ∀ x : Str, x ≠ "__name__" → mb x = bootBuiltins x) (lim : s1.heap.NoLimit) (bare : s1.gens = #[])
    (ha : s1.heap.get? a = some { cls := .type "list", data := .seq vs.toArray }) (hr : Room k callerA) (F : ∀ base : Heap, K.In base → base.Ns mainGlobals mg → FnG P w K mg base CX0 k fa fd [x] sp) (bd : ∀ (s : Shared) (u : Value), BindsTo s fd ⟨[u], []⟩ [(x, u)])
    {H : Hp} (one : ∀ b, H b = none ∨ b = a) (frz : ∀ b u, H b = some u → ∃ o xs, u = .frz o (.lst xs)) (nk : H a ≠ none → K.lookup a = none) (hok : HOk P w H s1.heap) (hs : sp [.ref a] H (fun v _ => v = .bl true) fun _ _ _ => False) :
    codeAny (model P w) callerA (.call (.ref fa) ⟨[.ref a], []⟩) (LawEnd s1) s1 := by
  have keepB : ∀ {b : Addr} {o : Obj}, s1.heap.get? b = some o → H b = none → (hidT s1.heap H).get? b = some o := fun e n => hidT_get e n
  have away : ∀ {b : Addr} {o : Obj} {es : Array DictEntry} {n : Nat}, s1.heap.get? b = some o → o.data = .dict es n → H b = none := by
    intro b o es n e d
    rcases one b with z | rfl
    · exact z
    · rw [ha] at e
      cases e
      have d2 : Data.seq vs.toArray _ = Data.dict es n := d
      cases d2
  have nsB : ∀ {b : Addr} {m : Str → Option Value}, s1.heap.Ns b m → (hidT s1.heap H).Ns b m := by
    rintro b m ⟨o, es, n, e, d, r⟩
    exact ⟨o, es, n, keepB e (away e d), d, r⟩
  have inB : K.In (hidT s1.heap H) := by
    intro b o e
    refine keepB (kx b o e) ?_
    rcases one b with z | rfl
    · exact z
    · cases q : H b with
      | none => rfl
      | some u =>
        rw [nk (by rw [q]; simp)] at e
        cases e
  have md : Mod K mg (hidT s1.heap H) := by
    refine ⟨inB, nsB hns, ⟨mb, nsB hb, hbb⟩, ?_⟩
    obtain ⟨mc, c1, c2⟩ := lim
    exact ⟨mc, nsB c1, c2⟩
  have env : Env0 P w K mg (hidT s1.heap H) callerA [] s1 H := by
    refine ⟨rfl, md, fun b o e => of_hidT e, Nat.le_of_eq (hidT_size _ _), trivial, fun b z => ?_, hok, .of_eq bare⟩
    simp [frs] at z
  refine codeAny_mono ((F _ inB (nsB hns)).go (us := [.ref a]) (vs := [V.ref a]) hr rfl env (bd s1 (.ref a)) (.cons (show RelV (V.ref a) (Value.ref a) from rfl) .nil) hs) fun r s2 h => ?_
  match r, h with
  | .ok (.ret u), h =>
    obtain ⟨v, H2, os, br, un, ok2, rv, rfl⟩ := h
    obtain rfl : u = Value.bool true := rv
    refine ⟨rfl, OldK.of_keep fun b o e => ?_, os, br⟩
    cases q : H b with
    | none => exact un.keep b o e q (by simp [frs]) (by simp)
    | some u =>
      obtain ⟨ob, xs, rfl⟩ := frz b u q
      obtain ⟨e1, _⟩ := hok b _ q
      obtain ⟨e2, _⟩ := ok2 b _ (un.frzs b ob _ q)
      rw [e] at e1
      cases e1
      exact e2
theorem lawG (kx : K.In s1.heap) (hns : s1.heap.Ns mainGlobals mg) (hb : s1.heap.Ns builtinsNs mb) (hbb : ∀ x : Str, x ≠ "__name__" → mb x = bootBuiltins x) (lim : s1.heap.NoLimit) (bare : s1.gens = #[])
    (ha : s1.heap.get? a = some { cls := .type "list", data := .seq vs.toArray }) (hi : IntsAre vs ns) (hl : ns.length ≤ sizeLine) (hr : Room k callerA) (F : ∀ base : Heap, K.In base → base.Ns mainGlobals mg → FnG P w K mg base CX0 k fa fd [x] sp)
    (bd : ∀ (s : Shared) (u : Value), BindsTo s fd ⟨[u], []⟩ [(x, u)]) (hs : ∀ H : Hp, SqL K H a (ns.map V.int) → sp [.ref a] H (fun v _ => v = .bl true) fun _ _ _ => False) :
    codeAny (model P w) callerA (.call (.ref fa) ⟨[.ref a], []⟩) (LawEnd s1) s1 := by
  have rv := vals_ints hi
  have ln := hi.length
  cases hk : K.lookup a with
  | some o =>
    have e := kx a o hk
    rw [ha] at e
    cases e
    refine lawFrom kx hns hb hbb lim bare ha hr F bd (H := fun _ => none) (fun _ => .inl rfl) (fun b u z => by cases z) (fun z => absurd rfl z) (fun b u z => by cases z) (hs _ (.inr ⟨_, vs.toArray, _, hk, rfl, rfl, rfl, ?_, by simpa using rv⟩))
    rw [List.size_toArray, ln]
    exact hl
  | none =>
    have at_a : (fun b => if b = a then some (HO.frz { cls := .type "list", data := .seq vs.toArray } (.lst (ns.map V.int))) else none) a = some (HO.frz { cls := .type "list", data := .seq vs.toArray } (.lst (ns.map V.int))) := if_pos rfl
    have only : ∀ {b : Addr} {u : HO}, (fun b => if b = a then some (HO.frz { cls := .type "list", data := .seq vs.toArray } (.lst (ns.map V.int))) else none) b = some u → b = a ∧ u = HO.frz { cls := .type "list", data := .seq vs.toArray } (.lst (ns.map V.int)) := by
      intro b u z
      by_cases q : b = a
      · subst q
        rw [at_a] at z
        cases z
        exact ⟨rfl, rfl⟩
      · have z' := (if_neg q).symm.trans z
        cases z'
    refine lawFrom kx hns hb hbb lim bare ha hr F bd (H := fun b => if b = a then some (HO.frz { cls := .type "list", data := .seq vs.toArray } (.lst (ns.map V.int))) else none) (fun b => ?_) (fun b u z => ⟨_, _, (only z).2⟩) (fun _ => hk) (fun b u z => ?_) (hs _ (.inl (.inr ⟨_, at_a⟩)))
    · by_cases q : b = a
      · exact .inr q
      · exact .inl (if_neg q)
    · obtain ⟨rfl, rfl⟩ := only z
      exact ⟨ha, by rw [List.length_map]; exact hl, vs, _, rv, ha⟩
end
/-- a law's def: F gives the written part, the function object, the promise over every base -/
theorem walkG {l : PySem.W.OpenLaw} {n k : Nat} {q : Program} {loose : List Str} {XP : (Str → Option Value) → Heap → Prop} {YP : World → Heap → Prop} {d : DefRec} {x : Str}
    (hn : l.most = some n) (hn2 : n ≤ sizeLine) (hdf : d.params.defaults = []) (hr : Room k callerA)
    (F : ∀ (w : World) (mg : Str → Option Value) (fa : Addr) (h : Heap), YP w h → h.Ns mainGlobals mg → mg d.name = some (.ref fa) → ∃ (K : PySem.W.Frag) (fd : FuncData) (sp : Sp), K.In h ∧ (∀ (s : Shared) (u : Value), BindsTo s fd ⟨[u], []⟩ [(x, u)]) ∧
      (∀ (H : Hp) (a : Addr) (ns : List Int), ns.length ≤ n → SqL K H a (ns.map V.int) → sp [.ref a] H (fun v _ => v = .bl true) fun _ _ _ => False) ∧ ∀ base : Heap, K.In base → base.Ns mainGlobals mg → FnG l.prog w K mg base CX0 k fa fd [x] sp) :
    PySem.W.WalkO q loose XP YP l.row.toRowW d [] (fun f vs => PySem.call f vs) :=
  Att.attach_call hn hdf fun w s₀ s₁ mg mb fa o pm cd doc a vs ns G Y ho hd hcd hmg hobj hints hlen hg => by
    obtain ⟨K, fd, sp, kx, bd, hs, hF⟩ := F w mg fa _ Y G.T.g hmg
    exact lawG kx G.T.g G.T.b G.T.builtins G.T.nolimit hg hobj hints (Nat.le_trans hlen hn2) hr hF bd fun H hS => hs H a ns hlen hS
/-- what is let be at the law's start: all but the tables -/
def noTbH (H : Hp) : Hp := fun b => match H b with
  | some (.tbl _) => none
  | o => o
theorem noTbH_of {H : Hp} {b : Addr} {o : HO} (h : H b = some o) (n : isTb o = false) : noTbH H b = some o := by
  unfold noTbH
  rw [h]
  cases o <;> first | rfl | cases n
theorem noTbH_in {H : Hp} {b : Addr} {o : HO} (h : noTbH H b = some o) : H b = some o ∧ isTb o = false := by
  unfold noTbH at h
  cases e : H b with
  | none => rw [e] at h; cases h
  | some u =>
    rw [e] at h
    cases u <;> first | (cases h; exact ⟨rfl, rfl⟩) | cases h
/-- what is left: the data program of the law's def -/
theorem law_sp {EF : XK → Nat → D → C → Prop} {w : Wd} {φ : List D → G → Res DV} {H : Hp} {a : Addr} {ns : List Int} {E : XK} (h : SqL w.K H a (ns.map V.int)) (hT : ∀ p ∈ w.tb, H p.1 = some (.tbl #[])) (hT2 : ∀ b o, H b = some o → isTb o = true → b ∈ w.tb.map (·.1))
    (s' : S) (e : φ [.scr ns] none = .ok (.f (.bl true)) s') : spF w EF φ [.ref a] H (fun v _ => v = .bl true) E := by
  have h' : SqL w.K (noTbH H) a (ns.map V.int) := by
    rcases h with (h | ⟨o, h⟩) | h
    · exact .inl (.inl (noTbH_of h rfl))
    · exact .inl (.inr ⟨o, noTbH_of h rfl⟩)
    · exact .inr h
  refine ⟨⟨none, noTbH H, H, [], [], none⟩, [.scr ns], rfl, rfl, rfl, ⟨fun b o e => (noTbH_in e).1, rfl, fun i dv hi => by simp at hi, fun i j b hi => by simp [Own] at hi, fun i b p hi => by simp [Own] at hi, trivial, fun p hp => LamX.TabS.nil (hT p hp), fun b o e => (noTbH_in e).2, hT2⟩, ⟨.ref a, [], rfl, ⟨a, rfl, h'⟩, rfl⟩, ?_⟩
  show AftF w EF _ E (φ [.scr ns] none) _
  rw [e]
  exact fun c _ _ _ v rel _ => rel
end DI

end
section
set_option Elab.async false
set_option linter.all false
set_option maxRecDepth 100000
set_option maxHeartbeats 4000000
/-! DI26: levels. Own text. -/
namespace DI
open PySem PySem.Spec PyProof.Rows L2
section
variable {P : Program} {W : World} {K : PySem.W.Frag} {mg : Str → Option Value} {base : Heap} {w : Wd} {n qual : Str} {pr : Arguments} {bd : List Stmt} {sc : Scope} {f : Addr} {fd : FuncData} {ps : List Str} {k k0 : Nat} {φ : List D → G → Res DV}
theorem tf0 (F : FunD K n n pr bd sc [] [] f fd) (m : mg n = some (.ref f)) (b : Binds K fd ps []) (h : ∀ ds g, φ ds g = .stuck) : TF P W K mg base w n pr ps φ k :=
  ⟨f, fd, bd, sc, ⟨fun {vs H Q E} z => by
    obtain ⟨c, ds, _, _, _, _, _, z⟩ := z
    rw [h] at z
    exact z.elim, fun {A out s H ar us vs Q E} _ _ _ _ _ z => by
    obtain ⟨c, ds, _, _, _, _, _, z⟩ := z
    rw [h] at z
    exact z.elim⟩, F, m, b⟩
theorem tfS (F : FunD K n n pr bd sc [] [] f fd) (m : mg n = some (.ref f)) (b : Binds K fd ps []) (ok : FnG P W K mg base CX0 k f fd ps (spF w noEF φ)) : TF P W K mg base w n pr ps φ k := ⟨f, fd, bd, sc, ok, F, m, b⟩
theorem mf0 (M : Mk K (w.ca k0) f) (m : mg n = some (.ref (w.ca k0))) (b : Binds K fd ps []) (h : ∀ ds g, φ ds g = .stuck) : MF P W K mg base w n ps k0 φ k :=
  ⟨f, fd, ⟨fun {vs H Q E} z => by
    obtain ⟨c, ds, x, us, _, _, _, _, _, _, z⟩ := z
    rw [h] at z
    exact z.elim, fun {A out s H ar us vs Q E} _ _ _ _ _ z => by
    obtain ⟨c, ds, x, us, _, _, _, _, _, _, z⟩ := z
    rw [h] at z
    exact z.elim⟩, M, m, b⟩
theorem mfS (M : Mk K (w.ca k0) f) (m : mg n = some (.ref (w.ca k0))) (b : Binds K fd ps []) (ok : FnG P W K mg base CX0 k f fd ps (spI w noEF k0 φ)) : MF P W K mg base w n ps k0 φ k := ⟨f, fd, ok, M, m, b⟩
end
end DI

end
section
set_option Elab.async false
set_option linter.all false
set_option maxRecDepth 100000
set_option maxHeartbeats 4000000
/-! DI27: chains, sorted(set(..)), is True. Own text. -/
namespace DI
open PySem PySem.Spec PyProof.Rows L2
def rSortSetN (K : PySem.W.Frag) (ta : TE) : TE := fun σ H Q => ta σ H fun x H1 => ∃ (l : Addr) (ns : List Int), x = V.ref l ∧ SqT K H1 l (ns.map V.int) ∧ ns.length < 64 ∧ ∀ p o p2, isTb o = false → H1 p = none → upd H1 p o p2 = none → Q (.ref p2) (upd (upd H1 p o) p2 (.lst ((sortI (firsts ns)).map V.int)))
theorem lt_uniq {a b : List Int} (ha : a.Pairwise (· < ·)) (hb : b.Pairwise (· ≤ ·)) (hn : b.Nodup) (h : ∀ k, k ∈ a ↔ k ∈ b) : a = b := by
  have na : a.Nodup := List.nodup_iff_pairwise_ne.mpr (ha.imp fun {x y} h => by omega)
  exact sorted_uniq ((List.perm_ext_iff_of_nodup na hn).mpr h) (ha.imp fun {x y} h => by omega) hb
theorem pe_sortSetN {X : Cx} {a : Expr} {ta : TE} {p p2 q pos : Pos} (hc : X.calm = true) (hg : Gl X "sorted") (hm : X.mg "sorted" = none) (hg2 : Gl X "set") (hm2 : X.mg "set" = none) (ha : PE X a ta)
    (na : starEach [a] X.env = (false, eval a X.env) :: starEach [] X.env) : PE X (.Call (.Name "sorted" p) [.Call (.Name "set" p2) [a] [] q] [] pos) (rSortSetN X.K ta) := ⟨fun pins s σ H Q I h => by
  refine Call_ (ld_blt I hg hm boot_sorted (PyProof.Rows.callWith_builtin1 (PyProof.Rows.args_cons ?_ rfl) rfl rfl))
  refine Call_ (ld_blt I hg2 hm2 boot_set (PyProof.Rows.callWith_type1 (PyProof.Rows.args_cons (thn (ha.run pins s σ H _ I h) fun v s1 z => PyProof.Rows.args_nil ?_) na) na rfl))
  obtain ⟨x, H1, I1, r1, l, ns, rfl, hq, hl, q1⟩ := z
  cases r1
  obtain ⟨its, r, pl, hz⟩ := I1.tuple hq
  refine call_set_tupI (s := s1) ns (I1.ok.hd hc) (show s1.heap.IsTuple l its.toArray from pl) (by simpa using RZ.intsAre_vals r) (by unfold scanBound; omega) fun h2 tk c hS hcl hk => PyProof.Rows.args_nil ?_
  have I2 : Inv X pins σ (upd H1 s1.heap.objs.size (SetO X.w s1.heap.objs.size (fun j => decide (j ∈ ns)) c)) { s1 with heap := h2, toks := tk } := Inv.laid I1 hk (Nat.le_refl _) (setO_new hS)
  have hp : H1 s1.heap.objs.size = none := Inv.fresh I1
  refine cr_sortedSet hc pins _ σ _ [.ref s1.heap.objs.size] [.ref s1.heap.objs.size] Q I2 (.cons rfl .nil) ⟨_, _, c, rfl, upd_same, by omega, fun ns' p2 hp2 hm' hl' hn => ?_⟩
  have e : ns' = sortI (firsts ns) := lt_uniq hp2 (sortI_sorted _) ((sortI_perm _).nodup_iff.mpr (firsts_nodup ns)) fun k => by
    rw [hm', (sortI_perm _).mem_iff, mem_firsts, decide_eq_true_eq]
  rw [e]
  exact q1 _ _ _ rfl hp hn⟩
section
variable {w : Wd} {Ex : Nat → D → C → Prop} {Φ : Fns} {X : Cx} {x y z : Expr} {a b c : E} {p p2 q pos apos npos : Pos}
theorem q_sortset [NoExn w] (g : Gx w X) (f : Fr X "sorted") (f2 : Fr X "set") (ha : PE X x (tE w Ex Φ a)) (hg : Gl X "sorted" := by rfl) (hg2 : Gl X "set" := by rfl) (na : starEach [x] X.env = (false, eval x X.env) :: starEach [] X.env := by rfl) :
    PE X (.Call (.Name "sorted" p) [.Call (.Name "set" p2) [x] [] q] [] pos) (tE w Ex Φ (.blt .sortset [a])) := (pe_sortSetN (g.hc NoExn.h) hg f hg2 f2 ha na).imp fun σ H Q h => by
  obtain ⟨c, rfl, rfl, r, h⟩ := tE_in h
  have e : ev w Φ (.blt .sortset [a]) = bnd (ev w Φ a) fun v => bnd (look v) fun d => opt (bltD .sortset [d]) := by
    show bnd (bnd (ev w Φ a) fun v => bnd (ret []) fun vs => ret (v :: vs)) (fun vs => bnd (looks vs) fun ds => opt (bltD .sortset ds)) = _
    rw [bnd_assoc]
    congr 1
    funext v
    show bnd (bnd (look v) fun d => bnd (ret []) fun ds => ret (d :: ds)) (fun ds => opt (bltD .sortset ds)) = _
    rw [bnd_assoc]
    rfl
  rw [e] at h
  refine tE_seq h (SStep.refl c) r fun c2 u du r2 x2 x02 hσ rel fr fr0 h2 => ?_
  obtain ⟨d, lk, h3⟩ := h2.look r2 rel
  obtain ⟨dv, e1, h4⟩ := h3.opt0
  cases d <;> first | (cases e1; done) | skip
  obtain ⟨ns, e2, e3⟩ := Option.bind_eq_some_iff.mp (show (DI.intsD _).bind _ = some dv from e1)
  split at e3
  · rename_i hz
    cases e3
    obtain ⟨A, us, rfl, s1, rep⟩ := lk.seqT r2
    obtain ⟨e4, _⟩ := rep.intsD e2
    subst e4
    refine ⟨A, ns, rfl, by rw [g.hK]; exact s1, hz, fun p o p2 nt hp hp2 => ?_⟩
    obtain ⟨r3, x3⟩ := r2.lay hp o nt
    exact Aft.newLst (c := { c2 with H := upd c2.H p o }) h4 (x02.trans x3) r3 (RepAll.ofInts _) hp2
  · cases e3
theorem chain_read (g : Gx w X) (o o2 : COp) : ∃ r r', OpR X (compareOp (copOf o)) r ∧ OpR X (compareOp (copOf o2)) r' ∧ ∀ σ H Q, tE w Ex Φ (.chain o o2 a b c) σ H Q → tChain r r' (tE w Ex Φ a) (tE w Ex Φ b) (tE w Ex Φ c) σ H Q := by
  obtain ⟨r, h1, k1⟩ := ok_cmp (w := w) (Ex := Ex) (X := X) g.hK g.hu o
  obtain ⟨r', h1', k1'⟩ := ok_cmp (w := w) (Ex := Ex) (X := X) g.hK g.hu o2
  refine ⟨r, r', h1, h1', fun σ H Q h => ?_⟩
  obtain ⟨c0, rfl, rfl, r0, h⟩ := tE_in h
  refine tE_seq h (SStep.refl c0) r0 fun c2 u du r2 x2 x02 hσ rel fr fr0 h2 => ?_
  rw [← hσ]
  refine tE_seq h2 x02 r2 fun c3 v dv r3 x3 x03 hσ3 rel3 fr3 fr03 h3 => ?_
  obtain ⟨d1, l1, h4⟩ := h3.look r3 (rel.step x3)
  obtain ⟨d2, l2, h5⟩ := h4.look r3 rel3
  obtain ⟨k, e, h6⟩ := h5.opt
  refine k1 r3 (SStep.refl c3) l1 l2 ?_
  unfold bl1
  rw [e]
  intro c' hs' r' x' v' hv' _
  have hv : v' = .bl k := hv'
  subst hv
  refine ⟨k, rfl, ?_⟩
  have h7 := h6
  rw [← hs'] at h7
  cases k with
  | false =>
    rw [if_neg Bool.false_ne_true] at h7 ⊢
    exact h7.fin (x03.trans x') r' rfl trivial
  | true =>
    rw [if_pos rfl] at h7 ⊢
    rw [← hσ3, ← x'.σ]
    refine tE_seq h7 (x03.trans x') r' fun c4 wv dw r4 x4 x04 hσ4 rel4 fr4 fr04 h8 => ?_
    obtain ⟨d2', l2', h9⟩ := h8.look r4 (rel3.step (x'.trans x4))
    obtain ⟨d3, l3, h10⟩ := h9.look r4 rel4
    rw [bnd_map] at h10
    exact k1' r4 x04 l2' l3 h10
theorem q_chain (g : Gx w X) (o o2 : COp) (ha : PE X x (tE w Ex Φ a)) (hb : PE X y (tE w Ex Φ b)) (hc : PE X z (tE w Ex Φ c)) (hm : lastMarks [copOf o, copOf o2] [y, z] = false := by rfl) : PE X (.Compare x [copOf o, copOf o2] [y, z] pos) (tE w Ex Φ (.chain o o2 a b c)) := by
  obtain ⟨r, r', h1, h2, h3⟩ := chain_read (Ex := Ex) (Φ := Φ) (a := a) (b := b) (c := c) g o o2
  exact (pe_chain h1 h2 ha hb hc hm).imp h3
theorem tT_tE {e : E} {σ : L2.St} {H : Hp} {Q : Bool → Hp → Prop} (h : tT w Ex Φ e σ H Q) : tE w Ex Φ e σ H fun v H' => ∃ k, v = .bl k ∧ Q k H' := by
  obtain ⟨c, h1, h2, r, h⟩ := h
  refine ⟨c, h1, h2, r, ?_⟩
  refine (h.bnd (SStep.refl c)).imp fun c2 dv r2 x2 ⟨_, _, q⟩ v rel fr => ?_
  obtain ⟨k, e, q2⟩ := q.bool1
  subst e
  exact ⟨k, rel, q2.ret x2 r2⟩
theorem q_tchain (g : Gx w X) (o o2 : COp) (ha : PE X x (tE w Ex Φ a)) (hb : PE X y (tE w Ex Φ b)) (hc : PE X z (tE w Ex Φ c)) (hm : lastMarks [copOf o, copOf o2] [y, z] = false := by rfl) : PT X (.Compare x [copOf o, copOf o2] [y, z] pos) (tT w Ex Φ (.chain o o2 a b c)) := by
  obtain ⟨r, r', h1, h2, h3⟩ := chain_read (Ex := Ex) (Φ := Φ) (a := a) (b := b) (c := c) g o o2
  exact (pt_chain h1 h2 ha hb hc hm).imp fun σ H Q h => h3 _ _ _ (tT_tE h)
theorem q_isB {k : Bool} {j : Nat} (ha : PE X x (tE w Ex Φ a)) (hm : behindInMarks .Is (.Constant (.bool k) j p) = false := by first | exact nomark _ | rfl) : PE X (.Compare x [.Is] [.Constant (.bool k) j p] pos) (tE w Ex Φ (.isB a k)) := (pe_cmpR op_isBl ha pe_bl hm).imp fun σ H Q h => by
  obtain ⟨c, rfl, rfl, r, h⟩ := tE_in h
  refine tE_seq h (SStep.refl c) r fun c2 u du r2 x2 x02 hσ rel fr fr0 h2 => ?_
  obtain ⟨d, l, h4⟩ := h2.look r2 rel
  obtain ⟨i, e, h5⟩ := h4.bool
  cases e
  refine ⟨i, k, l, rfl, ?_⟩
  have h6 := Aft.fin (v := .bl (i == k)) h5 x02 r2 rfl trivial
  have e2 : decide (i = k) = (i == k) := by cases i <;> cases k <;> rfl
  rw [e2]
  exact h6
end
end DI

end
section
set_option Elab.async false
set_option linter.all false
set_option maxRecDepth 100000
set_option maxHeartbeats 4000000
/-! DI28: t[::-1] of a tuple. Own text. -/
namespace DI
open PySem PySem.Spec PyProof.Rows L2
theorem adj (n : Nat) : Builtin.Slice.sliceAdjust none none (-1) (n : Int) = ((n : Int) - 1, -1) := by
  unfold Builtin.Slice.sliceAdjust
  rfl
theorem places (n : Nat) : Builtin.Slice.slicePlaces ((n : Int) - 1) (-1) (-1) = n := by
  unfold Builtin.Slice.slicePlaces
  rw [if_neg (by decide)]
  by_cases h : n = 0
  · subst h
    rfl
  · rw [if_pos (by omega), show (-(-1) : Int) = 1 from rfl, Int.ediv_one]
    omega
theorem rev_pick (items : Array Value) : (List.filterMap (fun (k : Nat) => items[((items.size : Int) - 1 + (k : Int) * (-1)).toNat]?) (List.range items.size)).toArray = items.toList.reverse.toArray := by
  congr 1
  have e : ∀ n, n ≤ items.size → List.filterMap (fun (k : Nat) => items[((items.size : Int) - 1 + (k : Int) * (-1)).toNat]?) (List.range n) = items.toList.reverse.take n := by
    intro n
    induction n with
    | zero => intro _; rfl
    | succ n ih =>
      intro hn
      rw [List.range_succ, List.filterMap_append, ih (by omega)]
      have h1 : ((items.size : Int) - 1 + (n : Int) * (-1)).toNat = items.size - 1 - n := by omega
      rw [List.take_succ_eq_append_getElem (by simp; omega)]
      congr 1
      show List.filterMap _ [n] = _
      rw [List.filterMap_cons, h1, Array.getElem?_eq_getElem (by omega)]
      simp
  rw [e _ (Nat.le_refl _), List.take_of_length_le (by simp)]
theorem T3 {prog : Program} {w : World} {A : Around} {E : Value → Shared → Prop} {P : PySem.Fin → Shared → Prop} {s : Shared} {t sl : Addr} {items : Array Value} {tk : Tok} (h1 : s.heap.IsTuple t items) (hz : items.size ≤ sizeLine) (h2 : s.heap.IsSliceOf sl .none .none (.int (-1) tk)) (hQ : P (.done (.ret (.ref s.heap.objs.size))) { s with heap := s.heap.push { cls := .type "tuple", data := .seq items.toList.reverse.toArray } }) : wpAny (model prog w) A (Builtin.«tuple.__getitem__» { pos := [Value.ref t, Value.ref sl] }) P E s := by
  obtain ⟨o, a1, a2, n, a3⟩ := h1
  obtain ⟨o2, b1, b2, b3⟩ := h2
  unfold Builtin.«tuple.__getitem__»
  wp_walk
  rw [a3]
  wp_walk
  rw [b3]
  wp_walk
  rw [b3]
  wp_walk
  rw [b3]
  wp_walk
  have e1 : typeLookup (Value.type "int") (Str.ofString "__index__") = pure (some (.builtin "int.__index__")) := by
    have h := PySem.F.slot_int_index
    unfold Slot at h
    first | exact h | exact h.1
  rw [e1]
  wp_walk
  have hz2 : ¬ items.toList.reverse.toArray.size > sizeLine := by simp; omega
  simp only [Option.getD_some, adj, places, rev_pick, if_neg hz2]
  wp_walk
  exact hQ
theorem T5 {t sl : Addr} {items : Array Value} {tk : Tok} (hz : items.size ≤ sizeLine) : Meets (Builtin.«tuple.__getitem__» { pos := [Value.ref t, Value.ref sl] }) (fun _ R st => st.heap.IsTuple t items ∧ st.heap.IsSliceOf sl .none .none (.int (-1) tk) ∧ R (.ok (.ret (.ref st.heap.objs.size))) { st with heap := st.heap.push { cls := .type "tuple", data := .seq items.toList.reverse.toArray } }) :=
  fun _ _ _ _ _ ⟨x1, x2, x3⟩ => T3 x1 hz x2 x3
theorem vals_reverse : ∀ {xs : List V} {us : List Value}, Vals xs us → Vals xs.reverse us.reverse := fun {xs us} h => by
  have key : ∀ {xs : List V} {us : List Value} {ys : List V} {ws : List Value}, Vals xs us → Vals ys ws → Vals (xs.reverse ++ ys) (us.reverse ++ ws) := fun {xs} => by
    induction xs with
    | nil =>
      intro us ys ws h1 h2
      cases h1
      exact h2
    | cons x xs ih =>
      intro us ys ws h1 h2
      cases h1 with
      | cons a b =>
      rw [List.reverse_cons, List.reverse_cons, List.append_assoc, List.append_assoc]
      exact ih b (.cons a h2)
  have := key h .nil
  rw [List.append_nil, List.append_nil] at this
  exact this
def tRevT (K : PySem.W.Frag) (te : TE) : TE := fun σ H Q => te σ H fun x H1 => ∃ (a : Addr) (xs : List V), x = V.ref a ∧ SqT K H1 a xs ∧ ∀ p, H1 p = none → Q (.ref p) (upd H1 p (.tup xs.reverse))
theorem pe_revT {X : Cx} {e : Expr} {te : TE} {k : Nat} {p1 p2 p3 pos : Pos} (he : PE X e te) (hg : ∀ o r : Value, letTemporaryGo e o r = pure ()) :
    PE X (.Subscript e (.Slice none none (some (.UnaryOp .USub (.Constant (.int 1) k p1) p2)) p3) pos) (tRevT X.K te) := ⟨fun pins s σ H Q I h => by
  have e2 : typeLookup (Value.type "tuple") (Str.ofString "__getitem__") = pure (some (.builtin "tuple.__getitem__")) := by
    have h := PySem.F.slot_tuple_getitem
    unfold Slot at h
    first | exact h | exact h.1
  refine wpAny_Subscript_Slice_step (T := "tuple") (id := "tuple.__getitem__") e2 ?_ hg
  refine thn (he.run pins s σ H _ I h) fun v s1 z => ?_
  obtain ⟨x, H1, I1, r1, a, xs, rfl, hq, q1⟩ := z
  cases r1
  refine wpAny_Slice ?_
  rw [evalPart_none, evalPart_some]
  refine wpAny_pure (wpAny_pure ?_)
  refine thn ((pe_un (X := X) un_neg pe_int).run pins s1 σ H1 (fun x H' => x = .int (-1) ∧ H' = H1) I1 ⟨1, rfl, rfl, rfl⟩) fun u s2 z => ?_
  obtain ⟨y, H2, I2, r2, rfl, rfl⟩ := z
  obtain ⟨tk, rfl⟩ := r2
  have I3 : Inv X pins σ H2 { s2 with heap := s2.heap.push { cls := .type "slice", data := .fields #[.none, .none, .int (-1) tk] } } := I2.kept (t' := s2.toks) fun b o hb => Heap.get?_push_of_some _ hb
  obtain ⟨its, r, pl, hz⟩ := I3.tuple hq
  have hlen : its.length = xs.length := r.length.symm
  refine ⟨?_, getItem_meets (T := "tuple") ?_ (by decide +kernel) PySem.F.slot_tuple_getitem entry_tuple_getitem (args_tuple_getitem _ _) (T5 (items := its.toArray) (tk := tk) (by rw [List.size_toArray, hlen]; exact hz)) ⟨pl, ⟨_, Heap.get?_push_size _ rfl, rfl, rfl⟩, ?_⟩⟩
  · obtain ⟨o, h1, h2, h3⟩ := pl
    exact ⟨o, h1, h2⟩
  · obtain ⟨o, h1, h2, h3⟩ := pl
    exact ⟨o, h1, h2⟩
  · have hn := Inv.fresh I3
    refine ⟨.ref _, upd H2 _ (.tup xs.reverse), Inv.laid (t' := s2.toks) I3 (fun b u hb => Heap.get?_push_of_some _ hb) (Nat.le_refl _) ?_, rfl, q1 _ hn⟩
    unfold ObjOk
    refine ⟨by rw [List.length_reverse]; exact hz, its.reverse, ?_⟩
    exact ⟨vals_reverse r, _, Heap.get?_push_size _ rfl, rfl, _, rfl⟩⟩

theorem q_revt {w : Wd} {Ex : Nat → D → C → Prop} {Φ : Fns} {X : Cx} {x : Expr} {a : E} {k : Nat} {p1 p2 p3 pos : Pos} (g : Gx w X) (ha : PE X x (tE w Ex Φ a)) (hg : ∀ o r : Value, letTemporaryGo x o r = pure () := by intro _ _; rfl) : PE X (.Subscript x (.Slice none none (some (.UnaryOp .USub (.Constant (.int 1) k p1) p2)) p3) pos) (tE w Ex Φ (.revt a)) := (pe_revT ha hg).imp fun σ H Q h => by
  obtain ⟨c, rfl, rfl, r, h⟩ := tE_in h
  refine tE_seq h (SStep.refl c) r fun c2 u du r2 x2 x02 hσ rel fr fr0 h2 => ?_
  obtain ⟨d, l, h5⟩ := h2.look r2 rel
  cases d <;> first | exact h5.elim | skip
  obtain ⟨p, vs, rfl, s1, rep⟩ := l.seqT r2
  refine ⟨p, vs, rfl, by rw [g.hK]; exact s1, fun q hq => ?_⟩
  exact Aft.newTup h5 x02 r2 rep.reverse hq
end DI

end
section
set_option Elab.async false
set_option linter.all false
set_option maxRecDepth 100000
set_option maxHeartbeats 4000000
/-! EX0: an own error's __init__ that says super().__init__("..") and keeps one field. Own text. -/
namespace DI
open PySem PySem.Spec PyProof.Rows L2
/-- what the written part says of such an __init__ -/
structure SupI (P : Program) (K : PySem.W.Frag) (C : Addr) (f : Addr) (sf at_ : Str) (fd : FuncData) : Prop where
  cls : OexC K C
  ex : ∃ (oc : Value) (od : Option Addr) (osl : Array (Option Value)) (name qual : Str) (params : Arguments) (scope : Scope) (dV kV doc pm ct : Value) (an : Option Addr) (cda cc : Addr) (m : Str) (j : Nat) (p0 p1 p2 p3 p4 p5 p6 p7 p8 p9 : Pos) (ar : Arg) (vs : Array Value) (file : Str) (tf : Tok) (ccl : Value) (cdd : Option Addr) (ccs : Array (Option Value)) (cl : Value) (cld : Option Addr) (csl : Array (Option Value)) (mp : List Stmt),
    mp = [.Expr (.Call (.Attribute (.Call (.Name "super" p0) [] [] p1) "__init__" p2) [.Constant (.str m) j p3] [] p4) p5, .Assign [.Attribute (.Name sf p6) at_ p7] (.Name at_ p8) p9] ∧
    fd = PySem.W.ksFn name qual params mp scope dV kV doc pm an (.ref cda) ct cc ∧ K.lookup f = some ⟨oc, od, .func fd, osl⟩ ∧ PySem.W.codeIn K (.ref cda) qual = true ∧
    (params.posonlyargs ++ params.args).head? = some ar ∧ ar.arg = sf ∧ K.lookup cda = some ⟨ccl, cdd, .fields vs, ccs⟩ ∧ vs[2]? = some (.str file tf) ∧ ((P.main.file : Str) == file) = true ∧
    K.lookup cc = some ⟨cl, cld, .cell (some (.ref C)), csl⟩ ∧ PySem.W.nsIn K mainGlobals "super" = some none ∧ scope.names.lookup ("super" : Str) = some .globalImplicit ∧ scope.names.lookup ("__class__" : Str) = some .free ∧
    scope.names.lookup sf = some .local ∧ scope.names.lookup at_ = some .local ∧ scope.kind = .function ∧ (P.main.scope.names.lookup ("super" : Str)).isSome = false ∧ (∀ x ∈ scope.names, x.2 ≠ .cell) ∧ scope.isCoroutine = false ∧ scope.isGenerator = false ∧
    (∀ L, interactive (PySem.W.ksEnv qual scope L f (.ref cda) cc) = false) ∧ (∀ L, swapsWith (.Call (.Attribute (.Call (.Name "super" p0) [] [] p1) "__init__" p2) [.Constant (.str m) j p3] [] p4) none p5.line (PySem.W.ksEnv qual scope L f (.ref cda) cc) = pure false) ∧
    (∀ L, swapsWith (.Name at_ p8) (some (.Attribute (.Name sf p6) at_ p7)) p9.line (PySem.W.ksEnv qual scope L f (.ref cda) cc) = pure false) ∧
    (∀ L, ∃ pl, eval (.Call (.Attribute (.Call (.Name "super" p0) [] [] p1) "__init__" p2) [.Constant (.str m) j p3] [] p4) (PySem.W.ksEnv qual scope L f (.ref cda) cc) = (do
      let ov ← attributeBase (.Call (.Name "super" p0) [] [] p1) "__init__" (PySem.W.ksEnv qual scope L f (.ref cda) cc) (eval (.Call (.Name "super" p0) [] [] p1) (PySem.W.ksEnv qual scope L f (.ref cda) cc))
      standAt p2.atName
      let (g, first) ← holding [ov] (getMethod ov "__init__" pl)
      callWith p4 g first (backTo p4 (starEach [.Constant (.str m) j p3] (PySem.W.ksEnv qual scope L f (.ref cda) cc))) []))
  sup : PySem.W.ks_superIn K C C "__init__" = some (some (.builtin "ValueError.__init__"))
  opq : PySem.W.nsIn K cStatics "thirdparty.any" = some none
  sub : PySem.W.subIn K (.ref C) (.type "ValueError") = some true
  mroC : PySem.W.mroIn K C (.ref C) = some true
  no : PySem.W.findIn K (.ref C) at_ = some none
  ne : sf ≠ at_
  nd1 : (sf == ("__debug__" : Str)) = false
  nd2 : (at_ == ("__debug__" : Str)) = false
/-- __init__(self, at): the new exception gets its field -/
def spX (C : Addr) (at_ : Str) : Sp := fun vs H Q _ => ∃ (a : Addr) (y : V), vs = [.ref a, y] ∧ H a = some (exo a C none) ∧ ∀ dx, H dx = none → dx ≠ a → Q .non (upd (upd H dx (exd dx [(at_, y)])) a (exo a C (some dx)))
section
open PySem.W PySem.Calls
variable {P : Program} {w : World} {K : Frag} {mg : Str → Option Value} {base : Heap} {CX : CXT}
theorem init_sup {C f : Addr} {sf at_ : Str} {fd : FuncData} (Z : DI.SupI P K C f sf at_ fd) : L2.FnOk P w K mg base CX 1 f fd [sf, at_] (spX C at_) := by
  refine ⟨fun vs H Q E h => ?_, fun A outer s H args us vs Q E hr e0 hb hv hs => ?_⟩
  · obtain ⟨a, y, rfl, _⟩ := h
    rfl
  obtain ⟨a, y, rfl, ha, hq⟩ := hs
  obtain ⟨oc, od, osl, name, qual, params, scope, dV, kV, doc, pm, ct, an, cda, cc, m, j, p0, p1, p2, p3, p4, p5, p6, p7, p8, p9, ar, vs, file, tf, ccl, cdd, ccs, cl, cld, csl, mp, rfl, rfl, lk, hcd, hp, hself, hcode, hvs, hfile, hcell, hsup, hks, hkc, hka, hkat, hk, htop, hnc, hco, hgen, hia, hsw, hsw2, hev⟩ := Z.ex
  obtain ⟨nm, q, N, bs, bm, sn, sub, ab, col, dd, k0, k1, k2, k3, k5, hC, hbm⟩ := Z.cls.cls
  have X : K.In s.heap := e0.mod.kin.keeps fun b o e => (e0.bs b o e).1
  have lm : s.heap.NoLimit := e0.mod.nolimit.keeps fun b o e => (e0.bs b o e).1
  have hcl : clsIn K C = some { name := nm, bases := bs, mro := .ref C :: bm, ns := N, qualname := q, hasDict := true, slotNames := sn, subclasses := sub, abstract := ab, collection := col, hasDel := false } := by unfold clsIn; rw [hC] <;> rfl
  cases hv with
  | @cons _ u0 _ ur ra rr =>
  obtain rfl : u0 = Value.ref a := ra
  cases rr with
  | @cons _ u1 _ ur2 ry rn =>
  cases rn
  obtain ⟨t1, ho⟩ := exo_at e0.hok ha
  refine ks_codeAny_call_defAt (fd := ksFn name qual params _ scope dV kV doc pm an (.ref cda) ct cc) (binds := [sf, at_].zip [.ref a, u1]) hr.depth (X _ _ lk) rfl lm (codeRec_of X hcd) rfl hb hnc (fun x hx => ?_) (fun h1 hns hk1 => ?_) hco hgen hk
  · have hx' : x ∈ [(sf, Value.ref a), (at_, u1)] := hx
    simp only [List.mem_cons, List.not_mem_nil, or_false] at hx'
    rcases hx' with rfl | rfl
    · exact hka
    · exact hkat
  have kb : ∀ b o, base.get? b = some o → h1.get? b = some o := fun b o e => hk1 b o (e0.bs b o e).1
  have X1 : K.In h1 := X.keeps hk1
  obtain ⟨mb, hmb, hmb2⟩ := e0.mod.blt
  have la : (([sf, at_].zip [Value.ref a, u1]).reverse.lookup sf : Option Value) = some (.ref a) := by
    show ([(at_, u1), (sf, Value.ref a)] : List (Str × Value)).lookup sf = _
    have n : (sf == at_) = false := beq_eq_false_iff_ne.mpr Z.ne
    simp [List.lookup, n]
  have lb : (([sf, at_].zip [Value.ref a, u1]).reverse.lookup at_ : Option Value) = some u1 := by
    show ([(at_, u1), (sf, Value.ref a)] : List (Str × Value)).lookup at_ = _
    simp [List.lookup]
  have ho1 := hk1 _ _ ho
  have hnC : ∀ c, ({ cls := Value.ref C, dict := none, data := .fields #[.ref t1, .none, .none, .none, .bool false, .none] } : Obj).data ≠ .cls c := fun c z => by cases z
  obtain ⟨pl, hpl⟩ := hev s.heap.objs.size
  refine ks_wpAt_execs_cons (ks_wpAt_Expr_any (ks_wpAt_MethodCall (pl := pl) ?_ hpl) (hia _) (hsw _))
  refine ks_wpAt_mono (ks_wpAt_super_base (env := ksEnv qual scope s.heap.objs.size f (.ref cda) cc) hks hkc (by decide) rfl (X1 _ _ lk) rfl hp rfl (X1 _ _ hcode) rfl hvs hfile htop (Q := fun ov s2 => ∃ h2, ov = .ref h1.objs.size ∧ s2 = { s with heap := h2, toks := s.toks + ([sf, at_].zip [Value.ref a, u1]).length } ∧
    h2.get? h1.objs.size = some (ks_superObj C a C) ∧ ∀ y o, h1.get? y = some o → h2.get? y = some o) ?_) (fun ov s2 hq2 => ?_) fun _ _ z => z
  · refine ks_loadName_global hk hks (loadGlobal_builtin (env := ksEnv qual scope s.heap.objs.size f (.ref cda) cc) (e0.mod.glob.keeps kb) (mg_none_of e0.mod.kin e0.mod.glob hsup) (hmb.keeps kb) ((hmb2 _ (by decide +kernel)).trans PyProof.Rows.Boot.«super») ⟨rfl, ?_⟩)
    refine wpAny_loadName_free hk hkc rfl ⟨_, X1 _ _ hcell, rfl⟩ ?_
    rw [hself]
    refine wpAny_loadName_local hk hka hns la ?_
    refine ks_wpAny_isType_cls (X1 _ _ hC) rfl ⟨rfl, ?_⟩
    exact ks_wpAny_call_super (X1 _ _ hC) rfl ho1 rfl hnC (looks_mroIn X1 Z.mroC) fun h' e k => ⟨h', rfl, rfl, e, k⟩
  obtain ⟨h2, rfl, rfl, hso, hk2⟩ := hq2
  have X2 : K.In h2 := X1.keeps hk2
  have ho2 := hk2 _ _ ho1
  have I2 : InstAt h2 a { cls := .ref C, dict := none, data := .fields #[.ref t1, .none, .none, .none, .bool false, .none] } C none := ⟨ho2, rfl, rfl, trivial⟩
  have hm := Z.sup
  unfold ks_superIn at hm
  rw [hcl] at hm
  refine kxs_getMethod kxs_ValueError hso (looks_opaque X2 Z.opq) (l₀ := Value.ref C :: bm) (fun A Q E s k q => wpAny_bind ((looks_clsIn X2 hcl) A _ E s k (wpAny_pure q))) rfl X2 hm (I2.type.andThen (looks_subIn X2 Z.sub)) (ks_ne X2 I2 hcl) (by decide) ?_
  have hu3 : (h2.push (kxs_mw "ValueError.__init__" a)).get? h2.objs.size = some (kxs_mw "ValueError.__init__" a) := Heap.get?_push_at rfl rfl
  have hk3 : ∀ b o, h2.get? b = some o → (h2.push (kxs_mw "ValueError.__init__" a)).get? b = some o := fun b o e => Heap.get?_push_of_some _ e
  refine kxs_callWith (i := "ValueError.__init__") (x := a) rfl ?_
  refine evalArgs_plain (x := eval (.Constant (.str m) j p3) (ksEnv qual scope s.heap.objs.size f (.ref cda) cc)) (rest := []) ?_
  refine Calls.spliced_cons (Calls.Constant_str ?_)
  refine Calls.spliced_nil ⟨hu3, ?_⟩
  refine wpAny_call (codeAny_of_tree ?_)
  show wpAny _ _ (callAny (.ref h2.objs.size) _) _ _ _
  simp only [callAny]
  refine wpAny_bind (wpAny_load hu3 ?_)
  simp only [kxs_mw, show (Value.type "method-wrapper" == Value.type "method" || Value.type "method-wrapper" == Value.type "builtin_function_or_method" || Value.type "method-wrapper" == Value.type "method-wrapper") = true by decide, if_true]
  refine KFB.if_so (by decide) ?_
  refine wpAny_bind (check_bound_init PySem.F.excBase_ValueError.toExcCallFacts (hk3 _ _ (X2 _ _ hC)) (hk3 _ _ ho2) rfl ?_)
  refine wpAny_bind (wpAny_pure (wpAny_pure ?_))
  refine ⟨plainId_quiet PySem.F.excBase_ValueError.init.plain _, codeAny_builtin PySem.F.excBase_ValueError.initEntry ?_⟩
  refine exc_init_tree (cls := .ref C) (t0 := t1) (dv := none) (c2 := .none) (c3 := .none) (b4 := .bool false) (hk3 _ _ ho2) (by show 1 ≤ sizeLine; rw [sizeLine_eq]; omega) fun h4 k4 ha4 _ => ?_
  have up : ∀ b o, b ≠ a → s.heap.get? b = some o → h4.get? b = some o := fun b o n e => k4 b o n (hk3 _ _ (hk2 _ _ (hk1 _ _ e)))
  have X4 : K.In h4 := fun b o e => up b o (fun z => by
    subst z
    have q := (e0.bs _ _ (e0.mod.kin _ _ e)).2
    rw [ha] at q
    cases q) (X _ _ e)
  have aL : s.heap.objs.size ≠ a := Nat.ne_of_gt (Heap.lt_size ho)
  obtain ⟨oL, es, ep, hoL, rL⟩ := hns
  have hoL4 : h4.get? s.heap.objs.size = some oL := k4 _ _ aL (hk3 _ _ (hk2 _ _ hoL))
  have ns4 : h4.Ns s.heap.objs.size (fun x => ([sf, at_].zip [Value.ref a, u1]).reverse.lookup x) := ⟨oL, es, ep, hoL4, rL⟩
  have hlt : s.heap.objs.size < h4.objs.size := Heap.lt_size hoL4
  refine ks_wpAt_execs_cons (ks_wpAt_Assign_Attr (wpAt_of_wpAny (PySem.ESX.ldL (env := ksEnv qual scope s.heap.objs.size f (.ref cda) cc) ns4 lb (PySem.ESX.ldL (env := ksEnv qual scope s.heap.objs.size f (.ref cda) cc) ns4 la ?_ hk hka Z.nd1) hk hkat Z.nd2)) (hsw2 _))
  refine set_plain X4 (ox := { cls := .ref C, dict := none, data := .fields #[.ref (h2.push (kxs_mw "ValueError.__init__" a)).objs.size, .none, .none, .none, .bool false, .none] }) (od := none) ⟨ha4, rfl, rfl, trivial⟩ Z.cls.sa ?_
  refine PySem.HandSPX.exc_osa X4 ha4 hcl (show PySem.HandSPX.refsVE (.ref C :: bm) = true from hbm) rfl Z.no (fun h' tk' dx k dn dne hx hn => ?_)
  refine wpAt_of_wpAny (wpAny_execs_nil ?_)
  have kk : ∀ b o, b ≠ a → s.heap.get? b = some o → h'.get? b = some o := fun b o n e => k b o n (up b o n e)
  have hnd : H dx = none := e0.hok.fresh (Nat.le_of_lt (Nat.lt_of_lt_of_le hlt dn))
  have nd : ∀ {b : Addr} {o : Obj}, s.heap.get? b = some o → b ≠ dx := fun {b o} q => Nat.ne_of_lt (Nat.lt_of_lt_of_le (Nat.lt_trans (Heap.lt_size q) hlt) dn)
  have na : ∀ {b : Addr}, H b = none → b ≠ a := fun {b} n z => by
    rw [z, ha] at n
    cases n
  refine ⟨.non, upd (upd H dx (exd dx [(at_, y)])) a (exo a C (some dx)), rfl, e0.bare, ?_, ?_, rfl, hq dx hnd dne⟩
  · exact {
      keep := fun b o q n _ _ => kk b o (na n) q
      slot := fun b o q n _ _ => ⟨o.slots, kk b o (na n) q⟩
      free := fun b o q n _ => by rw [upd_ne (na n), upd_ne (nd q)]; exact n
      there := fun b o q _ => by
        by_cases hb : b = a
        · exact ⟨_, by rw [hb]; exact hx⟩
        · exact ⟨o, kk b o hb q⟩
      tups := fun b xs q => by rw [upd_ne (at_ne ha q exo_tup), upd_ne (ne_of_none q hnd)]; exact q
      frzs := fun b o v q => by rw [upd_ne (at_ne ha q exo_frz), upd_ne (ne_of_none q hnd)]; exact q
      tbls := fun b ps q => ⟨#[], by rw [upd_ne (at_ne ha q exo_tbl), upd_ne (ne_of_none q hnd), q]; simp⟩ }
  · intro b o q
    by_cases hb : b = a
    · subst hb
      rw [upd_same] at q
      cases q
      exact exo_ok hx
    · rw [upd_ne hb] at q
      by_cases hd : b = dx
      · subst hd
        rw [upd_same] at q
        cases q
        exact exd_ok hn (relO_put (fs := []) ry fun g => True.intro)
      · rw [upd_ne hd] at q
        exact (e0.hok b o q).stay (fun c v hc z => kk c v (by
            rcases hc with hc | hc
            · rw [hc]
              exact hb
            · exact at_ne ha hc exo_own) z)
          (fun c hc => by rw [upd_ne (at_ne ha hc exo_own), upd_ne (ne_of_none hc hnd)]; exact hc) (fun c xs hc => by rw [upd_ne (at_ne ha hc exo_tup), upd_ne (ne_of_none hc hnd)]; exact hc)
end
end DI

end
section
set_option Elab.async false
set_option linter.all false
set_option maxRecDepth 100000
set_option maxHeartbeats 4000000
/-! EX1: errors over data: raise, calls that may raise. Own text. -/
namespace DI
open PySem PySem.Spec PyProof.Rows L2
/-- what an error of class k with the data d asks of the wish W -/
def ExW (w : Wd) (W : WX) : Nat → D → C → Prop := fun k d c => ∀ (dx : Addr) (u : V), c.H dx = none → RepD w c.dl c.F d u → W (.ref (w.xc k)) (some dx) c.σ (upd c.H dx (.xd [(w.xf, u)]))
/-- .. at a def's end -/
def EFx (w : Wd) : XK → Nat → D → C → Prop := fun E k d e => ∀ (dx : Addr) (u : V), e.H dx = none → RepD w e.dl e.F d u → E (.ref (w.xc k)) (some dx) (upd e.H dx (.xd [(w.xf, u)]))
/-- the error's class k, by the name n -/
structure ErrN (w : Wd) (X : Cx) (n sf : Str) (k : Nat) (f : Addr) (fd : FuncData) : Prop where
  sup : SupI X.prog X.K (w.xc k) f sf w.xf fd
  ini : PySem.W.findIn X.K (.ref (w.xc k)) "__init__" = some (some (.ref f))
  ty : PySem.W.typeIn X.K (.ref f) = some (.type "function")
  bind : Binds X.K fd [sf, w.xf] []
  mg : X.mg n = some (.ref (w.xc k))
section
variable {w : Wd} {Φ : Fns} {X : Cx} {W : WX} {x : Expr} {a : E} {es : List E} {l : List Expr} {n sf : Str} {k i : Nat} {f : Addr} {fd : FuncData} {p pos pos2 : Pos} {D : Ends}
theorem upd_del {H : Hp} {a dx : Addr} {o o1 o2 o3 : HO} (ha : H a = none) (ne : dx ≠ a) : upd (del (upd (upd (upd H a o1) dx o2) a o3) a) dx o = upd H dx o := by
  funext b
  by_cases hb : b = dx
  · rw [hb, upd_same, upd_same]
  · rw [upd_ne hb, upd_ne hb]
    by_cases hc : b = a
    · rw [hc, del_same, ha]
    · rw [del_ne hc, upd_ne hc, upd_ne hb, upd_ne hc]
theorem s_raise (N : ErrN w X n sf k f fd) (hr : Room 2 X.A) (hc : X.calm = true) (tk : Takes X W) (ha : PE X x (tE w (ExW w W) Φ a)) (hg : Gl X n) (hd : (n == ("__debug__" : Str)) = false)
    (he : starEach [x] X.env = (false, eval x X.env) :: starEach [] X.env := by rfl) (hpl : (backTo pos (starEach [] X.env)).any (·.1) = false := by rfl) :
    PS X (.Raise (some (.Call (.Name n p) [x] [] pos)) none pos2) (tS w (ExW w W) Φ (.raise k a)) :=
  (ps_raise hc tk (pmk_oex (CX := CX0) N.sup.cls N.ini N.ty (init_sup N.sup) hr N.bind .nil pass0 hg N.mg (pa_cons ha pa_nil he) hd he hpl)).imp fun D σ H h => by
    obtain ⟨c, rfl, rfl, r, h⟩ := h
    refine tE_seqP h (LStep.refl c) r fun c2 v dv r2 _ x2 hσ rel fr q => ?_
    refine ⟨(by show 1 ≤ 1000; omega), fun e hn => ⟨e, v, rfl, upd_same, fun dx hdx ne => ?_⟩⟩
    have hdx' : c2.H dx = none := by rw [upd_ne ne] at hdx; exact hdx
    refine ⟨rfl, dx, [(w.xf, v)], upd_same, by rw [upd_ne ne, upd_same], hdx', ?_⟩
    rw [upd_del hn ne]
    cases dv with
    | f d =>
      have q' := q c2 rfl r2 x2
      rw [← hσ]
      exact q' dx v hdx' rel
    | o d => exact q.elim
    | p d => exact q.elim
    | b j => exact q.elim
    | n c d => exact q.elim
end
end DI

end
section
set_option Elab.async false
set_option linter.all false
set_option maxRecDepth 100000
set_option maxHeartbeats 4000000
/-! EX2: calls that may raise, told by the state at the call. Own text after DG. -/
namespace DI
open PySem PySem.Spec PyProof.Rows L2
def tCallG (sp : Sp) (E : L2.St → XK) (t : TA) : TE := fun σ H Q => t σ H fun vs H1 => sp vs H1 Q (E σ)
def tCallNG (m : Nat) (sp : Sp) (gV : List V → List V → List V) (E : L2.St → XK) (tk : TA) : TE := fun σ H Q => tk σ H fun zs H2 => zs.length = m ∧ sp (gV [] zs) H2 Q (E σ)
def tMakeG (C : Addr) (sp : Sp) (E : L2.St → XK) (t : TA) : TE := fun σ H Q => t σ H fun vs H1 => ∀ x dx, H1 x = none → H1 dx = none → dx ≠ x → sp (.ref x :: vs) (upd (upd H1 dx (.own x)) x (.ins C dx [])) (fun v H2 => v = .non ∧ Q (.ref x) H2) (E σ)
section
variable {X : Cx} {CX : CXT} {k n : Nat} {f C : Addr} {fd : FuncData} {ps ks : List Str} {sp : Sp} {E : L2.St → XK} {x : Str} {p pos : Pos} {e : Expr} {es : List Expr} {t tk : TA} {kws : List Keyword}
/-- what a call's end tells -/
theorem end_ofS {pins : List (Addr × Obj)} {σ : L2.St} {H : Hp} {s s' : Shared} {Q : VK} {r : Result} (I : Inv X pins σ H s) (hx : ∀ σ, PassesAt CX X σ (E σ)) (h : CR CX X.stack X.prog X.w H s Q (E σ) r s') :
    (∃ e, r = .error e ∧ X.xe e s') ∨ ∃ u, r = .ok (.ret u) ∧ EP X pins σ Q u s' := by
  match r, h with
  | .error e, h => exact .inl ⟨e, rfl, hx σ pins H s e s' I h⟩
  | .ok (.ret u), h => exact .inr ⟨u, rfl, I.after h⟩
theorem runGS {pins : List (Addr × Obj)} {σ : L2.St} {H : Hp} {s : Shared} {Q : VK} {us : List Value} {vs : List V} (F : FnG X.prog X.w X.K X.mg X.base CX k f fd ps sp) (hr : Room k X.A) (hgd : X.A.guards = some []) (hb : Binds X.K fd ps []) (hx : ∀ σ, PassesAt CX X σ (E σ))
    (I : Inv X pins σ H s) (r : Vals vs us) (h : sp vs H Q (E σ)) : wpAny (model X.prog X.w) X.A (call (.ref f) us) (EP X pins σ Q) X.xe s := by
  have e1 : us ++ [] = us := List.append_nil us
  have hl : (us ++ []).length = ps.length := by rw [e1, ← r.length, F.len h]
  have bd := hb s us I.kIn hl
  rw [e1] at bd
  refine wpAny_call (codeAny_mono (F.go hr hgd I.env0 bd r h) fun r s' hq => ?_)
  rcases end_ofS I hx hq with ⟨e, rfl, q⟩ | ⟨u, rfl, q⟩
  · exact q
  · exact q
theorem pe_callGS (F : FnG X.prog X.w X.K X.mg X.base CX k f fd ps sp) (hr : Room k X.A) (hgd : X.A.guards = some []) (hg : Gl X x) (hm : X.mg x = some (.ref f)) (hk : PySem.W.keepIn X.K (.ref f) = true) (hb : Binds X.K fd ps []) (hx : ∀ σ, PassesAt CX X σ (E σ))
    (ha : PA X (e :: es) t) (hdb : (x == ("__debug__" : Str)) = false) (he : starEach (e :: es) X.env = (false, eval e X.env) :: starEach es X.env) (hpl : (backTo pos (starEach es X.env)).any (·.1) = false) :
    PE X (.Call (.Name x p) (e :: es) [] pos) (tCallG sp E t) := ⟨fun pins s σ H Q I h => by
  refine wpAny_Call_Name_kw (ld_glob I hg hm ?_ hdb)
  refine PySem.W.callWith_K (h₀ := X.base) I.ok.mod.kin hk (thn (ha.run pos pins s σ H _ I h) fun us s1 z => ?_) he hpl
  obtain ⟨vs, H1, I1, r, q⟩ := z
  exact ⟨I1.kIn, runGS F hr hgd hb hx I1 r q⟩⟩
theorem pe_call0GS (F : FnG X.prog X.w X.K X.mg X.base CX k f fd ps sp) (hr : Room k X.A) (hgd : X.A.guards = some []) (hg : Gl X x) (hm : X.mg x = some (.ref f)) (hk : PySem.W.keepIn X.K (.ref f) = true) (hb : Binds X.K fd ps []) (hx : ∀ σ, PassesAt CX X σ (E σ))
    (hdb : (x == ("__debug__" : Str)) = false) : PE X (.Call (.Name x p) [] [] pos) (tCallG sp E tNil) := ⟨fun pins s σ H Q I h =>
  wpAny_Call_Name_kw (ld_glob I hg hm (PySem.W.callWith_K0 I.kIn hk (runGS (us := []) F hr hgd hb hx I .nil h)) hdb)⟩
/-- f(k = v, ..) -/
theorem pe_callKw0S {g : List Value → List Value → List Value} {gV : List V → List V → List V} (F : FnG X.prog X.w X.K X.mg X.base CX k f fd ps sp) (hr : Room k X.A) (hgd : X.A.guards = some []) (hg : Gl X x) (hm : X.mg x = some (.ref f)) (hk : PySem.W.keepIn X.K (.ref f) = true) (hb : KBn X.K fd ps 0 ks g gV) (hx : ∀ σ, PassesAt CX X σ (E σ)) (hkw : PK X kws tk)
    (hall : (backToKw pos (keywordEach kws X.env)).all (·.1.isSome) = true) (hks : (backToKw pos (keywordEach kws X.env)).filterMap (·.1) = ks) (hdb : (x == ("__debug__" : Str)) = false)
    (hpl : ((backTo pos (starEach [] X.env)).any (·.1) || (backToKw pos (keywordEach kws X.env)).any (·.1.isNone)) = false) :
    PE X (.Call (.Name x p) [] kws pos) (tCallNG ks.length sp gV E tk) := by
  refine ⟨fun pins s σ H Q I h => ?_⟩
  refine wpAny_Call_Name_kw (ld_glob I hg hm ?_ hdb)
  refine PySem.W.callWith_KW0 (h₀ := X.base) I.ok.mod.kin hk hall ?_ hpl
  refine thn (hkw.run pos pins s σ H _ I h) fun ws s2 z => ?_
  obtain ⟨zs, H2, I2, rz, l2, q2⟩ := z
  refine ⟨I2.kIn, ?_⟩
  rw [hks]
  have bd := hb.to s2 [] ws I2.kIn rfl (rz.length.symm.trans l2)
  have r2 := hb.rel (.nil : Vals [] []) rz
  refine wpAny_call (codeAny_mono (F.go hr hgd I2.env0 bd r2 q2) fun r s' hq => ?_)
  rcases end_ofS I2 hx hq with ⟨e, rfl, q⟩ | ⟨u, rfl, q⟩
  · exact q
  · exact q
/-- C(..) -/
theorem pe_makeGS (M : Mk X.K C f) (F : FnG X.prog X.w X.K X.mg X.base CX k f fd ps sp) (hr : Room (k + 1) X.A) (hgd : X.A.guards = some []) (hg : Gl X x) (hm : X.mg x = some (.ref C)) (hb : Binds X.K fd ps []) (hx : ∀ σ, PassesAt CX X σ (E σ))
    (ha : PA X (e :: es) t) (hdb : (x == ("__debug__" : Str)) = false) (he : starEach (e :: es) X.env = (false, eval e X.env) :: starEach es X.env) (hpl : (backTo pos (starEach es X.env)).any (·.1) = false) :
    PE X (.Call (.Name x p) (e :: es) [] pos) (tMakeG C sp E t) := ⟨fun pins s σ H Q I h => by
  refine wpAny_Call_Name_kw (ld_glob I hg hm ?_ hdb)
  refine PySem.W.callWith_K (h₀ := X.base) I.ok.mod.kin M.kp (thn (ha.run pos pins s σ H _ I h) fun us s1 z => ?_) he hpl
  obtain ⟨vs, H1, I1, r, q⟩ := z
  refine ⟨I1.kIn, ?_⟩
  have q' := q (s1.heap.objs.size + 1) s1.heap.objs.size (I1.hok.fresh (Nat.le_succ _)) (I1.hok.fresh (Nat.le_refl _)) (Nat.ne_of_lt (Nat.lt_succ_self _))
  have I2 := Inv.made (C := C) I1
  have r2 : Vals (V.ref (s1.heap.objs.size + 1) :: vs) (Value.ref (s1.heap.objs.size + 1) :: us) := .cons rfl r
  have bd := hb _ (Value.ref (s1.heap.objs.size + 1) :: us) I2.kIn (by rw [List.append_nil, ← r2.length, F.len q'])
  rw [List.append_nil] at bd
  refine wpAny_call (make_map (f := f) I1.kIn M.makes M.init (beq_iff_eq.mp M.fn) (codeAny_mono (F.go (hr.make C us []) (make_guards hgd) (I2.env0.make C us []) bd r2 q') fun r s' hq => ?_))
  rcases end_ofS I2 hx hq with ⟨e, rfl, z⟩ | ⟨u, rfl, z⟩
  · exact z
  · obtain ⟨v, H', I3, rv, ev, q3⟩ := z
    subst ev
    exact ⟨rv, ⟨V.ref (s1.heap.objs.size + 1), H', I3, rfl, q3⟩⟩⟩
end
/-! ### over data -/
section
variable {w : Wd} {Φ : Fns} {W : WX} {X : Cx} {x : Expr} {es : List E} {l : List Expr} {n : Str} {p pos : Pos} {ps : List Str} {i k : Nat} {f : Addr} {fd : FuncData}
abbrev CX1 (X : Cx) : CXT := L2.CX X.prog X.w
theorem ExW_back {c e : C} {k : Nat} {d : D} (h : ExW w W k d (c.back e)) : EFx w (WE W c.σ) k d e := h
theorem js_call (N : DefN w (EFx w) (CX1 X) X n ps (Φ i) k f fd) (tk : Takes X W) (hs : PA X (x :: l) (tEs w (ExW w W) Φ es)) (hst : starEach (x :: l) X.env = (false, eval x X.env) :: starEach l X.env) (hpl : (backTo pos (starEach l X.env)).any (·.1) = false) :
    PE X (.Call (.Name n p) (x :: l) [] pos) (tE w (ExW w W) Φ (.call i es)) :=
  (pe_callGS N.ok N.room N.gd N.gl N.mg N.keep N.bind (passAt tk) hs N.nd hst hpl).imp fun σ H Q h => by
    obtain ⟨c, rfl, rfl, hr, h⟩ := tE_in h
    refine tEs_seq h (SStep.refl c) hr fun c2 vs dvs r2 x2 x02 hσ rels rels0 h3 => ?_
    obtain ⟨ds, c3, hH, r3, x3, rep, h4⟩ := h3.frzs r2 x02 rels0
    rw [← hH]
    refine h4.call x3 r3 rep fun k d e hk => ?_
    have q := ExW_back hk
    rw [x3.σ] at q
    exact q
theorem js_call0 (N : DefN w (EFx w) (CX1 X) X n ps (Φ i) k f fd) (tk : Takes X W) : PE X (.Call (.Name n p) [] [] pos) (tE w (ExW w W) Φ (.call i [])) :=
  (pe_call0GS N.ok N.room N.gd N.gl N.mg N.keep N.bind (passAt tk) N.nd).imp fun σ H Q h => by
    obtain ⟨c, rfl, rfl, hr, h⟩ := tE_in h
    exact Aft.call h (SStep.refl c) hr rfl fun k d e hk => ExW_back hk
theorem js_callk {js : List Nat} {ks : List Str} {kws : List Keyword} (N : DefN w (EFx w) (CX1 X) X n ps (Φ i) k f fd) (hb : KBn X.K fd ps 0 ks (fun us ws => permL js (us ++ ws)) (fun vs zs => permL js (vs ++ zs))) (tk : Takes X W) (hkw : PK X kws (tEs w (ExW w W) Φ es)) (hl : es.length = ks.length)
    (hall : (backToKw pos (keywordEach kws X.env)).all (·.1.isSome) = true) (hks : (backToKw pos (keywordEach kws X.env)).filterMap (·.1) = ks)
    (hpl : ((backTo pos (starEach [] X.env)).any (·.1) || (backToKw pos (keywordEach kws X.env)).any (·.1.isNone)) = false) :
    PE X (.Call (.Name n p) [] kws pos) (tE w (ExW w W) Φ (.callk i js es)) :=
  (pe_callKw0S N.ok N.room N.gd N.gl N.mg N.keep hb (passAt tk) hkw hall hks N.nd hpl).imp fun σ H Q h => by
    obtain ⟨c, rfl, rfl, hr, h⟩ := tE_in h
    rw [show ev w Φ (.callk i js es) = _ from chk_bnd (f := fun vs => bnd (frzs vs) fun ds => bnd (opt (permD js ds)) fun ds' => callM Φ i ds')] at h
    show tEs w (ExW w W) Φ es c.σ c.H (fun zs H2 => zs.length = ks.length ∧ spF w (EFx w) (Φ i) (permL js ([] ++ zs)) H2 Q (WE W c.σ))
    refine tEs_seq h (SStep.refl c) hr fun c2 vs dvs r2 x2 x02 hσ rels rels0 h3 => ?_
    obtain ⟨hv, h3⟩ := chk_in h3
    obtain ⟨ds, c3, hH, r3, x3, rep, h4⟩ := Aft.frzs (f := fun ds => bnd (opt (permD js ds)) fun ds' => callM Φ i ds') h3 r2 x02 rels0
    obtain ⟨ds', e1, h5⟩ := h4.opt
    rw [← hH]
    refine ⟨by rw [rels.length, hv, hl], h5.call x3 r3 (permD_rep rep e1) fun k d e hk => ?_⟩
    have q := ExW_back hk
    rw [x3.σ] at q
    exact q
theorem js_make {k0 : Nat} (N : MakN w (EFx w) (CX1 X) X n ps k0 (Φ i) k f fd) (tk : Takes X W) (hs : PA X (x :: l) (tEs w (ExW w W) Φ es)) (hst : starEach (x :: l) X.env = (false, eval x X.env) :: starEach l X.env) (hpl : (backTo pos (starEach l X.env)).any (·.1) = false) :
    PE X (.Call (.Name n p) (x :: l) [] pos) (tE w (ExW w W) Φ (.make i es)) :=
  (pe_makeGS N.cl N.ok N.room N.gd N.gl N.mg N.bind (passAt tk) hs N.nd hst hpl).imp fun σ H Q h => by
    obtain ⟨c, rfl, rfl, hr, h⟩ := tE_in h
    refine tEs_seq h (SStep.refl c) hr fun c2 vs dvs r2 x2 x02 hσ rels rels0 h3 => ?_
    obtain ⟨ds, c3, hH, r3, x3, rep, h4⟩ := h3.frzs r2 x02 rels0
    rw [← hH]
    refine fun x dx q1 q2 q3 => h4.make x3 r3 rep (fun k d e hk => ?_) q1 q2 q3
    have q := ExW_back hk
    rw [x3.σ] at q
    exact q
end
end DI

end
section
set_option Elab.async false
set_option linter.all false
set_option maxRecDepth 100000
set_option maxHeartbeats 4000000
/-! EX3: try .. except C as n: suite. Own text. -/
namespace DI
open PySem PySem.Spec PyProof.Rows L2
/-- with an error at hand -/
abbrev Wd.at (w : Wd) (x : Nat × Addr × Addr) : Wd := { w with xn := some x }
section
variable {w : Wd} {x : Nat × Addr × Addr} {dl : Dl} {F : Hp}
mutual
theorem RepD.up (h : w.xn = none) : ∀ (d : D) (v : V), RepD w dl F d v → RepD (w.at x) dl F d v
  | .non, _, h => h
  | .bl _, _, h => h
  | .int _, _, h => h
  | .str _, _, h => h
  | .tup ds, _, ⟨a, vs, h1, h2, h3⟩ => ⟨a, vs, h1, h2, RepAll.up h ds vs h3⟩
  | .lst ds, _, ⟨a, vs, h1, h2, h3⟩ => ⟨a, vs, h1, h2, RepAll.up h ds vs h3⟩
  | .ins _ ds, _, ⟨a, dx, vs, h1, h2, h3, h4⟩ => ⟨a, dx, vs, h1, h2, h3, RepAll.up h ds vs h4⟩
  | .deal, _, h => h
  | .scr _, _, h => h
  | .exn _ _, _, ⟨_, _, _, h1, _⟩ => by rw [h] at h1; cases h1
theorem RepAll.up (h : w.xn = none) : ∀ (ds : List D) (vs : List V), RepAll w dl F ds vs → RepAll (w.at x) dl F ds vs
  | [], _, h => h
  | d :: ds, _, ⟨v, r, h1, h2, h3⟩ => ⟨v, r, h1, RepD.up h d v h2, RepAll.up h ds r h3⟩
end
mutual
theorem RepD.dn : ∀ (d : D) (v : V), noX d = true → RepD (w.at x) dl F d v → RepD w dl F d v
  | .non, _, _, h => h
  | .bl _, _, _, h => h
  | .int _, _, _, h => h
  | .str _, _, _, h => h
  | .tup ds, _, n, ⟨a, vs, h1, h2, h3⟩ => ⟨a, vs, h1, h2, RepAll.dn ds vs n h3⟩
  | .lst ds, _, n, ⟨a, vs, h1, h2, h3⟩ => ⟨a, vs, h1, h2, RepAll.dn ds vs n h3⟩
  | .ins _ ds, _, n, ⟨a, dx, vs, h1, h2, h3, h4⟩ => ⟨a, dx, vs, h1, h2, h3, RepAll.dn ds vs n h4⟩
  | .deal, _, _, h => h
  | .scr _, _, _, h => h
  | .exn _ _, _, n, _ => by cases n
theorem RepAll.dn : ∀ (ds : List D) (vs : List V), noXs ds = true → RepAll (w.at x) dl F ds vs → RepAll w dl F ds vs
  | [], _, _, h => h
  | d :: ds, _, n, ⟨v, r, h1, h2, h3⟩ => by
    have n' : (noX d && noXs ds) = true := n
    rw [Bool.and_eq_true] at n'
    exact ⟨v, r, h1, RepD.dn d v n'.1 h2, RepAll.dn ds r n'.2 h3⟩
end
theorem PlR.up (h : w.xn = none) {ds : List D} {v : V} (s : PlR w dl F ds v) : PlR (w.at x) dl F ds v := by
  obtain ⟨a, vs, o, h1, h2, h3, h4⟩ := s
  exact ⟨a, vs, o, h1, h2, h3, RepAll.up h ds vs h4⟩
theorem PlR.dn {ds : List D} {v : V} (n : noXs ds = true) (s : PlR (w.at x) dl F ds v) : PlR w dl F ds v := by
  obtain ⟨a, vs, o, h1, h2, h3, h4⟩ := s
  exact ⟨a, vs, o, h1, h2, h3, RepAll.dn ds vs n h4⟩
theorem Slot.up (h : w.xn = none) {c : C} {v : V} {dv : DV} (s : Slot w c v dv) : Slot (w.at x) c v dv := by
  cases dv with
  | f d => exact RepD.up h d v s
  | p pds => exact PlR.up h s
  | o ds =>
    obtain ⟨a, vs, h1, h2, h3, h4⟩ := s
    exact ⟨a, vs, h1, h2, h3, RepAll.up h ds vs h4⟩
  | n k ds =>
    obtain ⟨a, dx, vs, h1, h2, h3, h4, h5⟩ := s
    exact ⟨a, dx, vs, h1, h2, h3, h4, RepAll.up h ds vs h5⟩
  | b j => exact s
theorem Slot.dn {c : C} {v : V} {dv : DV} (n : noXV dv = true) (s : Slot (w.at x) c v dv) : Slot w c v dv := by
  cases dv with
  | f d => exact RepD.dn d v n s
  | p pds => exact PlR.dn n s
  | o ds =>
    obtain ⟨a, vs, h1, h2, h3, h4⟩ := s
    exact ⟨a, vs, h1, h2, h3, RepAll.dn ds vs n h4⟩
  | n k ds =>
    obtain ⟨a, dx, vs, h1, h2, h3, h4, h5⟩ := s
    exact ⟨a, dx, vs, h1, h2, h3, h4, RepAll.dn ds vs n h5⟩
  | b j => exact s
theorem Rel.dn {c : C} {v : V} {dv : DV} (n : noXV dv = true) (s : Rel (w.at x) c v dv) : Rel w c v dv := by
  cases dv with
  | f d => exact RepD.dn d v n s
  | p pds => exact PlR.dn n s
  | o ds =>
    obtain ⟨a, vs, h1, h2, h3, h4, h5⟩ := s
    exact ⟨a, vs, h1, h2, h3, RepAll.dn ds vs n h4, h5⟩
  | n k ds => exact s
  | b j => exact s
theorem Rel.up (h : w.xn = none) {c : C} {v : V} {dv : DV} (s : Rel w c v dv) : Rel (w.at x) c v dv := by
  cases dv with
  | f d => exact RepD.up h d v s
  | p pds => exact PlR.up h s
  | o ds =>
    obtain ⟨a, vs, h1, h2, h3, h4, h5⟩ := s
    exact ⟨a, vs, h1, h2, h3, RepAll.up h ds vs h4, h5⟩
  | n k ds => exact s
  | b j => exact s
end
/-! ### into a suite and out of it -/
def C.hot (c : C) (i : Nat) (a dx : Addr) (o : HO) (k : Nat) (d : D) : C := ⟨c.dl, upd c.F dx o, upd c.H dx o, c.σ.set i (some (.ref a)), c.ρ.set i (some (.f (.exn k d))), c.g⟩
def C.cool (c : C) (i : Nat) : C := ⟨c.dl, c.F, c.H, c.σ.set i none, c.ρ.set i none, c.g⟩
section
variable {w : Wd} {c c2 : C} {i k : Nat} {a dx : Addr} {u : V} {d : D}
theorem own_hot {o : HO} {j : Nat} {b : Addr} (hi : i < c.ρ.length) (h : Own (c.hot i a dx o k d) j b) : j ≠ i ∧ Own c j b := by
  obtain ⟨h1, dv, h2, h3⟩ := h
  by_cases z : i = j
  · subst z
    have h2' : (c.ρ.set i (some (.f (.exn k d))))[i]? = some (some dv) := h2
    rw [List.getElem?_set_self hi] at h2'
    cases h2'
    cases h3
  · have h1' : (c.σ.set i (some (.ref a)))[j]? = some (some (.ref b)) := h1
    have h2' : (c.ρ.set i (some (.f (.exn k d))))[j]? = some (some dv) := h2
    rw [List.getElem?_set_ne z] at h1' h2'
    exact ⟨fun e => z e.symm, h1', dv, h2', h3⟩
theorem own_cool {j : Nat} {b : Addr} (h : Own (c.cool i) j b) : j ≠ i ∧ Own c j b := by
  obtain ⟨h1, dv, h2, h3⟩ := h
  have h1' : (c.σ.set i none)[j]? = some (some (.ref b)) := h1
  have h2' : (c.ρ.set i none)[j]? = some (some dv) := h2
  by_cases z : i = j
  · subst z
    by_cases hi : i < c.ρ.length
    · rw [List.getElem?_set_self hi] at h2'
      cases h2'
    · rw [List.getElem?_eq_none (by rw [List.length_set]; omega)] at h2'
      cases h2'
  · rw [List.getElem?_set_ne z] at h1' h2'
    exact ⟨fun e => z e.symm, h1', dv, h2', h3⟩
theorem touch_cool {b : Addr} (h : Touch (c.cool i) b) : Touch c b := by
  rcases h with ⟨j, o⟩ | t
  · exact .inl ⟨j, (own_cool o).2⟩
  · exact .inr t
theorem R.hot (r : R w c) (hx : w.xn = none) (hdx : c.H dx = none) (rep : RepD w c.dl c.F d u) (hi : c.ρ[i]? = some none) :
    R (w.at (k, a, dx)) (c.hot i a dx (.xd [(w.xf, u)]) k d) ∧ LStep c (c.hot i a dx (.xd [(w.xf, u)]) k d) := by
  obtain ⟨r1, x1⟩ := r.layF hdx (.xd [(w.xf, u)])
  have hi' : i < c.ρ.length := (List.getElem?_eq_some_iff.mp hi).1
  have his : i < c.σ.length := by rw [r.len]; exact hi'
  have tc : ∀ b, Touch (c.hot i a dx (.xd [(w.xf, u)]) k d) b → Touch c b := fun b t => by
    rcases t with ⟨j, o⟩ | t
    · exact .inl ⟨j, (own_hot hi' o).2⟩
    · exact .inr t
  refine ⟨⟨r1.sub, ?_, fun j dv h => ?_, fun j1 j2 b o1 o2 => r.dist j1 j2 b (own_hot hi' o1).2 (own_hot hi' o2).2, fun j b p o hp => r.ndeal j b p (own_hot hi' o).2 hp, r1.deal⟩, ⟨⟨x1.mono, x1.keep, x1.live, x1.newF, fun b t => .inl (tc b t), x1.dl⟩, fun j dv h => ?_, fun j k' fs h => ?_⟩⟩
  · show (c.σ.set i _).length = (c.ρ.set i _).length
    rw [List.length_set, List.length_set]
    exact r.len
  · have h' : (c.ρ.set i (some (DV.f (.exn k d))))[j]? = some (some dv) := h
    by_cases z : i = j
    · subst z
      rw [List.getElem?_set_self hi'] at h'
      cases h'
      exact ⟨.ref a, List.getElem?_set_self his, a, dx, u, rfl, rfl, upd_same, RepD.up hx d u (RepD.mono x1.mono x1.dl d u rep)⟩
    · rw [List.getElem?_set_ne z] at h'
      obtain ⟨v, e1, e2⟩ := r1.slot j dv h'
      exact ⟨v, (List.getElem?_set_ne z).trans e1, Slot.up hx e2⟩
  · by_cases z : i = j
    · subst z
      rw [hi] at h
      cases h
    · exact ⟨dv, (List.getElem?_set_ne z).trans h⟩
  · have h' : (c.ρ.set i (some (DV.f (.exn k d))))[j]? = some (some (.n k' fs)) := h
    by_cases z : i = j
    · subst z
      rw [List.getElem?_set_self hi'] at h'
      cases h'
    · rw [List.getElem?_set_ne z] at h'
      exact ⟨⟨fs, h'⟩, List.getElem?_set_ne z⟩
theorem all_at {ρ : List (Option DV)} {j : Nat} {dv : DV} (h : ρ.all noXO = true) (e : ρ[j]? = some (some dv)) : noXV dv = true := List.all_eq_true.mp h _ (List.mem_of_getElem? e)
theorem R.cool {y : Nat × Addr × Addr} (r : R (w.at y) c2) (x : LStep c c2) (hi : ∀ dv, c.ρ[i]? ≠ some (some dv)) (hn : (c2.ρ.set i none).all noXO = true) : R w (c2.cool i) ∧ LStep c (c2.cool i) := by
  refine ⟨⟨r.sub, ?_, fun j dv h => ?_, fun j1 j2 b o1 o2 => r.dist j1 j2 b (own_cool o1).2 (own_cool o2).2, fun j b p o hp => r.ndeal j b p (own_cool o).2 hp, r.deal⟩, ⟨⟨x.mono, x.keep, x.live, x.newF, fun b t => x.tch b (touch_cool t), x.dl⟩, fun j dv h => ?_, fun j k' fs h => ?_⟩⟩
  · show (c2.σ.set i _).length = (c2.ρ.set i _).length
    rw [List.length_set, List.length_set]
    exact r.len
  · have nx := all_at hn h
    have h' : (c2.ρ.set i none)[j]? = some (some dv) := h
    by_cases z : i = j
    · subst z
      by_cases hl : i < c2.ρ.length
      · rw [List.getElem?_set_self hl] at h'
        cases h'
      · rw [List.getElem?_eq_none (by rw [List.length_set]; omega)] at h'
        cases h'
    · rw [List.getElem?_set_ne z] at h'
      obtain ⟨v, e1, e2⟩ := r.slot j dv h'
      exact ⟨v, (List.getElem?_set_ne z).trans e1, Slot.dn nx e2⟩
  · by_cases z : i = j
    · subst z
      exact absurd h (hi dv)
    · obtain ⟨dv', e⟩ := x.pres j dv h
      exact ⟨dv', (List.getElem?_set_ne z).trans e⟩
  · have h' : (c2.ρ.set i none)[j]? = some (some (.n k' fs)) := h
    by_cases z : i = j
    · subst z
      by_cases hl : i < c2.ρ.length
      · rw [List.getElem?_set_self hl] at h'
        cases h'
      · rw [List.getElem?_eq_none (by rw [List.length_set]; omega)] at h'
        cases h'
    · rw [List.getElem?_set_ne z] at h'
      obtain ⟨q1, q2⟩ := x.ini j k' fs h'
      exact ⟨q1, (List.getElem?_set_ne z).trans q2⟩
end
end DI

end
section
set_option Elab.async false
set_option linter.all false
set_option maxRecDepth 100000
set_option maxHeartbeats 4000000
/-! EX4: the statement try .. except C as n. Own text. -/
namespace DI
open PySem PySem.Spec PyProof.Rows L2
section
variable {w : Wd} {Φ : Fns} {X : Cx} {Wout : WX} {x n : Str} {cv : Value} {i : Nat} {body suite : List Stmt} {b₀ : Stmt} {np pos pos' : Pos} {b su : List Sm} {ts fs : List Nat}
/-- a suite's reading: the caught error is of a class that the clause names -/
def tSu (w : Wd) (Φ : Fns) (ts : List Nat) (su : List Sm) (a : Addr) (cls : Value) (dd : Option Addr) : TS := fun D σ H => ∃ (k : Nat) (dx : Addr), ts.contains k = true ∧ cls = .ref (w.xc k) ∧ dd = some dx ∧ tSs (w.at (k, a, dx)) noEx Φ su D σ H
theorem tryM_exc {m su : M Fl} {s s' : S} {k : Nat} {d : D} {o : Option Nat} (h : m s = .exc k d s') : tryM m o ts fs su s = if ts.contains k then suiteM o k d su s' else if fs.contains k then .exc k d s' else .stuck := by
  unfold tryM
  rw [h]
theorem s_try (hx : w.xn = none) (hs : X.stack = X.env :: X.outer) (hf : X.env.frame = some X.env.locals) (hN : X.N.Nodup) (hi : X.N[i]? = some n) (hln : X.env.kindOf n = some .local) (hc : Names X x cv) (tk : Takes X Wout)
    (hts : ∀ k, ts.contains k = true → PySem.W.exmOne X.K (.ref (w.xc k)) cv = some true) (hfs : ∀ k, fs.contains k = true → PySem.W.exmOne X.K (.ref (w.xc k)) cv = some false)
    (hb : ∀ (W : WX) (pn : List (Addr × Obj)) (xe : Value → Shared → Prop), Takes (X.tr pn xe) W → PassesOwn (model X.prog X.w) X.A X.env xe → PSs (X.tr pn xe) body (tSs w (ExW w W) Φ b))
    (hsu : ∀ (a : Addr) (oe : Obj) (k : Nat) (dx : Addr) (pn : List (Addr × Obj)), ts.contains k = true → Zc (.ref (w.xc k)) (some dx) oe → (∃ vs, oe.data = .fields vs) → PSs (X.suite a ((a, oe) :: pn)) (b₀ :: suite) (tSs (w.at (k, a, dx)) noEx Φ su)) :
    PS X (.Try body [.ExceptHandler (some (.Name x np)) (some n) (b₀ :: suite) pos'] [] [] pos) (tS w (ExW w Wout) Φ (.tryx b (some i) ts fs su)) := by
  refine (ps_try_as (tb := fun W => tSs w (ExW w W) Φ b) (ts := tSu w Φ ts su) hs hf hN hi hln hc tk hb fun a oe cls dd pn hz hfl => ⟨fun pins s σ H D I h => ?_⟩).imp fun D σ H h => ?_
  · obtain ⟨k, dx, hk, rfl, rfl, h⟩ := h
    exact (hsu a oe k dx pn hk hz hfl).run pins s σ H D I h
  obtain ⟨c, rfl, rfl, r, h⟩ := h
  refine ⟨c, rfl, rfl, r, ?_⟩
  have h' : AftP w (ExW w Wout) c (tryM (evSs w.T Φ b) (some i) ts fs (evSs w.T Φ su) c.s) (FlQ w c D) := h
  cases e : evSs w.T Φ b c.s with
  | stuck =>
    unfold tryM at h'
    rw [e] at h'
    exact h'.elim
  | ok fl s' =>
    unfold tryM at h'
    rw [e] at h'
    exact h'
  | exc k d s' =>
    rw [tryM_exc e] at h'
    intro c' hs' r' x' dx u hdx rep
    by_cases hk : ts.contains k = true
    · rw [if_pos hk] at h'
      refine ⟨true, hts k hk, ⟨fun _ a ha => ?_, fun z => Bool.noConfusion z⟩⟩
      refine ⟨k, dx, hk, rfl, rfl, ?_⟩
      unfold suiteM at h'
      dsimp only at h'
      have hr : s'.r = c'.ρ := by rw [← hs']; rfl
      have hg : s'.g = c'.g := by rw [← hs']; rfl
      rw [hr] at h'
      cases ei : c'.ρ[i]? with
      | none => rw [ei] at h'; exact h'.elim
      | some o =>
        rw [ei] at h'
        cases o with
        | some dv => exact h'.elim
        | none =>
          obtain ⟨r1, x1⟩ := R.hot (a := a) (k := k) r' hx hdx rep ei
          have ec : ∀ dv, c.ρ[i]? ≠ some (some dv) := fun dv q => by
            obtain ⟨dv', z⟩ := x'.pres i dv q
            rw [ei] at z
            cases z
          refine ⟨c'.hot i a dx (.xd [(w.xf, u)]) k d, rfl, rfl, r1, ?_⟩
          rw [hg] at h'
          have h2 : AftP w (ExW w Wout) c (match noExc (evSs w.T Φ su) (c'.hot i a dx (.xd [(w.xf, u)]) k d).s with
            | .ok fl s' => if (s'.r.set i none).all noXO && noXF fl then .ok fl { s' with r := s'.r.set i none } else .stuck
            | _ => .stuck) (FlQ w c D) := h'
          unfold noExc at h2
          cases es : evSs w.T Φ su (c'.hot i a dx (.xd [(w.xf, u)]) k d).s with
          | stuck => rw [es] at h2; exact h2.elim
          | exc k2 d2 s2 => rw [es] at h2; exact h2.elim
          | ok fl s2 =>
            rw [es] at h2
            dsimp only at h2
            intro c2 hs2 r2 x2
            subst hs2
            by_cases hn : ((c2.s.r.set i none).all noXO && noXF fl) = true
            · rw [if_pos hn] at h2
              rw [Bool.and_eq_true] at hn
              have x02 : LStep c c2 := (x'.trans x1).trans x2
              obtain ⟨r3, x3⟩ := R.cool r2 x02 ec hn.1
              have q := h2 (c2.cool i) rfl r3 x3
              cases fl with
              | nx => exact q
              | bk => exact q
              | ct => exact q
              | rt dv =>
                intro v rel fr
                exact q v (Rel.dn hn.2 rel) (fr.base r1 (x'.trans x1))
            · rw [if_neg hn] at h2
              exact h2.elim
    · rw [if_neg hk] at h'
      by_cases hk2 : fs.contains k = true
      · rw [if_pos hk2] at h'
        exact ⟨false, hfs k hk2, ⟨fun z => Bool.noConfusion z, fun _ => h' c' hs' r' x' dx u hdx rep⟩⟩
      · rw [if_neg hk2] at h'
        exact h'.elim
end
end DI

end
section
set_option Elab.async false
set_option linter.all false
set_option maxRecDepth 100000
set_option maxHeartbeats 4000000
/-! EX5: what a suite asks of the error at hand: its field, its class. Own text. -/
namespace DI
open PySem PySem.Spec PyProof.Rows L2
section
variable {w : Wd} {Φ : Fns} {Ex : Nat → D → C → Prop} {X : Cx} {a dx : Addr} {k : Nat} {oe : Obj} {pn : List (Addr × Obj)} {e : Expr} {ae : E} {pos p p2 : Pos} {n m f : Str}
theorem Lk.exn {c : C} {v : V} {k' : Nat} {d : D} (r : R (w.at (k, a, dx)) c) (l : Lk (w.at (k, a, dx)) c v (.exn k' d)) : k' = k ∧ v = .ref a ∧ ∃ u, c.H dx = some (.xd [(w.xf, u)]) ∧ RepD (w.at (k, a, dx)) c.dl c.F d u := by
  obtain ⟨a', dx', u, e1, e2, e3, e4⟩ := l
  cases e1
  exact ⟨rfl, e2, u, r.sub _ _ e3, e4⟩
theorem j_xat (hn : f = w.xf) (T : XfC X.K (w.xc k)) (hno : PySem.W.findIn X.K (.ref (w.xc k)) f = some none) (hz : Zc (.ref (w.xc k)) (some dx) oe) (hf : ∃ vs, oe.data = .fields vs)
    (he : PE (X.suite a ((a, oe) :: pn)) e (tE (w.at (k, a, dx)) Ex Φ ae)) (hb : attributeBase e f X.env (eval e X.env) = eval e X.env := by rfl) :
    PE (X.suite a ((a, oe) :: pn)) (.Attribute e f pos) (tE (w.at (k, a, dx)) Ex Φ (.xat ae)) := (pe_xf T hno hz hf he hb).imp fun σ H Q h => by
  obtain ⟨c, rfl, rfl, r, h⟩ := tE_in h
  refine tE_seq h (SStep.refl c) r fun c2 v dv r2 x2 x02 hσ rel fr fr0 h2 => ?_
  obtain ⟨d, l, h3⟩ := h2.look r2 rel
  cases d with
  | exn k' d0 =>
    obtain ⟨_, e2, u, e3, e4⟩ := l.exn r2
    subst hn
    exact ⟨e2, rfl, dx, [(w.xf, u)], u, rfl, e3, by simp [List.lookup], Aft.fin h3 x02 r2 e4 trivial⟩
  | _ => exact h3.elim
/-- isinstance(e, c), e the error at hand, dx its dict -/
def rIsEd (K : PySem.W.Frag) (D a dx : Addr) : List V → Hp → VK → Prop := fun xs H Q => ∃ (c : V) (cv : Value) (b : Bool) (fs : List (Str × V)), xs = [.ref a, c] ∧ (∀ u, RelV c u → u = cv) ∧ PySem.W.kitOne K (.ref D) cv = some b ∧ H dx = some (.xd fs) ∧ Q (.bl b) H
theorem call_isEd {D : Addr} (C : ExcC X.K D) (hz : Zc (.ref D) (some dx) oe) (hf : ∃ vs, oe.data = .fields vs) : CallR (X.suite a ((a, oe) :: pn)) (.builtin "isinstance") (rIsEd X.K D a dx) := by
  intro pins s σ H xs us Q I r h
  obtain ⟨c, cv, b, fs, rfl, hcv, e, hxd, q⟩ := h
  cases r with
  | cons rx rr =>
    cases rr with
    | cons rt rr =>
      cases rr
      cases rx
      have ec := hcv _ rt
      subst ec
      obtain ⟨hget, _⟩ := I.pin (a, oe) (List.mem_append.mpr (.inl List.mem_cons_self))
      obtain ⟨vs, hv⟩ := hf
      have hx : ObjOk X.prog X.w H s.heap dx (.xd fs) := I.hok dx _ hxd
      obtain ⟨od, ho⟩ := objOk_get hx
      have J : PySem.W.InstAt s.heap a oe D (some od) := ⟨hget, hz.1, by unfold PySem.W.notCls; rw [hv] <;> rfl, by rw [hz.2]; exact ho⟩
      obtain ⟨cd, hc, _⟩ := PySem.W.any_some C.hd
      exact PySem.W.kia_one (PySem.W.kitx_exc (by rw [hc]; rfl) C.hg C.hk C.hs C.ha C.hn C.ht C.hm) I.kIn J e (fun z => nomatch z) fun tk => ⟨.bl b, H, I.kept (t' := tk) fun _ _ z => z, rfl, q⟩
theorem j_isX {ts fs : List Nat} {cv : V} {cu : Value} {y : Expr} (C : ExcC X.K (w.xc k)) (hz : Zc (.ref (w.xc k)) (some dx) oe) (hf : ∃ vs, oe.data = .fields vs) (N : BltN (X.suite a ((a, oe) :: pn)) n (.builtin "isinstance"))
    (hy : PE (X.suite a ((a, oe) :: pn)) y (tC cv)) (hcv : ∀ u, RelV cv u → u = cu) (hts : ts.contains k = true → PySem.W.kitOne X.K (.ref (w.xc k)) cu = some true) (hfs : fs.contains k = true → PySem.W.kitOne X.K (.ref (w.xc k)) cu = some false)
    (he : PE (X.suite a ((a, oe) :: pn)) e (tE (w.at (k, a, dx)) Ex Φ ae)) (hst : starEach [e, y] X.env = (false, eval e X.env) :: starEach [y] X.env := by rfl) (hst2 : starEach [y] X.env = (false, eval y X.env) :: starEach [] X.env := by rfl) (hpl : (backTo pos (starEach [y] X.env)).any (·.1) = false := by rfl) :
    PE (X.suite a ((a, oe) :: pn)) (.Call (.Name n p) [e, y] [] pos) (tE (w.at (k, a, dx)) Ex Φ (.isX ae ts fs)) :=
  (pe_callB (call_isEd C hz hf) N.gl N.no N.boot (pa_cons he (pa_cons hy pa_nil hst2) hst) N.nn N.nd hst hpl).imp fun σ H Q h => by
    obtain ⟨c, rfl, rfl, r, h⟩ := tE_in h
    refine tE_seq h (SStep.refl c) r fun c2 v dv r2 x2 x02 hσ rel fr fr0 h2 => ?_
    obtain ⟨d, l, h3⟩ := h2.look r2 rel
    cases d with
    | exn k' d0 =>
      obtain ⟨e1, e2, u, e3, e4⟩ := l.exn r2
      subst e1
      subst e2
      by_cases h4 : ts.contains k' = true
      · dsimp only at h3
        rw [if_pos h4] at h3
        exact ⟨cv, cu, true, _, rfl, hcv, hts h4, e3, Aft.fin h3 x02 r2 rfl trivial⟩
      · dsimp only at h3
        rw [if_neg h4] at h3
        by_cases h5 : fs.contains k' = true
        · rw [if_pos h5] at h3
          exact ⟨cv, cu, false, _, rfl, hcv, hfs h5, e3, Aft.fin h3 x02 r2 rfl trivial⟩
        · rw [if_neg h5] at h3
          exact h3.elim
    | _ => exact h3.elim
end
end DI

end
section
set_option Elab.async false
set_option linter.all false
set_option maxRecDepth 100000
set_option maxHeartbeats 4000000
/-! EX6: promises of defs that may raise, by their names; the wrappers. Own text. -/
namespace DI
open PySem PySem.Spec PyProof.Rows L2
section
variable (P : Program) (W : World) (K : PySem.W.Frag) (mg : Str → Option Value) (base : Heap) (w : Wd)
def TX1 (n : Str) (pr : Arguments) (ps : List Str) (φ : List D → G → Res DV) (k : Nat) : Prop := ∃ f fd bd sc, FnG P W K mg base (L2.CX P W) k f fd ps (spF w (EFx w) φ) ∧ FunD K n n pr bd sc [] [] f fd ∧ mg n = some (.ref f) ∧ Binds K fd ps []
def MX1 (n : Str) (ps : List Str) (k0 : Nat) (φ : List D → G → Res DV) (k : Nat) : Prop := ∃ f fd, FnG P W K mg base (L2.CX P W) k f fd ps (spI w (EFx w) k0 φ) ∧ Mk K (w.ca k0) f ∧ mg n = some (.ref (w.ca k0)) ∧ Binds K fd ps []
def EX1 (n sf : Str) (k : Nat) : Prop := ∃ f fd, SupI P K (w.xc k) f sf w.xf fd ∧ PySem.W.findIn K (.ref (w.xc k)) "__init__" = some (some (.ref f)) ∧ PySem.W.typeIn K (.ref f) = some (.type "function") ∧ Binds K fd [sf, w.xf] [] ∧ mg n = some (.ref (w.xc k))
end
theorem passB {X : Cx} : Passes (CX1 X) X (fun _ _ _ => False) := fun _ _ _ _ _ _ _ h => by
  obtain ⟨_, _, _, _, _, _, _, _, _, _, _, _, z⟩ := h
  exact z.elim
/-- at a body's start -/
theorem takes_cx {P : Program} {W : World} {K : PySem.W.Frag} {mg : Str → Option Value} {base : Heap} {N : List Str} {qual : Str} {scope : Scope} {f : Addr} {cd : Value} {A : Around} {outer : List Env} {s : Shared} {H : Hp} {E : XK} :
    Takes (cxOf (L2.CX P W) P W K mg base N qual scope f cd A outer s H E) (fun cls d _ H => E cls d H) := takes_of rfl rfl rfl rfl
theorem gx_ofX {P : Program} {W : World} {K : PySem.W.Frag} {mg : Str → Option Value} {base : Heap} {N : List Str} {qual : Str} {scope : Scope} {f : Addr} {cd : Value} {A : Around} {outer : List Env} {s : Shared} {H : Hp} {E : XK} {j : Nat} {w : Wd}
    (hr : Room j (A.deeper (envOfC qual scope s.heap.objs.size f cd))) (hgd : A.guards = some []) (hN : N.Nodup) (hK : K = w.K) (cls : ∀ c, ClsOk w c) (tab : ∀ c, (w.T.fl c).length < 900 ∧ (w.names c).Nodup) :
    Gx w (cxOf (L2.CX P W) P W K mg base N qual scope f cd A outer s H E) := ⟨hK, by have := hr.un; show (A.deeper (envOfC qual scope s.heap.objs.size f cd)).units + 65 < _; omega, fun _ => rfl, hN, passes_of rfl, hgd, cls, tab⟩
section
variable {w : Wd} {X : Cx}
theorem Gx.tr (g : Gx w X) {pn : List (Addr × Obj)} {xe : Value → Shared → Prop} (hp : PassesOwn (model X.prog X.w) X.A X.env xe) : Gx w (X.tr pn xe) := ⟨g.hK, g.hu, g.hc, g.hN, hp, g.gd, g.cls, g.tab⟩
theorem ClsOk.at {c : Nat} {x : Nat × Addr × Addr} (h : ClsOk w c) : ClsOk (w.at x) c := ⟨h.1, h.2, h.3⟩
theorem Gx.suite (g : Gx w X) {a : Addr} {pn : List (Addr × Obj)} {x : Nat × Addr × Addr} : Gx (w.at x) (X.suite a pn) := ⟨g.hK, g.hu, (fun z => nomatch (show some x = none from z)), g.hN, PassesOwn.never, g.gd, fun c => (g.cls c).at, g.tab⟩
end
section
variable {w : Wd} {Φ : Fns} {W : WX} {X : Cx} {x : Expr} {a : E} {es : List E} {l : List Expr} {kws : List Keyword} {pos pos2 p : Pos} {n sf : Str} {k i k0 : Nat} {ps ks : List Str} {pr : Arguments}
theorem qx_raise (N : EX1 X.prog X.K X.mg w n sf k) (g : Gx w X) [NoExn w] (hr : Room 2 X.A) (tk : Takes X W) (ha : PE X x (tE w (ExW w W) Φ a)) (hg : Gl X n := by rfl) (hd : (n == ("__debug__" : Str)) = false := by decide)
    (he : starEach [x] X.env = (false, eval x X.env) :: starEach [] X.env := by rfl) (hpl : (backTo pos (starEach [] X.env)).any (·.1) = false := by rfl) :
    PS X (.Raise (some (.Call (.Name n p) [x] [] pos)) none pos2) (tS w (ExW w W) Φ (.raise k a)) := by
  obtain ⟨f, fd, h1, h2, h3, h4, h5⟩ := N
  exact s_raise ⟨h1, h2, h3, h4, h5⟩ hr (g.hc NoExn.h) tk ha hg hd he hpl
theorem qx_call (N : TX1 X.prog X.w X.K X.mg X.base w n pr ps (Φ i) k) (g : Gx w X) (tk : Takes X W) (hr : Room k X.A) (hs : PA X (x :: l) (tEs w (ExW w W) Φ es)) (hg : Gl X n := by rfl) (hd : (n == ("__debug__" : Str)) = false := by decide)
    (hst : starEach (x :: l) X.env = (false, eval x X.env) :: starEach l X.env := by rfl) (hpl : (backTo pos (starEach l X.env)).any (·.1) = false := by rfl) :
    PE X (.Call (.Name n p) (x :: l) [] pos) (tE w (ExW w W) Φ (.call i es)) := by
  obtain ⟨f, fd, _, _, h1, h2, h3, h4⟩ := N
  exact js_call ⟨h1, hr, g.gd, hg, h3, h2.kp, h4, hd⟩ tk hs hst hpl
theorem qx_call0 (N : TX1 X.prog X.w X.K X.mg X.base w n pr ps (Φ i) k) (g : Gx w X) (tk : Takes X W) (hr : Room k X.A) (hg : Gl X n := by rfl) (hd : (n == ("__debug__" : Str)) = false := by decide) : PE X (.Call (.Name n p) [] [] pos) (tE w (ExW w W) Φ (.call i [])) := by
  obtain ⟨f, fd, _, _, h1, h2, h3, h4⟩ := N
  exact js_call0 ⟨h1, hr, g.gd, hg, h3, h2.kp, h4, hd⟩ tk
theorem qx_make (N : MX1 X.prog X.w X.K X.mg X.base w n ps k0 (Φ i) k) (g : Gx w X) (tk : Takes X W) (hr : Room (k + 1) X.A) (hs : PA X (x :: l) (tEs w (ExW w W) Φ es)) (hg : Gl X n := by rfl) (hd : (n == ("__debug__" : Str)) = false := by decide)
    (hst : starEach (x :: l) X.env = (false, eval x X.env) :: starEach l X.env := by rfl) (hpl : (backTo pos (starEach l X.env)).any (·.1) = false := by rfl) :
    PE X (.Call (.Name n p) (x :: l) [] pos) (tE w (ExW w W) Φ (.make i es)) := by
  obtain ⟨f, fd, h1, h2, h3, h4⟩ := N
  exact js_make ⟨h1, hr, g.gd, hg, h2, h3, h4, hd⟩ tk hs hst hpl
theorem qx_callk (ks : List Str) (js : List Nat) (N : TX1 X.prog X.w X.K X.mg X.base w n pr ps (Φ i) k) (g : Gx w X) (tk : Takes X W) (hr : Room k X.A) (hB : KB n pr ps ks js) (hkw : PK X kws (tEs w (ExW w W) Φ es)) (hg : Gl X n := by rfl) (hd : (n == ("__debug__" : Str)) = false := by decide) (hl : es.length = ks.length := by rfl)
    (hall : (backToKw pos (keywordEach kws X.env)).all (·.1.isSome) = true := by rfl) (hks : (backToKw pos (keywordEach kws X.env)).filterMap (·.1) = ks := by rfl)
    (hpl : ((backTo pos (starEach [] X.env)).any (·.1) || (backToKw pos (keywordEach kws X.env)).any (·.1.isNone)) = false := by rfl) :
    PE X (.Call (.Name n p) [] kws pos) (tE w (ExW w W) Φ (.callk i js es)) := by
  obtain ⟨f, fd, bd, sc, h1, h2, h3, h4⟩ := N
  exact js_callk ⟨h1, hr, g.gd, hg, h3, h2.kp, h4, hd⟩ (kbn_of h2 (hB bd sc)) tk hkw hl hall hks hpl
/-! within a comprehension: nothing may be raised -/
theorem qn_call (N : TX1 X.prog X.w X.K X.mg X.base w n pr ps (Φ i) k) (g : Gx w X) (hr : Room k X.A) (hs : PA X (x :: l) (tEs w noEx Φ es)) (hg : Gl X n := by rfl) (hd : (n == ("__debug__" : Str)) = false := by decide) (hst : starEach (x :: l) X.env = (false, eval x X.env) :: starEach l X.env := by rfl) (hpl : (backTo pos (starEach l X.env)).any (·.1) = false := by rfl) :
    PE X (.Call (.Name n p) (x :: l) [] pos) (tE w noEx Φ (.call i es)) := by
  obtain ⟨f, fd, _, _, h1, h2, h3, h4⟩ := N
  exact j_call (E := fun _ _ _ => False) ⟨h1, hr, g.gd, hg, h3, h2.kp, h4, hd⟩ passB (fun _ _ _ _ h => h.elim) hs hst hpl
theorem qn_call0 (N : TX1 X.prog X.w X.K X.mg X.base w n pr ps (Φ i) k) (g : Gx w X) (hr : Room k X.A) (hg : Gl X n := by rfl) (hd : (n == ("__debug__" : Str)) = false := by decide) : PE X (.Call (.Name n p) [] [] pos) (tE w noEx Φ (.call i [])) := by
  obtain ⟨f, fd, _, _, h1, h2, h3, h4⟩ := N
  exact j_call0 (E := fun _ _ _ => False) ⟨h1, hr, g.gd, hg, h3, h2.kp, h4, hd⟩ passB (fun _ _ _ _ h => h.elim)
theorem qn_make (N : MX1 X.prog X.w X.K X.mg X.base w n ps k0 (Φ i) k) (g : Gx w X) (hr : Room (k + 1) X.A) (hs : PA X (x :: l) (tEs w noEx Φ es)) (hg : Gl X n := by rfl) (hd : (n == ("__debug__" : Str)) = false := by decide) (hst : starEach (x :: l) X.env = (false, eval x X.env) :: starEach l X.env := by rfl) (hpl : (backTo pos (starEach l X.env)).any (·.1) = false := by rfl) :
    PE X (.Call (.Name n p) (x :: l) [] pos) (tE w noEx Φ (.make i es)) := by
  obtain ⟨f, fd, h1, h2, h3, h4⟩ := N
  exact j_make (E := fun _ _ _ => False) ⟨h1, hr, g.gd, hg, h2, h3, h4, hd⟩ passB (fun _ _ _ _ h => h.elim) hs hst hpl
theorem qn_callk (ks : List Str) (js : List Nat) (N : TX1 X.prog X.w X.K X.mg X.base w n pr ps (Φ i) k) (g : Gx w X) (hr : Room k X.A) (hB : KB n pr ps ks js) (hkw : PK X kws (tEs w noEx Φ es)) (hg : Gl X n := by rfl) (hd : (n == ("__debug__" : Str)) = false := by decide) (hl : es.length = ks.length := by rfl)
    (hall : (backToKw pos (keywordEach kws X.env)).all (·.1.isSome) = true := by rfl) (hks : (backToKw pos (keywordEach kws X.env)).filterMap (·.1) = ks := by rfl)
    (hpl : ((backTo pos (starEach [] X.env)).any (·.1) || (backToKw pos (keywordEach kws X.env)).any (·.1.isNone)) = false := by rfl) :
    PE X (.Call (.Name n p) [] kws pos) (tE w noEx Φ (.callk i js es)) := by
  obtain ⟨f, fd, bd, sc, h1, h2, h3, h4⟩ := N
  exact j_callk (E := fun _ _ _ => False) ⟨h1, hr, g.gd, hg, h3, h2.kp, h4, hd⟩ (kbn_of h2 (hB bd sc)) passB (fun _ _ _ _ h => h.elim) hkw hl hall hks hpl
end
/-- a law's own promise, for the layer's end -/
theorem FnG.calm {P : Program} {W : World} {K : PySem.W.Frag} {mg : Str → Option Value} {base : Heap} {k : Nat} {f : Addr} {fd : FuncData} {ps : List Str} {sp : Sp} (F : FnG P W K mg base (L2.CX P W) k f fd ps sp) :
    FnG P W K mg base CX0 k f fd ps (fun vs H Q _ => sp vs H Q fun _ _ _ => False) :=
  ⟨fun h => F.len h, fun {A out s H ar us vs Q E} hr hgd e0 hb r h => codeAny_mono (F.go hr hgd e0 hb r h) fun r' s' hq => by
    cases r' with
    | ok fl =>
      cases fl with
      | ret u => exact hq
      | next => exact hq
      | brk => exact hq
      | cont => exact hq
    | error e =>
      obtain ⟨_, _, _, _, _, _, _, _, _, _, _, _, z⟩ := hq
      exact z.elim⟩
end DI

end
section
set_option Elab.async false
set_option linter.all false
set_option maxRecDepth 100000
set_option maxHeartbeats 4000000
/-! EX7: levels of defs that may raise. Own text after DI26. -/
namespace DI
open PySem PySem.Spec PyProof.Rows L2
section
variable {P : Program} {W : World} {K : PySem.W.Frag} {mg : Str → Option Value} {base : Heap} {w : Wd} {n qual : Str} {pr : Arguments} {bd : List Stmt} {sc : Scope} {f : Addr} {fd : FuncData} {ps : List Str} {k k0 : Nat} {φ : List D → G → Res DV}
theorem tx0 (F : FunD K n n pr bd sc [] [] f fd) (m : mg n = some (.ref f)) (b : Binds K fd ps []) (h : ∀ ds g, φ ds g = .stuck) : TX1 P W K mg base w n pr ps φ k :=
  ⟨f, fd, bd, sc, ⟨fun {vs H Q E} z => by
    obtain ⟨c, ds, _, _, _, _, _, z⟩ := z
    rw [h] at z
    exact z.elim, fun {A out s H ar us vs Q E} _ _ _ _ _ z => by
    obtain ⟨c, ds, _, _, _, _, _, z⟩ := z
    rw [h] at z
    exact z.elim⟩, F, m, b⟩
theorem txS (F : FunD K n n pr bd sc [] [] f fd) (m : mg n = some (.ref f)) (b : Binds K fd ps []) (ok : FnG P W K mg base (L2.CX P W) k f fd ps (spF w (EFx w) φ)) : TX1 P W K mg base w n pr ps φ k := ⟨f, fd, bd, sc, ok, F, m, b⟩
theorem mx0 (M : Mk K (w.ca k0) f) (m : mg n = some (.ref (w.ca k0))) (b : Binds K fd ps []) (h : ∀ ds g, φ ds g = .stuck) : MX1 P W K mg base w n ps k0 φ k :=
  ⟨f, fd, ⟨fun {vs H Q E} z => by
    obtain ⟨c, ds, x, us, _, _, _, _, _, _, z⟩ := z
    rw [h] at z
    exact z.elim, fun {A out s H ar us vs Q E} _ _ _ _ _ z => by
    obtain ⟨c, ds, x, us, _, _, _, _, _, _, z⟩ := z
    rw [h] at z
    exact z.elim⟩, M, m, b⟩
theorem mxS (M : Mk K (w.ca k0) f) (m : mg n = some (.ref (w.ca k0))) (b : Binds K fd ps []) (ok : FnG P W K mg base (L2.CX P W) k f fd ps (spI w (EFx w) k0 φ)) : MX1 P W K mg base w n ps k0 φ k := ⟨f, fd, ok, M, m, b⟩
/-- a body's reading at its wish -/
theorem body_ofX {X : Cx} {E : XK} {Φ : Fns} {b : List Sm} (h : PSs X bd (tSs w (ExW w fun cls d _ H => E cls d H) Φ b)) : PSs X bd (tSs w (exOf (EFx w) E) Φ b) := h
end
end DI

end
section
set_option Elab.async false
set_option linter.all false
set_option maxRecDepth 100000
set_option maxHeartbeats 4000000
/-! EX8: several clauses behind a try, with and without names: the layer's two proofs put together. -/
namespace DI
open PySem PySem.Spec PyProof.Rows L2
/-- the wish of several clauses, one after the other; a clause's name stands in its slot -/
def wMix (K : PySem.W.Frag) (Wout : WX) (D : Ends) : List (Value × Option Nat × (Addr → Value → Option Addr → TS)) → WX
  | [] => Wout
  | (c, none, ts) :: r => fun cls d σ H => ∃ b, PySem.W.exmOne K cls c = some b ∧ (b = true → ∀ a, H a = none → ts a cls d D σ H) ∧ (b = false → wMix K Wout D r cls d σ H)
  | (c, some i, ts) :: r => fun cls d σ H => ∃ b, PySem.W.exmOne K cls c = some b ∧ (b = true → ∀ a, H a = none → ts a cls d { nx := fun σ' H' => D.nx (σ'.set i none) H', rt := D.rt, bk := fun σ' H' => D.bk (σ'.set i none) H', ct := fun σ' H' => D.ct (σ'.set i none) H' } (σ.set i (some (.ref a))) H) ∧ (b = false → wMix K Wout D r cls d σ H)
inductive HdMix (X : Cx) : List ExceptHandler → List (Value × Option Nat × (Addr → Value → Option Addr → TS)) → Prop
  | nil : HdMix X [] []
  | cons {x : Str} {c : Value} {ts : Addr → Value → Option Addr → TS} {b₀ : Stmt} {suite : List Stmt} {np pos' : Pos} {hdz : List ExceptHandler} {lz : List (Value × Option Nat × (Addr → Value → Option Addr → TS))} (qc : Names X x c)
      (qsu : ∀ (a : Addr) (oe : Obj) (cls : Value) (d : Option Addr) (pn : List (Addr × Obj)), Zc cls d oe → (∃ vs, oe.data = .fields vs) → PSs (X.suite a ((a, oe) :: pn)) (b₀ :: suite) (ts a cls d)) (r : HdMix X hdz lz) :
      HdMix X (.ExceptHandler (some (.Name x np)) none (b₀ :: suite) pos' :: hdz) ((c, none, ts) :: lz)
  | named {x n : Str} {c : Value} {i : Nat} {ts : Addr → Value → Option Addr → TS} {b₀ : Stmt} {suite : List Stmt} {np pos' : Pos} {hdz : List ExceptHandler} {lz : List (Value × Option Nat × (Addr → Value → Option Addr → TS))}
      (qN : X.N.Nodup) (qi : X.N[i]? = some n) (ql : X.env.kindOf n = some .local) (qc : Names X x c)
      (qsu : ∀ (a : Addr) (oe : Obj) (cls : Value) (d : Option Addr) (pn : List (Addr × Obj)), Zc cls d oe → (∃ vs, oe.data = .fields vs) → PSs (X.suite a ((a, oe) :: pn)) (b₀ :: suite) (ts a cls d)) (r : HdMix X hdz lz) :
      HdMix X (.ExceptHandler (some (.Name x np)) (some n) (b₀ :: suite) pos' :: hdz) ((c, some i, ts) :: lz)
section
variable {X : Cx} {body : List Stmt} {h₀ : ExceptHandler} {hds : List ExceptHandler} {l : List (Value × Option Nat × (Addr → Value → Option Addr → TS))} {pos : Pos} {tb : WX → TS} {Wout : WX}
theorem ps_try_mix (qs : X.stack = X.env :: X.outer) (qf : X.env.frame = some X.env.locals) (tq : Takes X Wout)
    (qb : ∀ (W : WX) (pn : List (Addr × Obj)) (xe : Value → Shared → Prop), Takes (X.tr pn xe) W → PassesOwn (model X.prog X.w) X.A X.env xe → PSs (X.tr pn xe) body (tb W))
    (qh : HdMix X (h₀ :: hds) l) : PS X (.Try body (h₀ :: hds) [] [] pos) (fun D σ H => tb (wMix X.K Wout D l) D σ H) := by
  refine ⟨fun pins s σ H D I h => ?_⟩
  have okk := I.ok
  have frx : X.A.frames = some (X.env :: X.outer) := by rw [okk.frames, qs]
  refine wpAny_Try_except ?_
  refine wpAny_mono ((qb (wMix X.K Wout D l) (X.pn ++ pins) (fun e s₁ => wpAny (model X.prog X.w) X.A (noteFrame e X.env) (fun _ s₂ => wpAny (model X.prog X.w) X.A (setFlight e none) (fun _ s₃ =>
    wpAny (model X.prog X.w) X.A (handleBy e X.env (h₀ :: hds)) (SP X pins D) X.xe s₃) X.xe s₂) X.xe s₁) (fun u s' xx => ?_) PassesOwn.looking).run [] s σ H D (I.toTry _) h) (fun f s1 qsp => ?_) (fun e s1 he => he)
  · -- the catch
    obtain ⟨a, B, sa, pins', σ', H', cls, d, rfl, Ja', nx, ux, sk, ny, ox, gx, w⟩ := xx
    have Ja : Inv X pins σ' H' sa := Ja'.ofTry okk
    have sk' : Sky B (X.env :: X.outer) a (Zc cls d) X.env.locals s'.heap := by rw [← qs]; exact sk
    show wpAny (model X.prog X.w) X.A (noteFrame (.ref a) X.env) _ _ _
    refine Sky.land Zc.steady frx qf sk' fun hp3 fa ua => ?_
    have Jb : Inv X pins σ' H' { s' with heap := hp3 } := Ja.landed nx fa.1 (ux.trans ua) ox gx
    obtain ⟨oa, va, ea, za, da⟩ := fa.there
    have ntr : ∀ {h : Heap} {o : Obj} {vs : Array Value}, h.FunFrames B (X.env :: X.outer) → h.get? a = some o → o.data = .fields vs → a ∉ frs (X.env :: X.outer) := fun {h o vs} ff e dd qm => by
      obtain ⟨_, o', e', hnf⟩ := ff.mem qm
      rw [e] at e'; cases e'
      exact hnf _ dd
    have nr := ntr fa.2.2.1 ea da
    have nl : a ≠ X.env.locals := fun z => nr (List.mem_filterMap.mpr ⟨X.env, List.mem_cons_self, by rw [qf, z]⟩)
    have nfx : a ∉ X.fs := fun qm => by
      obtain ⟨e, he, q⟩ := List.mem_filterMap.mp qm
      exact nr (List.mem_filterMap.mpr ⟨e, List.mem_cons_of_mem _ he, q⟩)
    have Sb := Jb.suite ea da ny nl nfx
    have run : ∀ {hds' : List ExceptHandler} {l' : List (Value × Option Nat × (Addr → Value → Option Addr → TS))}, HdMix X hds' l' → wMix X.K Wout D l' cls d σ' H' →
        wpAny (model X.prog X.w) X.A (handleBy (.ref a) X.env hds') (SP X pins D) X.xe { s' with heap := hp3 } := by
      intro hds' l' kk
      induction kk with
      | nil =>
        intro w
        refine wpAny_handleBy_nil ?_
        obtain ⟨j1, j2, j3, oe, vs, T, oT, ts', he, hz, hd, h1, hr⟩ := id fa
        unfold PySem.passOn
        refine wpAny_bind (wpAny_field he hd h1 ?_)
        rw [if_neg (show ¬ ((Value.ref T == Value.none) = true) from by simp)]
        have fi : wpAny (model X.prog X.w) X.A (setFlight (.ref a) X.env.frame) (fun _ s4 => wpAny (model X.prog X.w) X.A (throw (.ref a) : Sem Flow) (SP X pins D) X.xe s4) X.xe { s' with heap := hp3 } := by
          rw [qf]
          refine HandSPX.setFlight_upZ fa fun hp4 hh4 ub => wpAny_throw (tq _ _ ?_)
          exact ⟨a, B, sa, pins, σ', H', cls, d, rfl, Ja, nx, (ux.trans ua).trans ub, .inr (.inr (by rw [qs]; exact hh4)), ny, ox, gx, w⟩
        first
          | exact wpAny_bind (wpAny_pure (wpAny_bind fi))
          | exact wpAny_bind fi
      | @cons x c ts b₀ suite np pos' hdz lz qc qsu r ihh =>
        intro w
        obtain ⟨b, qb1, qy, qn⟩ := w
        refine wpAny_handleBy_cons (codeAny_handlers_test ?_) (by intro q; cases q)
        have Lt : PySem.W.Looks (model X.prog X.w) hp3 (typeOf (.ref a)) cls := fun A Q E s k q => wpAny_typeOf_ref (k _ _ ea) (by rw [za.1]; exact q)
        have Lm := PySem.W.exm_one (M := model X.prog X.w) (Jb.kIn) Lt qb1
        have tst : ∀ {Q : Value → Shared → Prop} {E : Value → Shared → Prop}, Q c { s' with heap := hp3 } → wpAny (model X.prog X.w) (X.A.mark (some (.ref a))) (eval (.Name x np) X.env) Q E { s' with heap := hp3 } := fun {Q E} q => by
          obtain ⟨qg, qdb, qm | ⟨qm, qv, qnn⟩⟩ := qc
          · exact ld_glob (X := X.suite a ((a, oa) :: (X.pn ++ pins))) Sb qg qm q qdb
          · exact ld_blt (X := X.suite a ((a, oa) :: (X.pn ++ pins))) Sb qg qm qv q qnn qdb
        refine tst (Lm.here ?_)
        cases b with
        | true =>
          refine codeAny_handlers_suite ?_
          refine HandSPX.lands_againZ fa fun hp4 fb ub => ?_
          have Jc : Inv X pins σ' H' { s' with heap := hp4 } := Ja.landed nx fb.1 ((ux.trans ua).trans ub) ox gx
          obtain ⟨ob, vb, eb, zb, db⟩ := fb.there
          have Sc := Jc.suite eb db ny nl nfx
          refine wpAny_mono ((qsu a ob cls d (X.pn ++ pins) zb ⟨_, db⟩).run [] _ _ H' _ Sc (qy rfl a ny)) (fun f sz qsp => ?_) (fun _ _ z => False.elim z)
          cases f with
          | next =>
            obtain ⟨σ6, Hz, Sz, qz⟩ := qsp
            exact ⟨_, _, Sz.unsuite okk, qz⟩
          | brk =>
            obtain ⟨σ6, Hz, Sz, qz⟩ := qsp
            exact ⟨_, _, Sz.unsuite okk, qz⟩
          | cont =>
            obtain ⟨σ6, Hz, Sz, qz⟩ := qsp
            exact ⟨_, _, Sz.unsuite okk, qz⟩
          | ret u =>
            obtain ⟨vz, σ6, Hz, Sz, rz, qz⟩ := qsp
            exact ⟨_, _, _, Sz.unsuite okk, rz, qz⟩
        | false =>
          show wpAny _ X.A (handleBy (.ref a) X.env hdz) _ _ _
          exact ihh (qn rfl)
      | @named x n c i ts b₀ suite np pos' hdz lz qN qi ql qc qsu r ihh =>
        intro w
        have qloc : Loc X.env.scope n := .inl ql
        obtain ⟨b, qb1, qy, qn⟩ := w
        refine wpAny_handleBy_cons (codeAny_handlers_test ?_) (by intro q; cases q)
        have Lt : PySem.W.Looks (model X.prog X.w) hp3 (typeOf (.ref a)) cls := fun A Q E s k q => wpAny_typeOf_ref (k _ _ ea) (by rw [za.1]; exact q)
        have Lm := PySem.W.exm_one (M := model X.prog X.w) (Jb.kIn) Lt qb1
        have tst : ∀ {Q : Value → Shared → Prop} {E : Value → Shared → Prop}, Q c { s' with heap := hp3 } → wpAny (model X.prog X.w) (X.A.mark (some (.ref a))) (eval (.Name x np) X.env) Q E { s' with heap := hp3 } := fun {Q E} q => by
          obtain ⟨qg, qdb, qm | ⟨qm, qv, qnn⟩⟩ := qc
          · exact ld_glob (X := X.suite a ((a, oa) :: (X.pn ++ pins))) Sb qg qm q qdb
          · exact ld_blt (X := X.suite a ((a, oa) :: (X.pn ++ pins))) Sb qg qm qv q qnn qdb
        refine tst (Lm.here ?_)
        cases b with
        | true =>
          refine codeAny_handlers_suite_as ?_
          refine HandSPX.lands_againZ fa fun hp4 fb ub => ?_
          have Jc : Inv X pins σ' H' { s' with heap := hp4 } := Ja.landed nx fb.1 ((ux.trans ua).trans ub) ox gx
          obtain ⟨ob, vb, eb, zb, db⟩ := fb.there
          have Sc := Jc.suite eb db ny nl nfx
          refine store_ok (X := X.suite a ((a, ob) :: (X.pn ++ pins))) (v := .ref a) Sc qN qi qloc rfl (fun sy Sy => ?_) (.inr ql)
          refine wpAny_mono ((qsu a ob cls d (X.pn ++ pins) zb ⟨_, db⟩).run [] sy _ H' _ Sy (qy rfl a ny)) (fun f sz qsp => ?_) (fun _ _ z => False.elim z)
          have ende : ∀ {σ6 : L2.St} {Hz : Hp} {Q : Shared → Prop}, Inv (X.suite a ((a, ob) :: (X.pn ++ pins))) [] σ6 Hz sz → (∀ sw, Inv X pins (σ6.set i none) Hz sw → Q sw) →
              wpAny (model X.prog X.w) X.A (do bindName X.env n .none; unbindBehindTheSuite X.env n pos') (fun _ sw => Q sw) X.xe sz := fun {σ6 Hz Q} Sz hq => gone_ok (Sz.unsuite okk) qN qi ql hq
          cases f with
          | next =>
            obtain ⟨σ6, Hz, Sz, qz⟩ := qsp
            exact ende Sz fun sw Jw => ⟨_, _, Jw, qz⟩
          | brk =>
            obtain ⟨σ6, Hz, Sz, qz⟩ := qsp
            exact ende Sz fun sw Jw => ⟨_, _, Jw, qz⟩
          | cont =>
            obtain ⟨σ6, Hz, Sz, qz⟩ := qsp
            exact ende Sz fun sw Jw => ⟨_, _, Jw, qz⟩
          | ret u =>
            obtain ⟨vz, σ6, Hz, Sz, rz, qz⟩ := qsp
            exact ende Sz fun sw Jw => ⟨_, _, _, Jw, rz, qz⟩
        | false =>
          show wpAny _ X.A (handleBy (.ref a) X.env hdz) _ _ _
          exact ihh (qn rfl)
    exact run qh w
  · cases f with
    | next =>
      obtain ⟨σ', H', Ja', q⟩ := qsp
      exact wpAny_execs_nil ⟨σ', H', Ja'.ofTry okk, q⟩
    | brk =>
      obtain ⟨σ', H', Ja', q⟩ := qsp
      exact ⟨σ', H', Ja'.ofTry okk, q⟩
    | cont =>
      obtain ⟨σ', H', Ja', q⟩ := qsp
      exact ⟨σ', H', Ja'.ofTry okk, q⟩
    | ret u =>
      obtain ⟨v, σ', H', Ja', r, q⟩ := qsp
      exact ⟨v, σ', H', Ja'.ofTry okk, r, q⟩
end
end DI

end
section
set_option Elab.async false
set_option linter.all false
set_option maxRecDepth 100000
set_option maxHeartbeats 4000000
/-! EX9: two clauses behind a try, each with a name or without. Own text. -/
namespace DI
open PySem PySem.Spec PyProof.Rows L2
section
variable {w : Wd} {Φ : Fns} {Ex : Nat → D → C → Prop} {c c' : C} {D : Ends} {su : List Sm} {ts : List Nat} {k i : Nat} {d : DI.D} {s' : S} {a dx : Addr} {u : V}
theorem suite_some (hx : w.xn = none) (hs' : c'.s = s') (r' : R w c') (x' : LStep c c') (hdx : c'.H dx = none) (rep : RepD w c'.dl c'.F d u) (hk : ts.contains k = true)
    (h' : AftP w Ex c (suiteM (some i) k d (evSs w.T Φ su) s') (FlQ w c D)) :
    tSu w Φ ts su a (.ref (w.xc k)) (some dx) { nx := fun σ' H' => D.nx (σ'.set i none) H', rt := D.rt, bk := fun σ' H' => D.bk (σ'.set i none) H', ct := fun σ' H' => D.ct (σ'.set i none) H' } (c'.σ.set i (some (.ref a))) (upd c'.H dx (.xd [(w.xf, u)])) := by
  refine ⟨k, dx, hk, rfl, rfl, ?_⟩
  unfold suiteM at h'
  dsimp only at h'
  have hr : s'.r = c'.ρ := by rw [← hs']; rfl
  have hg : s'.g = c'.g := by rw [← hs']; rfl
  rw [hr] at h'
  cases ei : c'.ρ[i]? with
  | none => rw [ei] at h'; exact h'.elim
  | some o =>
    rw [ei] at h'
    cases o with
    | some dv => exact h'.elim
    | none =>
      obtain ⟨r1, x1⟩ := R.hot (a := a) (k := k) r' hx hdx rep ei
      have ec : ∀ dv, c.ρ[i]? ≠ some (some dv) := fun dv q => by
        obtain ⟨dv', z⟩ := x'.pres i dv q
        rw [ei] at z
        cases z
      refine ⟨c'.hot i a dx (.xd [(w.xf, u)]) k d, rfl, rfl, r1, ?_⟩
      rw [hg] at h'
      have h2 : AftP w Ex c (match noExc (evSs w.T Φ su) (c'.hot i a dx (.xd [(w.xf, u)]) k d).s with
        | .ok fl s' => if (s'.r.set i none).all noXO && noXF fl then .ok fl { s' with r := s'.r.set i none } else .stuck
        | _ => .stuck) (FlQ w c D) := h'
      unfold noExc at h2
      cases es : evSs w.T Φ su (c'.hot i a dx (.xd [(w.xf, u)]) k d).s with
      | stuck => rw [es] at h2; exact h2.elim
      | exc k2 d2 s2 => rw [es] at h2; exact h2.elim
      | ok fl s2 =>
        rw [es] at h2
        dsimp only at h2
        intro c2 hs2 r2 x2
        subst hs2
        by_cases hn : ((c2.s.r.set i none).all noXO && noXF fl) = true
        · rw [if_pos hn] at h2
          rw [Bool.and_eq_true] at hn
          obtain ⟨r3, x3⟩ := R.cool r2 ((x'.trans x1).trans x2) ec hn.1
          have q := h2 (c2.cool i) rfl r3 x3
          cases fl with
          | nx => exact q
          | bk => exact q
          | ct => exact q
          | rt dv =>
            intro v rel fr
            exact q v (Rel.dn hn.2 rel) (fr.base r1 (x'.trans x1))
        · rw [if_neg hn] at h2
          exact h2.elim
/-- a suite without a name: the error is not looked at -/
def tSn (w : Wd) (Φ : Fns) (ts : List Nat) (su : List Sm) (_ : Addr) (cls : Value) (dd : Option Addr) : TS := fun D σ H => ∃ (k : Nat) (dx : Addr), ts.contains k = true ∧ cls = .ref (w.xc k) ∧ dd = some dx ∧ tSs w noEx Φ su D σ H
theorem suite_none (hs' : c'.s = s') (r' : R w c') (x' : LStep c c') (hdx : c'.H dx = none) (hk : ts.contains k = true) (h' : AftP w Ex c (suiteM none k d (evSs w.T Φ su) s') (FlQ w c D)) :
    tSn w Φ ts su a (.ref (w.xc k)) (some dx) D c'.σ (upd c'.H dx (.xd [(w.xf, u)])) := by
  obtain ⟨r1, x1⟩ := r'.layF hdx (.xd [(w.xf, u)])
  refine ⟨k, dx, hk, rfl, rfl, ⟨c'.dl, upd c'.F dx (.xd [(w.xf, u)]), upd c'.H dx (.xd [(w.xf, u)]), c'.σ, c'.ρ, c'.g⟩, rfl, rfl, r1, ?_⟩
  have h2 : AftP w Ex c (noExc (evSs w.T Φ su) s') (FlQ w c D) := h'
  subst hs'
  unfold noExc at h2
  cases es : evSs w.T Φ su c'.s with
  | stuck => rw [es] at h2; exact h2.elim
  | exc k2 d2 s2 => rw [es] at h2; exact h2.elim
  | ok fl s2 =>
    rw [es] at h2
    have e2 : evSs w.T Φ su (C.s ⟨c'.dl, upd c'.F dx (.xd [(w.xf, u)]), upd c'.H dx (.xd [(w.xf, u)]), c'.σ, c'.ρ, c'.g⟩) = .ok fl s2 := es
    rw [e2]
    intro c2 hs2 r2 x2
    have q := h2 c2 hs2 r2 ((x'.trans x1.l).trans x2)
    exact q.base r1 (x'.trans x1.l)
end
end DI

end
section
set_option Elab.async false
set_option linter.all false
set_option maxRecDepth 100000
set_option maxHeartbeats 4000000
/-! EX10: the statements try with one clause without a name, with two clauses. Own text. -/
namespace DI
open PySem PySem.Spec PyProof.Rows L2
def tCl (w : Wd) (Φ : Fns) (ts : List Nat) (su : List Sm) : Option Nat → Addr → Value → Option Addr → TS
  | none => tSn w Φ ts su
  | some _ => tSu w Φ ts su
section
variable {w : Wd} {Φ : Fns} {X : Cx} {Wout : WX} {D : Ends} {c c' : C} {k : Nat} {d : DI.D} {s' : S} {dx : Addr} {u : V} {cv : Value} {o : Option Nat} {ts fs : List Nat} {su : List Sm} {T : Tab}
theorem evSs_one (st : Sm) : evSs T Φ [st] = evS T Φ st := by
  funext s
  show bnd (evS T Φ st) (fun fl => match fl with
    | .nx => evSs T Φ []
    | fl => ret fl) s = evS T Φ st s
  unfold bnd
  cases evS T Φ st s with
  | stuck => rfl
  | exc k d s1 => rfl
  | ok fl s1 => cases fl <;> rfl
theorem noExc_ne {α : Type} {m : M α} {s : S} {k2 : Nat} {d2 : DI.D} {s2 : S} : noExc m s ≠ .exc k2 d2 s2 := fun z => by
  unfold noExc at z
  cases e : m s <;> rw [e] at z <;> cases z
theorem suiteM_ne {m : M Fl} {s : S} {k2 : Nat} {d2 : DI.D} {s2 : S} : suiteM o k d m s ≠ .exc k2 d2 s2 := fun z => by
  unfold suiteM at z
  cases o with
  | none => exact noExc_ne z
  | some j =>
    dsimp only at z
    split at z
    · split at z
      · split at z <;> cases z
      · cases z
    · cases z
theorem tryM_ne {m su : M Fl} {s : S} (h : ∀ k2 d2 s2, m s ≠ .exc k2 d2 s2) : tryM m o ts fs su s = m s := by
  unfold tryM
  cases e : m s with
  | ok fl s1 => rfl
  | stuck => rfl
  | exc k d s1 => exact absurd e (h k d s1)
/-- a clause that takes the error, then one that lets it pass -/
theorem mix_yes {r : List (Value × Option Nat × (Addr → Value → Option Addr → TS))} (hx : w.xn = none) (hs' : c'.s = s') (r' : R w c') (x' : LStep c c') (hdx : c'.H dx = none) (rep : RepD w c'.dl c'.F d u) (hk : ts.contains k = true) (hm : PySem.W.exmOne X.K (.ref (w.xc k)) cv = some true)
    {Ex : Nat → DI.D → C → Prop} (h' : AftP w Ex c (suiteM o k d (evSs w.T Φ su) s') (FlQ w c D)) : wMix X.K Wout D ((cv, o, tCl w Φ ts su o) :: r) (.ref (w.xc k)) (some dx) c'.σ (upd c'.H dx (.xd [(w.xf, u)])) := by
  cases o with
  | none => exact ⟨true, hm, ⟨fun _ a _ => suite_none (a := a) hs' r' x' hdx hk h', fun z => Bool.noConfusion z⟩⟩
  | some i => exact ⟨true, hm, ⟨fun _ a _ => suite_some hx hs' r' x' hdx rep hk h', fun z => Bool.noConfusion z⟩⟩
theorem mix_no {r : List (Value × Option Nat × (Addr → Value → Option Addr → TS))} {H : Hp} {σ : L2.St} {dd : Option Addr} (hm : PySem.W.exmOne X.K (.ref (w.xc k)) cv = some false) (h : wMix X.K Wout D r (.ref (w.xc k)) dd σ H) : wMix X.K Wout D ((cv, o, tCl w Φ ts su o) :: r) (.ref (w.xc k)) dd σ H := by
  cases o with
  | none => exact ⟨false, hm, ⟨fun z => Bool.noConfusion z, fun _ => h⟩⟩
  | some i => exact ⟨false, hm, ⟨fun z => Bool.noConfusion z, fun _ => h⟩⟩
end
section
variable {w : Wd} {Φ : Fns} {X : Cx} {Wout : WX} {body : List Stmt} {h1 h2 : ExceptHandler} {pos : Pos} {b su1 su2 : List Sm} {o1 o2 : Option Nat} {ts1 fs1 ts2 fs2 : List Nat} {cv1 cv2 : Value}
theorem s_try1 (hx : w.xn = none) (hs : X.stack = X.env :: X.outer) (hf : X.env.frame = some X.env.locals) (tk : Takes X Wout)
    (hts : ∀ k, ts1.contains k = true → PySem.W.exmOne X.K (.ref (w.xc k)) cv1 = some true) (hfs : ∀ k, fs1.contains k = true → PySem.W.exmOne X.K (.ref (w.xc k)) cv1 = some false)
    (hb : ∀ (W : WX) (pn : List (Addr × Obj)) (xe : Value → Shared → Prop), Takes (X.tr pn xe) W → PassesOwn (model X.prog X.w) X.A X.env xe → PSs (X.tr pn xe) body (tSs w (ExW w W) Φ b))
    (hh : HdMix X [h1] [(cv1, o1, tCl w Φ ts1 su1 o1)]) : PS X (.Try body [h1] [] [] pos) (tS w (ExW w Wout) Φ (.tryx b o1 ts1 fs1 su1)) :=
  (ps_try_mix (tb := fun W => tSs w (ExW w W) Φ b) hs hf tk hb hh).imp fun D σ H h => by
    obtain ⟨c, rfl, rfl, r, h⟩ := h
    refine ⟨c, rfl, rfl, r, ?_⟩
    have h' : AftP w (ExW w Wout) c (tryM (evSs w.T Φ b) o1 ts1 fs1 (evSs w.T Φ su1) c.s) (FlQ w c D) := h
    cases e : evSs w.T Φ b c.s with
    | stuck => rw [tryM_ne (fun _ _ _ z => by rw [e] at z; cases z), e] at h'; exact h'.elim
    | ok fl s' => rw [tryM_ne (fun _ _ _ z => by rw [e] at z; cases z), e] at h'; exact h'
    | exc k d s' =>
      rw [tryM_exc e] at h'
      intro c' hs' r' x' dx u hdx rep
      by_cases hk : ts1.contains k = true
      · rw [if_pos hk] at h'
        exact mix_yes hx hs' r' x' hdx rep hk (hts k hk) h'
      · rw [if_neg hk] at h'
        by_cases hk2 : fs1.contains k = true
        · rw [if_pos hk2] at h'
          exact mix_no (hfs k hk2) (h' c' hs' r' x' dx u hdx rep)
        · rw [if_neg hk2] at h'
          exact h'.elim
theorem s_try2 (hx : w.xn = none) (hs : X.stack = X.env :: X.outer) (hf : X.env.frame = some X.env.locals) (tk : Takes X Wout)
    (hts1 : ∀ k, ts1.contains k = true → PySem.W.exmOne X.K (.ref (w.xc k)) cv1 = some true) (hfs1 : ∀ k, fs1.contains k = true → PySem.W.exmOne X.K (.ref (w.xc k)) cv1 = some false)
    (hts2 : ∀ k, ts2.contains k = true → PySem.W.exmOne X.K (.ref (w.xc k)) cv2 = some true) (hfs2 : ∀ k, fs2.contains k = true → PySem.W.exmOne X.K (.ref (w.xc k)) cv2 = some false)
    (hb : ∀ (W : WX) (pn : List (Addr × Obj)) (xe : Value → Shared → Prop), Takes (X.tr pn xe) W → PassesOwn (model X.prog X.w) X.A X.env xe → PSs (X.tr pn xe) body (tSs w (ExW w W) Φ b))
    (hh : HdMix X [h1, h2] [(cv1, o1, tCl w Φ ts1 su1 o1), (cv2, o2, tCl w Φ ts2 su2 o2)]) : PS X (.Try body [h1, h2] [] [] pos) (tS w (ExW w Wout) Φ (.tryx [.tryx b o1 ts1 fs1 su1] o2 ts2 fs2 su2)) :=
  (ps_try_mix (tb := fun W => tSs w (ExW w W) Φ b) hs hf tk hb hh).imp fun D σ H h => by
    obtain ⟨c, rfl, rfl, r, h⟩ := h
    refine ⟨c, rfl, rfl, r, ?_⟩
    have h0 : AftP w (ExW w Wout) c (tryM (evSs w.T Φ [.tryx b o1 ts1 fs1 su1]) o2 ts2 fs2 (evSs w.T Φ su2) c.s) (FlQ w c D) := h
    rw [evSs_one] at h0
    have h' : AftP w (ExW w Wout) c (tryM (tryM (evSs w.T Φ b) o1 ts1 fs1 (evSs w.T Φ su1)) o2 ts2 fs2 (evSs w.T Φ su2) c.s) (FlQ w c D) := h0
    cases e : evSs w.T Φ b c.s with
    | stuck =>
      have e1 : tryM (evSs w.T Φ b) o1 ts1 fs1 (evSs w.T Φ su1) c.s = .stuck := by rw [tryM_ne (fun _ _ _ z => by rw [e] at z; cases z), e]
      rw [tryM_ne (fun _ _ _ z => by rw [e1] at z; cases z), e1] at h'
      exact h'.elim
    | ok fl s' =>
      have e1 : tryM (evSs w.T Φ b) o1 ts1 fs1 (evSs w.T Φ su1) c.s = .ok fl s' := by rw [tryM_ne (fun _ _ _ z => by rw [e] at z; cases z), e]
      rw [tryM_ne (fun _ _ _ z => by rw [e1] at z; cases z), e1] at h'
      exact h'
    | exc k d s' =>
      intro c' hs' r' x' dx u hdx rep
      have e1 := tryM_exc (ts := ts1) (fs := fs1) (o := o1) (su := evSs w.T Φ su1) e
      by_cases hk : ts1.contains k = true
      · rw [if_pos hk] at e1
        rw [tryM_ne (fun _ _ _ z => by rw [e1] at z; exact suiteM_ne z), e1] at h'
        exact mix_yes hx hs' r' x' hdx rep hk (hts1 k hk) h'
      · rw [if_neg hk] at e1
        by_cases hk2 : fs1.contains k = true
        · rw [if_pos hk2] at e1
          rw [tryM_exc e1] at h'
          refine mix_no (hfs1 k hk2) ?_
          by_cases hk3 : ts2.contains k = true
          · rw [if_pos hk3] at h'
            exact mix_yes hx hs' r' x' hdx rep hk3 (hts2 k hk3) h'
          · rw [if_neg hk3] at h'
            by_cases hk4 : fs2.contains k = true
            · rw [if_pos hk4] at h'
              exact mix_no (hfs2 k hk4) (h' c' hs' r' x' dx u hdx rep)
            · rw [if_neg hk4] at h'
              exact h'.elim
        · rw [if_neg hk2] at e1
          rw [tryM_ne (fun _ _ _ z => by rw [e1] at z; cases z), e1] at h'
          exact h'.elim
end
end DI

end
section
set_option Elab.async false
set_option linter.all false
set_option maxRecDepth 100000
set_option maxHeartbeats 4000000
/-! EX11: wrappers for try, its clauses, and the error at hand. Own text. -/
namespace DI
open PySem PySem.Spec PyProof.Rows L2
/-- what the written part says of the errors' classes in ks -/
structure ErrF (K : PySem.W.Frag) (w : Wd) (ks : List Nat) : Prop where
  xf : ∀ k, ks.contains k = true → XfC K (w.xc k)
  no : ∀ k, ks.contains k = true → PySem.W.findIn K (.ref (w.xc k)) w.xf = some none
  ex : ∀ k, ks.contains k = true → ExcC K (w.xc k)
/-- a class, as a clause and isinstance see it: the errors in ts are of it, those in fs are not -/
structure ErrC (K : PySem.W.Frag) (w : Wd) (cv : Value) (ts fs : List Nat) : Prop where
  ets : ∀ k, ts.contains k = true → PySem.W.exmOne K (.ref (w.xc k)) cv = some true
  efs : ∀ k, fs.contains k = true → PySem.W.exmOne K (.ref (w.xc k)) cv = some false
  kts : ∀ k, ts.contains k = true → PySem.W.kitOne K (.ref (w.xc k)) cv = some true
  kfs : ∀ k, fs.contains k = true → PySem.W.kitOne K (.ref (w.xc k)) cv = some false
section
variable {w : Wd} {Φ : Fns} {Ex : Nat → D → C → Prop} {X : Cx} {Wout : WX} {body suite : List Stmt} {b₀ : Stmt} {h1 h2 : ExceptHandler} {x n f m : Str} {np pos pos' p p2 : Pos} {b su su1 su2 : List Sm} {o1 o2 : Option Nat} {ts fs ts1 fs1 ts2 fs2 : List Nat} {cv cv1 cv2 : Value} {i k : Nat} {nx : List Nat} {a dx : Addr} {oe : Obj}
  {pn : List (Addr × Obj)} {hdz : List ExceptHandler} {lz : List (Value × Option Nat × (Addr → Value → Option Addr → TS))} {e : Expr} {ae : E}
theorem hd_named (g : Gx w X) (i : Nat) (qc : Names X x cv) (r : HdMix X hdz lz)
    (hsu : ∀ (a : Addr) (oe : Obj) (k : Nat) (dx : Addr) (pn : List (Addr × Obj)), ts.contains k = true → Zc (.ref (w.xc k)) (some dx) oe → (∃ vs, oe.data = .fields vs) → PSs (X.suite a ((a, oe) :: pn)) (b₀ :: suite) (tSs (w.at (k, a, dx)) noEx Φ su))
    (qi : X.N[i]? = some n := by rfl) (ql : X.env.kindOf n = some .local := by rfl) :
    HdMix X (.ExceptHandler (some (.Name x np)) (some n) (b₀ :: suite) pos' :: hdz) ((cv, some i, tCl w Φ ts su (some i)) :: lz) :=
  .named g.hN qi ql qc (fun a oe cls d pn hz hf => ⟨fun pins s σ H D I h => by
    obtain ⟨k, dx, hk, rfl, rfl, h⟩ := h
    exact (hsu a oe k dx pn hk hz hf).run pins s σ H D I h⟩) r
theorem hd_plain (qc : Names X x cv) (r : HdMix X hdz lz) (hsu : ∀ (a : Addr) (oe : Obj) (pn : List (Addr × Obj)), PSs (X.suite a ((a, oe) :: pn)) (b₀ :: suite) (tSs w noEx Φ su)) :
    HdMix X (.ExceptHandler (some (.Name x np)) none (b₀ :: suite) pos' :: hdz) ((cv, none, tCl w Φ ts su none) :: lz) :=
  .cons qc (fun a oe cls d pn hz hf => ⟨fun pins s σ H D I h => by
    obtain ⟨k, dx, hk, rfl, rfl, h⟩ := h
    exact (hsu a oe pn).run pins s σ H D I h⟩) r
theorem qx_try1 [NoExn w] (tk : Takes X Wout) (C1 : ErrC X.K w cv1 ts1 fs1) (hh : HdMix X [h1] [(cv1, o1, tCl w Φ ts1 su1 o1)])
    (hb : ∀ (W : WX) (pn : List (Addr × Obj)) (xe : Value → Shared → Prop), Takes (X.tr pn xe) W → PassesOwn (model X.prog X.w) X.A X.env xe → PSs (X.tr pn xe) body (tSs w (ExW w W) Φ b))
    (hs : X.stack = X.env :: X.outer := by rfl) (hf : X.env.frame = some X.env.locals := by rfl) : PS X (.Try body [h1] [] [] pos) (tS w (ExW w Wout) Φ (.tryx b o1 ts1 fs1 su1)) :=
  s_try1 NoExn.h hs hf tk C1.ets C1.efs hb hh
theorem qx_try2 [NoExn w] (tk : Takes X Wout) (C1 : ErrC X.K w cv1 ts1 fs1) (C2 : ErrC X.K w cv2 ts2 fs2) (hh : HdMix X [h1, h2] [(cv1, o1, tCl w Φ ts1 su1 o1), (cv2, o2, tCl w Φ ts2 su2 o2)])
    (hb : ∀ (W : WX) (pn : List (Addr × Obj)) (xe : Value → Shared → Prop), Takes (X.tr pn xe) W → PassesOwn (model X.prog X.w) X.A X.env xe → PSs (X.tr pn xe) body (tSs w (ExW w W) Φ b))
    (hs : X.stack = X.env :: X.outer := by rfl) (hf : X.env.frame = some X.env.locals := by rfl) : PS X (.Try body [h1, h2] [] [] pos) (tS w (ExW w Wout) Φ (.tryx [.tryx b o1 ts1 fs1 su1] o2 ts2 fs2 su2)) :=
  s_try2 NoExn.h hs hf tk C1.ets C1.efs C2.ets C2.efs hb hh
theorem lt_of_in (h : ts.all (fun k => nx.contains k) = true) (hk : ts.contains k = true) : nx.contains k = true := List.all_eq_true.mp h k (List.contains_iff_mem.mp hk)
theorem q_xat (F : ErrF X.K w nx) (hk : ts.contains k = true) (hz : Zc (.ref (w.xc k)) (some dx) oe) (hf : ∃ vs, oe.data = .fields vs) (he : PE (X.suite a ((a, oe) :: pn)) e (tE (w.at (k, a, dx)) Ex Φ ae))
    (hl : ts.all (fun k => nx.contains k) = true := by first | decide | rfl) (hn : f = w.xf := by rfl) (hb : attributeBase e f X.env (eval e X.env) = eval e X.env := by rfl) :
    PE (X.suite a ((a, oe) :: pn)) (.Attribute e f pos) (tE (w.at (k, a, dx)) Ex Φ (.xat ae)) :=
  j_xat hn (F.xf k (lt_of_in hl hk)) (by rw [hn]; exact F.no k (lt_of_in hl hk)) hz hf he hb
theorem q_isX (F : ErrF X.K w nx) (C : ErrC X.K w (.ref b1) ts1 fs1) (hm : X.mg m = some (.ref b1)) (f : Fr (X.suite a ((a, oe) :: pn)) "isinstance") (hk : ts.contains k = true) (hz : Zc (.ref (w.xc k)) (some dx) oe) (hf : ∃ vs, oe.data = .fields vs)
    (he : PE (X.suite a ((a, oe) :: pn)) e (tE (w.at (k, a, dx)) Ex Φ ae)) (hl : ts.all (fun k => nx.contains k) = true := by first | decide | rfl) (hg : Gl (X.suite a ((a, oe) :: pn)) "isinstance" := by rfl) (hg2 : Gl (X.suite a ((a, oe) :: pn)) m := by rfl) (hd : (m == ("__debug__" : Str)) = false := by decide)
    (hst : starEach [e, .Name m p2] X.env = (false, eval e X.env) :: starEach [.Name m p2] X.env := by rfl) (hst2 : starEach [.Name m p2] X.env = (false, eval (.Name m p2) X.env) :: starEach [] X.env := by rfl) (hpl : (backTo pos (starEach [.Name m p2] X.env)).any (·.1) = false := by rfl) :
    PE (X.suite a ((a, oe) :: pn)) (.Call (.Name "isinstance" p) [e, .Name m p2] [] pos) (tE (w.at (k, a, dx)) Ex Φ (.isX ae ts1 fs1)) :=
  j_isX (F.ex k (lt_of_in hl hk)) hz hf ⟨hg, f, rfl, by decide, by decide⟩ (pe_glob (v := .ref b1) hg2 hm rfl hd) (fun u hu => hu) (C.kts k) (C.kfs k) he hst hst2 hpl
end
end DI

end
section
set_option Elab.async false
set_option linter.all false
set_option maxRecDepth 100000
set_option maxHeartbeats 4000000
/-! LX1: a lambda handed to a def, its wish told by the state at the call. Own text over HandS.Lambda. -/
namespace DI
open PySem PySem.Spec PyProof.Rows L2
section
variable {X : Cx} {pins : List (Addr × Obj)} {σ : L2.St} {H : Hp} {s : Shared}
/-- the def's context that got the lambda -/
abbrev lamZ (X : Cx) (Ng : List Str) (qg : Str) (sg : Scope) (g : Addr) (cdg : Value) (s : Shared) (H : Hp) : Cx := cxOf CX0 X.prog X.w X.K X.mg X.base Ng qg sg g cdg X.A X.stack s H fun _ _ _ => False
theorem pe_actS {Ng : List Str} {qg : Str} {sg : Scope} {g f cc : Addr} {cdg pm ctv : Value} {params : Arguments} {body : Expr} {scope : Scope} {k : Nat} {a : Str} {pn : List (Addr × Obj)} {xe : Value → Shared → Prop} {W : WX} {t : XK → TE} {p1 p2 : Pos}
    (I : Inv X pins σ H s) (L : LamX.LamS X.env.scope scope) (hf : s.heap.get? f = some (PySem.W.kla_obj "<lambda>" (X.env.qual ++ "<lambda>") params body scope (cloFrom X.env.cells scope.names []) pm cc ctv)) (hfn : H f = none) (hfr : f ∉ frs X.stack)
    (hbind : bindArgs (PySem.W.kla_fn "<lambda>" (X.env.qual ++ "<lambda>") params body scope (cloFrom X.env.cells scope.names []) pm (.ref cc) ctv) ⟨[], []⟩ = pure []) (tk : Takes ((lamZ X Ng qg sg g cdg s H).tr pn xe) W)
    (hr : Room (k + 1) (X.A.deeper (envOfC qg sg s.heap.objs.size g cdg))) (hgd : X.A.guards = some [])
    (hbody : ∀ (A : Around) (out : List Env) (s : Shared) (H : Hp) (E : XK), Room k (A.deeper (LamX.lamEnv X scope s.heap.objs.size f cc)) → A.guards = some [] → PE (LamX.lamCx X A out s H E scope f cc) body (t E))
    (hN : Ng[(0 : Nat)]? = some a) (hv : Vis sg a) (hd : (a == ("__debug__" : Str)) = false) (hcd : (a == ("__classdict__" : Str)) = false) :
    PE ((lamZ X Ng qg sg g cdg s H).tr pn xe) (.Call (.Name a p1) [] [] p2) (fun σz Hz Q => σz[(0 : Nat)]? = some (some (.ref f)) ∧ Hz cc = some (LamX.CodeO cc (X.env.qual ++ "<lambda>")) ∧ t (WE W σz) σ Hz Q) := ⟨fun pz sz σz Hz Q Iz h => by
  have pv : PE ((lamZ X Ng qg sg g cdg s H).tr pn xe) (.Name a p1) (tVar 0) := pe_var (i := 0) hN hv hd hcd
  refine wpAny_Call_Name_kw (thn (pv.run pz sz σz Hz (fun v H1 => v = .ref f ∧ H1 = Hz) Iz ⟨.ref f, h.1, rfl, rfl⟩) fun u s1 z => ?_)
  obtain ⟨v, H1, I1, rv, rfl, rfl⟩ := z
  have eu : u = Value.ref f := rv
  subst eu
  have of1 := I1.base.keep f _ hf hfn hfr (fun z => by cases z)
  have un := I1.base
  refine PySem.W.callWith_F0 ⟨_, _, _, _, of1⟩ ?_
  obtain ⟨⟨oc, vs, tc, hoc, hdc, hvc⟩, _, _⟩ := I1.hok cc _ h.2.1
  have px := passAt tk σz
  refine wpAny_call (codeAny_mono (R := CR (L2.CX X.prog X.w) (envOfC qg sg s.heap.objs.size g cdg :: X.stack) X.prog X.w H1 s1 Q (WE W σz)) ?_ fun r s' hq => ?_)
  · refine PySem.W.kla_callFunE (body := body) hr.depth of1 rfl L.co L.gen rfl ⟨cc, oc, vs, tc, rfl, hoc, hdc, hvc⟩ ?_
    rw [show (([] : List Value) ++ []) = [] from rfl, hbind]
    refine wpAny_pure (wpAny_newFunctionEnv (fun y hy => (L.own y hy).2) (fun y hy => absurd hy (by simp)) (fun hh hns hsb => ⟨I1.nolimit.fresh _ hsb, ?_⟩) L.kind)
    have kp : ∀ b o, s1.heap.get? b = some o → hh.get? b = some o := fun b o e => hsb.extBut b o (fun z => Nat.lt_irrefl _ (by rw [z] at e; exact Heap.lt_size e)) (Heap.get?_push_of_some _ e)
    have J := LamX.lam_start2 (A := X.A.deeper (envOfC qg sg s.heap.objs.size g cdg)) (outer := envOfC qg sg s.heap.objs.size g cdg :: X.stack) (E := WE W σz) (f := f) (c' := cc) (tk := s1.toks + ([] : List (Str × Value)).length) I L I1.env0 hr.hd un hns kp
    exact PySem.W.kla_codeExpr (wpAny_mono ((hbody _ _ s1 H1 (WE W σz) (hr.deeper _) hgd).run [] _ _ H1 Q J h.2.2) (fun v s' ⟨w', H', J', rv', q⟩ => ⟨w', H', J'.os, J'.bare, J'.base, J'.hok, rv', q⟩) fun _ _ hq => hq)
  · match r, hq with
    | .error e, hq => exact px pz H1 s1 e s' I1 hq
    | .ok (.ret u), hq => exact I1.after hq⟩
end
/-- the def that calls what it got, at once, within a try: TT, what it makes of the lambda's reading -/
def GivesS (X : Cx) (Ng : List Str) (x : Str) (sg : Scope) (g : Addr) (cdg : Value) (bg : List Stmt) (a q : Str) (TT : (XK → Hp → VK → Prop) → Hp → VK → Prop) : Prop :=
  ∀ (f cc : Addr) (s : Shared) (H : Hp) (Q : VK) (tl : XK → Hp → VK → Prop), Room 1 (X.A.deeper (envOfC x sg s.heap.objs.size g cdg)) →
    (∀ (W : WX) (pn : List (Addr × Obj)) (xe : Value → Shared → Prop) (p1 p2 : Pos), Takes ((lamZ X Ng x sg g cdg s H).tr pn xe) W →
      PE ((lamZ X Ng x sg g cdg s H).tr pn xe) (.Call (.Name a p1) [] [] p2) (fun σz Hz Q => σz[(0 : Nat)]? = some (some (.ref f)) ∧ Hz cc = some (LamX.CodeO cc q) ∧ tl (WE W σz) Hz Q)) →
    H cc = some (LamX.CodeO cc q) → TT tl H Q →
    ∃ t, PSs (lamZ X Ng x sg g cdg s H) bg t ∧ t { nx := fun _ H' => Q .non H', rt := Q } (L2.start Ng [.ref f]) H
/-- behind a lambda's making -/
structure LamH (T : List (Addr × Str)) (H H1 : Hp) : Prop where
  ext : ∀ b o, H b = some o → isTb o = false → H1 b = some o
  tabs : LamX.Tabs T H1
  live : ∀ b, H1 b = none → H b = none
  old : ∀ b u, H1 b = some u → isTb u = true → ∃ u', H b = some u' ∧ isTb u' = true
theorem LamH.refl {T : List (Addr × Str)} {H : Hp} (h : LamX.Tabs T H) : LamH T H H := ⟨fun _ _ e _ => e, h, fun _ e => e, fun _ u e t => ⟨u, e, t⟩⟩
theorem LamH.new {T : List (Addr × Str)} {H : Hp} {P cc : Addr} {q : Str} {ps more : Array Value} (h : LamX.Tabs T H) (hP : H P = some (.tbl ps)) (hc : H cc = none) (hP2 : LamX.TabS (upd (upd H P (.tbl (ps ++ more))) cc (LamX.CodeO cc q)) P q) (hu : ∀ p ∈ T, p.1 = P → p.2 = q) :
    LamH T H (upd (upd H P (.tbl (ps ++ more))) cc (LamX.CodeO cc q)) := by
  have nP : P ≠ cc := ne_of_none hP hc
  have ext : ∀ b o, H b = some o → isTb o = false → upd (upd H P (.tbl (ps ++ more))) cc (LamX.CodeO cc q) b = some o := fun b o e n => by
    rw [upd_ne (ne_of_none e hc), upd_ne (fun z => by rw [z, hP] at e; cases e; cases n)]
    exact e
  refine ⟨ext, fun p hp => ?_, fun b e => ?_, fun b u e t => ?_⟩
  · by_cases hb : p.1 = P
    · rw [hu p hp hb, hb]
      exact hP2
    · obtain ⟨ps', a1, a2, a3⟩ := h p hp
      refine ⟨ps', (upd_ne (ne_of_none a1 hc)).trans ((upd_ne hb).trans a1), a2, fun y cv hcv => ?_⟩
      obtain ⟨c0, e1, e2⟩ := a3 y cv hcv
      exact ⟨c0, e1, ext _ _ e2 rfl⟩
  · by_cases hb : b = cc
    · rw [hb]; exact hc
    · rw [upd_ne hb] at e
      by_cases hb2 : b = P
      · rw [hb2, upd_same] at e
        cases e
      · rw [upd_ne hb2] at e
        exact e
  · by_cases hb : b = cc
    · rw [hb, upd_same] at e
      cases e
      cases t
    · rw [upd_ne hb] at e
      by_cases hb2 : b = P
      · exact ⟨_, by rw [hb2]; exact hP, rfl⟩
      · rw [upd_ne hb2] at e
        exact ⟨u, e, t⟩
section
variable {X : Cx} {pins : List (Addr × Obj)} {σ : L2.St} {H : Hp} {s : Shared}
/-- a lambda is made; what then stands in the heap is told -/
theorem lam_mkS {T : List (Addr × Str)} {c P : Addr} {params : Arguments} {body : Expr} {scope : Scope} {pos : Pos} {E Q : Value → Shared → Prop} (I : Inv X pins σ H s) (TB : LamX.TabB X.base X.mg c P) (hcode : X.env.code = .ref c)
    (hm : (P, X.env.qual ++ "<lambda>") ∈ T) (hu : ∀ p ∈ T, p.1 = P → p.2 = X.env.qual ++ "<lambda>") (hT : LamX.Tabs T H) (hdef : defaultsOf params X.env = ([], [])) (hfree : ∀ y ∈ scope.names, y.2 = .free → ∃ c, X.env.cells.lookup y.1 = some c)
    (h : ∀ (f cc : Addr) (pm ctv : Value) (H1 : Hp) (s' : Shared), Inv X pins σ H1 s' → LamH T H H1 → s'.heap.get? f = some (PySem.W.kla_obj "<lambda>" (X.env.qual ++ "<lambda>") params body scope (cloFrom X.env.cells scope.names []) pm cc ctv) →
      H1 f = none → f ∉ frs X.stack → H1 cc = some (LamX.CodeO cc (X.env.qual ++ "<lambda>")) → Q (.ref f) s') : wpAny (model X.prog X.w) X.A (eval (.Lambda params body scope pos) X.env) Q E s := by
  obtain ⟨ps, hP, ht, ha⟩ := hT _ hm
  have gP := I.hok P _ hP
  have cl := closure_ok hfree
  have nf : ∀ f, s.heap.objs.size ≤ f → f ∉ frs X.stack := fun f hf z => by
    have hs := I.stkSub _ z
    rcases List.mem_cons.mp hs with e | e
    · have lt := I.lt
      rw [← e] at lt
      exact absurd (Nat.lt_of_lt_of_le lt hf) (Nat.lt_irrefl _)
    · exact I.nofs hf e
  have nsG := I.mod.glob.keeps I.bk
  have cd := TB.code.keeps I.bk
  have bm := TB.bm.keeps I.bk
  refine PySem.W.kla_eval hdef ?_
  cases hc : codeAmong pos ps.toList with
  | some cv =>
    obtain ⟨cc, rfl, hco⟩ := ha pos cv hc
    refine PySem.W.kla_makeFunctionHit cl I.ok.glob nsG hcode cd gP ht hc bm fun ctv h2 tk hx hz => ?_
    refine h h2.objs.size cc _ ctv H _ (I.kept fun b o e => Heap.get?_push_of_some _ (hx b o e)) (LamH.refl hT) (Heap.get?_push_size _ rfl) (I.hok.fresh hz) (nf _ hz) hco
  | none =>
    refine PySem.W.kla_makeFunction cl I.ok.glob nsG hcode cd gP ht hc TB.gP bm fun cc ctv h2 tk hx hge hlt hrec htb => ?_
    obtain ⟨c2, oc, vs, t, e2, hoc, hd, hv⟩ := hrec
    cases e2
    have hz : s.heap.objs.size ≤ h2.objs.size := Nat.le_trans hge (Nat.le_of_lt hlt)
    have nC : H cc = none := I.hok.fresh hge
    have I1 := LamX.inv_table (t' := tk) (q := X.env.qual ++ "<lambda>") (more := #[rawInt pos.line, rawInt pos.col, .ref cc]) (h' := h2.push (PySem.W.kla_obj "<lambda>" (X.env.qual ++ "<lambda>") params body scope (cloFrom X.env.cells scope.names []) ((X.mg "__name__").getD .none) cc ctv)) I hP (fun b o hb e => Heap.get?_push_of_some _ (hx b o hb e)) (Heap.get?_push_of_some _ htb) hge ⟨oc, vs, t, Heap.get?_push_of_some _ hoc, hd, hv⟩
    have lp : P < s.heap.objs.size := Heap.lt_size gP
    refine h h2.objs.size cc _ ctv _ _ I1 (LamH.new hT hP nC ?_ hu) (Heap.get?_push_size _ rfl) ?_ (nf _ hz) upd_same
    · have eL : (ps ++ #[rawInt pos.line, rawInt pos.col, .ref cc]).toList = ps.toList ++ [rawInt pos.line, rawInt pos.col, .ref cc] := by simp
      refine ⟨_, (upd_ne (ne_of_none hP nC)).trans upd_same, by rw [eL]; exact PySem.TriplesOk_snoc _ _ _ _ ht, fun y cv hcv => ?_⟩
      rw [eL] at hcv
      rcases LamX.among_app _ ht hcv with z | z
      · obtain ⟨c0, e1, e2⟩ := ha y cv z
        exact ⟨c0, e1, by rw [upd_ne (ne_of_none e2 nC), upd_ne (fun z => by rw [z, hP] at e2; cases e2)]; exact e2⟩
      · exact ⟨cc, z, upd_same⟩
    · rw [upd_ne (show h2.objs.size ≠ cc from Nat.ne_of_gt hlt), upd_ne (show h2.objs.size ≠ P from Nat.ne_of_gt (Nat.lt_of_lt_of_le lp hz))]
      exact I.hok.fresh hz
end
def tLamS (T : List (Addr × Str)) (TT : (XK → Hp → VK → Prop) → Hp → VK → Prop) (t : XK → TE) : TE := fun σ H Q => LamX.Tabs T H ∧ ∀ H1, LamH T H H1 → TT (fun E Hy Qy => t E σ Hy Qy) H1 Q
section
variable {X : Cx}
/-- n(lambda: body) -/
theorem pe_lamS {T : List (Addr × Str)} {TT : (XK → Hp → VK → Prop) → Hp → VK → Prop} {x a : Str} {g c P : Addr} {k : Nat} {pg : Arguments} {bg : List Stmt} {sg : Scope} {fg : FuncData} {Ng : List Str} {params : Arguments} {body : Expr} {scope : Scope} {t : XK → TE} {p lpos pos : Pos}
    (hg : Gl X x) (hm : X.mg x = some (.ref g)) (F : FunD X.K x x pg bg sg [] [] g fg) (hb : Binds X.K fg [a] []) (Sg : FnScope Ng [a] sg) (hNg : Ng[(0 : Nat)]? = some a) (hva : Vis sg a) (hG : ∀ cdg, GivesS X Ng x sg g cdg bg a (X.env.qual ++ "<lambda>") TT)
    (TB : LamX.TabB X.base X.mg c P) (hcode : X.env.code = .ref c) (hmT : (P, X.env.qual ++ "<lambda>") ∈ T) (hu : ∀ p ∈ T, p.1 = P → p.2 = X.env.qual ++ "<lambda>") (hr : Room (k + 2) X.A) (hgd : X.A.guards = some []) (L : LamX.LamS X.env.scope scope) (hdef : defaultsOf params X.env = ([], []))
    (hbind : ∀ (q : Str) (cl : List (Str × Addr)) (pm cv ctv : Value), bindArgs (PySem.W.kla_fn "<lambda>" q params body scope cl pm cv ctv) ⟨[], []⟩ = pure [])
    (hbody : ∀ (A : Around) (out : List Env) (s : Shared) (H : Hp) (E : XK) (f cc : Addr), Room k (A.deeper (LamX.lamEnv X scope s.heap.objs.size f cc)) → A.guards = some [] → PE (LamX.lamCx X A out s H E scope f cc) body (t E))
    (hdb : (x == ("__debug__" : Str)) = false) (hd : (a == ("__debug__" : Str)) = false) (hcd : (a == ("__classdict__" : Str)) = false) : PE X (.Call (.Name x p) [.Lambda params body scope lpos] [] pos) (tLamS T TT t) := ⟨fun pins s σ H Q I h => by
  obtain ⟨hT, h⟩ := h
  refine wpAny_Call_Name_kw (ld_glob I hg hm ?_ hdb)
  refine PySem.W.callWith_K (h₀ := X.base) I.ok.mod.kin F.kp ?_ (by rfl) (by rfl)
  refine Calls.spliced_cons (lam_mkS I TB hcode hmT hu hT hdef (L.has I.ok) fun f cc pm' ctv H1 s' I1 eN hf hfn hfr hco => Calls.spliced_nil ⟨I1.kIn, ?_⟩)
  obtain ⟨oc, od, dV, kV, doc, pm, an, cdv, ct, osl, rfl, lk, hcg, _, _⟩ := F.ex
  refine wpAny_call (codeAny_mono (R := CR CX0 X.stack X.prog X.w H1 s' Q fun _ _ _ => False) (LamX.run_ofS (N := Ng) (ps := [a]) (us := [.ref f]) (vs := [.ref f]) lk hcg Sg (k := k + 1) hr I1.env0 (hb s' [.ref f] I1.kIn rfl) (.cons rfl .nil) rfl fun hr' => ?_) fun r s2 hq => ?_)
  · obtain ⟨t', ht', hq'⟩ := hG cdv f cc s' H1 Q (fun E H' Q' => t E σ H' Q') (hr'.mono (by omega)) (fun W pn xe p1 p2 tk => pe_actS I1 L hf hfn hfr (hbind _ _ _ _ _) tk hr' hgd (fun A out s H E hr2 hg2 => hbody A out s H E f cc hr2 hg2) hNg hva hd hcd) hco (h H1 eN)
    exact ⟨t', ht', hq'⟩
  · match r, hq with
    | .error e, hq => exact (show False from hq).elim
    | .ok (.ret u), hq => exact I1.after hq⟩
end
end DI

end
section
set_option Elab.async false
set_option linter.all false
set_option maxRecDepth 100000
set_option maxHeartbeats 4000000
/-! LX2: lambdas over data. Own text. -/
namespace DI
open PySem PySem.Spec PyProof.Rows L2
abbrev Cl := Option Nat × List Nat × List Nat × List Sm
def clL (w : Wd) (Φ : Fns) (zs : List (Value × Cl)) : List (Value × Option Nat × (Addr → Value → Option Addr → TS)) := zs.map fun z => (z.1, z.2.1, tCl w Φ z.2.2.1 z.2.2.2.2 z.2.1)
/-- what the lambda's error asks: the def's end by the data -/
def ExF (w : Wd) (φ : List D → G → Res DV) (Q : VK) : XK := fun cls dd H' => ∃ (k : Nat) (d : D) (dx : Addr) (u : V) (c : C), cls = .ref (w.xc k) ∧ dd = some dx ∧ R w c ∧ c.σ = [] ∧ c.ρ = [] ∧ c.H dx = none ∧ RepD w c.dl c.F d u ∧ H' = upd c.H dx (.xd [(w.xf, u)]) ∧ AftF w (fun _ _ _ _ => False) c (fun _ _ _ => False) (φ [.exn k d] c.g) Q
def TTf (w : Wd) (φ : List D → G → Res DV) : (XK → Hp → VK → Prop) → Hp → VK → Prop := fun tl H Q => ∀ E : XK, (∀ cls dd H', ExF w φ Q cls dd H' → E cls dd H') → tl E H (fun _ H' => Q .non H')
section
variable {w : Wd} {Φ : Fns} {K : PySem.W.Frag} {c : C} {d : D} {dx : Addr} {u : V} {k n : Nat}
theorem lam_go {X : Cx} {E : XK} (hx : w.xn = none) {W0 : WX} {σ0 : L2.St} {De : Ends} (hσ : c.σ = []) (hρ : c.ρ = []) (r : R w c) (hl : σ0.length = n) (hdx : c.H dx = none) (rep : RepD w c.dl c.F d u) :
    ∀ (zs : List (Value × Cl)), (∀ z ∈ zs, ErrC X.K w z.1 z.2.2.1 z.2.2.2.1) → AftF w (fun _ _ _ _ => False) c E (lamGo w.T Φ n k d c.g (zs.map (·.2))) De.rt →
      wMix X.K W0 De (clL w Φ zs) (.ref (w.xc k)) (some dx) σ0 (upd c.H dx (.xd [(w.xf, u)]))
  | [], _, h => h.elim
  | (cv, o, ts, fs, su) :: zs, hC, h => by
    have C0 := hC _ List.mem_cons_self
    have h1 : AftF w (fun _ _ _ _ => False) c E (if ts.contains k then (match suiteM o k d (evSs w.T Φ su) { r := List.replicate n none, g := c.g } with
      | .ok (.rt v) s => .ok v s
      | _ => .stuck) else if fs.contains k then lamGo w.T Φ n k d c.g (zs.map (·.2)) else .stuck) De.rt := h
    by_cases hk : ts.contains k = true
    · rw [if_pos hk] at h1
      have noOwn : ∀ {i : Nat} {a : Addr}, ¬ Own (⟨c.dl, c.F, c.H, σ0, List.replicate n none, c.g⟩ : C) i a := fun {i a} ⟨_, dv, h2, _⟩ => by
        have h3 : (List.replicate n (none : Option DV))[i]? = some (some dv) := h2
        rw [List.getElem?_replicate] at h3
        split at h3 <;> cases h3
      have r2 : R w (⟨c.dl, c.F, c.H, σ0, List.replicate n none, c.g⟩ : C) := by
        refine ⟨r.sub, by rw [List.length_replicate]; exact hl, fun i dv hi => ?_, fun i j a h => absurd h noOwn, fun i a p h => absurd h noOwn, r.deal⟩
        have h3 : (List.replicate n (none : Option DV))[i]? = some (some dv) := hi
        rw [List.getElem?_replicate] at h3
        split at h3 <;> cases h3
      have hT : ∀ a, Touch (⟨c.dl, c.F, c.H, σ0, List.replicate n none, c.g⟩ : C) a → Touch c a := fun a t => by
        rcases t with ⟨i, o⟩ | t
        · exact absurd o noOwn
        · exact .inr t
      refine mix_yes (X := X) (c := ⟨c.dl, c.F, c.H, σ0, List.replicate n none, c.g⟩) (c' := ⟨c.dl, c.F, c.H, σ0, List.replicate n none, c.g⟩) (Ex := fun _ _ _ => False) hx rfl r2 (LStep.refl _) hdx rep hk (C0.ets k hk) ?_
      show AftP w _ _ (suiteM o k d (evSs w.T Φ su) { r := List.replicate n none, g := c.g }) _
      cases e : suiteM o k d (evSs w.T Φ su) { r := List.replicate n none, g := c.g } with
      | stuck => rw [e] at h1; exact h1.elim
      | exc k2 d2 s2 => rw [e] at h1; exact h1.elim
      | ok fl s =>
        rw [e] at h1
        cases fl with
        | nx => exact h1.elim
        | bk => exact h1.elim
        | ct => exact h1.elim
        | rt dv =>
          intro c3 hs r3 x3 v rel fr
          refine h1 c3.bare (by rw [← hs]; rfl) r3.bare (step_out (c1 := ⟨c.dl, c.F, c.H, σ0, List.replicate n none, c.g⟩) rfl rfl rfl hσ hρ hT x3) v rel ?_
          cases dv with
          | o ds =>
            obtain ⟨a, e1, q⟩ := fr
            rcases q with q | ⟨i, q⟩
            · exact ⟨a, e1, q⟩
            · exact absurd q noOwn
          | _ => trivial
    · rw [if_neg hk] at h1
      by_cases hk2 : fs.contains k = true
      · rw [if_pos hk2] at h1
        exact mix_no (C0.efs k hk2) (lam_go hx hσ hρ r hl hdx rep zs (fun z hz => hC z (List.mem_cons_of_mem _ hz)) h1)
      · rw [if_neg hk2] at h1
        exact h1.elim
end
section
variable {w : Wd} {Φ : Fns} {X : Cx} {x a q : Str} {Ng : List Str} {sg : Scope} {g : Addr} {cdg : Value} {h0 : ExceptHandler} {hds : List ExceptHandler} {p1 p2 p3 p4 p5 p6 : Pos} {kk : Nat} {zs : List (Value × Cl)}
/-- try: work() / except .. / return None -/
theorem gives_try (hx : w.xn = none) (hC : ∀ z ∈ zs, ErrC X.K w z.1 z.2.2.1 z.2.2.2.1) (hN : 1 ≤ Ng.length)
    (hh : ∀ (s : Shared) (H : Hp), Room 1 (X.A.deeper (envOfC x sg s.heap.objs.size g cdg)) → HdMix (lamZ X Ng x sg g cdg s H) (h0 :: hds) (clL w Φ zs))
    (hsw : ∀ (s : Shared) (H : Hp), swapsWith (.Call (.Name a p1) [] [] p2) none p3.line (lamZ X Ng x sg g cdg s H).env = pure false) :
    GivesS X Ng x sg g cdg [.Try [.Expr (.Call (.Name a p1) [] [] p2) p3] (h0 :: hds) [] [] p4, .Return (some (.Constant .none kk p5)) p6] a q (TTf w (runFn w.T Φ (.lam Ng.length (zs.map (·.2))))) := fun f cc s H Q tl hr act hc h => by
  have wish : ∀ (De : Ends), De.rt = Q → ∀ cls dd H', ExF w (runFn w.T Φ (.lam Ng.length (zs.map (·.2)))) Q cls dd H' → wMix X.K (fun _ _ _ _ => False) De (clL w Φ zs) cls dd (L2.start Ng [.ref f]) H' := by
    rintro De eD cls dd H' ⟨k, d, dx, u, c, rfl, rfl, r, hσ, hρ, hdx, rep, rfl, h⟩
    refine lam_go (X := X) (De := De) (n := Ng.length) hx hσ hρ r (start_len (vs := [V.ref f]) hN) hdx rep zs hC (E := fun _ _ _ => False) ?_
    rw [eD]
    exact h
  refine ⟨_, pss_cons (ps_try_mix (X := lamZ X Ng x sg g cdg s H) (Wout := fun _ _ _ _ => False) (tb := fun W D σz Hz => σz[(0 : Nat)]? = some (some (.ref f)) ∧ Hz cc = some (LamX.CodeO cc q) ∧ tl (WE W σz) Hz (fun _ H' => D.nx σz H')) rfl rfl LamX.takes0 (fun W pn xe tk _ => ?_) (hh s H hr)) (pss_one (ps_ret pe_non)), ?_⟩
  · exact pss_one ((ps_expr (pos := p3) (act W pn xe p1 p2 tk) (hsw s H)).imp fun D σz Hz h' => h')
  · exact ⟨start_at rfl, hc, h _ (wish _ rfl)⟩
end
theorem lamGo_ne {T : Tab} {Φ : Fns} {n k k2 : Nat} {d d2 : D} {g : G} {s : S} : ∀ {hs : List Cl}, lamGo T Φ n k d g hs ≠ .exc k2 d2 s
  | [], h => by cases h
  | (o, ts, fs, su) :: r, h => by
    have h1 : (if ts.contains k then (match suiteM o k d (evSs T Φ su) { r := List.replicate n none, g := g } with
      | .ok (.rt v) s => .ok v s
      | _ => .stuck) else if fs.contains k then lamGo T Φ n k d g r else .stuck) = Res.exc k2 d2 s := h
    split at h1
    · split at h1 <;> cases h1
    · split at h1
      · exact lamGo_ne h1
      · cases h1
section
variable (P : Program) (W : World) (K : PySem.W.Frag) (mg : Str → Option Value) (base : Heap) (w : Wd)
/-- a def that takes a lambda, by its name -/
def TL (x a : Str) (pg : Arguments) (φ : List D → G → Res DV) : Prop := ∃ (g : Addr) (fg : FuncData) (bg : List Stmt) (sg : Scope) (Ng : List Str), FunD K x x pg bg sg [] [] g fg ∧ mg x = some (.ref g) ∧ Binds K fg [a] [] ∧ FnScope Ng [a] sg ∧ Ng[(0 : Nat)]? = some a ∧ Vis sg a ∧
  ((∀ ds g, φ ds g = .stuck) ∨ ((∀ g, φ [.non] g = .ok (.f .non) ⟨[], g⟩) ∧ (∀ k d g k2 d2 s, φ [.exn k d] g ≠ .exc k2 d2 s) ∧ ∀ (X : Cx), X.prog = P → X.w = W → X.K = K → X.mg = mg → X.base = base → X.A.guards = some [] → ∀ (cdg : Value) (q : Str), GivesS X Ng x sg g cdg bg a q (TTf w φ)))
/-- a def's code object and its table: what its lambdas need -/
def MkC (w : Wd) (X : Cx) : Prop := ∃ c P, LamX.TabB X.base X.mg c P ∧ X.env.code = .ref c ∧ (P, X.env.qual ++ "<lambda>") ∈ w.tb ∧ ∀ p ∈ w.tb, p.1 = P → p.2 = X.env.qual ++ "<lambda>"
end
section
variable {w : Wd} {Φ : Fns} {X : Cx} {Ex : Nat → D → C → Prop} {c c' : C} {H1 : Hp}
/-- where one stands behind the lambda's making -/
theorem R.lamH (r : R w c) (h : LamH w.tb c.H H1) : R w { c with H := H1 } ∧ SStep c { c with H := H1 } := by
  have le : Le c.F H1 := fun a o e => h.ext a o (r.sub a o e) (r.deal.2.2.1 a o e)
  refine ⟨⟨le, r.len, fun i dv hi => ?_, r.dist, r.ndeal, ?_, ?_⟩, ⟨⟨Le.refl _, fun a o e _ n => h.ext a o e n, fun a e => h.live a e, fun a e => .inl e, fun a e => .inl e, DlLe.refl _⟩, rfl, fun i dv hi => ⟨dv, hi⟩, fun _ _ fs h => ⟨fs, h⟩⟩⟩
  · obtain ⟨v, e1, e2⟩ := r.slot i dv hi
    refine ⟨v, e1, ?_⟩
    cases dv with
    | f d => exact e2
    | p pds => exact e2
    | b j => exact e2
    | o es =>
      obtain ⟨b, us, q1, q2, q3, q4⟩ := e2
      exact ⟨b, us, q1, q2, h.ext _ _ q3 rfl, q4⟩
    | n k es =>
      obtain ⟨b, dx, us, q1, q2, q3, q5, q4⟩ := e2
      exact ⟨b, dx, us, q1, q2, h.ext _ _ q3 rfl, q5, q4⟩
  · refine DealAt.imp r.deal.1 fun q hq => ⟨fun h => h, fun h => h, fun o e => ?_, fun o e => ?_⟩
    · have dd := r.deal.1
      unfold DealAt at dd
      split at dd
      · rename_i e1 e2; rw [e1] at hq; cases hq
      · rename_i p g e1 e2
        rw [e1] at hq
        cases hq
        have z := dd.2.2.2.1
        rw [e] at z
        cases z
        exact h.ext _ _ e rfl
      · exact dd.elim
    · have dd := r.deal.1
      unfold DealAt at dd
      split at dd
      · rename_i e1 e2; rw [e1] at hq; cases hq
      · rename_i p g e1 e2
        rw [e1] at hq
        cases hq
        have z := dd.2.2.2.2.1
        rw [e] at z
        cases z
        exact h.ext _ _ e rfl
      · exact dd.elim
  · refine ⟨h.tabs, r.deal.2.2.1, fun a o e t => ?_⟩
    obtain ⟨u', e', t'⟩ := h.old a o e t
    exact r.deal.2.2.2 a u' e' t'
variable {x a : Str} {pg : Arguments} {i k : Nat} {e : E} {params : Arguments} {body : Expr} {scope : Scope} {p lpos pos : Pos}
theorem q_lam (N : TL X.prog X.w X.K X.mg X.base w x a pg (Φ i)) (g : Gx w X) (M : MkC w X) (hr : Room (k + 2) X.A) (hg : Gl X x)
    (hbody : ∀ (A : Around) (out : List Env) (s : Shared) (H : Hp) (E : XK) (f cc : Addr), Room k (A.deeper (LamX.lamEnv X scope s.heap.objs.size f cc)) → A.guards = some [] → PE (LamX.lamCx X A out s H E scope f cc) body (tE w (ExW w fun cls d _ H => E cls d H) Φ e))
    (L : LamX.lamSB X.env.scope scope = true) (hdef : defaultsOf params X.env = ([], []))
    (hbind : ∀ (q : Str) (cl : List (Str × Addr)) (pm cv ctv : Value), bindArgs (PySem.W.kla_fn "<lambda>" q params body scope cl pm cv ctv) ⟨[], []⟩ = pure [])
    (hdb : (x == ("__debug__" : Str)) = false) (hd : (a == ("__debug__" : Str)) = false) (hcd : (a == ("__classdict__" : Str)) = false) :
    PE X (.Call (.Name x p) [.Lambda params body scope lpos] [] pos) (tE w Ex Φ (.lamc i e)) := by
  obtain ⟨g1, fg, bg, sg, Ng, F, hm, hb, Sg, hNg, hva, hφ⟩ := N
  obtain ⟨c0, P, TB, hcode, hmT, hu⟩ := M
  rcases hφ with hφ | ⟨hφ, hne, hG⟩
  · refine ⟨fun pins s σ H Q I h => ?_⟩
    obtain ⟨c, rfl, rfl, r, h⟩ := tE_in h
    have h1 : Aft w Ex c (lamM Φ i (ev w Φ e) c.s) (Fin w c Q) := h
    unfold lamM callM at h1
    cases ee : ev w Φ e c.s with
    | stuck => rw [ee] at h1; exact h1.elim
    | ok dv s1 => rw [ee] at h1; dsimp only at h1; rw [hφ] at h1; exact h1.elim
    | exc k1 d1 s1 => rw [ee] at h1; dsimp only at h1; rw [hφ] at h1; exact h1.elim
  refine (pe_lamS (k := k) (TT := TTf w (Φ i)) (T := w.tb) (t := fun E => tE w (ExW w fun cls d _ H => E cls d H) Φ e) hg hm F hb Sg hNg hva (fun cdg => hG X rfl rfl rfl rfl rfl g.gd cdg _) TB hcode hmT hu hr g.gd (LamX.lamS_by L) hdef hbind hbody hdb hd hcd).imp fun σ H Q h => ?_
  obtain ⟨c, rfl, rfl, r, h⟩ := tE_in h
  refine ⟨r.deal.2.1, fun H1 hH E hE => ?_⟩
  obtain ⟨r1, x1⟩ := r.lamH hH
  refine ⟨{ c with H := H1 }, rfl, rfl, r1, ?_⟩
  have h1 : Aft w Ex c (lamM Φ i (ev w Φ e) c.s) (Fin w c Q) := h
  show Aft w _ { c with H := H1 } (ev w Φ e c.s) _
  unfold lamM at h1
  cases ee : ev w Φ e c.s with
  | stuck => rw [ee] at h1; exact h1.elim
  | ok dv s1 =>
    rw [ee] at h1
    intro c2 hs r2 x2 v rel fr
    dsimp only at h1
    unfold callM at h1
    rw [hφ] at h1
    exact h1 c2 hs r2 (x1.trans x2) .non rfl trivial
  | exc k1 d1 s1 =>
    rw [ee] at h1
    intro c2 hs r2 x2 dx u hdx rep
    dsimp only at h1
    refine hE _ _ _ ⟨k1, d1, dx, u, c2.bare, rfl, rfl, r2.bare, rfl, rfl, hdx, rep, rfl, ?_⟩
    subst hs
    show AftF w _ c2.bare _ (Φ i [.exn k1 d1] c2.g) Q
    unfold callM at h1
    rw [show c2.s.g = c2.g from rfl] at h1
    cases er : Φ i [.exn k1 d1] c2.g with
    | stuck => rw [er] at h1; exact h1.elim
    | exc k3 d3 s3 =>
      exact absurd er (hne _ _ _ _ _ _)
    | ok dv s3 =>
      rw [er] at h1
      intro e3 hg3 r3 x3 v rel fr
      obtain ⟨r4, x4⟩ := r2.back x3.toStep r3
      refine h1 (c2.back e3) ?_ r4 ((x1.trans x2).trans x4) v (Rel.back r2 x3 rel fr) (fr.weak (x1.trans x2).live)
      show S.mk c2.ρ e3.g = _
      rw [hg3]
      rfl
end
end DI

end
section
set_option Elab.async false
set_option linter.all false
set_option maxRecDepth 100000
set_option maxHeartbeats 4000000
/-! LX3: what the head tells of own errors whose __init__ says super().__init__("..") and keeps a field. Own text. -/
namespace DI
open PySem PySem.Spec PyProof.Rows L2
/-- what the text of such an __init__ says -/
structure SupA (P : Program) (sf at_ : Str) (params : Arguments) (mp : List Stmt) (scope : Scope) : Prop where
  ex : ∃ (m : Str) (j : Nat) (p0 p1 p2 p3 p4 p5 p6 p7 p8 p9 : Pos) (ar : Arg),
    mp = [.Expr (.Call (.Attribute (.Call (.Name "super" p0) [] [] p1) "__init__" p2) [.Constant (.str m) j p3] [] p4) p5, .Assign [.Attribute (.Name sf p6) at_ p7] (.Name at_ p8) p9] ∧
    (params.posonlyargs ++ params.args).head? = some ar ∧ ar.arg = sf ∧ scope.names.lookup ("super" : Str) = some .globalImplicit ∧ scope.names.lookup ("__class__" : Str) = some .free ∧
    scope.names.lookup sf = some .local ∧ scope.names.lookup at_ = some .local ∧ scope.kind = .function ∧ (P.main.scope.names.lookup ("super" : Str)).isSome = false ∧ (∀ x ∈ scope.names, x.2 ≠ .cell) ∧ scope.isCoroutine = false ∧ scope.isGenerator = false ∧
    (∀ qual L f cda cc, interactive (PySem.W.ksEnv qual scope L f cda cc) = false) ∧ (∀ qual L f cda cc, swapsWith (.Call (.Attribute (.Call (.Name "super" p0) [] [] p1) "__init__" p2) [.Constant (.str m) j p3] [] p4) none p5.line (PySem.W.ksEnv qual scope L f cda cc) = pure false) ∧
    (∀ qual L f cda cc, swapsWith (.Name at_ p8) (some (.Attribute (.Name sf p6) at_ p7)) p9.line (PySem.W.ksEnv qual scope L f cda cc) = pure false) ∧
    (∀ qual L f cda cc, ∃ pl, eval (.Call (.Attribute (.Call (.Name "super" p0) [] [] p1) "__init__" p2) [.Constant (.str m) j p3] [] p4) (PySem.W.ksEnv qual scope L f cda cc) = (do
      let ov ← attributeBase (.Call (.Name "super" p0) [] [] p1) "__init__" (PySem.W.ksEnv qual scope L f cda cc) (eval (.Call (.Name "super" p0) [] [] p1) (PySem.W.ksEnv qual scope L f cda cc))
      standAt p2.atName
      let (g, first) ← holding [ov] (getMethod ov "__init__" pl)
      callWith p4 g first (backTo p4 (starEach [.Constant (.str m) j p3] (PySem.W.ksEnv qual scope L f cda cc))) []))
  bind : ∀ (x qual : Str) (kV doc pm : Value) (an : Option Addr) (cdv ct : Value) (cc : Addr) (us : List Value), us.length = 2 → bindArgs (PySem.W.ksFn x qual params mp scope .none kV doc pm an cdv ct cc) ⟨us, []⟩ = pure ([sf, at_].zip us)
  ne : sf ≠ at_
  nd1 : (sf == ("__debug__" : Str)) = false
  nd2 : (at_ == ("__debug__" : Str)) = false
abbrev ExObs : Type := Option (Str × Str × Arguments × FuncBody × Scope × Addr × List Str × Addr)
abbrev exI (K : PySem.W.Frag) (x : Str) : Addr := He.ma K (He.ga K x) "__init__"
def exObs (K : PySem.W.Frag) (x : Str) : ExObs := match K.lookup (exI K x) with
  | some ⟨_, _, .func fd, _⟩ => some (fd.name, fd.qualname, fd.params, fd.body, fd.scope, fd.globals, fd.closure.map (·.1), fd.builtins)
  | _ => none
structure ExD where
  x : Str
  params : Arguments
  body : List Stmt
  scope : Scope
def ExD.val (d : ExD) : ExObs := some ("__init__", d.x ++ ".__init__", d.params, .stmts d.body, d.scope, mainGlobals, ["__class__"], builtinsNs)
/-! ### by Bools -/
def oexB (K : PySem.W.Frag) (C : Addr) : Bool := match K.lookup C with
  | some ⟨.type "type", _, .cls cd, sl⟩ => (match cd.mro, sl.toList with
    | .ref D :: bm, [_, _, _, _, some (.builtin n), _] => D == C && (n == "ValueError.__new__" && (!cd.hasDel && (cd.hasDict && PySem.HandSPX.refsVE bm)))
    | _, _ => false)
  | _ => false
theorem oexB_ok {K : PySem.W.Frag} {C : Addr} (q : oexB K C = true) : ∃ nm q N bs bm sn sub ab col dd k0 k1 k2 k3 k5, K.lookup C = some (excClassObj nm q C N bs bm true sn sub ab col dd k0 k1 k2 k3 k5 "ValueError.__new__") ∧ PySem.HandSPX.refsVE bm = true := by
  unfold oexB at q
  split at q
  · rename_i dd cd sl ho
    split at q
    · rename_i D bm k0 k1 k2 k3 n k5 hm hs
      obtain ⟨h1, q⟩ := He.ba q
      obtain ⟨h2, q⟩ := He.ba q
      obtain ⟨h3, q⟩ := He.ba q
      obtain ⟨h4, h5⟩ := He.ba q
      have e1 := beq_iff_eq.mp h1
      have e2 := beq_iff_eq.mp h2
      subst e1 e2
      obtain ⟨nm, bs, mro, ns, qn, hd, sn, sub, ab, col, del⟩ := cd
      dsimp only at hm h3 h4
      have h3' : del = false := by cases del <;> first | rfl | cases h3
      subst hm h3' h4
      have hsl : sl = #[k0, k1, k2, k3, some (.builtin "ValueError.__new__"), k5] := by
        obtain ⟨l⟩ := sl
        rw [show l = _ from hs]
      subst hsl
      exact ⟨nm, qn, ns, bs, bm, sn, sub, ab, col, dd, k0, k1, k2, k3, k5, ho, h5⟩
    · cases q
  · cases q
def fileB (F : Str) (K : PySem.W.Frag) : Value → Bool
  | .ref cda => (match K.lookup cda with
    | some ⟨_, _, .fields vs, _⟩ => (match (vs[2]? : Option Value) with
      | some (.str file _) => F == file
      | _ => false)
    | _ => false)
  | _ => false
theorem fileB_ok {F : Str} {K : PySem.W.Frag} {v : Value} (h : fileB F K v = true) : ∃ cda ccl cdd vs ccs file tf, v = .ref cda ∧ K.lookup cda = some ⟨ccl, cdd, .fields vs, ccs⟩ ∧ vs[2]? = some (.str file tf) ∧ (F == file) = true := by
  unfold fileB at h
  split at h
  · rename_i cda
    split at h
    · rename_i ccl cdd vs ccs e
      split at h
      · rename_i file tf e2
        exact ⟨cda, ccl, cdd, vs, ccs, file, tf, rfl, e, e2, h⟩
      · cases h
    · cases h
  · cases h
def cellB (K : PySem.W.Frag) (C : Addr) : List (Str × Addr) → Bool
  | [(_, cc)] => (match K.lookup cc with
    | some ⟨_, _, .cell (some (.ref D)), _⟩ => D == C
    | _ => false)
  | _ => false
theorem cellB_ok {K : PySem.W.Frag} {C : Addr} {l : List (Str × Addr)} (h : cellB K C l = true) : ∃ n cc cl cld csl, l = [(n, cc)] ∧ K.lookup cc = some ⟨cl, cld, .cell (some (.ref C)), csl⟩ := by
  unfold cellB at h
  split at h
  · rename_i n cc
    split at h
    · rename_i cl cld D csl e
      have e2 := beq_iff_eq.mp h
      subst e2
      exact ⟨n, cc, cl, cld, csl, rfl, e⟩
    · cases h
  · cases h
def noDf : Value → Bool
  | .none => true
  | _ => false
def fnEB (F : Str) (K : PySem.W.Frag) (x : Str) : Bool := match K.lookup (exI K x) with
  | some ⟨_, _, .func fd, _⟩ => noDf fd.defaults && (PySem.W.codeIn K fd.code (x ++ ".__init__") && (fileB F K fd.code && cellB K (He.ga K x) fd.closure))
  | _ => false
def supB (F : Str) (K : PySem.W.Frag) (x at_ : Str) : Bool :=
  oexB K (He.ga K x) && (decide (PySem.W.findIn K (.ref (He.ga K x)) "__setattr__" = some (some (.builtin "object.__setattr__"))) && (decide (PySem.W.subIn K (.ref (He.ga K x)) (.type "BaseException") = some true) && (decide (PySem.W.typeIn K (.ref (He.ga K x)) = some (.type "type")) &&
  (PySem.W.keepIn K (.ref (He.ga K x)) && (decide (PySem.W.ks_superIn K (He.ga K x) (He.ga K x) "__init__" = some (some (.builtin "ValueError.__init__"))) && (decide (PySem.W.nsIn K cStatics "thirdparty.any" = some none) && (decide (PySem.W.subIn K (.ref (He.ga K x)) (.type "ValueError") = some true) &&
  (decide (PySem.W.mroIn K (He.ga K x) (.ref (He.ga K x)) = some true) && (decide (PySem.W.findIn K (.ref (He.ga K x)) at_ = some none) && (decide (PySem.W.findIn K (.ref (He.ga K x)) "__init__" = some (some (.ref (exI K x)))) && (decide (PySem.W.typeIn K (.ref (exI K x)) = some (.type "function")) &&
  (decide (PySem.W.nsIn K mainGlobals "super" = some none) && fnEB F K x))))))))))))
theorem supI_of {P : Program} {K : PySem.W.Frag} {d : ExD} {sf at_ : Str} (A : SupA P sf at_ d.params d.body d.scope) (e : exObs K d.x = d.val) (b : supB P.main.file K d.x at_ = true) :
    ∃ fd, SupI P K (He.ga K d.x) (exI K d.x) sf at_ fd ∧ PySem.W.findIn K (.ref (He.ga K d.x)) "__init__" = some (some (.ref (exI K d.x))) ∧ PySem.W.typeIn K (.ref (exI K d.x)) = some (.type "function") ∧ Binds K fd [sf, at_] [] := by
  obtain ⟨b1, b⟩ := He.ba b
  obtain ⟨b2, b⟩ := He.ba b
  obtain ⟨b3, b⟩ := He.ba b
  obtain ⟨b4, b⟩ := He.ba b
  obtain ⟨b5, b⟩ := He.ba b
  obtain ⟨b6, b⟩ := He.ba b
  obtain ⟨b7, b⟩ := He.ba b
  obtain ⟨b8, b⟩ := He.ba b
  obtain ⟨b9, b⟩ := He.ba b
  obtain ⟨b10, b⟩ := He.ba b
  obtain ⟨b11, b⟩ := He.ba b
  obtain ⟨b12, b⟩ := He.ba b
  obtain ⟨b13, b⟩ := He.ba b
  unfold fnEB at b
  unfold exObs at e
  cases q : K.lookup (exI K d.x) with
  | none =>
    rw [q] at b
    cases b
  | some o =>
    obtain ⟨oc, od, dt, osl⟩ := o
    rw [q] at b e
    cases dt with
    | func fd =>
      obtain ⟨n1, n2, n3, n4, n5, n6, n7, n8, n9, n10, n11, n12, n13, n14, n15⟩ := fd
      have e2 : (some (n1, n2, n3, n4, n5, n6, n7.map (·.1), n15) : ExObs) = d.val := e
      unfold ExD.val at e2
      simp only [Option.some.injEq, Prod.mk.injEq] at e2
      obtain ⟨h1, h2, h3, h4, h5, h6, h7, h8⟩ := e2
      subst h1 h2 h3 h4 h5 h6 h8
      have c1 : (noDf n8 && (PySem.W.codeIn K n13 (d.x ++ ".__init__") && (fileB P.main.file K n13 && cellB K (He.ga K d.x) n7))) = true := b
      obtain ⟨g1, c1⟩ := He.ba c1
      obtain ⟨g2, c1⟩ := He.ba c1
      obtain ⟨g3, g4⟩ := He.ba c1
      have g1' : n8 = .none := by
        cases n8 <;> first | rfl | cases g1
      subst g1'
      obtain ⟨cda, ccl, cdd, vs, ccs, file, tf, rfl, f1, f2, f3⟩ := fileB_ok g3
      obtain ⟨n, cc, cl, cld, csl, rfl, f4⟩ := cellB_ok g4
      have hn : n = "__class__" := by simpa using h7
      subst hn
      obtain ⟨m, j, p0, p1, p2, p3, p4, p5, p6, p7, p8, p9, ar, a1, a2, a3, a4, a5, a6, a7, a8, a9, a10, a11, a12, a13, a14, a15, a16⟩ := A.ex
      refine ⟨PySem.W.ksFn "__init__" (d.x ++ ".__init__") d.params d.body d.scope .none n9 n10 n11 n12 (.ref cda) n14 cc, ⟨⟨oexB_ok b1, of_decide_eq_true b2, of_decide_eq_true b3, of_decide_eq_true b4, b5⟩, ?_, of_decide_eq_true b6, of_decide_eq_true b7, of_decide_eq_true b8, of_decide_eq_true b9, of_decide_eq_true b10, A.ne, A.nd1, A.nd2⟩, of_decide_eq_true b11, of_decide_eq_true b12, .all fun us hl => A.bind _ _ _ _ _ _ _ _ _ us hl⟩
      exact ⟨oc, od, osl, "__init__", d.x ++ ".__init__", d.params, d.scope, .none, n9, n10, n11, n14, n12, cda, cc, m, j, p0, p1, p2, p3, p4, p5, p6, p7, p8, p9, ar, vs, file, tf, ccl, cdd, ccs, cl, cld, csl, d.body, a1, rfl, q, g2, a2, a3, f1, f2, f3, f4, of_decide_eq_true b13, a4, a5, a6, a7, a8, a9, a10, a11, a12, fun L => a13 _ _ _ _ _, fun L => a14 _ _ _ _ _, fun L => a15 _ _ _ _ _, fun L => a16 _ _ _ _ _⟩
    | _ => cases b
/-! ### the Hook: the layer's facts, one more Bool, empty tables left out, the errors' texts -/
def frE (g : Addr → Option Obj) (n : Nat) : PySem.W.Frag := He.frT g (cStatics :: He.asD g n)
abbrev AlE : Type := He.AlX × List ExObs
def obsE (n : Nat) (fa : List He.Fa) (fn : List He.DefD) (tf : List He.Defn) (ex : PySem.W.Frag → Bool) (es : List ExD) (g : Addr → Option Obj) : AlE := ((He.obsT fa fn [] (frE g n), ex (frE g n) && He.tabsB g tf (frE g n)), es.map fun d => exObs (frE g n) d.x)
def valE (fn : List He.DefD) (es : List ExD) (w : World) : AlE := (He.valX fn [] w, es.map ExD.val)
structure SaysE (fa : List He.Fa) (fn : List He.DefD) (tf : List He.Defn) (ex : PySem.W.Frag → Bool) (es : List ExD) (h : Heap) (K : PySem.W.Frag) : Prop where
  d : He.SaysD fa fn K
  more : ex K = true
  hd : ∀ p ∈ tf, PySem.W.codeHdIn K (He.cT K p).1 (He.cT K p).2 = true
  out : ∀ p ∈ tf, K.lookup (He.cT K p).2 = none
  empty : ∀ p ∈ tf, h.get? (He.cT K p).2 = some { cls := .none, data := .fields #[] }
  exs : es.map (fun d => exObs K d.x) = es.map ExD.val
theorem saysE_of {n : Nat} {fa : List He.Fa} {fn : List He.DefD} {tf : List He.Defn} {ex : PySem.W.Frag → Bool} {es : List ExD} {w : World} {h : Heap} (e : obsE n fa fn tf ex es h.get? = valE fn es w) : SaysE fa fn tf ex es h (frE h.get? n) := by
  have e1 : He.obsD fa fn (frE h.get? n) = He.valD fn := congrArg (fun z : AlE => z.1.1.1) e
  have e2 : (ex (frE h.get? n) && He.tabsB h.get? tf (frE h.get? n)) = true := congrArg (fun z : AlE => z.1.2) e
  obtain ⟨h1, h2⟩ := He.ba e2
  have key : ∀ p ∈ tf, PySem.W.codeHdIn (frE h.get? n) (He.cT (frE h.get? n) p).1 (He.cT (frE h.get? n) p).2 = true ∧ ∃ o, h.get? (He.cT (frE h.get? n) p).2 = some o ∧ He.emptyTab o = true := fun p hp => by
    obtain ⟨h3, h4⟩ := He.ba (List.all_eq_true.mp h2 p hp)
    refine ⟨h3, ?_⟩
    split at h4
    · rename_i o q
      exact ⟨o, q, h4⟩
    · cases h4
  refine ⟨e1, h1, fun p hp => (key p hp).1, fun p hp => ?_, fun p hp => ?_, congrArg (fun z : AlE => z.2) e⟩
  · obtain ⟨_, o, q, z⟩ := key p hp
    exact He.frT_none q z
  · obtain ⟨_, o, q, z⟩ := key p hp
    rw [q, He.emptyTab_eq z]
def hookE (n : Nat) (fa : List He.Fa) (fn : List He.DefD) (tf : List He.Defn) (ex : PySem.W.Frag → Bool) (es : List ExD) : PySem.W.Hook where
  α := AlE
  obs := fun s => obsE n fa fn tf ex es s.heap.get?
  val := fun w => valE fn es w
  says := fun _ h => ∃ K : PySem.W.Frag, K.In h ∧ SaysE fa fn tf ex es h K
  of := fun _ _ e => ⟨_, He.frT_in, saysE_of e⟩
  keeps := fun _ _ _ ⟨K, hK, c⟩ k => ⟨K, PySem.W.Frag.In.keeps hK k, ⟨c.d, c.more, c.hd, c.out, fun p hp => k _ _ (c.empty p hp), c.exs⟩⟩
theorem obsE_eq {n : Nat} {fa : List He.Fa} {fn : List He.DefD} {tf : List He.Defn} {ex : PySem.W.Frag → Bool} {es : List ExD} {g : Addr → Option Obj} {s : Shared} (h : ∀ a, g a = s.heap.get? a) : obsE n fa fn tf ex es g = (hookE n fa fn tf ex es).obs s := by
  have e : g = s.heap.get? := funext h
  rw [e]
  rfl
theorem SaysE.ex {fa : List He.Fa} {fn : List He.DefD} {tf : List He.Defn} {ex : PySem.W.Frag → Bool} {es : List ExD} {h : Heap} {K : PySem.W.Frag} (c : SaysE fa fn tf ex es h K) (i : Nat) {d : ExD} (hd : es[i]? = some d := by rfl) : exObs K d.x = d.val := by
  have e : (es.map fun d => exObs K d.x)[i]? = (es.map ExD.val)[i]? := by rw [c.exs]
  rw [List.getElem?_map, List.getElem?_map, hd] at e
  exact Option.some.inj e
end DI

end
section
set_option Elab.async false
set_option linter.all false
set_option maxRecDepth 100000
set_option maxHeartbeats 4000000
/-! LX4: a law's end with tables of code objects; defs that make lambdas; levels. Own text. -/
namespace DI
open PySem PySem.Spec PyProof.Rows L2
section
variable {P : Program} {w : World} {K : PySem.W.Frag} {mg mb : Str → Option Value} {k : Nat} {fa a : Addr} {fd : FuncData} {x : Str} {sp : Sp} {s1 : Shared} {vs : List Value} {ns : List Int} {cs : List (Addr × Addr)}
/-- from an abstract heap that tracks the script and the tables at the most -/
theorem lawFromT (kx : K.In s1.heap) (hns : s1.heap.Ns mainGlobals mg) (hb : s1.heap.Ns builtinsNs mb) (hbb : ∀ x : Str, x ≠ "__name__" → mb x = bootBuiltins x) (lim : s1.heap.NoLimit) (bare : s1.gens = #[])
    (hT : ∀ p ∈ cs, s1.heap.get? p.2 = some { cls := .none, data := .fields #[] }) (nT : ∀ p ∈ cs, K.lookup p.2 = none) (hC : ∀ p ∈ cs, PySem.W.CodeHd s1.heap p.1 p.2)
    (hbm : ∃ (bm : Addr) (ob : Obj), mg "__builtins__" = some (.ref bm) ∧ bm ≠ builtinsNs ∧ s1.heap.get? bm = some ob ∧ ob.cls = .type "module" ∧ ob.dict = some builtinsNs ∧ ob.data = .plain)
    (ha : s1.heap.get? a = some { cls := .type "list", data := .seq vs.toArray }) (hr : Room k callerA) (F : ∀ base : Heap, K.In base → base.Ns mainGlobals mg → (∀ p ∈ cs, LamX.TabB base mg p.1 p.2) → FnG P w K mg base CX0 k fa fd [x] sp) (bd : ∀ (s : Shared) (u : Value), BindsTo s fd ⟨[u], []⟩ [(x, u)])
    {H : Hp} (one : ∀ b, H b = none ∨ b = a ∨ b ∈ cs.map (·.2)) (frz : ∀ b u, H b = some u → b ∉ cs.map (·.2) → ∃ o xs, u = .frz o (.lst xs)) (tbs : ∀ p ∈ cs, H p.2 = some (.tbl #[])) (nk : H a ≠ none → K.lookup a = none) (hok : HOk P w H s1.heap) (hs : sp [.ref a] H (fun v _ => v = .bl true) fun _ _ _ => False) :
    codeAny (model P w) callerA (.call (.ref fa) ⟨[.ref a], []⟩) (LawEnd s1) s1 := by
  have isT : ∀ b, b ∈ cs.map (·.2) → s1.heap.get? b = some { cls := .none, data := .fields #[] } := fun b hb => by
    obtain ⟨p, hp, rfl⟩ := List.mem_map.mp hb
    exact hT p hp
  have keepB : ∀ {b : Addr} {o : Obj}, s1.heap.get? b = some o → H b = none → (hidT s1.heap H).get? b = some o := fun e n => hidT_get e n
  have away : ∀ {b : Addr} {o : Obj}, s1.heap.get? b = some o → (∀ vs n, o.data ≠ .seq vs n) → o.data ≠ .fields #[] → H b = none := by
    intro b o e h1 h2
    rcases one b with z | rfl | z
    · exact z
    · rw [ha] at e
      cases e
      exact (h1 _ _ rfl).elim
    · rw [isT b z] at e
      cases e
      exact (h2 rfl).elim
  have nsB : ∀ {b : Addr} {m : Str → Option Value}, s1.heap.Ns b m → (hidT s1.heap H).Ns b m := by
    rintro b m ⟨o, es, n, e, d, r⟩
    exact ⟨o, es, n, keepB e (away e (by rw [d]; intro _ _ z; cases z) (by rw [d]; intro z; cases z)), d, r⟩
  have inB : K.In (hidT s1.heap H) := by
    intro b o e
    refine keepB (kx b o e) ?_
    rcases one b with z | rfl | z
    · exact z
    · cases q : H b with
      | none => rfl
      | some u =>
        rw [nk (by rw [q]; simp)] at e
        cases e
    · obtain ⟨p, hp, rfl⟩ := List.mem_map.mp z
      rw [nT p hp] at e
      cases e
  have md : Mod K mg (hidT s1.heap H) := by
    refine ⟨inB, nsB hns, ⟨mb, nsB hb, hbb⟩, ?_⟩
    obtain ⟨mc, c1, c2⟩ := lim
    exact ⟨mc, nsB c1, c2⟩
  have tb : ∀ p ∈ cs, LamX.TabB (hidT s1.heap H) mg p.1 p.2 := by
    intro p hp
    have tp := hT p hp
    refine ⟨?_, ?_, fun z => ?_⟩
    · obtain ⟨o, us, file, tf, flags, tg, inF, text, tt, e1, r1, r2, r3, r4⟩ := hC p hp
      refine ⟨o, us, file, tf, flags, tg, inF, text, tt, keepB e1 (away e1 (by rw [r2]; intro _ _ z; cases z) fun z => ?_), r1, r2, r3, r4⟩
      rw [r2] at z
      cases z
      simp at r3
    · obtain ⟨bm, ob, b1, b2, b3, b4, b5, b6⟩ := hbm
      refine ⟨bm, ob, b1, b2, fun q => ?_, fun q => ?_, keepB b3 (away b3 (by rw [b6]; intro _ _ z; cases z) (by rw [b6]; intro z; cases z)), b4, b5, b6⟩
      · obtain ⟨o, es, ep, e, hd, _⟩ := hns
        rw [q, e] at b3
        cases b3
        rw [hd] at b6
        cases b6
      · rw [q, tp] at b3
        cases b3
        cases b6
    · obtain ⟨o, es, ep, e, hd, _⟩ := hns
      rw [z, tp] at e
      cases e
      cases hd
  have env : Env0 P w K mg (hidT s1.heap H) callerA [] s1 H := by
    refine ⟨rfl, md, fun b o e => of_hidT e, Nat.le_of_eq (hidT_size _ _), trivial, fun b z => ?_, hok, .of_eq bare⟩
    simp [frs] at z
  refine codeAny_mono ((F _ inB (nsB hns) tb).go (us := [.ref a]) (vs := [V.ref a]) hr rfl env (bd s1 (.ref a)) (.cons (show RelV (V.ref a) (Value.ref a) from rfl) .nil) hs) fun r s2 h => ?_
  match r, h with
  | .ok (.ret u), h =>
    obtain ⟨v, H2, os, br, un, ok2, rv, rfl⟩ := h
    obtain rfl : u = Value.bool true := rv
    have grown : ∀ p ∈ cs, ∃ more : Array Value, s2.heap.get? p.2 = some { cls := .none, data := .fields more } := fun p hp => by
      obtain ⟨more, z⟩ := un.tbls p.2 #[] (tbs p hp)
      exact ⟨_, ok2 p.2 _ z⟩
    have key : ∀ b o, b ∉ cs.map (·.2) → s1.heap.get? b = some o → s2.heap.get? b = some o := fun b o nb e => by
      cases q : H b with
      | none => exact un.keep b o e q (by simp [frs]) (by simp)
      | some u =>
        obtain ⟨ob, xs, rfl⟩ := frz b u q nb
        obtain ⟨e1, _⟩ := hok b _ q
        obtain ⟨e2, _⟩ := ok2 b _ (un.frzs b ob _ q)
        rw [e] at e1
        cases e1
        exact e2
    refine ⟨rfl, ⟨fun b o e => ?_, fun b o e => ?_⟩, os, br⟩
    · by_cases nb : b ∈ cs.map (·.2)
      · obtain ⟨p, hp, rfl⟩ := List.mem_map.mp nb
        obtain ⟨more, hm⟩ := grown p hp
        rw [hT p hp] at e
        cases e
        exact .inr (.inl ⟨((hC p hp).tab (hT p hp)).isCodeTable, rfl, #[], more, rfl, by rw [Array.empty_append]; exact hm⟩)
      · exact .inl (key b o nb e)
    · by_cases nb : b ∈ cs.map (·.2)
      · obtain ⟨p, hp, rfl⟩ := List.mem_map.mp nb
        obtain ⟨more, hm⟩ := grown p hp
        exact ⟨_, hm⟩
      · exact ⟨o, key b o nb e⟩
theorem lawT (kx : K.In s1.heap) (hns : s1.heap.Ns mainGlobals mg) (hb : s1.heap.Ns builtinsNs mb) (hbb : ∀ x : Str, x ≠ "__name__" → mb x = bootBuiltins x) (lim : s1.heap.NoLimit) (bare : s1.gens = #[])
    (hT : ∀ p ∈ cs, s1.heap.get? p.2 = some { cls := .none, data := .fields #[] }) (nT : ∀ p ∈ cs, K.lookup p.2 = none) (hC : ∀ p ∈ cs, PySem.W.CodeHd s1.heap p.1 p.2)
    (hbm : ∃ (bm : Addr) (ob : Obj), mg "__builtins__" = some (.ref bm) ∧ bm ≠ builtinsNs ∧ s1.heap.get? bm = some ob ∧ ob.cls = .type "module" ∧ ob.dict = some builtinsNs ∧ ob.data = .plain)
    (ha : s1.heap.get? a = some { cls := .type "list", data := .seq vs.toArray }) (hi : IntsAre vs ns) (hl : ns.length ≤ sizeLine) (hr : Room k callerA) (F : ∀ base : Heap, K.In base → base.Ns mainGlobals mg → (∀ p ∈ cs, LamX.TabB base mg p.1 p.2) → FnG P w K mg base CX0 k fa fd [x] sp)
    (bd : ∀ (s : Shared) (u : Value), BindsTo s fd ⟨[u], []⟩ [(x, u)]) (hs : ∀ H : Hp, SqL K H a (ns.map V.int) → (∀ p ∈ cs, H p.2 = some (.tbl #[])) → (∀ b o, H b = some o → isTb o = true → b ∈ cs.map (·.2)) → sp [.ref a] H (fun v _ => v = .bl true) fun _ _ _ => False) :
    codeAny (model P w) callerA (.call (.ref fa) ⟨[.ref a], []⟩) (LawEnd s1) s1 := by
  have rv := vals_ints hi
  have ln := hi.length
  have isT : ∀ b, b ∈ cs.map (·.2) → s1.heap.get? b = some { cls := .none, data := .fields #[] } := fun b hb => by
    obtain ⟨p, hp, rfl⟩ := List.mem_map.mp hb
    exact hT p hp
  have naT : a ∉ cs.map (·.2) := fun z => by
    have e := isT a z
    rw [ha] at e
    have z2 := congrArg Obj.data (Option.some.inj e)
    cases z2
  have memT : ∀ p ∈ cs, p.2 ∈ cs.map (·.2) := fun p hp => List.mem_map.mpr ⟨p, hp, rfl⟩
  let H0 : Option HO → Hp := fun u b => if b = a then u else if b ∈ cs.map (·.2) then some (.tbl #[]) else none
  have atA : ∀ u, H0 u a = u := fun u => if_pos rfl
  have atT : ∀ u b, b ∈ cs.map (·.2) → H0 u b = some (.tbl #[]) := fun u b hb => (if_neg (fun z => naT (by rw [← z]; exact hb))).trans (if_pos hb)
  have atN : ∀ u b, b ≠ a → b ∉ cs.map (·.2) → H0 u b = none := fun u b h1 h2 => (if_neg h1).trans (if_neg h2)
  have tbs : ∀ u, ∀ p ∈ cs, H0 u p.2 = some (.tbl #[]) := fun u p hp => atT u p.2 (memT p hp)
  have one : ∀ u b, H0 u b = none ∨ b = a ∨ b ∈ cs.map (·.2) := fun u b => by
    by_cases h1 : b = a
    · exact .inr (.inl h1)
    · by_cases h2 : b ∈ cs.map (·.2)
      · exact .inr (.inr h2)
      · exact .inl (atN u b h1 h2)
  have tb2 : ∀ u, (∀ o, u = some o → isTb o = false) → ∀ b o, H0 u b = some o → isTb o = true → b ∈ cs.map (·.2) := fun u hu b o e t => by
    rcases one u b with z | z | z
    · rw [z] at e
      cases e
    · rw [z, atA] at e
      rw [hu o e] at t
      cases t
    · exact z
  cases hk : K.lookup a with
  | some o =>
    have e := kx a o hk
    rw [ha] at e
    cases e
    refine lawFromT kx hns hb hbb lim bare hT nT hC hbm ha hr F bd (H := H0 none) (one none) (fun b u z nb => ?_) (tbs none) (fun z => absurd (atA none) z) (fun b u z => ?_) (hs _ (.inr ⟨_, vs.toArray, _, hk, rfl, rfl, rfl, ?_, by simpa using rv⟩) (tbs none) (tb2 none fun o z => by cases z))
    · rcases one none b with y | y | y
      · rw [y] at z; cases z
      · rw [y, atA] at z; cases z
      · exact absurd y nb
    · rcases one none b with y | y | y
      · rw [y] at z; cases z
      · rw [y, atA] at z; cases z
      · rw [atT none b y] at z
        cases z
        exact isT b y
    · rw [List.size_toArray, ln]
      exact hl
  | none =>
    have fz : HO.frz { cls := .type "list", data := .seq vs.toArray } (.lst (ns.map V.int)) = HO.frz { cls := .type "list", data := .seq vs.toArray } (.lst (ns.map V.int)) := rfl
    refine lawFromT kx hns hb hbb lim bare hT nT hC hbm ha hr F bd (H := H0 (some (HO.frz { cls := .type "list", data := .seq vs.toArray } (.lst (ns.map V.int))))) (one _) (fun b u z nb => ?_) (tbs _) (fun _ => hk) (fun b u z => ?_) (hs _ (.inl (.inr ⟨_, atA _⟩)) (tbs _) (tb2 _ fun o z => by cases z; rfl))
    · rcases one (some (HO.frz { cls := .type "list", data := .seq vs.toArray } (.lst (ns.map V.int)))) b with y | y | y
      · rw [y] at z; cases z
      · rw [y, atA] at z
        cases z
        exact ⟨_, _, rfl⟩
      · exact absurd y nb
    · rcases one (some (HO.frz { cls := .type "list", data := .seq vs.toArray } (.lst (ns.map V.int)))) b with y | y | y
      · rw [y] at z; cases z
      · rw [y, atA] at z
        cases z
        rw [y]
        exact ⟨ha, by rw [List.length_map]; exact hl, vs, _, rv, ha⟩
      · rw [atT _ b y] at z
        cases z
        exact isT b y
end
/-- a law's def, with the tables of the defs that make lambdas -/
theorem walkT {l : PySem.W.OpenLaw} {n k : Nat} {q : Program} {loose : List Str} {XP : (Str → Option Value) → Heap → Prop} {YP : World → Heap → Prop} {d : DefRec} {x : Str}
    (hn : l.most = some n) (hn2 : n ≤ sizeLine) (hdf : d.params.defaults = []) (hr : Room k callerA)
    (F : ∀ (w : World) (mg : Str → Option Value) (fa : Addr) (h : Heap), YP w h → h.Ns mainGlobals mg → mg d.name = some (.ref fa) → ∃ (K : PySem.W.Frag) (fd : FuncData) (sp : Sp) (cs : List (Addr × Addr)), K.In h ∧ (∀ p ∈ cs, h.get? p.2 = some { cls := .none, data := .fields #[] }) ∧ (∀ p ∈ cs, K.lookup p.2 = none) ∧ (∀ p ∈ cs, PySem.W.CodeHd h p.1 p.2) ∧
      (∀ (s : Shared) (u : Value), BindsTo s fd ⟨[u], []⟩ [(x, u)]) ∧
      (∀ (H : Hp) (a : Addr) (ns : List Int), ns.length ≤ n → SqL K H a (ns.map V.int) → (∀ p ∈ cs, H p.2 = some (.tbl #[])) → (∀ b o, H b = some o → isTb o = true → b ∈ cs.map (·.2)) → sp [.ref a] H (fun v _ => v = .bl true) fun _ _ _ => False) ∧
      ∀ base : Heap, K.In base → base.Ns mainGlobals mg → (∀ p ∈ cs, LamX.TabB base mg p.1 p.2) → FnG l.prog w K mg base CX0 k fa fd [x] sp) :
    PySem.W.WalkO q loose XP YP l.row.toRowW d [] (fun f vs => PySem.call f vs) :=
  Att.attach_call hn hdf fun w s₀ s₁ mg mb fa o pm cd doc a vs ns G Y ho hd hcd hmg hobj hints hlen hg => by
    obtain ⟨K, fd, sp, cs, kx, hT, nT, hC, bd, hs, hF⟩ := F w mg fa _ Y G.T.g hmg
    exact lawT kx G.T.g G.T.b G.T.builtins G.T.nolimit hg hT nT hC G.T.bmain hobj hints (Nat.le_trans hlen hn2) hr hF bd fun H hS h1 h2 => hs H a ns hlen hS h1 h2
end DI

end
section
set_option Elab.async false
set_option linter.all false
set_option maxRecDepth 100000
set_option maxHeartbeats 4000000
/-! LX5: levels with lambdas and errors: what the printed walks lean on. Own text. -/
namespace DI
open PySem PySem.Spec PyProof.Rows L2
/-! ### errors by Bools -/
def errCB (K : PySem.W.Frag) (w : Wd) (cv : Value) (ts fs : List Nat) : Bool := (ts.all fun k => decide (PySem.W.exmOne K (.ref (w.xc k)) cv = some true) && decide (PySem.W.kitOne K (.ref (w.xc k)) cv = some true)) && fs.all fun k => decide (PySem.W.exmOne K (.ref (w.xc k)) cv = some false) && decide (PySem.W.kitOne K (.ref (w.xc k)) cv = some false)
theorem errCB_ok {K : PySem.W.Frag} {w : Wd} {cv : Value} {ts fs : List Nat} (h : errCB K w cv ts fs = true) : ErrC K w cv ts fs := by
  obtain ⟨h1, h2⟩ := He.ba h
  refine ⟨fun k hk => ?_, fun k hk => ?_, fun k hk => ?_, fun k hk => ?_⟩
  · exact of_decide_eq_true (He.ba (List.all_eq_true.mp h1 k (List.contains_iff_mem.mp hk))).1
  · exact of_decide_eq_true (He.ba (List.all_eq_true.mp h2 k (List.contains_iff_mem.mp hk))).1
  · exact of_decide_eq_true (He.ba (List.all_eq_true.mp h1 k (List.contains_iff_mem.mp hk))).2
  · exact of_decide_eq_true (He.ba (List.all_eq_true.mp h2 k (List.contains_iff_mem.mp hk))).2
def excCB (K : PySem.W.Frag) (D : Addr) : Bool := decide (PySem.W.findIn K (.ref D) "__getattribute__" = some (some (.builtin "BaseException.__getattribute__"))) && (decide (PySem.W.findIn K (.ref D) "__getattr__" = some none) && (decide (PySem.W.subIn K (.ref D) (.type "BaseException") = some true) && (PySem.W.hasDictIn K D &&
  (decide (PySem.W.findIn K (.ref D) "__class__" = some (some (.builtin "object.__class__"))) && (decide (PySem.W.specialIn K (.builtin "object.__class__") "__get__" = some (some (.builtin "getset_descriptor.__get__"))) && (decide (PySem.W.takesIn K (.builtin "object.__class__") = some true) && decide (PySem.W.mroIn K D (.type "object") = some true)))))))
theorem excCB_ok {K : PySem.W.Frag} {D : Addr} (h : excCB K D = true) : ExcC K D := by
  obtain ⟨h1, h⟩ := He.ba h
  obtain ⟨h2, h⟩ := He.ba h
  obtain ⟨h3, h⟩ := He.ba h
  obtain ⟨h4, h⟩ := He.ba h
  obtain ⟨h5, h⟩ := He.ba h
  obtain ⟨h6, h⟩ := He.ba h
  obtain ⟨h7, h8⟩ := He.ba h
  exact ⟨of_decide_eq_true h1, of_decide_eq_true h2, of_decide_eq_true h3, h4, of_decide_eq_true h5, of_decide_eq_true h6, of_decide_eq_true h7, of_decide_eq_true h8⟩
def errFB (K : PySem.W.Frag) (w : Wd) (ks : List Nat) : Bool := ks.all fun k => xfB K (w.xc k) && (decide (PySem.W.findIn K (.ref (w.xc k)) w.xf = some none) && excCB K (w.xc k))
theorem errFB_ok {K : PySem.W.Frag} {w : Wd} {ks : List Nat} (h : errFB K w ks = true) : ErrF K w ks := by
  have key : ∀ k, ks.contains k = true → xfB K (w.xc k) = true ∧ PySem.W.findIn K (.ref (w.xc k)) w.xf = some none ∧ excCB K (w.xc k) = true := fun k hk => by
    obtain ⟨h1, h2⟩ := He.ba (List.all_eq_true.mp h k (List.contains_iff_mem.mp hk))
    obtain ⟨h2, h3⟩ := He.ba h2
    exact ⟨h1, of_decide_eq_true h2, h3⟩
  exact ⟨fun k hk => xfB_ok (key k hk).1, fun k hk => (key k hk).2.1, fun k hk => excCB_ok (key k hk).2.2⟩
theorem ex1_of {P : Program} {K : PySem.W.Frag} {mg : Str → Option Value} {w : Wd} {d : ExD} {sf : Str} {k : Nat} (A : SupA P sf w.xf d.params d.body d.scope) (e : exObs K d.x = d.val) (b : supB P.main.file K d.x w.xf = true) (hx : w.xc k = He.ga K d.x) (hm : mg d.x = some (.ref (He.ga K d.x))) : EX1 P K mg w d.x sf k := by
  obtain ⟨fd, h1, h2, h3, h4⟩ := supI_of A e b
  unfold EX1
  rw [hx]
  exact ⟨_, fd, h1, h2, h3, h4, hm⟩
/-! ### contexts -/
section
variable {w : Wd} {X : Cx}
theorem gx_Z {Ng : List Str} {qg : Str} {sg : Scope} {g : Addr} {cdg : Value} {s : Shared} {H : Hp} (hr : Room 1 (X.A.deeper (envOfC qg sg s.heap.objs.size g cdg))) (hgd : X.A.guards = some []) (hN : Ng.Nodup) (hK : X.K = w.K) (cls : ∀ c, ClsOk w c) (tab : ∀ c, (w.T.fl c).length < 900 ∧ (w.names c).Nodup) : Gx w (lamZ X Ng qg sg g cdg s H) :=
  ⟨hK, by have := hr.un; show (X.A.deeper (envOfC qg sg s.heap.objs.size g cdg)).units + 65 < _; omega, fun _ => rfl, hN, passes_of rfl, hgd, cls, tab⟩
theorem gx_lam (g : Gx w X) {A : Around} {out : List Env} {s : Shared} {H : Hp} {E : XK} {scope : Scope} {f cc : Addr} {k : Nat} (hr : Room k (A.deeper (LamX.lamEnv X scope s.heap.objs.size f cc))) (hgd : A.guards = some []) : Gx w (LamX.lamCx X A out s H E scope f cc) :=
  ⟨g.hK, by have := hr.un; show (A.deeper (LamX.lamEnv X scope s.heap.objs.size f cc)).units + 65 < _; omega, fun _ => rfl, g.hN, passes_of rfl, hgd, g.cls, g.tab⟩
theorem tk_lam {A : Around} {out : List Env} {s : Shared} {H : Hp} {E : XK} {scope : Scope} {f cc : Addr} : Takes (LamX.lamCx X A out s H E scope f cc) (fun cls d _ H => E cls d H) := takes_of rfl rfl rfl rfl
end
/-! ### a def by its body, its code object told -/
section
variable {P : Program} {W : World} {K : PySem.W.Frag} {mg : Str → Option Value} {base : Heap} {CX : CXT} {w : Wd} {EF : XK → Nat → D → C → Prop} {Φ : Fns} {x qual : Str} {params : Arguments} {body : List Stmt} {scope : Scope} {f : Addr} {fd : FuncData} {kws : List (Str × V)} {N ps : List Str} {n k p : Nat} {b : List Sm}
theorem fn_bodyC (F : FunD K x qual params body scope [] kws f fd) (S : FnScope N ps scope) (hn : n = N.length) (hp : p = ps.length)
    (h : ∀ (cdv : Value) (A : Around) (outer : List Env) (s : Shared) (H : Hp) (E : XK), fd.code = cdv → Room k (A.deeper (envOfC qual scope s.heap.objs.size f cdv)) → A.guards = some [] → PSs (cxOf CX P W K mg base N qual scope f cdv A outer s H E) body (tSs w (exOf EF E) Φ b)) :
    FnG P W K mg base CX (k + 1) f fd ps (spF w EF (runFn w.T Φ (.body n p b))) := by
  have F0 := F
  obtain ⟨oc, od, dV, kV, doc, pm, an, cdv, ct, osl, rfl, lk, hcd, _, _⟩ := F.ex
  refine ⟨fun z => (body_len z).trans hp, fun {A out s H ar us vs Q E} hr hgd e0 hb r hsp => ?_⟩
  have hl : vs.length = ps.length := (body_len hsp).trans hp
  have kin : K.In s.heap := e0.mod.kin.keeps fun b o e => (e0.bs b o e).1
  have lm : s.heap.NoLimit := e0.mod.nolimit.keeps fun b o e => (e0.bs b o e).1
  have par : ∀ y ∈ ps.zip us, scope.names.lookup y.1 = some .local ∨ (scope.names.lookup y.1 = some .cell ∧ ((cellsFrom (s.heap.objs.size + 1) scope.names []).lookup y.1).isSome = true) := by
    rintro ⟨m, v⟩ hy
    rcases S.par m (List.of_mem_zip hy).1 with q | q
    · exact .inl q
    · exact .inr ⟨q, PySem.W.cellsFrom_some _ _ _ (.inl q)⟩
  refine codeAny_call_function hr.depth (kin _ _ lk) rfl S.co S.gen rfl (PySem.W.codeRec_of kin hcd) (hb _ _ _ _ (wpAny_newFunctionEnv_cells S.kind par fun env he s1 ic => ?_))
  subst he
  refine ⟨lm.keeps ic.toInCall.keep, codeAny_func ?_⟩
  have ht := h cdv A out s H E rfl (hr.deeper _) hgd
  have I := inv_start (CX := CX) (E := E) S hr.hd e0 hl r ic
  have fin : ∀ {σ' : L2.St} {H' : Hp} {v : V} {u : Value} {s' : Shared}, Inv (cxOf CX P W K mg base N qual scope f cdv A out s H E) [] σ' H' s' → RelV v u → Q v H' → CE out P W H s Q u s' := fun J rv q => ⟨_, _, J.os, J.bare, J.base, J.hok, rv, q⟩
  refine wpAny_mono (ht.run [] s1 (start N vs) H _ I (body_in hn hsp)) (fun fl s' hs => ?_) fun e s' z => z
  match fl, hs with
  | .next, ⟨σ', H', J, q⟩ => exact fin (v := V.non) (u := Value.none) J rfl q
  | .ret u, ⟨v, σ', H', J, rv, q⟩ => exact fin J rv q
  | .brk, ⟨_, _, _, q⟩ => exact q.elim
  | .cont, ⟨_, _, _, q⟩ => exact q.elim
/-- what the head tells of a def that makes lambdas -/
structure MkF (K : PySem.W.Frag) (mg : Str → Option Value) (base : Heap) (w : Wd) (x lam : Str) : Prop where
  tb : LamX.TabB base mg (He.cT K (x, none)).1 (He.cT K (x, none)).2
  mem : ((He.cT K (x, none)).2, lam) ∈ w.tb
  uq : ∀ p ∈ w.tb, p.1 = (He.cT K (x, none)).2 → p.2 = lam
theorem mkC_of {lam : Str} {cdv : Value} {A : Around} {outer : List Env} {s : Shared} {H : Hp} {E : XK} (M : MkF K mg base w x lam) (F : FunD K x qual params body scope [] kws (He.ga K x) fd) (hc : fd.code = cdv) (hl : (envOfC qual scope s.heap.objs.size (He.ga K x) cdv).qual ++ "<lambda>" = lam) :
    MkC w (cxOf CX P W K mg base N qual scope (He.ga K x) cdv A outer s H E) := by
  obtain ⟨oc, od, dV, kV, doc, pm, an, cdv', ct, osl, rfl, lk, hcd, _, _⟩ := F.ex
  have hc' : cdv' = cdv := hc
  subst hc'
  obtain ⟨c, rfl⟩ := He.codeIn_ref hcd
  have e : He.codeOf K (x, none) = c := He.codeOf_eq (p := (x, none)) lk rfl
  refine ⟨c, (He.cT K (x, none)).2, ?_, rfl, ?_, fun p hp hpe => ?_⟩
  · have t := M.tb
    rw [show (He.cT K (x, none)).1 = c from e] at t
    exact t
  · show (_, (envOfC qual scope s.heap.objs.size (He.ga K x) (.ref c)).qual ++ "<lambda>") ∈ _
    rw [hl]
    exact M.mem
  · show p.2 = (envOfC qual scope s.heap.objs.size (He.ga K x) (.ref c)).qual ++ "<lambda>"
    rw [hl]
    exact M.uq p hp hpe
theorem mkF_of {tf : List He.Defn} {lams : List Str} {lam : Str} (TB : ∀ p ∈ tf, LamX.TabB base mg (He.cT K p).1 (He.cT K p).2) (nd : (tf.map fun p => (He.cT K p).2).Nodup) (i : Nat) (hx : tf[i]? = some (x, none)) (hl : lams[i]? = some lam) (ht : w.tb = (tf.map fun p => (He.cT K p).2).zip lams) : MkF K mg base w x lam := by
  have e1 : (tf.map fun p => (He.cT K p).2)[i]? = some (He.cT K (x, none)).2 := by rw [List.getElem?_map, hx]; rfl
  refine ⟨TB _ (List.mem_of_getElem? hx), ?_, fun p hp e => ?_⟩
  · rw [ht]
    exact List.mem_of_getElem? (i := i) (by rw [List.getElem?_zip_eq_some]; exact ⟨e1, hl⟩)
  · rw [ht] at hp
    obtain ⟨j, hj⟩ := List.mem_iff_getElem?.mp hp
    rw [List.getElem?_zip_eq_some] at hj
    obtain ⟨j1, j2⟩ := hj
    have hi : i < (tf.map fun p => (He.cT K p).2).length := (List.getElem?_eq_some_iff.mp e1).1
    have hij : i = j := (List.getElem?_inj hi nd).mp (by rw [e1, j1, e])
    rw [← hij, hl] at j2
    exact (Option.some.inj j2).symm
/-! ### levels of defs that take a lambda -/
theorem tl0 {a : Str} {φ : List D → G → Res DV} {sc : Scope} (F : FunD K x x params body sc [] [] f fd) (m : mg x = some (.ref f)) (b : Binds K fd [a] []) (S : FnScope N [a] sc) (hN : N[(0 : Nat)]? = some a) (hv : Vis sc a) (h : ∀ ds g, φ ds g = .stuck) : TL P W K mg base w x a params φ := ⟨f, fd, body, sc, N, F, m, b, S, hN, hv, .inl h⟩
theorem tlS {a : Str} {sc : Scope} {hs : List Cl} (F : FunD K x x params body sc [] [] f fd) (m : mg x = some (.ref f)) (b : Binds K fd [a] []) (S : FnScope N [a] sc) (hN : N[(0 : Nat)]? = some a) (hv : Vis sc a)
    (h : ∀ (X : Cx), X.prog = P → X.w = W → X.K = K → X.mg = mg → X.base = base → X.A.guards = some [] → ∀ (cdg : Value) (q : Str), GivesS X N x sc f cdg body a q (TTf w (runFn w.T Φ (.lam n hs)))) : TL P W K mg base w x a params (runFn w.T Φ (.lam n hs)) :=
  ⟨f, fd, body, sc, N, F, m, b, S, hN, hv, .inr ⟨fun _ => rfl, fun k d g k2 d2 s => lamGo_ne, h⟩⟩
end
end DI

end
section
set_option Elab.async false
set_option linter.all false
set_option maxRecDepth 100000
set_option maxHeartbeats 4000000
/-! LX6: index and count of lists and of plain tuples. Own text. -/
namespace DI
open PySem PySem.Spec PyProof.Rows L2
/-! ### flat data -/
def vD : D → V
  | .non => .non
  | .bl b => .bl b
  | .int i => .int i
  | .str s => .str s
  | _ => .non
section
variable {w : Wd} {dl : Dl} {F : Hp} {c : C}
theorem rep_flat {d : D} {v : V} (f : flatD d = true) (h : RepD w dl F d v) : v = vD d ∧ flatV v = true := by
  cases d <;> first | (cases h; exact ⟨rfl, rfl⟩) | (simp [flatD] at f)
theorem rep_flats : ∀ {ds : List D} {vs : List V}, ds.all flatD = true → RepAll w dl F ds vs → vs = ds.map vD ∧ vs.all flatV = true
  | [], vs, _, h => by
    rw [show vs = [] from h]
    exact ⟨rfl, rfl⟩
  | d :: ds, vs, f, ⟨v, r, h1, h2, h3⟩ => by
    have f' : (flatD d && ds.all flatD) = true := f
    rw [Bool.and_eq_true] at f'
    obtain ⟨e1, q1⟩ := rep_flat f'.1 h2
    obtain ⟨e2, q2⟩ := rep_flats f'.2 h3
    rw [h1, e1, e2]
    rw [e1] at q1
    rw [e2] at q2
    exact ⟨rfl, by rw [List.all_cons, q1, q2]; rfl⟩
theorem eqF_V {a b : D} (fa : flatD a = true) (fb : flatD b = true) : eqV (vD a) (vD b) = eqF a b := by
  cases a <;> cases b <;> first | rfl | (simp [flatD] at fa; done) | (simp [flatD] at fb; done)
theorem idxF_ok {x : D} (fx : flatD x = true) : ∀ {ds : List D} {k j : Nat}, ds.all flatD = true → idxF x ds k = some j → ∃ m z, j = k + m ∧ ds[m]? = some z ∧ eqF z x = true ∧ ∀ (i : Nat) z', i < m → ds[i]? = some z' → eqF z' x = false
  | [], _, _, _, h => by cases h
  | d :: ds, k, j, f, h => by
    have f' : (flatD d && ds.all flatD) = true := f
    rw [Bool.and_eq_true] at f'
    unfold idxF at h
    by_cases hd : eqF d x = true
    · rw [if_pos hd] at h
      cases h
      exact ⟨0, d, rfl, rfl, hd, fun i z' hi => absurd hi (Nat.not_lt_zero _)⟩
    · rw [if_neg hd] at h
      obtain ⟨m, z, e1, e2, e3, e4⟩ := idxF_ok fx f'.2 h
      refine ⟨m + 1, z, by omega, by simpa using e2, e3, fun i z' hi hz => ?_⟩
      cases i with
      | zero =>
        simp at hz
        rw [← hz]
        simpa using hd
      | succ i => exact e4 i z' (by omega) (by simpa using hz)
end
/-! ### the methods -/
section
variable {X : Cx}
/-- t.index(x), the items flat -/
def rTIdx (H : Hp) (a : Addr) (ys : List V) (y : V) (Q : VK) : Prop := ∃ (j : Nat) (z : V), flatV y = true ∧ ys.all flatV = true ∧ ys[j]? = some z ∧ eqV z y = true ∧ (∀ (m : Nat) (z' : V), m < j → ys[m]? = some z' → eqV z' y = false) ∧ Q (.int (j : Nat)) H
theorem eqU_V {x y : V} {u : Value} (r : RelV y u) (f : flatV y = true) : eqU x u = eqV y x := eqU_of r f
theorem countP_V {x : V} : ∀ {xs : List V} {us : List Value}, Vals xs us → xs.all flatV = true → us.countP (eqU x) = xs.countP fun y => eqV y x
  | _, _, .nil, _ => rfl
  | y :: xs, u :: us, .cons r t, f => by
    rw [List.all_cons, Bool.and_eq_true] at f
    rw [List.countP_cons, List.countP_cons, countP_V t f.2, eqU_V r f.1]
/-- the reading of a plain tuple's method -/
inductive MR where | idx | cnt
def mrQ : MR → List V → V → Hp → VK → Prop
  | .idx, ys, y, H, Q => ∃ (j : Nat) (z : V), ys[j]? = some z ∧ eqV z y = true ∧ (∀ (m : Nat) (z' : V), m < j → ys[m]? = some z' → eqV z' y = false) ∧ Q (.int (j : Nat)) H
  | .cnt, ys, y, H, Q => Q (.int (ys.countP fun z => eqV z y : Nat)) H
def mrN : MR → Str
  | .idx => "index"
  | .cnt => "count"
def mrZ (m : MR) (a : Addr) (ys : List V) (o : Obj) (Q : VK) : List V → Hp → Prop := fun us H2 => ∃ y, us = [y] ∧ H2 a = some (.frz o (.tup ys)) ∧ flatV y = true ∧ ys.all flatV = true ∧ mrQ m ys y H2 Q
/-- o.index(x), o.count(x), o a plain tuple -/
def tPM (m : MR) (to te : TE) : TE := fun σ H Q => to σ H fun x H1 => ∃ (a : Addr) (ys : List V) (o : Obj), x = .ref a ∧ H1 a = some (.frz o (.tup ys)) ∧ o.dict = none ∧ te σ H1 fun y H2 => mrZ m a ys o Q [y] H2
theorem pe_pm (m : MR) {o e : Expr} {apos cpos : Pos} {to te : TE} (ho : PE X o to) (he : PE X e te) (hbase : attributeBase o (mrN m) X.env (eval o X.env) = eval o X.env) (hline : (apos.endLine == cpos.line) = true)
    (hs : starEach [e] X.env = (false, eval e X.env) :: starEach [] X.env) : PE X (.Call (.Attribute o (mrN m) apos) [e] [] cpos) (tPM m to te) := ⟨fun pins s σ H Q I h => by
  refine wpAny_Call_method_late hbase (few1 hs) hline rfl (thn (ho.run pins s σ H _ I h) fun v s1 z => ?_)
  obtain ⟨x, H1, I1, r1, a, ys, ob, rfl, hH, hd, q1⟩ := z
  have ev : v = Value.ref a := r1
  subst ev
  have plain : ∀ {s' : Shared} {σ' : L2.St} {H' : Hp} {pins' : List (Addr × Obj)}, Inv X pins' σ' H' s' → H' a = some (.frz ob (.tup ys)) → ∃ its : List Value, Vals ys its ∧ ys.length ≤ sizeLine ∧ ∃ n sl, s'.heap.get? a = some { cls := .type "tuple", dict := none, data := .seq its.toArray n, slots := sl } := by
    intro s' σ' H' pins' I' hH'
    obtain ⟨e1, hz, its, rv, oo, e2, hc, n, hdt⟩ := I'.hok a _ hH'
    rw [e1] at e2
    cases e2
    obtain ⟨oc, od, dt, sl⟩ := ob
    have h1 : oc = .type "tuple" := hc
    have h2 : dt = .seq its.toArray n := hdt
    have h3 : od = none := hd
    subst h1 h2 h3
    exact ⟨its, rv, hz, n, sl, e1⟩
  obtain ⟨its, rv, hz, n, sl, ho1⟩ := plain I1 hH
  have hA := (pa_cons he pa_nil hs).run cpos pins s1 σ H1 (mrZ m a ys ob Q) I1 q1
  have tI : s1.TypeIs (.ref a) "tuple" := ⟨_, ho1, rfl⟩
  have nd : ∀ b, Value.ref a = .ref b → ∃ ob, s1.heap.get? b = some ob ∧ ob.dict = none := fun b e => by
    cases e
    exact ⟨_, ho1, rfl⟩
  rw [hs] at hA ⊢
  cases m with
  | idx =>
    refine ⟨"tuple", "tuple.index", PySem.F.plainAttrs_tuple, PySem.F.slot_tuple_index, PySem.F.type_tuple_index, tI, nd, ?_⟩
    refine Calls.callWith_builtin (by rfl) (Calls.evalArgs_plain (thn hA fun us s2 z => ?_))
    obtain ⟨vs, H2, I2, r2, y, rfl, hH2, fy, fys, j, z, hz1, hz2, hno, q⟩ := z
    obtain ⟨uy, rfl, ry⟩ := vals1 r2
    obtain ⟨its2, rv2, hz2', n2, sl2, ho2⟩ := plain I2 hH2
    have hl := rv2.length
    have hj : j < its2.toArray.size := by
      have h1 := (List.getElem?_eq_some_iff.mp hz1).1
      rw [List.size_toArray, ← hl]
      exact h1
    refine call_meets PySem.F.slot_tuple_index ⟨_, ho2, rfl⟩ PySem.F.entry_tuple_index (PySem.F.args_tuple_index_2 _ _) (TI.tuple_indexAt a its2.toArray n2 none sl2 uy (eqU y) j hj ?_ ?_) ⟨ho2, fun u' hu' => mem_eqAt ry fy rv2 fys u' (by simpa using hu'), ⟨.int (j : Nat), H2, I2.tok _, ⟨_, rfl⟩, q⟩⟩
    · obtain ⟨u, hu, ru⟩ := rv2.get hz1
      have e1 : its2.toArray[j] = u := by simpa using (List.getElem?_eq_some_iff.mp hu).2
      rw [e1, eqU_of ru (flat_at fys hz1)]
      exact hz2
    · intro m hm hmj
      have hml : m < ys.length := by rw [hl]; simpa using hm
      have hy' : ys[m]? = some ys[m] := List.getElem?_eq_getElem hml
      obtain ⟨u, hu, ru⟩ := rv2.get hy'
      have e1 : its2.toArray[m] = u := by simpa using (List.getElem?_eq_some_iff.mp hu).2
      rw [e1, eqU_of ru (flat_at fys hy')]
      exact hno m _ hmj hy'
  | cnt =>
    refine ⟨"tuple", "tuple.count", PySem.F.plainAttrs_tuple, PySem.F.slot_tuple_count, PySem.F.type_tuple_count, tI, nd, ?_⟩
    refine Calls.callWith_builtin (by rfl) (Calls.evalArgs_plain (thn hA fun us s2 z => ?_))
    obtain ⟨vs, H2, I2, r2, y, rfl, hH2, fy, fys, q⟩ := z
    obtain ⟨uy, rfl, ry⟩ := vals1 r2
    obtain ⟨its2, rv2, hz2', n2, sl2, ho2⟩ := plain I2 hH2
    have q' : Q (.int (ys.countP fun z => eqV z y : Nat)) H2 := q
    rw [← countP_V rv2 fys] at q'
    exact call_meets PySem.F.slot_tuple_count ⟨_, ho2, rfl⟩ PySem.F.entry_tuple_count (PySem.F.args_tuple_count_2 _ _) (SeqAt.tuple_countAt a its2.toArray n2 none sl2 uy (eqU y)) ⟨ho2, fun u' hu' => mem_eqAt ry fy rv2 fys u' (by simpa using hu'), ⟨.int _, H2, I2.tok _, ⟨_, rfl⟩, q'⟩⟩⟩
end
section
variable {X : Cx}
/-- xs.count(x), the items flat -/
def rCntF (K : PySem.W.Frag) : V → List V → Hp → VK → Prop := fun x xs H Q => ∃ (a : Addr) (ys : List V) (y : V), x = V.ref a ∧ xs = [y] ∧ SqL K H a ys ∧ flatV y = true ∧ ys.all flatV = true ∧ Q (.int (ys.countP fun z => eqV z y : Nat)) H
theorem mt_lcntF : MtR X "list.count" (rCntF X.K) := by
  intro pins s σ H x xs v us Q I rx rxs h
  obtain ⟨a, ys, y, rfl, rfl, hs, fy, fys, q⟩ := h
  cases rx
  obtain ⟨uy, rfl, ry⟩ := vals1 rxs
  obtain ⟨its, rv, ⟨⟨cls, dd, data, sl⟩, n, ho, hc, hdn, hd⟩, hlen⟩ := I.list hs
  simp only at hc hd
  subst hc hd
  rw [← countP_V rv fys] at q
  exact call_meets PySem.F.slot_list_count ⟨_, ho, rfl⟩ PySem.F.entry_list_count (PySem.F.args_list_count_2 _ _) (SeqAt.list_countAt a its.toArray n dd sl uy (eqU y)) ⟨ho, fun u' hu' => mem_eqAt ry fy rv fys u' (by simpa using hu'), ⟨.int _, H, I.tok _, ⟨_, rfl⟩, q⟩⟩
/-- tuple(xs), the tuple plain -/
theorem call_tuple_pl : CallR X (.type "tuple") (fun xs H Q => ∃ p ys, xs = [.ref p] ∧ SqL X.K H p ys ∧ ∀ l o, H l = none → o.dict = none → Q (.ref l) (upd H l (.frz o (.tup ys)))) := by
  intro pins s σ H xs us Q I r h
  obtain ⟨p, ys, rfl, hq, q⟩ := h
  obtain ⟨u, rfl, rx⟩ := vals1 r
  cases rx
  obtain ⟨its, rv, pl, hz⟩ := I.list hq
  have hlen := rv.length
  refine call_tuple_list pl.isList (fun h2 kp => ?_) (by simp only [List.size_toArray]; omega)
  have I1 : Inv X pins σ H { s with heap := h2 } := I.kept (t' := s.toks) kp
  have new : (h2.push { cls := .type "tuple", data := .seq its.toArray }).get? h2.objs.size = some { cls := .type "tuple", data := .seq its.toArray } := Heap.get?_push_size _ rfl
  have I2 := I1.laid (t' := s.toks) (o := .frz { cls := .type "tuple", data := .seq its.toArray } (.tup ys)) (h' := h2.push { cls := .type "tuple", data := .seq its.toArray }) (fun b o e => Heap.get?_push_of_some _ e) (Nat.le_refl _) ⟨new, hz, its, rv, IsTup.new _ _⟩
  exact ⟨.ref h2.objs.size, _, I2, rfl, q _ _ (I1.hok.fresh (Nat.le_refl _)) rfl⟩
end
/-! ### over data -/
section
variable {w : Wd} {Ex : Nat → D → C → Prop} {Φ : Fns} {X : Cx} {x y : Expr} {a b : E} {p pos apos : Pos}
theorem q_tpl (g : Gx w X) (f : Fr X "tuple") (ha : PE X x (tE w Ex Φ a)) (hg : Gl X "tuple" := by rfl) (hst : starEach [x] X.env = (false, eval x X.env) :: starEach [] X.env := by rfl) (hpl : (backTo pos (starEach [] X.env)).any (·.1) = false := by rfl) :
    PE X (.Call (.Name "tuple" p) [x] [] pos) (tE w Ex Φ (.tpl a)) := (pe_callTy call_tuple_pl hg f rfl (pa_cons ha pa_nil hst) (by decide) (by decide) hst hpl).imp fun σ H Q h => by
  obtain ⟨c, rfl, rfl, r, h⟩ := tE_in h
  refine tE_seq h (SStep.refl c) r fun c2 v dv r2 x2 x02 hσ rel fr fr0 h2 => ?_
  obtain ⟨d, l, h3⟩ := h2.look r2 rel
  cases d with
  | lst xs =>
    obtain ⟨q, us, rfl, s1, rep⟩ := l.seqL
    refine ⟨q, us, rfl, by rw [g.hK]; exact s1, fun l' o hn hd => ?_⟩
    obtain ⟨r', x'⟩ := r2.layF hn (.frz o (.tup us))
    have le : Le c2.F (upd c2.F l' (.frz o (.tup us))) := le_upd (r2.noF hn)
    exact Aft.fin (c := { c2 with H := upd c2.H l' (.frz o (.tup us)), F := upd c2.F l' (.frz o (.tup us)) }) h3 (x02.trans x') r' ⟨l', us, o, rfl, upd_same, hd, RepAll.mono le (DlLe.refl _) xs us rep⟩ trivial
  | _ => exact h3.elim
theorem countF {xs : List D} {d : D} (f : xs.all flatD = true) (fd : flatD d = true) : (xs.map vD).countP (fun z => eqV z (vD d)) = xs.countP fun z => eqF z d := by
  induction xs with
  | nil => rfl
  | cons z zs ih =>
    have f' : (flatD z && zs.all flatD) = true := f
    rw [Bool.and_eq_true] at f'
    rw [List.map_cons, List.countP_cons, List.countP_cons, ih f'.2, eqF_V f'.1 fd]
theorem mbD_ok {m : MB} {xs : List D} {d e : D} (h : mbD m xs d = some e) : xs.all flatD = true ∧ flatD d = true ∧ (((m = .lidx ∨ m = .tidx) ∧ ∃ (j : Nat) (z : D), e = .int j ∧ xs[j]? = some z ∧ eqF z d = true ∧ ∀ (i : Nat) z', i < j → xs[i]? = some z' → eqF z' d = false) ∨ ((m = .lcnt ∨ m = .tcnt) ∧ e = .int (xs.countP fun z => eqF z d))) := by
  unfold mbD at h
  split at h
  · rename_i hf
    rw [Bool.and_eq_true] at hf
    refine ⟨hf.1, hf.2, ?_⟩
    have key : ∀ {k : Nat}, idxF d xs 0 = some k → ∃ (z : D), xs[k]? = some z ∧ eqF z d = true ∧ ∀ (i : Nat) z', i < k → xs[i]? = some z' → eqF z' d = false := fun {k} hk => by
      obtain ⟨m, z, e1, e2, e3, e4⟩ := idxF_ok hf.2 hf.1 hk
      have : k = m := by omega
      subst this
      exact ⟨z, e2, e3, e4⟩
    cases m with
    | lidx =>
      obtain ⟨k, hk, rfl⟩ := Option.map_eq_some_iff.mp h
      obtain ⟨z, hz⟩ := key hk
      exact .inl ⟨.inl rfl, k, z, rfl, hz⟩
    | tidx =>
      obtain ⟨k, hk, rfl⟩ := Option.map_eq_some_iff.mp h
      obtain ⟨z, hz⟩ := key hk
      exact .inl ⟨.inr rfl, k, z, rfl, hz⟩
    | lcnt => cases h; exact .inr ⟨.inl rfl, rfl⟩
    | tcnt => cases h; exact .inr ⟨.inr rfl, rfl⟩
  · cases h
theorem idx_V {xs : List D} {vs : List V} {d z : D} {j : Nat} (hf : xs.all flatD = true) (fd : flatD d = true) (hv : vs = xs.map vD) (hz : xs[j]? = some z) (he : eqF z d = true) (hn : ∀ (i : Nat) z', i < j → xs[i]? = some z' → eqF z' d = false) :
    ∃ z2, vs[j]? = some z2 ∧ eqV z2 (vD d) = true ∧ ∀ (m : Nat) (z' : V), m < j → vs[m]? = some z' → eqV z' (vD d) = false := by
  subst hv
  have fl : ∀ {i : Nat} {z : D}, xs[i]? = some z → flatD z = true := fun {i z} e => List.all_eq_true.mp hf z (List.mem_of_getElem? e)
  refine ⟨vD z, by rw [List.getElem?_map, hz]; rfl, by rw [eqF_V (fl hz) fd]; exact he, fun m z' hm e => ?_⟩
  rw [List.getElem?_map] at e
  obtain ⟨y, e1, rfl⟩ := Option.map_eq_some_iff.mp e
  rw [eqF_V (fl e1) fd]
  exact hn m y hm e1
/-- a plain tuple's method -/
theorem j_mbT {m : MB} {mr : MR} (hm : (mr = .idx ∧ m = .tidx) ∨ (mr = .cnt ∧ m = .tcnt)) (ha : PE X x (tE w Ex Φ a)) (hb : PE X y (tE w Ex Φ b)) (hbase : attributeBase x (mrN mr) X.env (eval x X.env) = eval x X.env) (hline : (apos.endLine == pos.line) = true)
    (hs : starEach [y] X.env = (false, eval y X.env) :: starEach [] X.env) : PE X (.Call (.Attribute x (mrN mr) apos) [y] [] pos) (tE w Ex Φ (.mb m a b)) := (pe_pm mr ha hb hbase hline hs).imp fun σ H Q h => by
  obtain ⟨c, rfl, rfl, r, h⟩ := tE_in h
  refine tE_seq h (SStep.refl c) r fun c2 v dv r2 x2 x02 hσ rel fr fr0 h2 => ?_
  have no : ∀ {d : D}, mbL m d = none := fun {d} => by
    unfold mbL
    cases d <;> first | rfl | (rcases hm with ⟨_, rfl⟩ | ⟨_, rfl⟩ <;> rfl)
  have none_ : ∀ {dv : DV}, Aft w Ex c (bnd (look dv) (fun d0 => bnd (opt (mbL m d0)) fun _ => bnd (evE w.T Φ b) fun y => bnd (look dv) fun dx => bnd (look y) fun dy => bnd (opt (mbL m dx)) fun xs => bnd (opt (mbD m xs dy)) fun d => ret (.f d)) c2.s) (Fin w c Q) → Rel w c2 v dv → False := fun {dv} h rel => by
    obtain ⟨d, _, h3⟩ := h.look r2 rel
    obtain ⟨_, e, _⟩ := h3.opt
    rw [no] at e
    cases e
  cases dv with
  | f d => exact (none_ h2 rel).elim
  | o d => exact (none_ h2 rel).elim
  | b i => exact (none_ h2 rel).elim
  | n k d => exact (none_ h2 rel).elim
  | p xs =>
    obtain ⟨_, h3⟩ := Aft.if_ h2
    obtain ⟨a1, vs, o, rfl, hF, hd, rep⟩ := rel
    refine ⟨a1, vs, o, rfl, r2.sub _ _ hF, hd, ?_⟩
    rw [← hσ]
    refine tE_seq h3 x02 r2 fun c3 v2 dv2 r3 x3 x03 hσ3 rel3 fr3 fr03 h4 => ?_
    obtain ⟨dy, l, h5⟩ := h4.look r3 rel3
    obtain ⟨e, he, h6⟩ := h5.opt
    obtain ⟨f1, f2, hc⟩ := mbD_ok he
    obtain ⟨ev, fv⟩ := rep_flats f1 rep
    have lv : v2 = vD dy ∧ flatV v2 = true := rep_flat f2 (by cases dy <;> first | exact l | (simp [flatD] at f2))
    obtain ⟨rfl, fv2⟩ := lv
    refine ⟨_, rfl, r3.sub _ _ (x3.mono _ _ hF), fv2, fv, ?_⟩
    rcases hm with ⟨rfl, rfl⟩ | ⟨rfl, rfl⟩
    · rcases hc with ⟨_, j, z, rfl, hz, hz2, hz3⟩ | ⟨z, _⟩
      · obtain ⟨z2, q1, q2, q3⟩ := idx_V f1 f2 ev hz hz2 hz3
        exact ⟨j, z2, q1, q2, q3, h6.fin x03 r3 rfl trivial⟩
      · rcases z with z | z <;> cases z
    · rcases hc with ⟨z, _⟩ | ⟨_, rfl⟩
      · rcases z with z | z <;> cases z
      · show Q (.int (vs.countP fun z => eqV z (vD dy) : Nat)) c3.H
        rw [ev, countF f1 f2]
        exact h6.fin x03 r3 rfl trivial
theorem q_tidx (ha : PE X x (tE w Ex Φ a)) (hb : PE X y (tE w Ex Φ b)) (hbase : attributeBase x "index" X.env (eval x X.env) = eval x X.env := by rfl) (hline : (apos.endLine == pos.line) = true := by rfl) (hs : starEach [y] X.env = (false, eval y X.env) :: starEach [] X.env := by rfl) :
    PE X (.Call (.Attribute x "index" apos) [y] [] pos) (tE w Ex Φ (.mb .tidx a b)) := j_mbT (mr := .idx) (.inl ⟨rfl, rfl⟩) ha hb hbase hline hs
theorem q_tcnt (ha : PE X x (tE w Ex Φ a)) (hb : PE X y (tE w Ex Φ b)) (hbase : attributeBase x "count" X.env (eval x X.env) = eval x X.env := by rfl) (hline : (apos.endLine == pos.line) = true := by rfl) (hs : starEach [y] X.env = (false, eval y X.env) :: starEach [] X.env := by rfl) :
    PE X (.Call (.Attribute x "count" apos) [y] [] pos) (tE w Ex Φ (.mb .tcnt a b)) := j_mbT (mr := .cnt) (.inr ⟨rfl, rfl⟩) ha hb hbase hline hs
/-- a list's method -/
theorem mb_list {m : MB} {r : V → List V → Hp → VK → Prop} (hm : m = .lidx ∨ m = .lcnt) (hr : ∀ {c c3 : C} {Q : VK} {xs : List D} {dy e : D} {q : Addr} {us : List V}, R w c3 → SStep c c3 → SqL w.K c3.H q us → us = xs.map vD → us.all flatV = true → xs.all flatD = true → flatD dy = true → mbD m xs dy = some e → Aft w Ex c (ret (.f e) c3.s) (Fin w c Q) → r (.ref q) [vD dy] c3.H Q)
    (hK : X.K = w.K) {σ : L2.St} {H : Hp} {Q : VK} (h : tE w Ex Φ (.mb m a b) σ H Q) : tBM X.K "list" r (tE w Ex Φ a) (tCons (tE w Ex Φ b) tNil) σ H Q := by
  obtain ⟨c, rfl, rfl, rr, h⟩ := tE_in h
  refine tE_seq h (SStep.refl c) rr fun c2 v dv r2 x2 x02 hσ rel fr fr0 h2 => ?_
  have go : ∀ {dv : DV}, Aft w Ex c (bnd (look dv) (fun d0 => bnd (opt (mbL m d0)) fun _ => bnd (evE w.T Φ b) fun y => bnd (look dv) fun dx => bnd (look y) fun dy => bnd (opt (mbL m dx)) fun xs => bnd (opt (mbD m xs dy)) fun d => ret (.f d)) c2.s) (Fin w c Q) → Rel w c2 v dv →
      tyV X.K "list" v c2.H ∧ tCons (tE w Ex Φ b) tNil c.σ c2.H fun xs H2 => r v xs H2 Q := fun {dv} h rel => by
    obtain ⟨d, l, h3⟩ := h.look r2 rel
    obtain ⟨_, e, h4⟩ := h3.opt
    have hl : ∃ ds, d = .lst ds := by
      cases d with
      | lst ds => exact ⟨ds, rfl⟩
      | _ => cases e
    obtain ⟨ds, rfl⟩ := hl
    obtain ⟨q, us, rfl, s1, rep⟩ := l.seqL
    refine ⟨.inl ⟨rfl, us, by rw [hK]; exact s1⟩, ?_⟩
    show tE w Ex Φ b c.σ c2.H fun y H2 => r (.ref q) [y] H2 Q
    rw [← hσ]
    refine tE_seq h4 x02 r2 fun c3 v2 dv2 r3 x3 x03 hσ3 rel3 fr3 fr03 h5 => ?_
    obtain ⟨dx, lx, h6⟩ := h5.look r3 (rel.step x3)
    obtain ⟨dy, ly, h7⟩ := h6.look r3 rel3
    obtain ⟨xs, ex, h8⟩ := h7.opt
    obtain ⟨e2, he, h9⟩ := h8.opt
    have hl2 : dx = .lst xs := by
      cases dx with
      | lst ds =>
        unfold mbL at ex
        dsimp only at ex
        rw [if_pos hm] at ex
        rw [Option.some.inj ex]
      | _ => cases ex
    subst hl2
    obtain ⟨q3, us3, e3, s3, rep3⟩ := lx.seqL
    cases e3
    obtain ⟨f1, f2, _⟩ := mbD_ok he
    obtain ⟨ev, fv⟩ := rep_flats f1 rep3
    have lv : v2 = vD dy ∧ flatV v2 = true := rep_flat f2 (by cases dy <;> first | exact ly | (simp [flatD] at f2))
    obtain ⟨rfl, fv2⟩ := lv
    exact hr r3 x03 s3 ev fv f1 f2 he h9
  cases dv with
  | f d => exact go h2 rel
  | o d => exact go h2 rel
  | b i => exact go h2 rel
  | n k d => exact go h2 rel
  | p xs =>
    obtain ⟨z, _⟩ := Aft.if_ h2
    rcases hm with rfl | rfl <;> rcases z with z | z <;> cases z
theorem flat_vD {d : D} (f : flatD d = true) : flatV (vD d) = true := by
  cases d <;> first | rfl | (simp [flatD] at f)
theorem q_lidx (g : Gx w X) (ha : PE X x (tE w Ex Φ a)) (hb : PE X y (tE w Ex Φ b)) (hbase : attributeBase x "index" X.env (eval x X.env) = eval x X.env := by rfl) (hline : (apos.endLine == pos.line) = true := by rfl) (hs : starEach [y] X.env = (false, eval y X.env) :: starEach [] X.env := by rfl) :
    PE X (.Call (.Attribute x "index" apos) [y] [] pos) (tE w Ex Φ (.mb .lidx a b)) :=
  (pe_bm PySem.F.plainAttrs_list PySem.F.slot_list_index PySem.F.type_list_index mt_index ha (pa_cons hb pa_nil hs) hbase (few1 hs) hline hs (by rfl)).imp fun σ H Q h =>
    mb_list (.inl rfl) (fun {c c3 Q xs dy e q us} r3 x3 s3 ev fv f1 f2 he h9 => by
      obtain ⟨_, _, hc⟩ := mbD_ok he
      rcases hc with ⟨_, j, z, rfl, hz, hz2, hz3⟩ | ⟨z, _⟩
      · obtain ⟨z2, q1, q2, q3⟩ := idx_V f1 f2 ev hz hz2 hz3
        exact ⟨q, us, vD dy, j, z2, rfl, rfl, by rw [g.hK]; exact s3, flat_vD f2, fv, q1, q2, q3, h9.fin x3 r3 rfl trivial⟩
      · rcases z with z | z <;> cases z) g.hK h
theorem q_lcnt (g : Gx w X) (ha : PE X x (tE w Ex Φ a)) (hb : PE X y (tE w Ex Φ b)) (hbase : attributeBase x "count" X.env (eval x X.env) = eval x X.env := by rfl) (hline : (apos.endLine == pos.line) = true := by rfl) (hs : starEach [y] X.env = (false, eval y X.env) :: starEach [] X.env := by rfl) :
    PE X (.Call (.Attribute x "count" apos) [y] [] pos) (tE w Ex Φ (.mb .lcnt a b)) :=
  (pe_bm PySem.F.plainAttrs_list PySem.F.slot_list_count PySem.F.type_list_count mt_lcntF ha (pa_cons hb pa_nil hs) hbase (few1 hs) hline hs (by rfl)).imp fun σ H Q h =>
    mb_list (.inr rfl) (fun {c c3 Q xs dy e q us} r3 x3 s3 ev fv f1 f2 he h9 => by
      obtain ⟨_, _, hc⟩ := mbD_ok he
      rcases hc with ⟨z, _⟩ | ⟨_, rfl⟩
      · rcases z with z | z <;> cases z
      · refine ⟨q, us, vD dy, rfl, rfl, by rw [g.hK]; exact s3, flat_vD f2, fv, ?_⟩
        rw [ev, countF f1 f2]
        exact h9.fin x3 r3 rfl trivial) g.hK h
end
end DI

end
section
set_option Elab.async false
set_option linter.all false
set_option maxRecDepth 100000
set_option maxHeartbeats 4000000
namespace LK
open PySem (Str)
open DI
/-! ### the defs as data -/
def flds : List Str := ["commands", "states", "steps", "machine", "start", "answers", "reorderings", "_entered", "_row", "_past", "log"]
def tab : Tab := ⟨fun c => ([] : List (List Nat)).getD c []⟩
/-- is_integer -/
def b0 : List Sm := [.ret (.and (.isI (.var 0) .int) (.not (.isI (.var 0) .bool)))]
/-- is_number -/
def b1 : List Sm := [.ret (.and (.call 0 [(.var 0)]) (.cmp .ge (.var 0) (.int 0)))]
/-- is_index -/
def b2 : List Sm := [.ret (.and (.call 1 [(.var 0)]) (.cmp .lt (.var 0) (.var 1)))]
/-- is_sequence -/
def b3 : List Sm := [.ret (.isI (.var 0) .seq)]
/-- Machine -/
def b4 : List Sm := [.ifs (.or (.not (.call 0 [(.var 1)])) (.cmp .lt (.var 1) (.int 1))) [.raise 1 (.int 0)] [],
  .ifs (.or (.not (.call 3 [(.var 2)])) (.cmp .eq (.blt .len [(.var 2)]) (.int 0))) [.raise 1 (.int 1)] [],
  .set 3 (.blt .len [(.var 2)]),
  .for (.tp [(.nm 4), (.nm 5)]) .enum (.var 2) .nop [.ifs (.or (.not (.call 3 [(.var 5)])) (.or (.cmp .ne (.blt .len [(.var 5)]) (.var 1)) (.not (.blt .all [(.lc [6] (.nm 6) .val (.var 5) .nop .nop (.call 2 [(.var 6), (.var 3)]))])))) [.raise 1 (.bin .add (.int 2) (.var 4))] []],
  .fset 0 (.var 1),
  .fset 1 (.var 3),
  .fset 2 (.blt .tuple [(.lc [5] (.nm 5) .val (.var 2) .nop .nop (.blt .tuple [(.var 5)]))])]
/-- _law_after -/
def b5 : List Sm := [.ret (.blt .tuple [(.lc [2] (.nm 2) .val (.var 0) .nop .nop (.ix (.var 1) (.var 2)))])]
/-- _law_column -/
def b7 : List Sm := [.ret (.blt .tuple [(.lc [2] (.nm 2) .val (.var 0) .nop .nop (.ix (.var 2) (.var 1)))])]
/-- _law_end -/
def b9 : List Sm := [.for (.nm 3) .val (.var 2) .nop [.set 1 (.ix (.ix (.var 0) (.var 1)) (.var 3))],
  .ret (.var 1)]
/-- _law_effect -/
def b10 : List Sm := [.ret (.blt .tuple [(.lc [2] (.nm 2) .rng (.int 0) (.blt .len [(.var 0)]) .nop (.call 9 [(.var 0), (.var 2), (.var 1)]))])]
/-- _law_of -/
def b11 : List Sm := [.ret (.ix (.var 1) (.call 6 [(.var 0), (.blt .len [(.var 1)])]))]
/-- _law_mixed -/
def b12 : List Sm := [.par [.nm 2, .nm 3] [(.blt .list [(.var 1)]), (.lst [])],
  .while (.cmp .ne (.var 2) (.lst [])) [.expr (.append 3 (.popAt 2 (.call 6 [(.var 0), (.blt .len [(.var 2)])])))],
  .ret (.var 3)]
/-- _law_named -/
def b13 : List Sm := [.par [.nm 2, .nm 3] [(.call 12 [(.var 0), (.lrg .nop (.blt .len [(.var 1)]))]), (.lc [5] (.nm 5) .val (.var 1) .nop .nop (.lst []))],
  .for (.tp [(.nm 4), (.nm 5)]) .enum (.var 1) .nop [.setIx 3 (.ix (.var 2) (.var 4)) (.lc [6] (.nm 6) .val (.var 5) .nop .nop (.ix (.var 2) (.var 6)))],
  .ret (.var 3)]
/-- _law_wheel -/
def b14 : List Sm := [.set 4 (.lst []),
  .for (.nm 5) .rng (.int 0) (.var 1) [.for (.nm 6) .rng (.int 0) (.var 2) [.set 7 (.lc [8] (.nm 8) .val (.var 0) .nop .nop (.ite (.cmp .eq (.var 5) (.int 0)) (.var 8) (.int 0))),
  .expr (.append 4 (.lc [8] (.nm 8) .val (.var 7) .nop .nop (.bin .add (.bin .add (.var 3) (.bin .mul (.bin .mod (.blt .int [(.bin .add (.var 5) (.int 1))]) (.var 1)) (.var 2))) (.bin .mod (.blt .int [(.bin .add (.var 6) (.var 8))]) (.var 2)))))]],
  .ret (.var 4)]
/-- _law_reversible -/
def b15 : List Sm := [.par [.nm 1, .nm 2, .nm 3] [(.call 6 [(.var 0), (.int 4)]), (.call 11 [(.var 0), (.lst [(.int 2), (.int 2), (.int 3), (.int 1), (.int 3)])]), (.lst [])],
  .ifs (.cmp .eq (.var 1) (.int 0)) [.unp [(.nm 7), (.nm 8)] (.call 11 [(.var 0), (.lst [(.tup [(.int 1), (.int 2)]), (.tup [(.int 2), (.int 2)]), (.tup [(.int 3), (.int 2)]), (.tup [(.int 4), (.int 2)]), (.tup [(.int 1), (.int 3)]), (.tup [(.int 2), (.int 3)])])]),
  .ret (.tup [(.var 2), (.call 13 [(.var 0), (.call 14 [(.lc [13] (.nm 13) .rng (.int 0) (.var 2) .nop (.call 6 [(.var 0), (.var 8)])), (.var 7), (.var 8), (.int 0)])])])] [],
  .set 4 (.bin .add (.int 1) (.call 6 [(.var 0), (.int 6)])),
  .set 5 (.call 12 [(.var 0), (.lrg .nop (.var 4))]),
  .for (.nm 6) .rng (.int 0) (.var 2) [.set 9 (.ite (.cmp .eq (.var 1) (.int 1)) (.call 12 [(.var 0), (.lrg .nop (.var 4))]) (.var 5)),
  .ifs (.cmp .eq (.var 1) (.int 2)) [.set 10 (.call 6 [(.var 0), (.var 4)]),
  .set 9 (.lc [12] (.nm 12) .rng (.int 0) (.var 4) .nop (.bin .mod (.blt .int [(.bin .add (.var 12) (.var 10))]) (.var 4)))] [],
  .ifs (.cmp .eq (.var 1) (.int 3)) [.for (.nm 11) .rng (.int 0) (.call 6 [(.var 0), (.int 4)]) [.set 9 (.lc [12] (.nm 12) .val (.var 9) .nop .nop (.ix (.var 5) (.var 12)))]] [],
  .expr (.append 3 (.var 9))],
  .ret (.tup [(.var 2), (.lc [12] (.nm 12) .rng (.int 0) (.var 4) .nop (.lc [9] (.nm 9) .val (.var 3) .nop .nop (.ix (.var 9) (.var 12))))])]
/-- _law_row -/
def b16 : List Sm := [.ret (.blt .tuple [(.lc [3] (.nm 3) .rng (.int 0) (.var 2) .nop (.call 6 [(.var 0), (.var 1)]))])]
/-- _law_order -/
def b17 : List Sm := [.par [.nm 1, .nm 2] [(.int 1), (.var 0)],
  .while (.cmp .ne (.var 2) (.trg .nop (.blt .len [(.var 0)]))) [.par [.nm 1, .nm 2] [(.bin .add (.var 1) (.int 1)), (.call 5 [(.var 2), (.var 0)])]],
  .ret (.var 1)]
/-- _law_times -/
def b18 : List Sm := [.set 2 (.trg .nop (.blt .len [(.var 0)])),
  .for (.nm 3) .rng (.int 0) (.bin .mod (.blt .int [(.var 1)]) (.call 17 [(.var 0)])) [.set 2 (.call 5 [(.var 2), (.var 0)])],
  .ret (.var 2)]
/-- _law_shift -/
def b19 : List Sm := [.set 4 (.call 7 [(.var 0), (.var 1)]),
  .ret (.call 5 [(.call 5 [(.call 18 [(.var 4), (.var 3)]), (.call 7 [(.var 0), (.var 2)])]), (.call 18 [(.var 4), (.bin .sub (.bin .sub (.int 0) (.var 3)) (.int 1))])])]
/-- _law_step -/
def b20 : List Sm := [.par [.nm 3, .nm 4] [(.call 7 [(.var 1), (.var 2)]), (.int 1)],
  .set 5 (.lc [6] (.nm 6) .rng (.int 0) (.var 0) .nop (.call 7 [(.var 1), (.var 6)])),
  .while (.cmp .ne (.lc [7] (.nm 7) .val (.var 5) .nop (.cmp .ne (.call 5 [(.call 18 [(.var 3), (.var 4)]), (.var 7)]) (.call 5 [(.var 7), (.call 18 [(.var 3), (.var 4)])])) (.var 7)) (.lst [])) [.set 4 (.bin .add (.var 4) (.int 1))],
  .ret (.var 4)]
/-- checked_row -/
def b21 : List Sm := [.ifs (.not (.call 3 [(.var 1)])) [.raise 2 (.int 0)] [],
  .for (.tp [(.nm 2), (.nm 3)]) .enum (.var 1) .nop [.ifs (.not (.call 2 [(.var 3), (.var 0)])) [.raise 2 (.var 2)] []],
  .ret (.blt .tuple [(.var 1)])]
/-- led -/
def b22 : List Sm := [.set 3 (.var 1),
  .for (.nm 4) .val (.var 2) .nop [.set 3 (.ix (.ix (.fld (.var 0) 2) (.var 3)) (.var 4))],
  .ret (.var 3)]
/-- effect -/
def b23 : List Sm := [.set 2 (.call 21 [(.fld (.var 0) 0), (.var 1)]),
  .ret (.blt .tuple [(.lc [3] (.nm 3) .rng (.int 0) (.fld (.var 0) 1) .nop (.call 22 [(.var 0), (.var 3), (.var 2)]))])]
/-- followed -/
def b24 : List Sm := [.ret (.blt .tuple [(.lc [2] (.nm 2) .val (.var 0) .nop .nop (.ix (.var 1) (.var 2)))])]
/-- exchange_freely -/
def b25 : List Sm := [.ret (.cmp .eq (.call 24 [(.var 0), (.var 1)]) (.call 24 [(.var 1), (.var 0)]))]
/-- single_effects -/
def b26 : List Sm := [.ret (.lc [1] (.nm 1) .rng (.int 0) (.fld (.var 0) 0) .nop (.blt .tuple [(.lc [2] (.nm 2) .val (.fld (.var 0) 2) .nop .nop (.ix (.var 2) (.var 1)))]))]
/-- first_merging -/
def b27 : List Sm := [.for (.tp [(.nm 1), (.nm 2)]) .enum (.call 26 [(.var 0)]) .nop [.ifs (.cmp .lt (.blt .lenset [(.var 2)]) (.fld (.var 0) 1)) [.ret (.var 1)] []],
  .ret .non]
/-- need_reversible -/
def b28 : List Sm := [.set 1 (.call 27 [(.var 0)]),
  .ifs (.notN (.var 1)) [.raise 8 (.var 1)] []]
/-- free_step -/
def b29 : List Sm := [.expr (.call 28 [(.var 0)]),
  .set 2 (.call 26 [(.var 0)]),
  .par [.nm 3, .nm 4] [(.int 1), (.ix (.var 2) (.var 1))],
  .while (.not (.blt .all [(.lc [5] (.nm 5) .val (.var 2) .nop .nop (.call 25 [(.var 4), (.var 5)]))])) [.par [.nm 3, .nm 4] [(.bin .add (.var 3) (.int 1)), (.call 24 [(.var 4), (.ix (.var 2) (.var 1))])]],
  .ret (.var 3)]
/-- order_of_effect -/
def b30 : List Sm := [.par [.nm 1, .nm 2] [(.var 0), (.int 1)],
  .while (.cmp .ne (.var 1) (.trg .nop (.blt .len [(.var 0)]))) [.par [.nm 1, .nm 2] [(.call 24 [(.var 1), (.var 0)]), (.bin .add (.var 2) (.int 1))]],
  .ret (.var 2)]
/-- order_of -/
def b31 : List Sm := [.expr (.call 28 [(.var 0)]),
  .ret (.call 30 [(.ix (.call 26 [(.var 0)]) (.var 1))])]
/-- effect_times -/
def b32 : List Sm := [.set 2 (.trg .nop (.blt .len [(.var 0)])),
  .for (.nm 3) .rng (.int 0) (.bin .mod (.var 1) (.call 30 [(.var 0)])) [.set 2 (.call 24 [(.var 2), (.var 0)])],
  .ret (.var 2)]
/-- shift -/
def b33 : List Sm := [.expr (.call 28 [(.var 0)]),
  .set 4 (.call 26 [(.var 0)]),
  .set 5 (.call 24 [(.call 32 [(.ix (.var 4) (.var 1)), (.var 3)]), (.ix (.var 4) (.var 2))]),
  .ret (.call 24 [(.var 5), (.call 32 [(.ix (.var 4) (.var 1)), (.bin .sub (.neg (.var 3)) (.int 1))])])]
/-- law -/
def b34 : List Sm := [.set 1 (.call 8 [(.var 0), (.int 29)]),
  .for (.nm 2) .rng (.int 0) (.int 2) [.unp [(.nm 3), (.nm 4)] (.call 15 [(.var 1)]),
  .par [.nm 5, .nm 6] [(.make 4 [(.var 3), (.var 4)]), (.call 6 [(.var 1), (.var 3)])],
  .for (.nm 7) .rng (.int 0) (.int 3) [.par [.nm 11, .nm 13] [(.call 6 [(.var 1), (.var 3)]), (.call 11 [(.var 1), (.lst [(.call 6 [(.var 1), (.int 12)]), (.bin .sub (.int 0) (.call 6 [(.var 1), (.int 9)])), (.call 6 [(.var 1), (.bin .pow (.int 10) (.int 18))])])])],
  .set 16 (.call 19 [(.var 4), (.var 6), (.var 11), (.var 13)]),
  .ifs (.or (.cmp .ne (.blt .repr [(.call 33 [(.var 5), (.var 6), (.var 11), (.var 13)])]) (.blt .repr [(.var 16)])) (.cmp .ne (.blt .repr [(.callk 33 [3, 2, 1, 0] [(.var 13), (.var 11), (.var 6), (.var 5)])]) (.blt .repr [(.var 16)]))) [.ret (.bl false)] []],
  .par [.nm 8, .nm 9] [(.call 16 [(.var 1), (.var 3), (.call 6 [(.var 1), (.int 21)])]), (.trg .nop (.blt .len [(.var 4)]))],
  .for (.tp [(.nm 10), (.nm 11)]) .enum (.var 8) .nop [.set 9 (.call 5 [(.var 9), (.call 33 [(.var 5), (.var 6), (.var 11), (.var 10)])])],
  .set 9 (.call 5 [(.var 9), (.call 18 [(.call 7 [(.var 4), (.var 6)]), (.blt .len [(.var 8)])])]),
  .ifs (.or (.cmp .ne (.var 9) (.call 10 [(.var 4), (.var 8)])) (.cmp .ne (.call 23 [(.var 5), (.var 8)]) (.var 9))) [.ret (.bl false)] [],
  .set 12 (.call 20 [(.var 3), (.var 4), (.var 6)]),
  .ifs (.or (.cmp .ne (.blt .repr [(.call 29 [(.var 5), (.var 6)])]) (.blt .repr [(.var 12)])) (.cmp .ne (.blt .repr [(.callk 29 [1, 0] [(.var 6), (.var 5)])]) (.blt .repr [(.var 12)]))) [.ret (.bl false)] [],
  .ifs (.cmp .ne (.bin .mod (.blt .int [(.call 31 [(.var 5), (.var 6)])]) (.var 12)) (.int 0)) [.ret (.bl false)] [],
  .par [.nm 13, .nm 14] [(.call 6 [(.var 1), (.int 12)]), (.call 6 [(.var 1), (.int 12)])],
  .set 15 (.cmp .eq (.lc [17] (.nm 17) .rng (.int 0) (.var 3) (.cmp .ne (.call 19 [(.var 4), (.var 6), (.var 17), (.var 13)]) (.call 19 [(.var 4), (.var 6), (.var 17), (.var 14)])) (.var 17)) (.lst [])),
  .ifs (.cmp .ne (.var 15) (.cmp .eq (.bin .mod (.blt .int [(.bin .sub (.var 13) (.var 14))]) (.var 12)) (.int 0))) [.ret (.bl false)] []],
  .ret (.bl true)]
/-- _law_frame -/
def b35 : List Sm := [.set 1 (.lc [4, 5] (.tp [(.nm 4), (.nm 5)]) .enum (.var 0) .nop (.cmp .ne (.var 5) (.var 4)) (.var 4)),
  .ifs (.cmp .eq (.var 1) (.lst [])) [.ret .non] [],
  .set 2 (.lc [4] (.nm 4) .val (.var 1) .nop .nop (.blt .max [(.bin .sub (.var 4) (.ix (.var 0) (.var 4))), (.bin .sub (.ix (.var 0) (.var 4)) (.var 4))])),
  .set 3 (.lc [6] (.nm 6) .rng (.int 1) (.bin .add (.blt .min [(.var 2)]) (.int 1)) (.cmp .eq (.lc [7] (.nm 7) .val (.var 2) .nop (.cmp .gt (.bin .mod (.blt .int [(.var 7)]) (.var 6)) (.int 0)) (.var 7)) (.lst [])) (.var 6)),
  .ret (.tup [(.ix (.var 1) (.int 0)), (.bin .sub (.bin .sub (.blt .len [(.var 0)]) (.int 1)) (.ix (.var 1) (.neg (.int 1)))), (.ix (.var 3) (.neg (.int 1)))])]
/-- _law_gcd -/
def b36 : List Sm := [.while (.cmp .gt (.var 1) (.int 0)) [.par [.nm 0, .nm 1] [(.var 1), (.bin .mod (.blt .int [(.var 0)]) (.var 1))]],
  .ret (.var 0)]
/-- _law_bound -/
def b37 : List Sm := [.set 1 (.lc [4, 5] (.tp [(.nm 4), (.nm 5)]) .val (.var 0) .nop (.and (.var 5) (.notN (.call 35 [(.var 4)]))) (.call 35 [(.var 4)])),
  .ifs (.cmp .eq (.var 1) (.lst [])) [.ret .non] [],
  .set 2 (.int 0),
  .for (.nm 3) .val (.var 1) .nop [.set 2 (.call 36 [(.var 2), (.ix (.var 3) (.int 2))])],
  .ret (.tup [(.blt .min [(.lc [3] (.nm 3) .val (.var 1) .nop .nop (.ix (.var 3) (.int 0)))]), (.blt .min [(.lc [3] (.nm 3) .val (.var 1) .nop .nop (.ix (.var 3) (.int 1)))]), (.var 2)])]
/-- _law_left -/
def b38 : List Sm := [.unp [(.nm 1), (.nm 2), (.nm 3)] (.call 37 [(.var 0)]),
  .par [.nm 4, .nm 5] [(.lc [9, 10] (.tp [(.nm 9), (.nm 10)]) .val (.var 0) .nop (.not (.var 10)) (.call 35 [(.var 9)])), (.lst [])],
  .ifs (.cmp .inn .non (.var 4)) [.ret (.lst [])] [],
  .for (.nm 6) .rng (.int 0) (.bin .add (.var 1) (.int 1)) [.for (.nm 7) .rng (.int 0) (.bin .add (.var 2) (.int 1)) [.for (.nm 8) .rng (.int 1) (.bin .add (.var 3) (.int 1)) [.ifs (.and (.cmp .eq (.bin .mod (.blt .int [(.var 3)]) (.var 8)) (.int 0)) (.cmp .eq (.lc [11] (.nm 11) .val (.var 4) .nop (.and (.cmp .le (.var 6) (.ix (.var 11) (.int 0))) (.and (.cmp .le (.var 7) (.ix (.var 11) (.int 1))) (.cmp .eq (.bin .mod (.blt .int [(.ix (.var 11) (.int 2))]) (.var 8)) (.int 0)))) (.var 11)) (.lst []))) [.expr (.append 5 (.tup [(.var 6), (.var 7), (.var 8)]))] []]]],
  .ret (.var 5)]
/-- _law_possible -/
def b39 : List Sm := [.ifs (.cmp .ne (.lc [1, 2] (.tp [(.nm 1), (.nm 2)]) .val (.var 0) .nop (.and (.not (.var 2)) (.isN (.call 35 [(.var 1)]))) (.var 1)) (.lst [])) [.ret (.bl false)] [],
  .ret (.or (.isN (.call 37 [(.var 0)])) (.cmp .ne (.call 38 [(.var 0)]) (.lst [])))]
/-- _law_clashes -/
def b40 : List Sm := [.ifs (.or (.not (.isI (.var 1) .tuple)) (.cmp .ne (.lc [2] (.nm 2) .val (.var 1) .nop (.or (.not (.isI (.var 2) .int)) (.isI (.var 2) .bool)) (.var 2)) (.lst []))) [.ret (.bl false)] [],
  .ifs (.or (.cmp .ne (.blt .list [(.var 1)]) (.blt .sortset [(.var 1)])) (.cmp .ne (.lc [2] (.nm 2) .val (.var 1) .nop (.not (.chain .le .lt (.int 0) (.var 2) (.blt .len [(.var 0)]))) (.var 2)) (.lst []))) [.ret (.bl false)] [],
  .ifs (.call 39 [(.lc [2] (.nm 2) .val (.var 1) .nop .nop (.ix (.var 0) (.var 2)))]) [.ret (.bl false)] [],
  .ret (.cmp .eq (.lc [3] (.nm 3) .val (.var 1) .nop (.not (.call 39 [(.lc [2] (.nm 2) .val (.var 1) .nop (.cmp .ne (.var 2) (.var 3)) (.ix (.var 0) (.var 2)))])) (.var 3)) (.lst []))]
/-- _law_near -/
def b41 : List Sm := [.set 2 (.call 6 [(.var 0), (.bin .sub (.blt .len [(.var 1)]) (.int 1))]),
  .set 3 (.bin .add (.bin .add (.var 2) (.int 1)) (.call 6 [(.var 0), (.bin .sub (.bin .sub (.blt .len [(.var 1)]) (.int 1)) (.var 2))])),
  .ret (.bin .add (.bin .add (.bin .add (.bin .add (.sl (.var 1) .nop (.var 2)) (.tup [(.ix (.var 1) (.var 3))])) (.sl (.var 1) (.bin .add (.var 2) (.int 1)) (.var 3))) (.tup [(.ix (.var 1) (.var 2))])) (.sl (.var 1) (.bin .add (.var 3) (.int 1)) .nop))]
/-- _law_reordering -/
def b42 : List Sm := [.unp [(.nm 3), (.nm 4), (.nm 5)] (.var 2),
  .set 6 (.lrg .nop (.var 1)),
  .for (.nm 7) .rng (.int 0) (.var 5) [.set 8 (.lc [10] (.nm 10) .rng (.var 3) (.bin .sub (.var 1) (.var 4)) (.cmp .eq (.bin .mod (.blt .int [(.bin .sub (.var 10) (.var 3))]) (.var 5)) (.var 7)) (.var 10)),
  .for (.tp [(.nm 9), (.nm 10)]) .enum (.call 12 [(.var 0), (.var 8)]) .nop [.setIx 6 (.ix (.var 8) (.var 9)) (.var 10)]],
  .ret (.blt .tuple [(.var 6)])]
/-- _law_found -/
def b43 : List Sm := [.par [.nm 2, .nm 3] [(.call 6 [(.var 0), (.int 8)]), (.bin .add (.blt .sum [(.var 1)]) (.call 6 [(.var 0), (.int 9)]))],
  .set 4 (.call 42 [(.var 0), (.var 3), (.var 1)]),
  .ifs (.cmp .eq (.var 2) (.int 0)) [.ret (.trg .nop (.var 3))] [],
  .ifs (.cmp .eq (.var 2) (.int 1)) [.ret (.blt .tuple [(.call 12 [(.var 0), (.lrg .nop (.call 6 [(.var 0), (.int 9)]))])])] [],
  .ifs (.and (.cmp .eq (.var 2) (.int 2)) (.cmp .gt (.var 3) (.int 1))) [.ret (.call 41 [(.var 0), (.var 4)])] [],
  .ifs (.cmp .lt (.var 2) (.int 6)) [.unp [(.nm 5), (.nm 6), (.nm 7)] (.lst [(.bin .sub (.bin .add (.ix (.var 1) (.int 0)) (.call 6 [(.var 0), (.int 3)])) (.int 1)), (.bin .sub (.bin .add (.ix (.var 1) (.int 1)) (.call 6 [(.var 0), (.int 3)])) (.int 1)), (.bin .mul (.ix (.var 1) (.int 2)) (.bin .add (.int 1) (.call 6 [(.var 0), (.int 3)])))]),
  .set 7 (.blt .max [(.int 1), (.bin .fdiv (.var 7) (.call 11 [(.var 0), (.lst [(.int 1), (.int 1), (.int 2), (.int 3)])]))]),
  .set 8 (.lrg .nop (.bin .add (.bin .add (.bin .add (.blt .max [(.var 5), (.int 0)]) (.var 7)) (.int 1)) (.blt .max [(.var 6), (.int 0)]))),
  .par [.ix 8 (.blt .max [(.var 5), (.int 0)]), .ix 8 (.bin .add (.blt .max [(.var 5), (.int 0)]) (.var 7))] [(.bin .add (.blt .max [(.var 5), (.int 0)]) (.var 7)), (.blt .max [(.var 5), (.int 0)])],
  .ret (.blt .tuple [(.var 8)])] [],
  .ret (.var 4)]
/-- _law_lets -/
def b44 : List Sm := [.unp [(.nm 2), (.nm 3), (.nm 4)] (.var 1),
  .for (.tp [(.nm 5), (.nm 6)]) .enum (.var 0) .nop [.ifs (.and (.cmp .ne (.var 6) (.var 5)) (.or (.cmp .lt (.var 5) (.var 2)) (.or (.cmp .ge (.var 5) (.bin .sub (.blt .len [(.var 0)]) (.var 3))) (.cmp .gt (.bin .mod (.blt .int [(.bin .sub (.var 6) (.var 5))]) (.var 4)) (.int 0))))) [.ret (.bl false)] []],
  .ret (.bl true)]
/-- _law_findings -/
def b45 : List Sm := [.set 4 (.lst []),
  .for (.nm 5) .rng (.int 0) (.var 2) [.set 6 (.call 43 [(.var 0), (.var 1)]),
  .expr (.append 4 (.tup [(.var 6), (.call 44 [(.var 6), (.var 1)])]))],
  .ifs (.and (.var 3) (.and (.cmp .ne (.var 4) (.lst [])) (.cmp .eq (.call 6 [(.var 0), (.int 3)]) (.int 0)))) [.set 7 (.call 6 [(.var 0), (.blt .len [(.var 4)])]),
  .setIx 4 (.var 7) (.tup [(.ix (.ix (.var 4) (.var 7)) (.int 0)), (.not (.ix (.ix (.var 4) (.var 7)) (.int 1)))])] [],
  .ret (.blt .tuple [(.var 4)])]
/-- _law_hidden -/
def b46 : List Sm := [.ret (.tup [(.call 6 [(.var 0), (.int 4)]), (.call 6 [(.var 0), (.int 4)]), (.call 11 [(.var 0), (.lst [(.int 1), (.int 1), (.int 2), (.int 2), (.int 3), (.int 4), (.int 5), (.int 6), (.int 8), (.int 12)])])])]
/-- _law_near_value -/
def b47 : List Sm := [.set 3 (.ite (.notN (.var 1)) (.var 1) (.tup [(.int 0)])),
  .par [.nm 4, .nm 5] [(.call 6 [(.var 0), (.blt .len [(.var 3)])]), (.call 6 [(.var 0), (.bin .add (.var 2) (.int 1))])],
  .set 6 (.lst [(.var 1), (.bin .add (.sl (.var 3) .nop (.var 4)) (.sl (.var 3) (.bin .add (.var 4) (.int 1)) .nop)), (.blt .tuple [(.blt .sorted [(.bin .add (.var 3) (.tup [(.var 5)]))])]), (.bin .add (.var 3) (.tup [(.var 5)])), (.revt (.var 3)), (.blt .list [(.var 3)]), .non, (.tup [])]),
  .ret (.call 11 [(.var 0), (.bin .add (.var 6) (.lst [(.bin .add (.bin .add (.sl (.var 3) .nop (.var 4)) (.tup [(.var 5)])) (.sl (.var 3) (.bin .add (.var 4) (.int 1)) .nop)), (.trg .nop (.var 2)), (.bin .add (.var 3) (.tup [(.bl true)])), (.bin .add (.tup [(.bin .sub (.int 0) (.int 1))]) (.var 3))]))])]
/-- fault -/
def b48 : List Sm := [.ifs (.not (.call 3 [(.var 0)])) [.ret (.int 0)] [],
  .set 1 (.bin .mul (.lst [(.bl false)]) (.blt .len [(.var 0)])),
  .for (.tp [(.nm 2), (.nm 3)]) .enum (.var 0) .nop [.ifs (.or (.not (.call 2 [(.var 3), (.blt .len [(.var 0)])])) (.ix (.var 1) (.var 3))) [.ret (.var 2)] [],
  .setIx 1 (.var 3) (.bl true)],
  .ret .non]
/-- checked_reordering -/
def b49 : List Sm := [.set 1 (.call 48 [(.var 0)]),
  .ifs (.notN (.var 1)) [.raise 3 (.var 1)] [],
  .ret (.blt .tuple [(.var 0)])]
/-- is_allowed -/
def b50 : List Sm := [.set 2 (.call 49 [(.var 1)]),
  .set 3 (.lc [7, 8] (.tp [(.nm 7), (.nm 8)]) .enum (.var 2) .nop (.cmp .ne (.var 8) (.var 7)) (.var 7)),
  .ifs (.or (.isN (.var 0)) (.cmp .eq (.blt .len [(.var 3)]) (.int 0))) [.ret (.cmp .eq (.blt .len [(.var 3)]) (.int 0))] [],
  .unp [(.nm 4), (.nm 5), (.nm 6)] (.var 0),
  .ifs (.or (.cmp .lt (.ix (.var 3) (.int 0)) (.var 4)) (.cmp .ge (.ix (.var 3) (.neg (.int 1))) (.bin .sub (.blt .len [(.var 2)]) (.var 5)))) [.ret (.bl false)] [],
  .ret (.blt .all [(.lc [7] (.nm 7) .val (.var 3) .nop .nop (.cmp .eq (.bin .mod (.bin .sub (.ix (.var 2) (.var 7)) (.var 7)) (.var 6)) (.int 0)))])]
/-- agrees_with -/
def b51 : List Sm := [.ret (.blt .all [(.lc [2, 3] (.tp [(.nm 2), (.nm 3)]) .val (.var 1) .nop .nop (.cmp .eq (.call 50 [(.var 0), (.var 2)]) (.var 3)))])]
/-- is_finding -/
def b52 : List Sm := [.ifs (.or (.not (.call 3 [(.var 0)])) (.or (.cmp .ne (.blt .len [(.var 0)]) (.int 2)) (.not (.call 3 [(.ix (.var 0) (.int 0))])))) [.ret (.bl false)] [],
  .ret (.and (.isI (.ix (.var 0) (.int 1)) .bool) (.isN (.call 48 [(.ix (.var 0) (.int 0))])))]
/-- checked_findings -/
def b53 : List Sm := [.ifs (.not (.call 3 [(.var 0)])) [.raise 3 (.int 0)] [],
  .for (.tp [(.nm 1), (.nm 2)]) .enum (.var 0) .nop [.ifs (.not (.call 52 [(.var 2)])) [.raise 3 (.var 1)] []],
  .ret (.blt .tuple [(.lc [2] (.nm 2) .val (.var 0) .nop .nop (.tup [(.call 49 [(.ix (.var 2) (.int 0))]), (.ix (.var 2) (.int 1))]))])]
/-- triple_fault -/
def b54 : List Sm := [.ifs (.or (.not (.call 3 [(.var 0)])) (.cmp .ne (.blt .len [(.var 0)]) (.int 3))) [.ret (.int 3)] [],
  .for (.tp [(.nm 1), (.nm 2)]) .enum (.var 0) .nop [.ifs (.or (.not (.call 1 [(.var 2)])) (.and (.cmp .eq (.var 1) (.int 2)) (.cmp .eq (.var 2) (.int 0)))) [.ret (.var 1)] []],
  .ret .non]
/-- checked_triple -/
def b55 : List Sm := [.set 1 (.call 54 [(.var 0)]),
  .ifs (.notN (.var 1)) [.raise 5 (.var 1)] [],
  .ret (.blt .tuple [(.var 0)])]
/-- agrees -/
def b56 : List Sm := [.set 2 (.ite (.isN (.var 0)) .non (.call 55 [(.var 0)])),
  .ret (.call 51 [(.var 2), (.call 53 [(.var 1)])])]
/-- frame -/
def b57 : List Sm := [.set 1 (.call 49 [(.var 0)]),
  .set 2 (.lc [4, 5] (.tp [(.nm 4), (.nm 5)]) .enum (.var 1) .nop (.cmp .ne (.var 5) (.var 4)) (.var 4)),
  .ifs (.cmp .eq (.blt .len [(.var 2)]) (.int 0)) [.ret .non] [],
  .set 3 (.int 0),
  .for (.nm 4) .val (.var 2) .nop [.set 3 (.call 36 [(.blt .abs [(.bin .sub (.ix (.var 1) (.var 4)) (.var 4))]), (.var 3)])],
  .ret (.tup [(.ix (.var 2) (.int 0)), (.bin .sub (.bin .sub (.blt .len [(.var 1)]) (.int 1)) (.ix (.var 2) (.neg (.int 1)))), (.var 3)])]
/-- widest_of -/
def b58 : List Sm := [.set 1 .non,
  .for (.tp [(.nm 2), (.nm 3)]) .val (.var 0) .nop [.set 4 (.call 57 [(.var 2)]),
  .ifs (.and (.var 3) (.notN (.var 4))) [.ifs (.isN (.var 1)) [.set 1 (.var 4)] [],
  .set 1 (.tup [(.blt .min [(.ix (.var 1) (.int 0)), (.ix (.var 4) (.int 0))]), (.blt .min [(.ix (.var 1) (.int 1)), (.ix (.var 4) (.int 1))]), (.call 36 [(.ix (.var 1) (.int 2)), (.ix (.var 4) (.int 2))])])] []],
  .ret (.var 1)]
/-- is_possible -/
def b59 : List Sm := [.ret (.call 51 [(.call 58 [(.var 0)]), (.var 0)])]
/-- clash -/
def b60 : List Sm := [.set 1 (.call 53 [(.var 0)]),
  .ifs (.call 59 [(.var 1)]) [.ret .non] [],
  .set 2 (.lrg .nop (.blt .len [(.var 1)])),
  .for (.nm 3) .rng (.int 0) (.blt .len [(.var 1)]) [.set 4 (.lc [5] (.nm 5) .val (.var 2) .nop (.cmp .ne (.var 5) (.var 3)) (.var 5)),
  .ifs (.not (.call 59 [(.lc [5] (.nm 5) .val (.var 4) .nop .nop (.ix (.var 1) (.var 5)))])) [.set 2 (.var 4)] []],
  .ret (.blt .tuple [(.var 2)])]
/-- is_clash -/
def b61 : List Sm := [.set 2 (.call 53 [(.var 0)]),
  .ifs (.or (.not (.isI (.var 1) .tuple)) (.not (.blt .all [(.lc [4] (.nm 4) .val (.var 1) .nop .nop (.call 2 [(.var 4), (.blt .len [(.var 2)])]))]))) [.ret (.bl false)] [],
  .ifs (.blt .any [(.lc [3] (.nm 3) .rng (.int 0) (.bin .sub (.blt .len [(.var 1)]) (.int 1)) .nop (.cmp .ge (.ix (.var 1) (.var 3)) (.ix (.var 1) (.bin .add (.var 3) (.int 1)))))]) [.ret (.bl false)] [],
  .ifs (.call 59 [(.lc [4] (.nm 4) .val (.var 1) .nop .nop (.ix (.var 2) (.var 4)))]) [.ret (.bl false)] [],
  .ret (.blt .all [(.lc [3] (.nm 3) .val (.var 1) .nop .nop (.call 59 [(.lc [4] (.nm 4) .val (.var 1) .nop (.cmp .ne (.var 4) (.var 3)) (.ix (.var 2) (.var 4)))]))])]
/-- widest -/
def b62 : List Sm := [.ret (.call 58 [(.call 53 [(.var 0)])])]
/-- law -/
def b63 : List Sm := [.set 1 (.call 8 [(.var 0), (.int 50)]),
  .for (.nm 2) .rng (.int 0) (.int 2) [.set 3 (.call 46 [(.var 1)]),
  .set 4 (.call 45 [(.var 1), (.var 3), (.call 6 [(.var 1), (.int 6)]), (.bl true)]),
  .ifs (.cmp .eq (.call 6 [(.var 1), (.int 2)]) (.int 0)) [.set 4 (.call 12 [(.var 1), (.blt .list [(.bin .add (.var 4) (.call 45 [(.var 1), (.call 46 [(.var 1)]), (.bin .add (.int 1) (.call 6 [(.var 1), (.int 3)])), (.bl false)]))])])] [],
  .set 4 (.blt .tuple [(.var 4)]),
  .set 5 (.call 39 [(.var 4)]),
  .par [.nm 6, .nm 7] [(.callk 60 [0] [(.blt .list [(.var 4)])]), (.call 62 [(.var 4)])],
  .ifs (.or (.cmp .ne (.isN (.var 6)) (.var 5)) (.cmp .ne (.blt .repr [(.call 56 [(.var 7), (.var 4)])]) (.blt .repr [(.var 5)]))) [.ret (.bl false)] [],
  .ifs (.and (.notN (.var 6)) (.not (.call 40 [(.var 4), (.var 6)]))) [.ret (.bl false)] [],
  .for (.nm 8) .rng (.int 0) (.int 4) [.set 9 (.call 47 [(.var 1), (.var 6), (.blt .len [(.var 4)])]),
  .ifs (.cmp .ne (.blt .repr [(.callk 61 [1, 0] [(.var 9), (.var 4)])]) (.blt .repr [(.call 40 [(.var 4), (.var 9)])])) [.ret (.bl false)] []]],
  .ret (.and (.isB (.call 61 [(.lst [(.tup [(.tup [(.int 0), (.int 1)]), (.bl false)])]), (.tup [(.int 0)])]) true) (.isN (.call 60 [(.lst [(.tup [(.tup [(.int 1), (.int 0)]), (.bl false)]), (.tup [(.tup [(.int 0)]), (.bl true)])])])))]
/-- _law_drawn -/
def b64 : List Sm := [.par [.nm 1, .nm 2] [(.call 6 [(.var 0), (.int 13)]), (.call 6 [(.var 0), (.int 3)])],
  .ifs (.or (.cmp .eq (.var 2) (.int 0)) (.cmp .lt (.var 1) (.int 3))) [.ret (.tpl (.call 12 [(.var 0), (.lrg .nop (.var 1))]))] [],
  .set 3 (.lrg .nop (.var 1)),
  .ifs (.cmp .eq (.var 2) (.int 1)) [.for (.nm 6) .rng (.int 0) (.bin .add (.int 1) (.call 6 [(.var 0), (.int 4)])) [.set 4 (.call 6 [(.var 0), (.bin .sub (.var 1) (.int 1))]),
  .par [.ix 3 (.var 4), .ix 3 (.bin .add (.var 4) (.int 1))] [(.ix (.var 3) (.bin .add (.var 4) (.int 1))), (.ix (.var 3) (.var 4))]],
  .ret (.tpl (.var 3))] [],
  .set 4 (.call 6 [(.var 0), (.bin .sub (.var 1) (.int 1))]),
  .set 5 (.bin .add (.bin .add (.var 4) (.int 2)) (.call 6 [(.var 0), (.bin .sub (.bin .sub (.var 1) (.int 1)) (.var 4))])),
  .ret (.tpl (.bin .add (.bin .add (.sl (.var 3) .nop (.var 4)) (.rev (.sl (.var 3) (.var 4) (.var 5)))) (.sl (.var 3) (.var 5) .nop)))]
/-- opened_at -/
def b66 : List Sm := [.ret (.blt .tuple [(.lc [2, 3] (.tp [(.nm 2), (.nm 3)]) .enum (.var 0) .nop (.cmp .ne (.cmp .lt (.var 2) (.var 1)) (.cmp .lt (.var 3) (.var 1))) (.var 2))])]
/-- open_entries -/
def b67 : List Sm := [.set 2 (.call 49 [(.var 0)]),
  .ifs (.not (.call 2 [(.var 1), (.bin .add (.blt .len [(.var 2)]) (.int 1))])) [.raise 9 (.int 0)] [],
  .ret (.call 66 [(.var 2), (.var 1)])]
/-- idle -/
def b68 : List Sm := [.ret (.trg .nop (.var 0))]
/-- reordered -/
def b69 : List Sm := [.set 2 (.call 49 [(.var 1)]),
  .ifs (.cmp .ne (.blt .len [(.var 0)]) (.blt .len [(.var 2)])) [.raise 9 (.blt .len [(.var 2)])] [],
  .set 3 (.bin .mul (.lst [.non]) (.blt .len [(.var 2)])),
  .for (.tp [(.nm 4), (.nm 5)]) .enum (.var 2) .nop [.setIx 3 (.var 5) (.ix (.var 0) (.var 4))],
  .ret (.blt .tuple [(.var 3)])]
/-- back -/
def b70 : List Sm := [.set 1 (.call 49 [(.var 0)]),
  .ret (.call 69 [(.call 68 [(.blt .len [(.var 1)])]), (.var 1)])]
/-- width -/
def b71 : List Sm := [.par [.nm 1, .nm 2, .nm 3] [(.call 49 [(.var 0)]), (.int 0), (.int 0)],
  .for (.tp [(.nm 4), (.nm 5)]) .enum (.call 70 [(.var 1)]) .nop [.set 3 (.bin .sub (.bin .add (.var 3) (.ite (.cmp .gt (.ix (.var 1) (.var 4)) (.var 4)) (.int 1) (.int 0))) (.ite (.cmp .lt (.ix (.var 1) (.var 4)) (.var 4)) (.int 1) (.int 0))),
  .set 3 (.bin .sub (.bin .add (.var 3) (.ite (.cmp .gt (.var 5) (.var 4)) (.int 1) (.int 0))) (.ite (.cmp .lt (.var 5) (.var 4)) (.int 1) (.int 0))),
  .set 2 (.blt .max [(.var 2), (.var 3)])],
  .ret (.var 2)]
/-- law -/
def b72 : List Sm := [.set 1 (.call 8 [(.var 0), (.int 22)]),
  .for (.nm 2) .rng (.int 0) (.int 4) [.par [.nm 3, .nm 4] [(.call 64 [(.var 1)]), (.int 0)],
  .set 5 (.call 11 [(.var 1), (.lst [(.blt .list [(.var 3)]), (.var 3)])]),
  .for (.nm 6) .rng (.int 0) (.bin .add (.blt .len [(.var 3)]) (.int 1)) [.set 9 (.lc [12] (.nm 12) .rng (.int 0) (.blt .len [(.var 3)]) (.and (.cmp .lt (.var 12) (.var 6)) (.cmp .ge (.ix (.var 3) (.var 12)) (.var 6))) (.var 12)),
  .set 10 (.lc [12] (.nm 12) .rng (.int 0) (.blt .len [(.var 3)]) (.and (.cmp .ge (.var 12) (.var 6)) (.cmp .lt (.ix (.var 3) (.var 12)) (.var 6))) (.var 12)),
  .set 11 (.blt .tuple [(.blt .sorted [(.bin .add (.var 9) (.var 10))])]),
  .ifs (.or (.cmp .ne (.blt .repr [(.call 67 [(.var 5), (.var 6)])]) (.blt .repr [(.var 11)])) (.cmp .ne (.blt .repr [(.callk 67 [1, 0] [(.var 6), (.var 3)])]) (.blt .repr [(.var 11)]))) [.ret (.bl false)] [],
  .ifs (.cmp .ne (.blt .len [(.var 9)]) (.blt .len [(.var 10)])) [.ret (.bl false)] [],
  .set 4 (.blt .max [(.var 4), (.blt .len [(.var 11)])])],
  .set 7 (.blt .tuple [(.lc [13] (.nm 13) .rng (.int 0) (.blt .len [(.var 3)]) .nop (.mb .tidx (.var 3) (.var 13)))]),
  .ifs (.or (.cmp .ne (.blt .repr [(.call 71 [(.var 5)])]) (.blt .repr [(.var 4)])) (.cmp .ne (.blt .repr [(.callk 71 [0] [(.var 7)])]) (.blt .repr [(.var 4)]))) [.ret (.bl false)] [],
  .for (.nm 8) .val (.lst [(.bin .add (.blt .len [(.var 3)]) (.int 1)), (.bin .sub (.int 0) (.int 1)), .non, (.bl true), (.str "0"), (.tup [(.int 0)]), (.bin .add (.bin .add (.blt .len [(.var 3)]) (.int 1)) (.call 6 [(.var 1), (.int 9)]))]) .nop [.ifs (.cmp .ne (.blt .repr [(.lamc 65 (.call 67 [(.var 3), (.var 8)]))]) (.str "0")) [.ret (.bl false)] []]],
  .ret (.bl true)]
def fns : List Fn := [.body 1 1 b0, .body 1 1 b1, .body 2 2 b2, .body 1 1 b3, .init 0 7 3 b4, .body 3 2 b5, .any, .body 3 2 b7, .draw, .body 4 3 b9, .body 3 2 b10, .body 2 2 b11, .body 4 2 b12, .body 7 2 b13, .body 9 4 b14, .body 14 1 b15, .body 4 3 b16, .body 3 1 b17, .body 4 2 b18, .body 5 4 b19, .body 8 3 b20, .body 4 2 b21, .body 5 3 b22, .body 4 2 b23, .body 3 2 b24, .body 2 2 b25, .body 3 1 b26, .body 3 1 b27, .body 2 1 b28, .body 6 2 b29, .body 3 1 b30, .body 2 2 b31, .body 4 2 b32, .body 6 4 b33, .body 18 1 b34, .body 8 1 b35, .body 2 2 b36, .body 6 1 b37, .body 12 1 b38, .body 3 1 b39, .body 4 2 b40, .body 4 2 b41, .body 11 3 b42, .body 9 2 b43, .body 7 2 b44, .body 8 4 b45, .body 1 1 b46, .body 7 3 b47, .body 4 1 b48, .body 2 1 b49, .body 9 2 b50, .body 4 2 b51, .body 1 1 b52, .body 3 1 b53, .body 3 1 b54, .body 2 1 b55, .body 3 2 b56, .body 6 1 b57, .body 5 1 b58, .body 1 1 b59, .body 6 1 b60, .body 5 2 b61, .body 1 1 b62, .body 10 1 b63, .body 7 1 b64, .lam 2 [(some 1, [9], [3], [.ret (.ite (.isX (.var 1) [3, 9] []) (.xat (.var 1)) .non)])], .body 4 2 b66, .body 3 2 b67, .body 1 1 b68, .body 6 2 b69, .body 2 1 b70, .body 6 1 b71, .body 14 1 b72]
end LK

end
section
set_option Elab.async false
set_option linter.all false
set_option maxRecDepth 100000
set_option maxHeartbeats 0

namespace LK
open PySem PySem.Spec PyProof.Rows L2 DI
/-! ### the text, by places -/
def top (i : Nat) : Stmt := PySem.Challenge.pw_endsandround_k22_cuts_and_open_entries.main.body.getD i (.Pass ⟨0, 0, 0, 0⟩)
def st6 : Stmt := top 21
def st8 : Stmt := top 20
def st12 : Stmt := top 23
def st64 : Stmt := top 24
def st11 : Stmt := top 22
def st65 : Stmt := top 25
def st0 : Stmt := top 5
def st1 : Stmt := top 6
def st2 : Stmt := top 8
def st3 : Stmt := top 7
def st48 : Stmt := top 10
def st49 : Stmt := top 11
def st66 : Stmt := top 16
def st67 : Stmt := top 17
def st68 : Stmt := top 12
def st69 : Stmt := top 13
def st70 : Stmt := top 14
def st71 : Stmt := top 18
def st72 : Stmt := top 26
def seInvalidReordering : Stmt := inClass (top 2) 0
def seRefused : Stmt := inClass (top 3) 0
def errN : List Str := ["EndsError", "InvalidMachine", "InvalidRow", "InvalidReordering", "InvalidQuestion", "InvalidTriple", "InvalidMove", "InvalidText", "NotReversible", "Refused", "InvalidCommand"]
abbrev wd (K : PySem.W.Frag) (ca : Nat → Addr) : Wd := { K := K, T := tab, ca := ca, fn := fun k => flds.getD k "", xc := fun k => He.ga K (errN.getD k "EndsError"), xf := "at", tb := [((He.cT K ("law", none)).2, ((envOfC "law" (defScope st72) 0 0 .none).qual ++ "<lambda>"))] }
instance (K : PySem.W.Frag) (ca : Nat → Addr) : NoExn (wd K ca) := ⟨rfl⟩
def N12 : List Str := ["_law_deal", "_law_some", "_law_left", "_law_found"]
def N64 : List Str := ["_law_deal", "_law_many", "_law_form", "_law_p", "_law_at", "_law_to", "_law_turn"]
def N11 : List Str := ["_law_deal", "_law_some"]
def N65 : List Str := ["_law_work", "error"]
def N0 : List Str := ["value"]
def N1 : List Str := ["value"]
def N2 : List Str := ["value", "many"]
def N3 : List Str := ["value"]
def N48 : List Str := ["value", "seen", "at", "place"]
def N49 : List Str := ["value", "at"]
def N66 : List Str := ["places", "cut", "at", "place"]
def N67 : List Str := ["reordering", "cut", "places"]
def N68 : List Str := ["many"]
def N69 : List Str := ["row", "reordering", "places", "found", "at", "place"]
def N70 : List Str := ["reordering", "places"]
def N71 : List Str := ["reordering", "places", "found", "now", "at", "place"]
def N72 : List Str := ["_law_script", "_law_deal", "_law_turn", "_law_p", "_law_most", "_law_given", "_law_cut", "_law_back", "_law_odd", "_law_ahead", "_law_behind", "_law_due", "_law_at", "_law_place"]
/-! ### what a body may lean on -/
structure Lv (P : Program) (W : World) (K : PySem.W.Frag) (mg : Str → Option Value) (base : Heap) (ca : Nat → Addr) (n : Nat) : Prop where
  cls : ∀ c, ClsOk (wd K ca) c
  tb : ∀ c, ((wd K ca).T.fl c).length < 900 ∧ ((wd K ca).names c).Nodup
  f_abs : mg "abs" = none
  f_bool : mg "bool" = none
  f_enumerate : mg "enumerate" = none
  f_int : mg "int" = none
  f_isinstance : mg "isinstance" = none
  f_len : mg "len" = none
  f_list : mg "list" = none
  f_max : mg "max" = none
  f_range : mg "range" = none
  f_repr : mg "repr" = none
  f_sorted : mg "sorted" = none
  f_tuple : mg "tuple" = none
  e_InvalidReordering : EX1 P K mg (wd K ca) "InvalidReordering" "self" 3
  e_Refused : EX1 P K mg (wd K ca) "Refused" "self" 9
  errs : ErrF K (wd K ca) [3, 9]
  g_EndsError : mg "EndsError" = some (.ref (He.ga K "EndsError"))
  k_EndsError : ErrC K (wd K ca) (.ref (He.ga K "EndsError")) [3, 9] []
  g_Refused : mg "Refused" = some (.ref (He.ga K "Refused"))
  k_Refused : ErrC K (wd K ca) (.ref (He.ga K "Refused")) [9] [3]
  t_law : MkF K mg base (wd K ca) "law" ((envOfC "law" (defScope st72) 0 0 .none).qual ++ "<lambda>")
  c__law_any : TX1 P W K mg base (wd K ca) "_law_any" (defArgs st6) ["_law_deal", "_law_bound"] (callD tab fns n 6) (4 * n + 1)
  c__law_draw : TX1 P W K mg base (wd K ca) "_law_draw" (defArgs st8) ["_law_script", "_law_salt"] (callD tab fns n 8) (4 * n + 1)
  c__law_mixed : TX1 P W K mg base (wd K ca) "_law_mixed" (defArgs st12) ["_law_deal", "_law_some"] (callD tab fns n 12) (4 * n + 1)
  c__law_drawn : TX1 P W K mg base (wd K ca) "_law_drawn" (defArgs st64) ["_law_deal"] (callD tab fns n 64) (4 * n + 1)
  c__law_of : TX1 P W K mg base (wd K ca) "_law_of" (defArgs st11) ["_law_deal", "_law_some"] (callD tab fns n 11) (4 * n + 1)
  l__law_refused : TL P W K mg base (wd K ca) "_law_refused" "_law_work" (defArgs st65) (callD tab fns n 65)
  c_is_integer : TX1 P W K mg base (wd K ca) "is_integer" (defArgs st0) ["value"] (callD tab fns n 0) (4 * n + 1)
  c_is_number : TX1 P W K mg base (wd K ca) "is_number" (defArgs st1) ["value"] (callD tab fns n 1) (4 * n + 1)
  c_is_index : TX1 P W K mg base (wd K ca) "is_index" (defArgs st2) ["value", "many"] (callD tab fns n 2) (4 * n + 1)
  c_is_sequence : TX1 P W K mg base (wd K ca) "is_sequence" (defArgs st3) ["value"] (callD tab fns n 3) (4 * n + 1)
  c_fault : TX1 P W K mg base (wd K ca) "fault" (defArgs st48) ["value"] (callD tab fns n 48) (4 * n + 1)
  c_checked_reordering : TX1 P W K mg base (wd K ca) "checked_reordering" (defArgs st49) ["value"] (callD tab fns n 49) (4 * n + 1)
  c_opened_at : TX1 P W K mg base (wd K ca) "opened_at" (defArgs st66) ["places", "cut"] (callD tab fns n 66) (4 * n + 1)
  c_open_entries : TX1 P W K mg base (wd K ca) "open_entries" (defArgs st67) ["reordering", "cut"] (callD tab fns n 67) (4 * n + 1)
  c_idle : TX1 P W K mg base (wd K ca) "idle" (defArgs st68) ["many"] (callD tab fns n 68) (4 * n + 1)
  c_reordered : TX1 P W K mg base (wd K ca) "reordered" (defArgs st69) ["row", "reordering"] (callD tab fns n 69) (4 * n + 1)
  c_back : TX1 P W K mg base (wd K ca) "back" (defArgs st70) ["reordering"] (callD tab fns n 70) (4 * n + 1)
  c_width : TX1 P W K mg base (wd K ca) "width" (defArgs st71) ["reordering"] (callD tab fns n 71) (4 * n + 1)
def N6 : List Str := ["_law_deal", "_law_bound", "_law_rest"]
theorem body6 {P : Program} {W : World} {K : PySem.W.Frag} {mg : Str → Option Value} {base : Heap} {ca : Nat → Addr} {n : Nat} {f : Addr} {cdv : Value} {A : Around} {outer : List Env} {s : Shared} {H : Hp} {E : XK} (L : Lv P W K mg base ca n) (hr : Room (4 * n + 4) (A.deeper (envOfC "_law_any" (defScope st6) s.heap.objs.size f cdv))) (hgd : A.guards = some []) :
    PSs (cxOf (L2.CX P W) P W K mg base N6 "_law_any" (defScope st6) f cdv A outer s H E).nox (defBody st6) (tAny K) :=
  have g := gx_of (w := wd K ca) (CX := L2.CX P W) (P := P) (W := W) (K := K) (mg := mg) (base := base) (N := N6) (outer := outer) (H := H) (E := E) hr hgd (by decide +kernel) rfl L.cls L.tb
  have hu : (cxOf (L2.CX P W) P W K mg base N6 "_law_any" (defScope st6) f cdv A outer s H E).nox.A.units + 64 < cLine := Nat.lt_of_succ_lt g.hu
  pss_cons (ps_while g.hp (L2.PW.pt (pw_and (pt_cmpR (op_neD hu) (pe_ix ix_seq (pv 0) pe_int (by intro _ _; rfl)) (pe_lst pa_nil) (nomark _)) (pw_and1 (pt_cmpR (op_eqD hu) (pe_ix ix_seq (pe_ix ix_seq (pv 0) pe_int (by intro _ _; rfl)) (pe_un un_neg pe_int) (by intro _ _; rfl)) pe_int (nomark _))))) (pss_one (ps_expr (pe_bm0 PySem.F.plainAttrs_list PySem.F.slot_list_pop PySem.F.type_list_pop mt_pop (pe_ix ix_seq (pv 0) pe_int (by intro _ _; rfl))))))
  (pss_cons (ps_if (pt_cmpR (op_neD hu) (pe_ix ix_seq (pv 0) pe_int (by intro _ _; rfl)) (pe_lst pa_nil) (nomark _)) (pss_cons (ps_set (i := 2) g.hN rfl (Or.inl rfl) (pe_callTy call_int1 rfl L.f_int rfl (pa_cons (pe_bm0 PySem.F.plainAttrs_list PySem.F.slot_list_pop PySem.F.type_list_pop mt_pop (pe_ix ix_seq (pv 0) pe_int (by intro _ _; rfl))) pa_nil))) (pss_cons (ps_expr (pe_bm PySem.F.plainAttrs_list PySem.F.slot_list_append PySem.F.type_list_append mt_append (pe_ix ix_seq (pv 0) pe_int (by intro _ _; rfl)) (pa_cons (pe_op op_fdivW (pv 2) (pv 1)) pa_nil))) (pss_one (ps_ret (pe_op op_mod (pv 2) (pv 1)))))) pss_nil)
  (pss_cons (ps_asg (pe_op op_mod (pe_callTy call_int1 rfl L.f_int rfl (pa_cons (pe_op op_add (pe_op op_mul (pe_ix ix_seq (pv 0) pe_int (by intro _ _; rfl)) pe_int) pe_int) pa_nil)) pe_int) (pg_sub (pv 0) pe_int set_list))
  (pss_one (ps_ret (pe_op op_mod (pe_callTy call_int1 rfl L.f_int rfl (pa_cons (pe_op op_fdivW (pe_ix ix_seq (pv 0) pe_int (by intro _ _; rfl)) pe_int) pa_nil)) (pv 1))))))
def N8 : List Str := ["_law_script", "_law_salt", "_law_cells", "_law_blend", "_law_cell"]
theorem body8 {P : Program} {W : World} {K : PySem.W.Frag} {mg : Str → Option Value} {base : Heap} {ca : Nat → Addr} {n : Nat} {f : Addr} {cdv : Value} {A : Around} {outer : List Env} {s : Shared} {H : Hp} {E : XK} (L : Lv P W K mg base ca n) (hr : Room (4 * n + 4) (A.deeper (envOfC "_law_draw" (defScope st8) s.heap.objs.size f cdv))) (hgd : A.guards = some []) :
    PSs (cxOf (L2.CX P W) P W K mg base N8 "_law_draw" (defScope st8) f cdv A outer s H E).nox (defBody st8) (tDraw (wd K ca) (callD tab fns n)) :=
  have g := gx_of (w := wd K ca) (CX := L2.CX P W) (P := P) (W := W) (K := K) (mg := mg) (base := base) (N := N8) (outer := outer) (H := H) (E := E) hr hgd (by decide +kernel) rfl L.cls L.tb
  pss_cons (q_setLc g 2 [("_law_cell", 4)] (i_val g.hK (q_sl g (q_var 0) j_po0 (j_po1 j_int (by intro z; cases z)))) (blk_of (by rfl)) (fun s H C cl fp g => ⟨(q_gnm g 4), ts_nil, (q_abs L.f_abs (q_cons (q_int L.f_int (q_cons (q_var 4) j_nil)) j_nil))⟩)) (pss_cons (q_set g 3 (q_bin g .add j_int (q_bin g .mul j_int (q_var 1)))) (pss_cons (q_for g [4] (i_val g.hK (q_var 2)) (q_gnm g 4) (ss_cons (q_set g 3 (q_bin g .mod (q_int L.f_int (q_cons (q_bin g .add (q_bin g .add (q_bin g .mul (q_var 3) j_int) (q_bin g .mod (q_var 4) j_int)) j_int) j_nil)) j_int))
  ss_nil)) (pss_one (ps_ret (pe_lst (pa_cons (j_rev (q_lc g [("_law_cell", 4)] (i_val g.hK (q_var 2)) (blk_of (by rfl)) (fun s H C cl fp g => ⟨(q_gnm g 4), (q_ts1 (q_tcmp g .ge (q_var 4) (q_bin g .pow j_int j_int))), (q_var 4)⟩))) (pa_cons (q_var 3) pa_nil)))))))
/-- _law_mixed -/
theorem body12 {P : Program} {W : World} {K : PySem.W.Frag} {mg : Str → Option Value} {base : Heap} {ca : Nat → Addr} {n : Nat} {f : Addr} {cdv : Value} {A : Around} {outer : List Env} {s : Shared} {H : Hp} {E : XK} (L : Lv P W K mg base ca n) (hr : Room (4 * n + 4) (A.deeper (envOfC "_law_mixed" (defScope st12) s.heap.objs.size f cdv))) (hgd : A.guards = some []) :
    PSs (cxOf (L2.CX P W) P W K mg base N12 "_law_mixed" (defScope st12) f cdv A outer s H E) (defBody st12) (tSs (wd K ca) (ExW (wd K ca) fun cls d _ H => E cls d H) (callD tab fns n) b12) :=
  have g := gx_ofX (w := wd K ca) (P := P) (W := W) (K := K) (mg := mg) (base := base) (N := N12) (outer := outer) (H := H) (E := E) hr hgd (by decide +kernel) rfl L.cls L.tb
  have tk := takes_cx (P := P) (W := W) (K := K) (mg := mg) (base := base) (N := N12) (qual := "_law_mixed") (scope := defScope st12) (f := f) (cd := cdv) (A := A) (outer := outer) (s := s) (H := H) (E := E)
  have hr0 := hr.mono (show 4 * n + 1 ≤ 4 * n + 4 by omega)
  (ss_cons (q_parN g [2, 3] (q_nm 2 (q_nm 3 .nil)) (q_cons (q_list g L.f_list (q_cons (q_var 1) j_nil)) (q_cons (j_lst j_nil) j_nil)))
  (ss_cons (q_while g (q_tcmp g .ne (q_var 2) (j_lst j_nil)) (ss_cons (q_expr (q_append 3 (q_popAt 2 (qx_call L.c__law_any g tk hr0 (q_cons (q_var 0) (q_cons (q_len g L.f_len (q_cons (q_var 2) j_nil)) j_nil))))))
  ss_nil))
  (ss_cons (s_ret (q_var 3))
  ss_nil)))
/-- _law_drawn -/
theorem body64 {P : Program} {W : World} {K : PySem.W.Frag} {mg : Str → Option Value} {base : Heap} {ca : Nat → Addr} {n : Nat} {f : Addr} {cdv : Value} {A : Around} {outer : List Env} {s : Shared} {H : Hp} {E : XK} (L : Lv P W K mg base ca n) (hr : Room (4 * n + 4) (A.deeper (envOfC "_law_drawn" (defScope st64) s.heap.objs.size f cdv))) (hgd : A.guards = some []) :
    PSs (cxOf (L2.CX P W) P W K mg base N64 "_law_drawn" (defScope st64) f cdv A outer s H E) (defBody st64) (tSs (wd K ca) (ExW (wd K ca) fun cls d _ H => E cls d H) (callD tab fns n) b64) :=
  have g := gx_ofX (w := wd K ca) (P := P) (W := W) (K := K) (mg := mg) (base := base) (N := N64) (outer := outer) (H := H) (E := E) hr hgd (by decide +kernel) rfl L.cls L.tb
  have tk := takes_cx (P := P) (W := W) (K := K) (mg := mg) (base := base) (N := N64) (qual := "_law_drawn") (scope := defScope st64) (f := f) (cd := cdv) (A := A) (outer := outer) (s := s) (H := H) (E := E)
  have hr0 := hr.mono (show 4 * n + 1 ≤ 4 * n + 4 by omega)
  (ss_cons (q_parN g [1, 2] (q_nm 1 (q_nm 2 .nil)) (q_cons (qx_call L.c__law_any g tk hr0 (q_cons (q_var 0) (q_cons j_int j_nil))) (q_cons (qx_call L.c__law_any g tk hr0 (q_cons (q_var 0) (q_cons j_int j_nil))) j_nil)))
  (ss_cons (s_if (L2.PW.pt (w_or (q_tcmp g .eq (q_var 2) j_int) (w_one (q_tcmp g .lt (q_var 1) j_int)))) (ss_cons (s_ret (q_tpl g L.f_tuple (qx_call L.c__law_mixed g tk hr0 (q_cons (q_var 0) (q_cons (q_lrg g L.f_list (q_rg1 L.f_range (q_var 1))) j_nil)))))
  ss_nil) ss_nil)
  (ss_cons (q_set g 3 (q_lrg g L.f_list (q_rg1 L.f_range (q_var 1))))
  (ss_cons (s_if (q_tcmp g .eq (q_var 2) j_int) (ss_cons (q_for g [6] (q_rng1 L.f_range (q_cons (q_bin g .add j_int (qx_call L.c__law_any g tk hr0 (q_cons (q_var 0) (q_cons j_int j_nil)))) j_nil)) (q_gnm g 6) (ss_cons (q_set g 4 (qx_call L.c__law_any g tk hr0 (q_cons (q_var 0) (q_cons (q_bin g .sub (q_var 1) j_int) j_nil))))
  (ss_cons (q_parX g (q_cons (q_ix g (q_var 3) (q_bin g .add (q_var 4) j_int)) (q_cons (q_ix g (q_var 3) (q_var 4)) j_nil)) (q_xix 3 (q_var 4) (q_xix 3 (q_bin g .add (q_var 4) j_int) gx_nil)))
  ss_nil)))
  (ss_cons (s_ret (q_tpl g L.f_tuple (q_var 3)))
  ss_nil)) ss_nil)
  (ss_cons (q_set g 4 (qx_call L.c__law_any g tk hr0 (q_cons (q_var 0) (q_cons (q_bin g .sub (q_var 1) j_int) j_nil))))
  (ss_cons (q_set g 5 (q_bin g .add (q_bin g .add (q_var 4) j_int) (qx_call L.c__law_any g tk hr0 (q_cons (q_var 0) (q_cons (q_bin g .sub (q_bin g .sub (q_var 1) j_int) (q_var 4)) j_nil)))))
  (ss_cons (s_ret (q_tpl g L.f_tuple (q_bin g .add (q_bin g .add (q_sl g (q_var 3) j_po0 (j_po1 (q_var 4) (by intro z; cases z))) (j_rev (q_sl g (q_var 3) (j_po1 (q_var 4) (by intro z; cases z)) (j_po1 (q_var 5) (by intro z; cases z))))) (q_sl g (q_var 3) (j_po1 (q_var 5) (by intro z; cases z)) j_po0))))
  ss_nil)))))))
/-- _law_of -/
theorem body11 {P : Program} {W : World} {K : PySem.W.Frag} {mg : Str → Option Value} {base : Heap} {ca : Nat → Addr} {n : Nat} {f : Addr} {cdv : Value} {A : Around} {outer : List Env} {s : Shared} {H : Hp} {E : XK} (L : Lv P W K mg base ca n) (hr : Room (4 * n + 4) (A.deeper (envOfC "_law_of" (defScope st11) s.heap.objs.size f cdv))) (hgd : A.guards = some []) :
    PSs (cxOf (L2.CX P W) P W K mg base N11 "_law_of" (defScope st11) f cdv A outer s H E) (defBody st11) (tSs (wd K ca) (ExW (wd K ca) fun cls d _ H => E cls d H) (callD tab fns n) b11) :=
  have g := gx_ofX (w := wd K ca) (P := P) (W := W) (K := K) (mg := mg) (base := base) (N := N11) (outer := outer) (H := H) (E := E) hr hgd (by decide +kernel) rfl L.cls L.tb
  have tk := takes_cx (P := P) (W := W) (K := K) (mg := mg) (base := base) (N := N11) (qual := "_law_of") (scope := defScope st11) (f := f) (cd := cdv) (A := A) (outer := outer) (s := s) (H := H) (E := E)
  have hr0 := hr.mono (show 4 * n + 1 ≤ 4 * n + 4 by omega)
  (ss_cons (s_ret (q_ix g (q_var 1) (qx_call L.c__law_any g tk hr0 (q_cons (q_var 0) (q_cons (q_len g L.f_len (q_cons (q_var 1) j_nil)) j_nil)))))
  ss_nil)
/-- _law_refused -/
theorem body65 {P : Program} {W : World} {K : PySem.W.Frag} {mg : Str → Option Value} {base : Heap} {ca : Nat → Addr} {n : Nat} {f : Addr} (L : Lv P W K mg base ca n) : ∀ (X : Cx), X.prog = P → X.w = W → X.K = K → X.mg = mg → X.base = base → X.A.guards = some [] → ∀ (cdg : Value) (q : Str),
    GivesS X N65 "_law_refused" (defScope st65) f cdg (defBody st65) "_law_work" q (TTf (wd K ca) (runFn tab (callD tab fns n) (.lam 2 [(some 1, [9], [3], [.ret (.ite (.isX (.var 1) [3, 9] []) (.xat (.var 1)) .non)])]))) := by
  rintro X rfl rfl rfl rfl rfl hgd cdg q
  refine gives_try (w := wd X.K ca) (Φ := callD tab fns n) (Ng := N65) (zs := [(.ref (He.ga X.K "Refused"), some 1, [9], [3], [.ret (.ite (.isX (.var 1) [3, 9] []) (.xat (.var 1)) .non)])]) rfl (List.forall_mem_cons.mpr ⟨L.k_Refused, List.forall_mem_nil _⟩) (by decide) (fun s H hr => ?_) (fun _ _ => rfl)
  have g := gx_Z (w := wd X.K ca) (Ng := N65) (H := H) hr hgd (by decide +kernel) rfl L.cls L.tb
  exact (hd_named g 1 ⟨by rfl, by decide, .inl L.g_Refused⟩ .nil (fun a oe k dx pn hk hz hf => have g := g.suite (pn := (a, oe) :: pn) (a := a) (x := (k, a, dx)); (ss_cons (s_ret (j_ite (q_val (q_isX L.errs L.k_EndsError L.g_EndsError L.f_isinstance hk hz hf (q_var 1))) (q_xat L.errs hk hz hf (q_var 1)) j_non))
  ss_nil)))
/-- is_integer -/
theorem body0 {P : Program} {W : World} {K : PySem.W.Frag} {mg : Str → Option Value} {base : Heap} {ca : Nat → Addr} {n : Nat} {f : Addr} {cdv : Value} {A : Around} {outer : List Env} {s : Shared} {H : Hp} {E : XK} (L : Lv P W K mg base ca n) (hr : Room (4 * n + 4) (A.deeper (envOfC "is_integer" (defScope st0) s.heap.objs.size f cdv))) (hgd : A.guards = some []) :
    PSs (cxOf (L2.CX P W) P W K mg base N0 "is_integer" (defScope st0) f cdv A outer s H E) (defBody st0) (tSs (wd K ca) (ExW (wd K ca) fun cls d _ H => E cls d H) (callD tab fns n) b0) :=
  have g := gx_ofX (w := wd K ca) (P := P) (W := W) (K := K) (mg := mg) (base := base) (N := N0) (outer := outer) (H := H) (E := E) hr hgd (by decide +kernel) rfl L.cls L.tb
  have tk := takes_cx (P := P) (W := W) (K := K) (mg := mg) (base := base) (N := N0) (qual := "is_integer") (scope := defScope st0) (f := f) (cd := cdv) (A := A) (outer := outer) (s := s) (H := H) (E := E)
  have hr0 := hr.mono (show 4 * n + 1 ≤ 4 * n + 4 by omega)
  (ss_cons (s_ret (q_and (q_isI g .int L.f_isinstance L.f_int (q_var 0)) (q_one (j_not (q_isI g .bool L.f_isinstance L.f_bool (q_var 0))))))
  ss_nil)
/-- is_number -/
theorem body1 {P : Program} {W : World} {K : PySem.W.Frag} {mg : Str → Option Value} {base : Heap} {ca : Nat → Addr} {n : Nat} {f : Addr} {cdv : Value} {A : Around} {outer : List Env} {s : Shared} {H : Hp} {E : XK} (L : Lv P W K mg base ca n) (hr : Room (4 * n + 4) (A.deeper (envOfC "is_number" (defScope st1) s.heap.objs.size f cdv))) (hgd : A.guards = some []) :
    PSs (cxOf (L2.CX P W) P W K mg base N1 "is_number" (defScope st1) f cdv A outer s H E) (defBody st1) (tSs (wd K ca) (ExW (wd K ca) fun cls d _ H => E cls d H) (callD tab fns n) b1) :=
  have g := gx_ofX (w := wd K ca) (P := P) (W := W) (K := K) (mg := mg) (base := base) (N := N1) (outer := outer) (H := H) (E := E) hr hgd (by decide +kernel) rfl L.cls L.tb
  have tk := takes_cx (P := P) (W := W) (K := K) (mg := mg) (base := base) (N := N1) (qual := "is_number") (scope := defScope st1) (f := f) (cd := cdv) (A := A) (outer := outer) (s := s) (H := H) (E := E)
  have hr0 := hr.mono (show 4 * n + 1 ≤ 4 * n + 4 by omega)
  (ss_cons (s_ret (q_and (qx_call L.c_is_integer g tk hr0 (q_cons (q_var 0) j_nil)) (q_one (q_cmp g .ge (q_var 0) j_int))))
  ss_nil)
/-- is_index -/
theorem body2 {P : Program} {W : World} {K : PySem.W.Frag} {mg : Str → Option Value} {base : Heap} {ca : Nat → Addr} {n : Nat} {f : Addr} {cdv : Value} {A : Around} {outer : List Env} {s : Shared} {H : Hp} {E : XK} (L : Lv P W K mg base ca n) (hr : Room (4 * n + 4) (A.deeper (envOfC "is_index" (defScope st2) s.heap.objs.size f cdv))) (hgd : A.guards = some []) :
    PSs (cxOf (L2.CX P W) P W K mg base N2 "is_index" (defScope st2) f cdv A outer s H E) (defBody st2) (tSs (wd K ca) (ExW (wd K ca) fun cls d _ H => E cls d H) (callD tab fns n) b2) :=
  have g := gx_ofX (w := wd K ca) (P := P) (W := W) (K := K) (mg := mg) (base := base) (N := N2) (outer := outer) (H := H) (E := E) hr hgd (by decide +kernel) rfl L.cls L.tb
  have tk := takes_cx (P := P) (W := W) (K := K) (mg := mg) (base := base) (N := N2) (qual := "is_index") (scope := defScope st2) (f := f) (cd := cdv) (A := A) (outer := outer) (s := s) (H := H) (E := E)
  have hr0 := hr.mono (show 4 * n + 1 ≤ 4 * n + 4 by omega)
  (ss_cons (s_ret (q_and (qx_call L.c_is_number g tk hr0 (q_cons (q_var 0) j_nil)) (q_one (q_cmp g .lt (q_var 0) (q_var 1)))))
  ss_nil)
/-- is_sequence -/
theorem body3 {P : Program} {W : World} {K : PySem.W.Frag} {mg : Str → Option Value} {base : Heap} {ca : Nat → Addr} {n : Nat} {f : Addr} {cdv : Value} {A : Around} {outer : List Env} {s : Shared} {H : Hp} {E : XK} (L : Lv P W K mg base ca n) (hr : Room (4 * n + 4) (A.deeper (envOfC "is_sequence" (defScope st3) s.heap.objs.size f cdv))) (hgd : A.guards = some []) :
    PSs (cxOf (L2.CX P W) P W K mg base N3 "is_sequence" (defScope st3) f cdv A outer s H E) (defBody st3) (tSs (wd K ca) (ExW (wd K ca) fun cls d _ H => E cls d H) (callD tab fns n) b3) :=
  have g := gx_ofX (w := wd K ca) (P := P) (W := W) (K := K) (mg := mg) (base := base) (N := N3) (outer := outer) (H := H) (E := E) hr hgd (by decide +kernel) rfl L.cls L.tb
  have tk := takes_cx (P := P) (W := W) (K := K) (mg := mg) (base := base) (N := N3) (qual := "is_sequence") (scope := defScope st3) (f := f) (cd := cdv) (A := A) (outer := outer) (s := s) (H := H) (E := E)
  have hr0 := hr.mono (show 4 * n + 1 ≤ 4 * n + 4 by omega)
  (ss_cons (s_ret (q_isS g L.f_isinstance L.f_list L.f_tuple (q_var 0)))
  ss_nil)
/-- fault -/
theorem body48 {P : Program} {W : World} {K : PySem.W.Frag} {mg : Str → Option Value} {base : Heap} {ca : Nat → Addr} {n : Nat} {f : Addr} {cdv : Value} {A : Around} {outer : List Env} {s : Shared} {H : Hp} {E : XK} (L : Lv P W K mg base ca n) (hr : Room (4 * n + 4) (A.deeper (envOfC "fault" (defScope st48) s.heap.objs.size f cdv))) (hgd : A.guards = some []) :
    PSs (cxOf (L2.CX P W) P W K mg base N48 "fault" (defScope st48) f cdv A outer s H E) (defBody st48) (tSs (wd K ca) (ExW (wd K ca) fun cls d _ H => E cls d H) (callD tab fns n) b48) :=
  have g := gx_ofX (w := wd K ca) (P := P) (W := W) (K := K) (mg := mg) (base := base) (N := N48) (outer := outer) (H := H) (E := E) hr hgd (by decide +kernel) rfl L.cls L.tb
  have tk := takes_cx (P := P) (W := W) (K := K) (mg := mg) (base := base) (N := N48) (qual := "fault") (scope := defScope st48) (f := f) (cd := cdv) (A := A) (outer := outer) (s := s) (H := H) (E := E)
  have hr0 := hr.mono (show 4 * n + 1 ≤ 4 * n + 4 by omega)
  (ss_cons (s_if (t_not (q_val (qx_call L.c_is_sequence g tk hr0 (q_cons (q_var 0) j_nil)))) (ss_cons (s_ret j_int)
  ss_nil) ss_nil)
  (ss_cons (q_set g 1 (q_bin g .mul (j_lst (q_cons j_bl j_nil)) (q_len g L.f_len (q_cons (q_var 0) j_nil))))
  (ss_cons (q_for g [2, 3] (q_enum g L.f_enumerate (q_var 0)) (q_gtp g (q_gcons (q_gnm g 2) (q_gcons (q_gnm g 3) gs_nil))) (ss_cons (s_if (L2.PW.pt (w_or (t_not (q_val (qx_call L.c_is_index g tk hr0 (q_cons (q_var 3) (q_cons (q_len g L.f_len (q_cons (q_var 0) j_nil)) j_nil))))) (w_one (q_val (q_ix g (q_var 1) (q_var 3)))))) (ss_cons (s_ret (q_var 2))
  ss_nil) ss_nil)
  (ss_cons (q_setIx 1 (q_var 3) j_bl)
  ss_nil)))
  (ss_cons (s_ret j_non)
  ss_nil))))
/-- checked_reordering -/
theorem body49 {P : Program} {W : World} {K : PySem.W.Frag} {mg : Str → Option Value} {base : Heap} {ca : Nat → Addr} {n : Nat} {f : Addr} {cdv : Value} {A : Around} {outer : List Env} {s : Shared} {H : Hp} {E : XK} (L : Lv P W K mg base ca n) (hr : Room (4 * n + 4) (A.deeper (envOfC "checked_reordering" (defScope st49) s.heap.objs.size f cdv))) (hgd : A.guards = some []) :
    PSs (cxOf (L2.CX P W) P W K mg base N49 "checked_reordering" (defScope st49) f cdv A outer s H E) (defBody st49) (tSs (wd K ca) (ExW (wd K ca) fun cls d _ H => E cls d H) (callD tab fns n) b49) :=
  have g := gx_ofX (w := wd K ca) (P := P) (W := W) (K := K) (mg := mg) (base := base) (N := N49) (outer := outer) (H := H) (E := E) hr hgd (by decide +kernel) rfl L.cls L.tb
  have tk := takes_cx (P := P) (W := W) (K := K) (mg := mg) (base := base) (N := N49) (qual := "checked_reordering") (scope := defScope st49) (f := f) (cd := cdv) (A := A) (outer := outer) (s := s) (H := H) (E := E)
  have hr0 := hr.mono (show 4 * n + 1 ≤ 4 * n + 4 by omega)
  have hr2 := hr.mono (show 2 ≤ 4 * n + 4 by omega)
  (ss_cons (q_set g 1 (qx_call L.c_fault g tk hr0 (q_cons (q_var 0) j_nil)))
  (ss_cons (s_if (q_tnotN (q_var 1)) (ss_cons (qx_raise L.e_InvalidReordering g hr2 tk (q_var 1))
  ss_nil) ss_nil)
  (ss_cons (s_ret (q_tuple g L.f_tuple (q_cons (q_var 0) j_nil)))
  ss_nil)))
/-- opened_at -/
theorem body66 {P : Program} {W : World} {K : PySem.W.Frag} {mg : Str → Option Value} {base : Heap} {ca : Nat → Addr} {n : Nat} {f : Addr} {cdv : Value} {A : Around} {outer : List Env} {s : Shared} {H : Hp} {E : XK} (L : Lv P W K mg base ca n) (hr : Room (4 * n + 4) (A.deeper (envOfC "opened_at" (defScope st66) s.heap.objs.size f cdv))) (hgd : A.guards = some []) :
    PSs (cxOf (L2.CX P W) P W K mg base N66 "opened_at" (defScope st66) f cdv A outer s H E) (defBody st66) (tSs (wd K ca) (ExW (wd K ca) fun cls d _ H => E cls d H) (callD tab fns n) b66) :=
  have g := gx_ofX (w := wd K ca) (P := P) (W := W) (K := K) (mg := mg) (base := base) (N := N66) (outer := outer) (H := H) (E := E) hr hgd (by decide +kernel) rfl L.cls L.tb
  have tk := takes_cx (P := P) (W := W) (K := K) (mg := mg) (base := base) (N := N66) (qual := "opened_at") (scope := defScope st66) (f := f) (cd := cdv) (A := A) (outer := outer) (s := s) (H := H) (E := E)
  have hr0 := hr.mono (show 4 * n + 1 ≤ 4 * n + 4 by omega)
  (ss_cons (s_ret (q_tuple g L.f_tuple (q_cons (q_lc g [("at", 2), ("place", 3)] (q_enum g L.f_enumerate (q_var 0)) (blk_of (by rfl)) (fun s H C cl fp g => ⟨(q_gtp g (q_gcons (q_gnm g 2) (q_gcons (q_gnm g 3) gs_nil))), (q_ts1 (q_tcmp g .ne (q_cmp g .lt (q_var 2) (q_var 1)) (q_cmp g .lt (q_var 3) (q_var 1)))), (q_var 2)⟩)) j_nil)))
  ss_nil)
/-- open_entries -/
theorem body67 {P : Program} {W : World} {K : PySem.W.Frag} {mg : Str → Option Value} {base : Heap} {ca : Nat → Addr} {n : Nat} {f : Addr} {cdv : Value} {A : Around} {outer : List Env} {s : Shared} {H : Hp} {E : XK} (L : Lv P W K mg base ca n) (hr : Room (4 * n + 4) (A.deeper (envOfC "open_entries" (defScope st67) s.heap.objs.size f cdv))) (hgd : A.guards = some []) :
    PSs (cxOf (L2.CX P W) P W K mg base N67 "open_entries" (defScope st67) f cdv A outer s H E) (defBody st67) (tSs (wd K ca) (ExW (wd K ca) fun cls d _ H => E cls d H) (callD tab fns n) b67) :=
  have g := gx_ofX (w := wd K ca) (P := P) (W := W) (K := K) (mg := mg) (base := base) (N := N67) (outer := outer) (H := H) (E := E) hr hgd (by decide +kernel) rfl L.cls L.tb
  have tk := takes_cx (P := P) (W := W) (K := K) (mg := mg) (base := base) (N := N67) (qual := "open_entries") (scope := defScope st67) (f := f) (cd := cdv) (A := A) (outer := outer) (s := s) (H := H) (E := E)
  have hr0 := hr.mono (show 4 * n + 1 ≤ 4 * n + 4 by omega)
  have hr2 := hr.mono (show 2 ≤ 4 * n + 4 by omega)
  (ss_cons (q_set g 2 (qx_call L.c_checked_reordering g tk hr0 (q_cons (q_var 0) j_nil)))
  (ss_cons (s_if (t_not (q_val (qx_call L.c_is_index g tk hr0 (q_cons (q_var 1) (q_cons (q_bin g .add (q_len g L.f_len (q_cons (q_var 2) j_nil)) j_int) j_nil))))) (ss_cons (qx_raise L.e_Refused g hr2 tk j_int)
  ss_nil) ss_nil)
  (ss_cons (s_ret (qx_call L.c_opened_at g tk hr0 (q_cons (q_var 2) (q_cons (q_var 1) j_nil))))
  ss_nil)))
/-- idle -/
theorem body68 {P : Program} {W : World} {K : PySem.W.Frag} {mg : Str → Option Value} {base : Heap} {ca : Nat → Addr} {n : Nat} {f : Addr} {cdv : Value} {A : Around} {outer : List Env} {s : Shared} {H : Hp} {E : XK} (L : Lv P W K mg base ca n) (hr : Room (4 * n + 4) (A.deeper (envOfC "idle" (defScope st68) s.heap.objs.size f cdv))) (hgd : A.guards = some []) :
    PSs (cxOf (L2.CX P W) P W K mg base N68 "idle" (defScope st68) f cdv A outer s H E) (defBody st68) (tSs (wd K ca) (ExW (wd K ca) fun cls d _ H => E cls d H) (callD tab fns n) b68) :=
  have g := gx_ofX (w := wd K ca) (P := P) (W := W) (K := K) (mg := mg) (base := base) (N := N68) (outer := outer) (H := H) (E := E) hr hgd (by decide +kernel) rfl L.cls L.tb
  have tk := takes_cx (P := P) (W := W) (K := K) (mg := mg) (base := base) (N := N68) (qual := "idle") (scope := defScope st68) (f := f) (cd := cdv) (A := A) (outer := outer) (s := s) (H := H) (E := E)
  have hr0 := hr.mono (show 4 * n + 1 ≤ 4 * n + 4 by omega)
  (ss_cons (s_ret (q_trg g L.f_tuple (q_rg1 L.f_range (q_var 0))))
  ss_nil)
/-- reordered -/
theorem body69 {P : Program} {W : World} {K : PySem.W.Frag} {mg : Str → Option Value} {base : Heap} {ca : Nat → Addr} {n : Nat} {f : Addr} {cdv : Value} {A : Around} {outer : List Env} {s : Shared} {H : Hp} {E : XK} (L : Lv P W K mg base ca n) (hr : Room (4 * n + 4) (A.deeper (envOfC "reordered" (defScope st69) s.heap.objs.size f cdv))) (hgd : A.guards = some []) :
    PSs (cxOf (L2.CX P W) P W K mg base N69 "reordered" (defScope st69) f cdv A outer s H E) (defBody st69) (tSs (wd K ca) (ExW (wd K ca) fun cls d _ H => E cls d H) (callD tab fns n) b69) :=
  have g := gx_ofX (w := wd K ca) (P := P) (W := W) (K := K) (mg := mg) (base := base) (N := N69) (outer := outer) (H := H) (E := E) hr hgd (by decide +kernel) rfl L.cls L.tb
  have tk := takes_cx (P := P) (W := W) (K := K) (mg := mg) (base := base) (N := N69) (qual := "reordered") (scope := defScope st69) (f := f) (cd := cdv) (A := A) (outer := outer) (s := s) (H := H) (E := E)
  have hr0 := hr.mono (show 4 * n + 1 ≤ 4 * n + 4 by omega)
  have hr2 := hr.mono (show 2 ≤ 4 * n + 4 by omega)
  (ss_cons (q_set g 2 (qx_call L.c_checked_reordering g tk hr0 (q_cons (q_var 1) j_nil)))
  (ss_cons (s_if (q_tcmp g .ne (q_len g L.f_len (q_cons (q_var 0) j_nil)) (q_len g L.f_len (q_cons (q_var 2) j_nil))) (ss_cons (qx_raise L.e_Refused g hr2 tk (q_len g L.f_len (q_cons (q_var 2) j_nil)))
  ss_nil) ss_nil)
  (ss_cons (q_set g 3 (q_bin g .mul (j_lst (q_cons j_non j_nil)) (q_len g L.f_len (q_cons (q_var 2) j_nil))))
  (ss_cons (q_for g [4, 5] (q_enum g L.f_enumerate (q_var 2)) (q_gtp g (q_gcons (q_gnm g 4) (q_gcons (q_gnm g 5) gs_nil))) (ss_cons (q_setIx 3 (q_var 5) (q_ix g (q_var 0) (q_var 4)))
  ss_nil))
  (ss_cons (s_ret (q_tuple g L.f_tuple (q_cons (q_var 3) j_nil)))
  ss_nil)))))
/-- back -/
theorem body70 {P : Program} {W : World} {K : PySem.W.Frag} {mg : Str → Option Value} {base : Heap} {ca : Nat → Addr} {n : Nat} {f : Addr} {cdv : Value} {A : Around} {outer : List Env} {s : Shared} {H : Hp} {E : XK} (L : Lv P W K mg base ca n) (hr : Room (4 * n + 4) (A.deeper (envOfC "back" (defScope st70) s.heap.objs.size f cdv))) (hgd : A.guards = some []) :
    PSs (cxOf (L2.CX P W) P W K mg base N70 "back" (defScope st70) f cdv A outer s H E) (defBody st70) (tSs (wd K ca) (ExW (wd K ca) fun cls d _ H => E cls d H) (callD tab fns n) b70) :=
  have g := gx_ofX (w := wd K ca) (P := P) (W := W) (K := K) (mg := mg) (base := base) (N := N70) (outer := outer) (H := H) (E := E) hr hgd (by decide +kernel) rfl L.cls L.tb
  have tk := takes_cx (P := P) (W := W) (K := K) (mg := mg) (base := base) (N := N70) (qual := "back") (scope := defScope st70) (f := f) (cd := cdv) (A := A) (outer := outer) (s := s) (H := H) (E := E)
  have hr0 := hr.mono (show 4 * n + 1 ≤ 4 * n + 4 by omega)
  (ss_cons (q_set g 1 (qx_call L.c_checked_reordering g tk hr0 (q_cons (q_var 0) j_nil)))
  (ss_cons (s_ret (qx_call L.c_reordered g tk hr0 (q_cons (qx_call L.c_idle g tk hr0 (q_cons (q_len g L.f_len (q_cons (q_var 1) j_nil)) j_nil)) (q_cons (q_var 1) j_nil))))
  ss_nil))
/-- width -/
theorem body71 {P : Program} {W : World} {K : PySem.W.Frag} {mg : Str → Option Value} {base : Heap} {ca : Nat → Addr} {n : Nat} {f : Addr} {cdv : Value} {A : Around} {outer : List Env} {s : Shared} {H : Hp} {E : XK} (L : Lv P W K mg base ca n) (hr : Room (4 * n + 4) (A.deeper (envOfC "width" (defScope st71) s.heap.objs.size f cdv))) (hgd : A.guards = some []) :
    PSs (cxOf (L2.CX P W) P W K mg base N71 "width" (defScope st71) f cdv A outer s H E) (defBody st71) (tSs (wd K ca) (ExW (wd K ca) fun cls d _ H => E cls d H) (callD tab fns n) b71) :=
  have g := gx_ofX (w := wd K ca) (P := P) (W := W) (K := K) (mg := mg) (base := base) (N := N71) (outer := outer) (H := H) (E := E) hr hgd (by decide +kernel) rfl L.cls L.tb
  have tk := takes_cx (P := P) (W := W) (K := K) (mg := mg) (base := base) (N := N71) (qual := "width") (scope := defScope st71) (f := f) (cd := cdv) (A := A) (outer := outer) (s := s) (H := H) (E := E)
  have hr0 := hr.mono (show 4 * n + 1 ≤ 4 * n + 4 by omega)
  (ss_cons (q_parN g [1, 2, 3] (q_nm 1 (q_nm 2 (q_nm 3 .nil))) (q_cons (qx_call L.c_checked_reordering g tk hr0 (q_cons (q_var 0) j_nil)) (q_cons j_int (q_cons j_int j_nil))))
  (ss_cons (q_for g [4, 5] (q_enum g L.f_enumerate (qx_call L.c_back g tk hr0 (q_cons (q_var 1) j_nil))) (q_gtp g (q_gcons (q_gnm g 4) (q_gcons (q_gnm g 5) gs_nil))) (ss_cons (q_set g 3 (q_bin g .sub (q_bin g .add (q_var 3) (j_ite (q_tcmp g .gt (q_ix g (q_var 1) (q_var 4)) (q_var 4)) j_int j_int)) (j_ite (q_tcmp g .lt (q_ix g (q_var 1) (q_var 4)) (q_var 4)) j_int j_int)))
  (ss_cons (q_set g 3 (q_bin g .sub (q_bin g .add (q_var 3) (j_ite (q_tcmp g .gt (q_var 5) (q_var 4)) j_int j_int)) (j_ite (q_tcmp g .lt (q_var 5) (q_var 4)) j_int j_int)))
  (ss_cons (q_set g 2 (q_max g L.f_max (q_cons (q_var 2) (q_cons (q_var 3) j_nil))))
  ss_nil))))
  (ss_cons (s_ret (q_var 2))
  ss_nil)))
/-- law -/
theorem body72 {P : Program} {W : World} {K : PySem.W.Frag} {mg : Str → Option Value} {base : Heap} {ca : Nat → Addr} {n : Nat} {f : Addr} {cdv : Value} {A : Around} {outer : List Env} {s : Shared} {H : Hp} {E : XK} (L : Lv P W K mg base ca n) (hr : Room (4 * n + 4) (A.deeper (envOfC "law" (defScope st72) s.heap.objs.size f cdv))) (hgd : A.guards = some []) (M : MkC (wd K ca) (cxOf (L2.CX P W) P W K mg base N72 "law" (defScope st72) f cdv A outer s H E)) :
    PSs (cxOf (L2.CX P W) P W K mg base N72 "law" (defScope st72) f cdv A outer s H E) (defBody st72) (tSs (wd K ca) (ExW (wd K ca) fun cls d _ H => E cls d H) (callD tab fns n) b72) :=
  have g := gx_ofX (w := wd K ca) (P := P) (W := W) (K := K) (mg := mg) (base := base) (N := N72) (outer := outer) (H := H) (E := E) hr hgd (by decide +kernel) rfl L.cls L.tb
  have tk := takes_cx (P := P) (W := W) (K := K) (mg := mg) (base := base) (N := N72) (qual := "law") (scope := defScope st72) (f := f) (cd := cdv) (A := A) (outer := outer) (s := s) (H := H) (E := E)
  have hr0 := hr.mono (show 4 * n + 1 ≤ 4 * n + 4 by omega)
  have hrL := hr
  (ss_cons (q_set g 1 (qx_call L.c__law_draw g tk hr0 (q_cons (q_var 0) (q_cons j_int j_nil))))
  (ss_cons (q_for g [2] (q_rng1 L.f_range (q_cons j_int j_nil)) (q_gnm g 2) (ss_cons (q_parX g (q_cons (qx_call L.c__law_drawn g tk hr0 (q_cons (q_var 1) j_nil)) (q_cons j_int j_nil)) (q_xnm g 3 (q_xnm g 4 gx_nil)))
  (ss_cons (q_set g 5 (qx_call L.c__law_of g tk hr0 (q_cons (q_var 1) (q_cons (j_lst (q_cons (q_list g L.f_list (q_cons (q_var 3) j_nil)) (q_cons (q_var 3) j_nil))) j_nil))))
  (ss_cons (q_for g [6] (q_rng1 L.f_range (q_cons (q_bin g .add (q_len g L.f_len (q_cons (q_var 3) j_nil)) j_int) j_nil)) (q_gnm g 6) (ss_cons (q_setLc g 9 [("_law_at", 12)] (q_rng1 L.f_range (q_cons (q_len g L.f_len (q_cons (q_var 3) j_nil)) j_nil)) (blk_of (by rfl)) (fun s H C cl fp g => ⟨(q_gnm g 12), (q_ts1 (L2.PW.pt (w_and (q_tcmp g .lt (q_var 12) (q_var 6)) (w_one (q_tcmp g .ge (q_ix g (q_var 3) (q_var 12)) (q_var 6)))))), (q_var 12)⟩))
  (ss_cons (q_setLc g 10 [("_law_at", 12)] (q_rng1 L.f_range (q_cons (q_len g L.f_len (q_cons (q_var 3) j_nil)) j_nil)) (blk_of (by rfl)) (fun s H C cl fp g => ⟨(q_gnm g 12), (q_ts1 (L2.PW.pt (w_and (q_tcmp g .ge (q_var 12) (q_var 6)) (w_one (q_tcmp g .lt (q_ix g (q_var 3) (q_var 12)) (q_var 6)))))), (q_var 12)⟩))
  (ss_cons (q_set g 11 (q_tuple g L.f_tuple (q_cons (q_sorted g L.f_sorted (q_cons (q_bin g .add (q_var 9) (q_var 10)) j_nil)) j_nil)))
  (ss_cons (s_if (L2.PW.pt (w_or (q_tcmp g .ne (q_repr g L.f_repr (q_cons (qx_call L.c_open_entries g tk hr0 (q_cons (q_var 5) (q_cons (q_var 6) j_nil))) j_nil)) (q_repr g L.f_repr (q_cons (q_var 11) j_nil))) (w_one (q_tcmp g .ne (q_repr g L.f_repr (q_cons (qx_callk ["cut", "reordering"] [1, 0] L.c_open_entries g tk hr0 (by intro _ _ _ _ _ _ _ _ us ws l1 l2; match us, ws, l1, l2 with | [], [_, _], _, _ => rfl) (k_cons (q_var 6) (k_cons (q_var 3) k_nil))) j_nil)) (q_repr g L.f_repr (q_cons (q_var 11) j_nil)))))) (ss_cons (s_ret j_bl)
  ss_nil) ss_nil)
  (ss_cons (s_if (q_tcmp g .ne (q_len g L.f_len (q_cons (q_var 9) j_nil)) (q_len g L.f_len (q_cons (q_var 10) j_nil))) (ss_cons (s_ret j_bl)
  ss_nil) ss_nil)
  (ss_cons (q_set g 4 (q_max g L.f_max (q_cons (q_var 4) (q_cons (q_len g L.f_len (q_cons (q_var 11) j_nil)) j_nil))))
  ss_nil)))))))
  (ss_cons (q_set g 7 (q_tuple g L.f_tuple (q_cons (q_lc g [("_law_place", 13)] (q_rng1 L.f_range (q_cons (q_len g L.f_len (q_cons (q_var 3) j_nil)) j_nil)) (blk_of (by rfl)) (fun s H C cl fp g => ⟨(q_gnm g 13), ts_nil, (q_tidx (q_var 3) (q_var 13))⟩)) j_nil)))
  (ss_cons (s_if (L2.PW.pt (w_or (q_tcmp g .ne (q_repr g L.f_repr (q_cons (qx_call L.c_width g tk hr0 (q_cons (q_var 5) j_nil)) j_nil)) (q_repr g L.f_repr (q_cons (q_var 4) j_nil))) (w_one (q_tcmp g .ne (q_repr g L.f_repr (q_cons (qx_callk ["reordering"] [0] L.c_width g tk hr0 (by intro _ _ _ _ _ _ _ _ us ws l1 l2; match us, ws, l1, l2 with | [], [_], _, _ => rfl) (k_cons (q_var 7) k_nil)) j_nil)) (q_repr g L.f_repr (q_cons (q_var 4) j_nil)))))) (ss_cons (s_ret j_bl)
  ss_nil) ss_nil)
  (ss_cons (q_for g [8] (i_val g.hK (j_lst (q_cons (q_bin g .add (q_len g L.f_len (q_cons (q_var 3) j_nil)) j_int) (q_cons (q_bin g .sub j_int j_int) (q_cons j_non (q_cons j_bl (q_cons j_str (q_cons (j_tup (q_cons j_int j_nil)) (q_cons (q_bin g .add (q_bin g .add (q_len g L.f_len (q_cons (q_var 3) j_nil)) j_int) (qx_call L.c__law_any g tk hr0 (q_cons (q_var 1) (q_cons j_int j_nil)))) j_nil))))))))) (q_gnm g 8) (ss_cons (s_if (q_tcmp g .ne (q_repr g L.f_repr (q_cons (q_lam L.l__law_refused g M hrL rfl (fun A out s H E f cc hr hgd => have g := gx_lam g hr hgd; have tk := tk_lam (X := _) (A := A) (out := out) (s := s) (H := H) (E := E) (f := f) (cc := cc); have hr0 := hr.mono (Nat.le_succ _); (qx_call L.c_open_entries g tk hr0 (q_cons (q_var 3) (q_cons (q_var 8) j_nil)))) (by rfl) rfl (fun _ _ _ _ _ => rfl) (by decide) (by decide) (by decide)) j_nil)) j_str) (ss_cons (s_ret j_bl)
  ss_nil) ss_nil)
  ss_nil))
  ss_nil)))))))
  (ss_cons (s_ret j_bl)
  ss_nil)))
/-! ### the head and the levels -/
def ca (K : PySem.W.Frag) (c : Nat) : Addr := He.ga K "EndsError"
structure Hd (P : Program) (K : PySem.W.Frag) (mg : Str → Option Value) (base : Heap) : Prop where
  cls : ∀ c, ClsOk (wd K (ca K)) c
  f_abs : mg "abs" = none
  f_bool : mg "bool" = none
  f_enumerate : mg "enumerate" = none
  f_int : mg "int" = none
  f_isinstance : mg "isinstance" = none
  f_len : mg "len" = none
  f_list : mg "list" = none
  f_max : mg "max" = none
  f_range : mg "range" = none
  f_repr : mg "repr" = none
  f_sorted : mg "sorted" = none
  f_tuple : mg "tuple" = none
  e_InvalidReordering : EX1 P K mg (wd K (ca K)) "InvalidReordering" "self" 3
  e_Refused : EX1 P K mg (wd K (ca K)) "Refused" "self" 9
  errs : ErrF K (wd K (ca K)) [3, 9]
  g_EndsError : mg "EndsError" = some (.ref (He.ga K "EndsError"))
  k_EndsError : ErrC K (wd K (ca K)) (.ref (He.ga K "EndsError")) [3, 9] []
  g_Refused : mg "Refused" = some (.ref (He.ga K "Refused"))
  k_Refused : ErrC K (wd K (ca K)) (.ref (He.ga K "Refused")) [9] [3]
  t_law : MkF K mg base (wd K (ca K)) "law" ((envOfC "law" (defScope st72) 0 0 .none).qual ++ "<lambda>")
  h__law_any : ∃ fd, FunD K "_law_any" "_law_any" (defArgs st6) (defBody st6) (defScope st6) [] [] (He.ga K "_law_any") fd ∧ mg "_law_any" = some (.ref (He.ga K "_law_any"))
  h__law_draw : ∃ fd, FunD K "_law_draw" "_law_draw" (defArgs st8) (defBody st8) (defScope st8) [] [] (He.ga K "_law_draw") fd ∧ mg "_law_draw" = some (.ref (He.ga K "_law_draw"))
  h__law_mixed : ∃ fd, FunD K "_law_mixed" "_law_mixed" (defArgs st12) (defBody st12) (defScope st12) [] [] (He.ga K "_law_mixed") fd ∧ mg "_law_mixed" = some (.ref (He.ga K "_law_mixed"))
  h__law_drawn : ∃ fd, FunD K "_law_drawn" "_law_drawn" (defArgs st64) (defBody st64) (defScope st64) [] [] (He.ga K "_law_drawn") fd ∧ mg "_law_drawn" = some (.ref (He.ga K "_law_drawn"))
  h__law_of : ∃ fd, FunD K "_law_of" "_law_of" (defArgs st11) (defBody st11) (defScope st11) [] [] (He.ga K "_law_of") fd ∧ mg "_law_of" = some (.ref (He.ga K "_law_of"))
  h__law_refused : ∃ fd, FunD K "_law_refused" "_law_refused" (defArgs st65) (defBody st65) (defScope st65) [] [] (He.ga K "_law_refused") fd ∧ mg "_law_refused" = some (.ref (He.ga K "_law_refused"))
  h_is_integer : ∃ fd, FunD K "is_integer" "is_integer" (defArgs st0) (defBody st0) (defScope st0) [] [] (He.ga K "is_integer") fd ∧ mg "is_integer" = some (.ref (He.ga K "is_integer"))
  h_is_number : ∃ fd, FunD K "is_number" "is_number" (defArgs st1) (defBody st1) (defScope st1) [] [] (He.ga K "is_number") fd ∧ mg "is_number" = some (.ref (He.ga K "is_number"))
  h_is_index : ∃ fd, FunD K "is_index" "is_index" (defArgs st2) (defBody st2) (defScope st2) [] [] (He.ga K "is_index") fd ∧ mg "is_index" = some (.ref (He.ga K "is_index"))
  h_is_sequence : ∃ fd, FunD K "is_sequence" "is_sequence" (defArgs st3) (defBody st3) (defScope st3) [] [] (He.ga K "is_sequence") fd ∧ mg "is_sequence" = some (.ref (He.ga K "is_sequence"))
  h_fault : ∃ fd, FunD K "fault" "fault" (defArgs st48) (defBody st48) (defScope st48) [] [] (He.ga K "fault") fd ∧ mg "fault" = some (.ref (He.ga K "fault"))
  h_checked_reordering : ∃ fd, FunD K "checked_reordering" "checked_reordering" (defArgs st49) (defBody st49) (defScope st49) [] [] (He.ga K "checked_reordering") fd ∧ mg "checked_reordering" = some (.ref (He.ga K "checked_reordering"))
  h_opened_at : ∃ fd, FunD K "opened_at" "opened_at" (defArgs st66) (defBody st66) (defScope st66) [] [] (He.ga K "opened_at") fd ∧ mg "opened_at" = some (.ref (He.ga K "opened_at"))
  h_open_entries : ∃ fd, FunD K "open_entries" "open_entries" (defArgs st67) (defBody st67) (defScope st67) [] [] (He.ga K "open_entries") fd ∧ mg "open_entries" = some (.ref (He.ga K "open_entries"))
  h_idle : ∃ fd, FunD K "idle" "idle" (defArgs st68) (defBody st68) (defScope st68) [] [] (He.ga K "idle") fd ∧ mg "idle" = some (.ref (He.ga K "idle"))
  h_reordered : ∃ fd, FunD K "reordered" "reordered" (defArgs st69) (defBody st69) (defScope st69) [] [] (He.ga K "reordered") fd ∧ mg "reordered" = some (.ref (He.ga K "reordered"))
  h_back : ∃ fd, FunD K "back" "back" (defArgs st70) (defBody st70) (defScope st70) [] [] (He.ga K "back") fd ∧ mg "back" = some (.ref (He.ga K "back"))
  h_width : ∃ fd, FunD K "width" "width" (defArgs st71) (defBody st71) (defScope st71) [] [] (He.ga K "width") fd ∧ mg "width" = some (.ref (He.ga K "width"))
  h_law : ∃ fd, FunD K "law" "law" (defArgs st72) (defBody st72) (defScope st72) [] [] (He.ga K "law") fd ∧ mg "law" = some (.ref (He.ga K "law"))
theorem tbOk (K : PySem.W.Frag) (c : Nat) : ((wd K (ca K)).T.fl c).length < 900 ∧ ((wd K (ca K)).names c).Nodup := by
  match c with
  | _ => exact ⟨by show ([] : List Nat).length < 900; decide, by show ([] : List Str).Nodup; decide⟩
theorem sc6 : FnScope N6 ["_law_deal", "_law_bound"] (defScope st6) := ⟨rfl, rfl, rfl, by decide +kernel, rfl, by decide +kernel, by decide +kernel⟩
theorem sc8 : FnScope N8 ["_law_script", "_law_salt"] (defScope st8) := ⟨rfl, rfl, rfl, by decide +kernel, rfl, by decide +kernel, by decide +kernel⟩
theorem sc12 : FnScope N12 ["_law_deal", "_law_some"] (defScope st12) := ⟨rfl, rfl, rfl, by decide +kernel, rfl, by decide +kernel, by decide +kernel⟩
theorem sc64 : FnScope N64 ["_law_deal"] (defScope st64) := ⟨rfl, rfl, rfl, by decide +kernel, rfl, by decide +kernel, by decide +kernel⟩
theorem sc11 : FnScope N11 ["_law_deal", "_law_some"] (defScope st11) := ⟨rfl, rfl, rfl, by decide +kernel, rfl, by decide +kernel, by decide +kernel⟩
theorem sc65 : FnScope N65 ["_law_work"] (defScope st65) := ⟨rfl, rfl, rfl, by decide +kernel, rfl, by decide +kernel, by decide +kernel⟩
theorem sc0 : FnScope N0 ["value"] (defScope st0) := ⟨rfl, rfl, rfl, by decide +kernel, rfl, by decide +kernel, by decide +kernel⟩
theorem sc1 : FnScope N1 ["value"] (defScope st1) := ⟨rfl, rfl, rfl, by decide +kernel, rfl, by decide +kernel, by decide +kernel⟩
theorem sc2 : FnScope N2 ["value", "many"] (defScope st2) := ⟨rfl, rfl, rfl, by decide +kernel, rfl, by decide +kernel, by decide +kernel⟩
theorem sc3 : FnScope N3 ["value"] (defScope st3) := ⟨rfl, rfl, rfl, by decide +kernel, rfl, by decide +kernel, by decide +kernel⟩
theorem sc48 : FnScope N48 ["value"] (defScope st48) := ⟨rfl, rfl, rfl, by decide +kernel, rfl, by decide +kernel, by decide +kernel⟩
theorem sc49 : FnScope N49 ["value"] (defScope st49) := ⟨rfl, rfl, rfl, by decide +kernel, rfl, by decide +kernel, by decide +kernel⟩
theorem sc66 : FnScope N66 ["places", "cut"] (defScope st66) := ⟨rfl, rfl, rfl, by decide +kernel, rfl, by decide +kernel, by decide +kernel⟩
theorem sc67 : FnScope N67 ["reordering", "cut"] (defScope st67) := ⟨rfl, rfl, rfl, by decide +kernel, rfl, by decide +kernel, by decide +kernel⟩
theorem sc68 : FnScope N68 ["many"] (defScope st68) := ⟨rfl, rfl, rfl, by decide +kernel, rfl, by decide +kernel, by decide +kernel⟩
theorem sc69 : FnScope N69 ["row", "reordering"] (defScope st69) := ⟨rfl, rfl, rfl, by decide +kernel, rfl, by decide +kernel, by decide +kernel⟩
theorem sc70 : FnScope N70 ["reordering"] (defScope st70) := ⟨rfl, rfl, rfl, by decide +kernel, rfl, by decide +kernel, by decide +kernel⟩
theorem sc71 : FnScope N71 ["reordering"] (defScope st71) := ⟨rfl, rfl, rfl, by decide +kernel, rfl, by decide +kernel, by decide +kernel⟩
theorem sc72 : FnScope N72 ["_law_script"] (defScope st72) := ⟨rfl, rfl, rfl, by decide +kernel, rfl, by decide +kernel, by decide +kernel⟩
theorem lv {P : Program} {W : World} {K : PySem.W.Frag} {mg : Str → Option Value} {base : Heap} (h : Hd P K mg base) : ∀ n, Lv P W K mg base (ca K) n
  | 0 => by
    refine ⟨h.cls, tbOk K, h.f_abs, h.f_bool, h.f_enumerate, h.f_int, h.f_isinstance, h.f_len, h.f_list, h.f_max, h.f_range, h.f_repr, h.f_sorted, h.f_tuple, h.e_InvalidReordering, h.e_Refused, h.errs, h.g_EndsError, h.k_EndsError, h.g_Refused, h.k_Refused, h.t_law, ?_, ?_, ?_, ?_, ?_, ?_, ?_, ?_, ?_, ?_, ?_, ?_, ?_, ?_, ?_, ?_, ?_, ?_⟩
    · obtain ⟨fd, F, m⟩ := h.h__law_any
      exact tx0 F m (FunD.bindsN F fun _ _ _ _ _ _ us hl => match us, hl with | [_, _], _ => rfl) fun _ _ => rfl
    · obtain ⟨fd, F, m⟩ := h.h__law_draw
      exact tx0 F m (FunD.bindsN F fun _ _ _ _ _ _ us hl => match us, hl with | [_, _], _ => rfl) fun _ _ => rfl
    · obtain ⟨fd, F, m⟩ := h.h__law_mixed
      exact tx0 F m (FunD.bindsN F fun _ _ _ _ _ _ us hl => match us, hl with | [_, _], _ => rfl) fun _ _ => rfl
    · obtain ⟨fd, F, m⟩ := h.h__law_drawn
      exact tx0 F m (FunD.bindsN F fun _ _ _ _ _ _ us hl => match us, hl with | [_], _ => rfl) fun _ _ => rfl
    · obtain ⟨fd, F, m⟩ := h.h__law_of
      exact tx0 F m (FunD.bindsN F fun _ _ _ _ _ _ us hl => match us, hl with | [_, _], _ => rfl) fun _ _ => rfl
    · obtain ⟨fd, F, m⟩ := h.h__law_refused
      exact tl0 F m (FunD.bindsN F fun _ _ _ _ _ _ us hl => match us, hl with | [_], _ => rfl) sc65 rfl (.inl rfl) fun _ _ => rfl
    · obtain ⟨fd, F, m⟩ := h.h_is_integer
      exact tx0 F m (FunD.bindsN F fun _ _ _ _ _ _ us hl => match us, hl with | [_], _ => rfl) fun _ _ => rfl
    · obtain ⟨fd, F, m⟩ := h.h_is_number
      exact tx0 F m (FunD.bindsN F fun _ _ _ _ _ _ us hl => match us, hl with | [_], _ => rfl) fun _ _ => rfl
    · obtain ⟨fd, F, m⟩ := h.h_is_index
      exact tx0 F m (FunD.bindsN F fun _ _ _ _ _ _ us hl => match us, hl with | [_, _], _ => rfl) fun _ _ => rfl
    · obtain ⟨fd, F, m⟩ := h.h_is_sequence
      exact tx0 F m (FunD.bindsN F fun _ _ _ _ _ _ us hl => match us, hl with | [_], _ => rfl) fun _ _ => rfl
    · obtain ⟨fd, F, m⟩ := h.h_fault
      exact tx0 F m (FunD.bindsN F fun _ _ _ _ _ _ us hl => match us, hl with | [_], _ => rfl) fun _ _ => rfl
    · obtain ⟨fd, F, m⟩ := h.h_checked_reordering
      exact tx0 F m (FunD.bindsN F fun _ _ _ _ _ _ us hl => match us, hl with | [_], _ => rfl) fun _ _ => rfl
    · obtain ⟨fd, F, m⟩ := h.h_opened_at
      exact tx0 F m (FunD.bindsN F fun _ _ _ _ _ _ us hl => match us, hl with | [_, _], _ => rfl) fun _ _ => rfl
    · obtain ⟨fd, F, m⟩ := h.h_open_entries
      exact tx0 F m (FunD.bindsN F fun _ _ _ _ _ _ us hl => match us, hl with | [_, _], _ => rfl) fun _ _ => rfl
    · obtain ⟨fd, F, m⟩ := h.h_idle
      exact tx0 F m (FunD.bindsN F fun _ _ _ _ _ _ us hl => match us, hl with | [_], _ => rfl) fun _ _ => rfl
    · obtain ⟨fd, F, m⟩ := h.h_reordered
      exact tx0 F m (FunD.bindsN F fun _ _ _ _ _ _ us hl => match us, hl with | [_, _], _ => rfl) fun _ _ => rfl
    · obtain ⟨fd, F, m⟩ := h.h_back
      exact tx0 F m (FunD.bindsN F fun _ _ _ _ _ _ us hl => match us, hl with | [_], _ => rfl) fun _ _ => rfl
    · obtain ⟨fd, F, m⟩ := h.h_width
      exact tx0 F m (FunD.bindsN F fun _ _ _ _ _ _ us hl => match us, hl with | [_], _ => rfl) fun _ _ => rfl
  | n + 1 => by
    have L := lv (P := P) (W := W) (base := base) h n
    refine ⟨h.cls, tbOk K, h.f_abs, h.f_bool, h.f_enumerate, h.f_int, h.f_isinstance, h.f_len, h.f_list, h.f_max, h.f_range, h.f_repr, h.f_sorted, h.f_tuple, h.e_InvalidReordering, h.e_Refused, h.errs, h.g_EndsError, h.k_EndsError, h.g_Refused, h.k_Refused, h.t_law, ?_, ?_, ?_, ?_, ?_, ?_, ?_, ?_, ?_, ?_, ?_, ?_, ?_, ?_, ?_, ?_, ?_, ?_⟩
    · obtain ⟨fd, F, m⟩ := h.h__law_any
      exact txS F m (FunD.bindsN F fun _ _ _ _ _ _ us hl => match us, hl with | [_, _], _ => rfl) (fn_any F sc6 rfl rfl (fun cdv A outer s H E hr hgd => (body6 L hr hgd).nox))
    · obtain ⟨fd, F, m⟩ := h.h__law_draw
      exact txS F m (FunD.bindsN F fun _ _ _ _ _ _ us hl => match us, hl with | [_, _], _ => rfl) (fn_draw F sc8 rfl rfl (fun cdv A outer s H E hr hgd => (body8 L hr hgd).nox))
    · obtain ⟨fd, F, m⟩ := h.h__law_mixed
      exact txS F m (FunD.bindsN F fun _ _ _ _ _ _ us hl => match us, hl with | [_, _], _ => rfl) (fn_body F sc12 rfl rfl (fun cdv A outer s H E hr hgd => body_ofX (body12 L hr hgd)))
    · obtain ⟨fd, F, m⟩ := h.h__law_drawn
      exact txS F m (FunD.bindsN F fun _ _ _ _ _ _ us hl => match us, hl with | [_], _ => rfl) (fn_body F sc64 rfl rfl (fun cdv A outer s H E hr hgd => body_ofX (body64 L hr hgd)))
    · obtain ⟨fd, F, m⟩ := h.h__law_of
      exact txS F m (FunD.bindsN F fun _ _ _ _ _ _ us hl => match us, hl with | [_, _], _ => rfl) (fn_body F sc11 rfl rfl (fun cdv A outer s H E hr hgd => body_ofX (body11 L hr hgd)))
    · obtain ⟨fd, F, m⟩ := h.h__law_refused
      exact tlS (n := 2) F m (FunD.bindsN F fun _ _ _ _ _ _ us hl => match us, hl with | [_], _ => rfl) sc65 rfl (.inl rfl) (body65 L)
    · obtain ⟨fd, F, m⟩ := h.h_is_integer
      exact txS F m (FunD.bindsN F fun _ _ _ _ _ _ us hl => match us, hl with | [_], _ => rfl) (fn_body F sc0 rfl rfl (fun cdv A outer s H E hr hgd => body_ofX (body0 L hr hgd)))
    · obtain ⟨fd, F, m⟩ := h.h_is_number
      exact txS F m (FunD.bindsN F fun _ _ _ _ _ _ us hl => match us, hl with | [_], _ => rfl) (fn_body F sc1 rfl rfl (fun cdv A outer s H E hr hgd => body_ofX (body1 L hr hgd)))
    · obtain ⟨fd, F, m⟩ := h.h_is_index
      exact txS F m (FunD.bindsN F fun _ _ _ _ _ _ us hl => match us, hl with | [_, _], _ => rfl) (fn_body F sc2 rfl rfl (fun cdv A outer s H E hr hgd => body_ofX (body2 L hr hgd)))
    · obtain ⟨fd, F, m⟩ := h.h_is_sequence
      exact txS F m (FunD.bindsN F fun _ _ _ _ _ _ us hl => match us, hl with | [_], _ => rfl) (fn_body F sc3 rfl rfl (fun cdv A outer s H E hr hgd => body_ofX (body3 L hr hgd)))
    · obtain ⟨fd, F, m⟩ := h.h_fault
      exact txS F m (FunD.bindsN F fun _ _ _ _ _ _ us hl => match us, hl with | [_], _ => rfl) (fn_body F sc48 rfl rfl (fun cdv A outer s H E hr hgd => body_ofX (body48 L hr hgd)))
    · obtain ⟨fd, F, m⟩ := h.h_checked_reordering
      exact txS F m (FunD.bindsN F fun _ _ _ _ _ _ us hl => match us, hl with | [_], _ => rfl) (fn_body F sc49 rfl rfl (fun cdv A outer s H E hr hgd => body_ofX (body49 L hr hgd)))
    · obtain ⟨fd, F, m⟩ := h.h_opened_at
      exact txS F m (FunD.bindsN F fun _ _ _ _ _ _ us hl => match us, hl with | [_, _], _ => rfl) (fn_body F sc66 rfl rfl (fun cdv A outer s H E hr hgd => body_ofX (body66 L hr hgd)))
    · obtain ⟨fd, F, m⟩ := h.h_open_entries
      exact txS F m (FunD.bindsN F fun _ _ _ _ _ _ us hl => match us, hl with | [_, _], _ => rfl) (fn_body F sc67 rfl rfl (fun cdv A outer s H E hr hgd => body_ofX (body67 L hr hgd)))
    · obtain ⟨fd, F, m⟩ := h.h_idle
      exact txS F m (FunD.bindsN F fun _ _ _ _ _ _ us hl => match us, hl with | [_], _ => rfl) (fn_body F sc68 rfl rfl (fun cdv A outer s H E hr hgd => body_ofX (body68 L hr hgd)))
    · obtain ⟨fd, F, m⟩ := h.h_reordered
      exact txS F m (FunD.bindsN F fun _ _ _ _ _ _ us hl => match us, hl with | [_, _], _ => rfl) (fn_body F sc69 rfl rfl (fun cdv A outer s H E hr hgd => body_ofX (body69 L hr hgd)))
    · obtain ⟨fd, F, m⟩ := h.h_back
      exact txS F m (FunD.bindsN F fun _ _ _ _ _ _ us hl => match us, hl with | [_], _ => rfl) (fn_body F sc70 rfl rfl (fun cdv A outer s H E hr hgd => body_ofX (body70 L hr hgd)))
    · obtain ⟨fd, F, m⟩ := h.h_width
      exact txS F m (FunD.bindsN F fun _ _ _ _ _ _ us hl => match us, hl with | [_], _ => rfl) (fn_body F sc71 rfl rfl (fun cdv A outer s H E hr hgd => body_ofX (body71 L hr hgd)))
theorem law_ok {P : Program} {W : World} {K : PySem.W.Frag} {mg : Str → Option Value} {base : Heap} {fd : FuncData} (h : Hd P K mg base) (F : FunD K "law" "law" (defArgs st72) (defBody st72) (defScope st72) [] [] (He.ga K "law") fd) (n : Nat) : FnG P W K mg base CX0 (4 * n + 5) (He.ga K "law") fd ["_law_script"] (fun vs H Q _ => spF (wd K (ca K)) (EFx (wd K (ca K))) (callD tab fns (n + 1) 72) vs H Q fun _ _ _ => False) :=
  have L := lv (P := P) (W := W) (base := base) h n
  FnG.calm (fn_bodyC F sc72 rfl rfl (fun cdv A outer s H E hc hr hgd => body_ofX (body72 L hr hgd (mkC_of L.t_law F hc rfl))))
def dd6 : He.DefD := ⟨("_law_any", none), "_law_any", "_law_any", defArgs st6, defBody st6, defScope st6, [], []⟩
def dd8 : He.DefD := ⟨("_law_draw", none), "_law_draw", "_law_draw", defArgs st8, defBody st8, defScope st8, [], []⟩
def dd12 : He.DefD := ⟨("_law_mixed", none), "_law_mixed", "_law_mixed", defArgs st12, defBody st12, defScope st12, [], []⟩
def dd64 : He.DefD := ⟨("_law_drawn", none), "_law_drawn", "_law_drawn", defArgs st64, defBody st64, defScope st64, [], []⟩
def dd11 : He.DefD := ⟨("_law_of", none), "_law_of", "_law_of", defArgs st11, defBody st11, defScope st11, [], []⟩
def dd65 : He.DefD := ⟨("_law_refused", none), "_law_refused", "_law_refused", defArgs st65, defBody st65, defScope st65, [], []⟩
def dd0 : He.DefD := ⟨("is_integer", none), "is_integer", "is_integer", defArgs st0, defBody st0, defScope st0, [], []⟩
def dd1 : He.DefD := ⟨("is_number", none), "is_number", "is_number", defArgs st1, defBody st1, defScope st1, [], []⟩
def dd2 : He.DefD := ⟨("is_index", none), "is_index", "is_index", defArgs st2, defBody st2, defScope st2, [], []⟩
def dd3 : He.DefD := ⟨("is_sequence", none), "is_sequence", "is_sequence", defArgs st3, defBody st3, defScope st3, [], []⟩
def dd48 : He.DefD := ⟨("fault", none), "fault", "fault", defArgs st48, defBody st48, defScope st48, [], []⟩
def dd49 : He.DefD := ⟨("checked_reordering", none), "checked_reordering", "checked_reordering", defArgs st49, defBody st49, defScope st49, [], []⟩
def dd66 : He.DefD := ⟨("opened_at", none), "opened_at", "opened_at", defArgs st66, defBody st66, defScope st66, [], []⟩
def dd67 : He.DefD := ⟨("open_entries", none), "open_entries", "open_entries", defArgs st67, defBody st67, defScope st67, [], []⟩
def dd68 : He.DefD := ⟨("idle", none), "idle", "idle", defArgs st68, defBody st68, defScope st68, [], []⟩
def dd69 : He.DefD := ⟨("reordered", none), "reordered", "reordered", defArgs st69, defBody st69, defScope st69, [], []⟩
def dd70 : He.DefD := ⟨("back", none), "back", "back", defArgs st70, defBody st70, defScope st70, [], []⟩
def dd71 : He.DefD := ⟨("width", none), "width", "width", defArgs st71, defBody st71, defScope st71, [], []⟩
def dd72 : He.DefD := ⟨("law", none), "law", "law", defArgs st72, defBody st72, defScope st72, [], []⟩
def fn_0 : List He.DefD := [dd6, dd8, dd12, dd64, dd11, dd65, dd0, dd1, dd2, dd3, dd48, dd49, dd66, dd67, dd68, dd69, dd70, dd71, dd72]
def fn : List He.DefD := fn_0
def fa_0 : List He.Fa := [.glo "_law_any", .glo "_law_draw", .glo "_law_mixed", .glo "_law_drawn", .glo "_law_of", .glo "_law_refused", .glo "is_integer", .glo "is_number", .glo "is_index", .glo "is_sequence", .glo "fault", .glo "checked_reordering", .glo "opened_at", .glo "open_entries", .glo "idle", .glo "reordered", .glo "back", .glo "width", .glo "law", .free "abs", .free "bool", .free "enumerate", .free "int", .free "isinstance", .free "len", .free "list", .free "max", .free "range", .free "repr", .free "sorted"]
def fa_1 : List He.Fa := [.free "tuple", .glo "EndsError", .glo "InvalidReordering", .glo "Refused"]
def fa : List He.Fa := fa_0 ++ fa_1
def edInvalidReordering : ExD := ⟨"InvalidReordering", defArgs seInvalidReordering, defBody seInvalidReordering, defScope seInvalidReordering⟩
def edRefused : ExD := ⟨"Refused", defArgs seRefused, defBody seRefused, defScope seRefused⟩
def es : List ExD := [edInvalidReordering, edRefused]
def tf : List He.Defn := [("law", none)]
abbrev PG : Program := PySem.Challenge.rw_endsandround_k22_cuts_and_open_entries.prog
def exl (K : PySem.W.Frag) : List Bool := [supB PG.main.file K "InvalidReordering" "at", supB PG.main.file K "Refused" "at", errFB K (wd K (ca K)) [3, 9], errCB K (wd K (ca K)) (.ref (He.ga K "EndsError")) [3, 9] [], errCB K (wd K (ca K)) (.ref (He.ga K "Refused")) [9] [3], decide ((tf.map fun p => (He.cT K p).2).Nodup)]
def ex (K : PySem.W.Frag) : Bool := (exl K).all id
def loose_0 : List PySem.Str := ["is_integer", "is_number", "is_sequence", "is_index", "fault", "checked_reordering", "idle", "reordered", "back", "opened_at", "open_entries", "width", "_law_draw", "_law_any", "_law_of", "_law_mixed", "_law_drawn", "_law_refused", "EndsError", "InvalidReordering", "Refused"]
def loose : List PySem.Str := loose_0
abbrev R : PySem.W.OpenRow := PySem.W.OpenLaw.row PySem.Challenge.rw_endsandround_k22_cuts_and_open_entries
abbrev hk : PySem.W.Hook := hookE 5 fa fn tf ex es
def ob (s : PySem.W.SharedT) : AlE := obsE 5 fa fn tf ex es (HandSHeadRun.getT s)
theorem ob_eq (s : PySem.W.SharedT) : ob s = hk.obs s.abs := obsE_eq (HandSHeadRun.getT_eq s)
theorem run (w : World) : HandSHeadRun.RunEq R (PySem.W.view R.prog [26]) hk ob 30000 loose w := by
  intro os
  kernel_rfl
theorem saInvalidReordering : SupA PG "self" "at" edInvalidReordering.params edInvalidReordering.body edInvalidReordering.scope := ⟨⟨_, _, _, _, _, _, _, _, _, _, _, _, _, rfl, rfl, rfl, rfl, rfl, rfl, rfl, rfl, by kernel_rfl, by decide +kernel, rfl, rfl, fun _ _ _ _ _ => rfl, fun _ _ _ _ _ => rfl, fun _ _ _ _ _ => rfl, fun _ _ _ _ _ => ⟨_, rfl⟩⟩, fun _ _ _ _ _ _ _ _ _ us hl => match us, hl with | [_, _], _ => rfl, by decide, by decide, by decide⟩
theorem saRefused : SupA PG "self" "at" edRefused.params edRefused.body edRefused.scope := ⟨⟨_, _, _, _, _, _, _, _, _, _, _, _, _, rfl, rfl, rfl, rfl, rfl, rfl, rfl, rfl, by kernel_rfl, by decide +kernel, rfl, rfl, fun _ _ _ _ _ => rfl, fun _ _ _ _ _ => rfl, fun _ _ _ _ _ => rfl, fun _ _ _ _ _ => ⟨_, rfl⟩⟩, fun _ _ _ _ _ _ _ _ _ us hl => match us, hl with | [_, _], _ => rfl, by decide, by decide, by decide⟩
theorem facts {K : PySem.W.Frag} {h : Heap} {mg : Str → Option Value} {base : Heap} (X : K.In h) (G : h.Ns mainGlobals mg) (c : SaysE fa fn tf ex es h K) (TB : ∀ p ∈ tf, LamX.TabB base mg (He.cT K p).1 (He.cT K p).2) : Hd PG K mg base := by
  have hx : ∀ b ∈ exl K, b = true := fun b hb => List.all_eq_true.mp c.more b hb
  have hi : ∀ (i : Nat) (b : Bool), (exl K)[i]? = some b → b = true := fun i b e => hx b (List.mem_of_getElem? e)
  have nd : (tf.map fun p => (He.cT K p).2).Nodup := of_decide_eq_true (hi 5 _ rfl)
  exact {
  cls := by
    intro x
    · have e : (wd K (ca K)).T.fl x = [] := by
        show ([] : List (List Nat)).getD x [] = []
        rw [List.getD_eq_getElem?_getD, List.getElem?_eq_none (Nat.zero_le _)]
        rfl
      exact ⟨fun z => absurd e z, fun k hk => by rw [e] at hk; simp at hk, fun j k hj => by rw [e] at hj; simp at hj⟩
  f_abs := He.free_ok X G (c.d.fact 19 (f := .free "abs") rfl)
  f_bool := He.free_ok X G (c.d.fact 20 (f := .free "bool") rfl)
  f_enumerate := He.free_ok X G (c.d.fact 21 (f := .free "enumerate") rfl)
  f_int := He.free_ok X G (c.d.fact 22 (f := .free "int") rfl)
  f_isinstance := He.free_ok X G (c.d.fact 23 (f := .free "isinstance") rfl)
  f_len := He.free_ok X G (c.d.fact 24 (f := .free "len") rfl)
  f_list := He.free_ok X G (c.d.fact 25 (f := .free "list") rfl)
  f_max := He.free_ok X G (c.d.fact 26 (f := .free "max") rfl)
  f_range := He.free_ok X G (c.d.fact 27 (f := .free "range") rfl)
  f_repr := He.free_ok X G (c.d.fact 28 (f := .free "repr") rfl)
  f_sorted := He.free_ok X G (c.d.fact 29 (f := .free "sorted") rfl)
  f_tuple := He.free_ok X G (c.d.fact 30 (f := .free "tuple") rfl)
  e_InvalidReordering := ex1_of (d := edInvalidReordering) saInvalidReordering (c.ex 0 (d := edInvalidReordering)) (hi 0 _ rfl) rfl (He.glo_ok X G (c.d.fact 32 (f := .glo "InvalidReordering") rfl))
  e_Refused := ex1_of (d := edRefused) saRefused (c.ex 1 (d := edRefused)) (hi 1 _ rfl) rfl (He.glo_ok X G (c.d.fact 33 (f := .glo "Refused") rfl))
  errs := errFB_ok (hi 2 _ rfl)
  g_EndsError := He.glo_ok X G (c.d.fact 31 (f := .glo "EndsError") rfl)
  k_EndsError := errCB_ok (hi 3 _ rfl)
  g_Refused := He.glo_ok X G (c.d.fact 33 (f := .glo "Refused") rfl)
  k_Refused := errCB_ok (hi 4 _ rfl)
  t_law := mkF_of (lams := [((envOfC "law" (defScope st72) 0 0 .none).qual ++ "<lambda>")]) TB nd 0 rfl rfl rfl
  h__law_any := by
    obtain ⟨fd, F⟩ := c.d.def_ 0 (d := dd6) rfl
    exact ⟨fd, F, He.glo_ok X G (c.d.fact 0 (f := .glo "_law_any") rfl)⟩
  h__law_draw := by
    obtain ⟨fd, F⟩ := c.d.def_ 1 (d := dd8) rfl
    exact ⟨fd, F, He.glo_ok X G (c.d.fact 1 (f := .glo "_law_draw") rfl)⟩
  h__law_mixed := by
    obtain ⟨fd, F⟩ := c.d.def_ 2 (d := dd12) rfl
    exact ⟨fd, F, He.glo_ok X G (c.d.fact 2 (f := .glo "_law_mixed") rfl)⟩
  h__law_drawn := by
    obtain ⟨fd, F⟩ := c.d.def_ 3 (d := dd64) rfl
    exact ⟨fd, F, He.glo_ok X G (c.d.fact 3 (f := .glo "_law_drawn") rfl)⟩
  h__law_of := by
    obtain ⟨fd, F⟩ := c.d.def_ 4 (d := dd11) rfl
    exact ⟨fd, F, He.glo_ok X G (c.d.fact 4 (f := .glo "_law_of") rfl)⟩
  h__law_refused := by
    obtain ⟨fd, F⟩ := c.d.def_ 5 (d := dd65) rfl
    exact ⟨fd, F, He.glo_ok X G (c.d.fact 5 (f := .glo "_law_refused") rfl)⟩
  h_is_integer := by
    obtain ⟨fd, F⟩ := c.d.def_ 6 (d := dd0) rfl
    exact ⟨fd, F, He.glo_ok X G (c.d.fact 6 (f := .glo "is_integer") rfl)⟩
  h_is_number := by
    obtain ⟨fd, F⟩ := c.d.def_ 7 (d := dd1) rfl
    exact ⟨fd, F, He.glo_ok X G (c.d.fact 7 (f := .glo "is_number") rfl)⟩
  h_is_index := by
    obtain ⟨fd, F⟩ := c.d.def_ 8 (d := dd2) rfl
    exact ⟨fd, F, He.glo_ok X G (c.d.fact 8 (f := .glo "is_index") rfl)⟩
  h_is_sequence := by
    obtain ⟨fd, F⟩ := c.d.def_ 9 (d := dd3) rfl
    exact ⟨fd, F, He.glo_ok X G (c.d.fact 9 (f := .glo "is_sequence") rfl)⟩
  h_fault := by
    obtain ⟨fd, F⟩ := c.d.def_ 10 (d := dd48) rfl
    exact ⟨fd, F, He.glo_ok X G (c.d.fact 10 (f := .glo "fault") rfl)⟩
  h_checked_reordering := by
    obtain ⟨fd, F⟩ := c.d.def_ 11 (d := dd49) rfl
    exact ⟨fd, F, He.glo_ok X G (c.d.fact 11 (f := .glo "checked_reordering") rfl)⟩
  h_opened_at := by
    obtain ⟨fd, F⟩ := c.d.def_ 12 (d := dd66) rfl
    exact ⟨fd, F, He.glo_ok X G (c.d.fact 12 (f := .glo "opened_at") rfl)⟩
  h_open_entries := by
    obtain ⟨fd, F⟩ := c.d.def_ 13 (d := dd67) rfl
    exact ⟨fd, F, He.glo_ok X G (c.d.fact 13 (f := .glo "open_entries") rfl)⟩
  h_idle := by
    obtain ⟨fd, F⟩ := c.d.def_ 14 (d := dd68) rfl
    exact ⟨fd, F, He.glo_ok X G (c.d.fact 14 (f := .glo "idle") rfl)⟩
  h_reordered := by
    obtain ⟨fd, F⟩ := c.d.def_ 15 (d := dd69) rfl
    exact ⟨fd, F, He.glo_ok X G (c.d.fact 15 (f := .glo "reordered") rfl)⟩
  h_back := by
    obtain ⟨fd, F⟩ := c.d.def_ 16 (d := dd70) rfl
    exact ⟨fd, F, He.glo_ok X G (c.d.fact 16 (f := .glo "back") rfl)⟩
  h_width := by
    obtain ⟨fd, F⟩ := c.d.def_ 17 (d := dd71) rfl
    exact ⟨fd, F, He.glo_ok X G (c.d.fact 17 (f := .glo "width") rfl)⟩
  h_law := by
    obtain ⟨fd, F⟩ := c.d.def_ 18 (d := dd72) rfl
    exact ⟨fd, F, He.glo_ok X G (c.d.fact 18 (f := .glo "law") rfl)⟩
  }
end LK
open PySem PySem.W PySem.Calls PyProof.Rows
/-- the law, from its data program -/
theorem LK.ends (plain : ∀ ns : List Int, ns.length ≤ 63 → ∃ s', DI.callD LK.tab LK.fns 25 72 [.scr ns] none = .ok (.f (.bl true)) s') : PySem.Challenge.rw_endsandround_k22_cuts_and_open_entries.Holds := by
  w_on; o_law
  refine HandSHeadRun.head_any (r := OpenLaw.row PySem.Challenge.rw_endsandround_k22_cuts_and_open_entries) (q := view (OpenLaw.row PySem.Challenge.rw_endsandround_k22_cuts_and_open_entries).prog [26]) (H := LK.hk) (ob := LK.ob) (M := 30000) (loose := LK.loose)
    (d := HandSHeadRun.topDef (OpenLaw.row PySem.Challenge.rw_endsandround_k22_cuts_and_open_entries).prog 26) (kwd := []) LK.ob_eq
    (by kernel_rfl) (fun s => by kernel_rfl) LK.run (by kernel_rfl) (by kernel_rfl) (by kernel_rfl) (by rfl) (by first | assumption | decide +kernel) (by decide +kernel) ⟨rfl, rfl, rfl, rfl, rfl, by decide +kernel⟩ ?hw ?hc
  case hw => w_witness2
  case hc =>
    refine DI.walkT (l := PySem.Challenge.rw_endsandround_k22_cuts_and_open_entries) (n := 63) (k := 101) (x := "_law_script") rfl (by decide) (by kernel_rfl) ⟨rfl, by decide, by decide⟩ ?F
    intro w mg fa h Y G hmg0
    obtain ⟨K, KX, c⟩ := Y
    obtain ⟨fd, F⟩ := c.d.def_ 18 (d := LK.dd72) rfl
    have hm := He.glo_ok KX G (c.d.fact 18 (f := .glo "law") rfl)
    have hmg : mg ("law" : PySem.Str) = some (.ref fa) := by
      have e : (HandSHeadRun.topDef (OpenLaw.row PySem.Challenge.rw_endsandround_k22_cuts_and_open_entries).prog 26).name = ("law" : PySem.Str) := by kernel_rfl
      rw [← e]
      exact hmg0
    rw [hm] at hmg
    cases hmg
    refine ⟨K, fd, fun vs H Q _ => DI.spF (LK.wd K (LK.ca K)) (DI.EFx (LK.wd K (LK.ca K))) (DI.callD LK.tab LK.fns 25 72) vs H Q fun _ _ _ => False, LK.tf.map (He.cT K), KX, fun p hp => ?_, fun p hp => ?_, fun p hp => ?_, fun s u => L2.FunD.bindsA (ps := ["_law_script"]) F (fun _ _ _ _ _ _ us hl => match us, hl with | [_], _ => rfl) s [u] rfl, fun H a ns hl hS hT hT2 => ?_, fun base _ _ TB => LK.law_ok (LK.facts KX G c fun p hp => TB _ (List.mem_map.mpr ⟨p, hp, rfl⟩)) F 24⟩
    · obtain ⟨z, hz, rfl⟩ := List.mem_map.mp hp
      exact c.empty z hz
    · obtain ⟨z, hz, rfl⟩ := List.mem_map.mp hp
      exact c.out z hz
    · obtain ⟨z, hz, rfl⟩ := List.mem_map.mp hp
      exact PySem.W.codeHd_of_K KX (c.hd z hz)
    · obtain ⟨s', e⟩ := plain ns hl
      have key : ∀ b, b ∈ (LK.tf.map (He.cT K)).map (·.2) ↔ b ∈ (LK.wd K (LK.ca K)).tb.map (·.1) := fun b => Iff.rfl
      refine DI.law_sp (w := LK.wd K (LK.ca K)) hS (fun p hp => ?_) (fun b o e t => (key b).mp (hT2 b o e t)) s' e
      obtain ⟨z, hz, ez⟩ := List.mem_map.mp ((key p.1).mpr (List.mem_map.mpr ⟨p, hp, rfl⟩))
      rw [← ez]
      exact hT z hz


end
section
set_option Elab.async false
set_option linter.all false
set_option maxRecDepth 100000
set_option maxHeartbeats 4000000
/-! DW: what must hold ahead of a data program so that something holds behind it. Own text. -/
namespace DI
open PySem (Str PyData)
/-- run at s, m ends well with Q, or raises with X; it is never stuck -/
def Wp {α : Type} (m : M α) (Q : α → S → Prop) (X : Nat → D → S → Prop) (s : S) : Prop := match m s with
  | .ok a s' => Q a s'
  | .exc c d s' => X c d s'
  | .stuck => False
/-- nothing is raised -/
abbrev NX : Nat → D → S → Prop := fun _ _ _ => False
section
variable {α β : Type} {Q Q' : α → S → Prop} {X X' : Nat → D → S → Prop} {s s' : S} {m : M α} {a : α}
theorem wp_of (h : m s = .ok a s') (q : Q a s') : Wp m Q X s := by
  unfold Wp
  rw [h]
  exact q
theorem wp_out (h : Wp m Q NX s) : ∃ a s', m s = .ok a s' ∧ Q a s' := by
  unfold Wp at h
  cases e : m s with
  | ok a s' => rw [e] at h; exact ⟨a, s', rfl, h⟩
  | exc c d s' => rw [e] at h; exact h.elim
  | stuck => rw [e] at h; exact h.elim
theorem wp_mono (h : Wp m Q X s) (q : ∀ a s', Q a s' → Q' a s') (x : ∀ c d s', X c d s' → X' c d s') : Wp m Q' X' s := by
  unfold Wp at h ⊢
  cases e : m s with
  | ok a s' => rw [e] at h; exact q _ _ h
  | exc c d s' => rw [e] at h; exact x _ _ _ h
  | stuck => rw [e] at h; exact h.elim
theorem wp_post (h : Wp m Q X s) (q : ∀ a s', Q a s' → Q' a s') : Wp m Q' X s := wp_mono h q fun _ _ _ x => x
theorem wp_bnd {m : M β} {f : β → M α} : Wp (bnd m f) Q X s = Wp m (fun a s' => Wp (f a) Q X s') X s := by
  unfold Wp bnd
  cases m s <;> rfl
theorem wp_ret : Wp (ret a) Q X s = Q a s := rfl
theorem wp_stk : Wp stk Q X s = False := rfl
theorem wp_some : Wp (opt (some a)) Q X s = Q a s := rfl
theorem wp_none : Wp (opt none) Q X s = False := rfl
theorem wp_ite {p : Prop} [Decidable p] {m n : M α} : Wp (if p then m else n) Q X s = if p then Wp m Q X s else Wp n Q X s := by
  split <;> rfl
theorem wp_need {p : Prop} [Decidable p] : Wp (if p then m else stk) Q X s = (p ∧ Wp m Q X s) := by
  split
  · exact propext ⟨fun h => ⟨by assumption, h⟩, fun h => h.2⟩
  · exact propext ⟨fun h => h.elim, fun h => absurd h.1 (by assumption)⟩
theorem wp_optneed {p : Prop} [Decidable p] : Wp (opt (if p then some a else none)) Q X s = (p ∧ Q a s) := by
  split
  · exact propext ⟨fun h => ⟨by assumption, h⟩, fun h => h.2⟩
  · exact propext ⟨fun h => h.elim, fun h => absurd h.1 (by assumption)⟩
end
/-! ### slots, walked -/
def getK {α : Type} : List α → Nat → (α → Prop) → Prop
  | [], _, _ => False
  | x :: _, 0, k => k x
  | _ :: r, i + 1, k => getK r i k
def setK {α : Type} : List α → Nat → α → (List α → Prop) → Prop
  | [], _, _, _ => False
  | _ :: r, 0, v, k => k (v :: r)
  | x :: r, i + 1, v, k => setK r i v fun r' => k (x :: r')
theorem getK0 {α : Type} {x : α} {r : List α} {k : α → Prop} : getK (x :: r) 0 k = k x := rfl
theorem getKS {α : Type} {x : α} {r : List α} {i : Nat} {k : α → Prop} : getK (x :: r) (i + 1) k = getK r i k := rfl
theorem setK0 {α : Type} {x v : α} {r : List α} {k : List α → Prop} : setK (x :: r) 0 v k = k (v :: r) := rfl
theorem setKS {α : Type} {x v : α} {r : List α} {i : Nat} {k : List α → Prop} : setK (x :: r) (i + 1) v k = setK r i v fun r' => k (x :: r') := rfl
theorem getK_eq {α : Type} : ∀ (r : List α) (i : Nat) (k : α → Prop), getK r i k = match r[i]? with | some x => k x | none => False
  | [], _, _ => rfl
  | _ :: _, 0, _ => rfl
  | x :: r, i + 1, k => by
    show getK r i k = _
    rw [getK_eq r i k, List.getElem?_cons_succ]
theorem setK_eq {α : Type} : ∀ (r : List α) (i : Nat) (v : α) (k : List α → Prop), setK r i v k = if i < r.length then k (r.set i v) else False
  | [], _, _, _ => by simp [setK]
  | _ :: _, 0, _, _ => by simp [setK]
  | x :: r, i + 1, v, k => by
    show setK r i v _ = _
    rw [setK_eq r i v]
    simp
/-- what a read of a slot gives -/
def rdK (i : Nat) : Option DV → (DV → Prop) → Prop
  | some (.f d), k => k (.f d)
  | some (.o _), k => k (.b i)
  | some (.p xs), k => k (.p xs)
  | _, _ => False
def lkK : Option DV → (D → Prop) → Prop
  | some (.f d), k => k d
  | some (.o xs), k => k (.lst xs)
  | _, _ => False
def owK : Option DV → (List D → Prop) → Prop
  | some (.o xs), k => k xs
  | _, _ => False
/-- freezing: the data, and what the slot holds behind it -/
def fzK : Option DV → (D → DV → Prop) → Prop
  | some (.f d), k => k d (.f d)
  | some (.o xs), k => k (.lst xs) (.f (.lst xs))
  | _, _ => False
def mvK : Option DV → (DV → Prop) → Prop
  | some (.f d), k => k (.f d)
  | some (.o xs), k => k (.o xs)
  | _, _ => False
theorem rdK_f {i : Nat} {d : D} {k : DV → Prop} : rdK i (some (.f d)) k = k (.f d) := rfl
theorem rdK_o {i : Nat} {d : List D} {k : DV → Prop} : rdK i (some (.o d)) k = k (.b i) := rfl
theorem lkK_f {d : D} {k : D → Prop} : lkK (some (.f d)) k = k d := rfl
theorem lkK_o {d : List D} {k : D → Prop} : lkK (some (.o d)) k = k (.lst d) := rfl
theorem owK_o {d : List D} {k : List D → Prop} : owK (some (.o d)) k = k d := rfl
theorem fzK_f {d : D} {k : D → DV → Prop} : fzK (some (.f d)) k = k d (.f d) := rfl
theorem fzK_o {d : List D} {k : D → DV → Prop} : fzK (some (.o d)) k = k (.lst d) (.f (.lst d)) := rfl
theorem mvK_f {d : D} {k : DV → Prop} : mvK (some (.f d)) k = k (.f d) := rfl
theorem mvK_o {d : List D} {k : DV → Prop} : mvK (some (.o d)) k = k (.o d) := rfl
section
variable {T : Tab} {Φ : Fns} {r : List (Option DV)} {g : G} {X : Nat → D → S → Prop} {i : Nat}
theorem wp_var {Q : DV → S → Prop} : Wp (evE T Φ (.var i)) Q X ⟨r, g⟩ = getK r i fun x => rdK i x fun v => Q v ⟨r, g⟩ := by
  rw [getK_eq]
  unfold Wp evE
  cases e : r[i]? with
  | none => simp [e]
  | some x => rcases x with _ | ⟨_ | _ | _ | _ | _⟩ <;> simp [e, rdK]
theorem wp_setR {Q : Unit → S → Prop} {v : DV} : Wp (setR i v) Q X ⟨r, g⟩ = setK r i (some v) fun r' => Q () ⟨r', g⟩ := by
  rw [setK_eq]
  unfold Wp setR
  by_cases h : i < r.length <;> simp [h]
theorem wp_look_f {Q : D → S → Prop} {d : D} {s : S} : Wp (look (.f d)) Q X s = Q d s := rfl
theorem wp_look_o {Q : D → S → Prop} {d : List D} {s : S} : Wp (look (.o d)) Q X s = Q (.lst d) s := rfl
theorem wp_look_b {Q : D → S → Prop} : Wp (look (.b i)) Q X ⟨r, g⟩ = getK r i fun x => lkK x fun d => Q d ⟨r, g⟩ := by
  rw [getK_eq]
  unfold Wp look
  cases e : r[i]? with
  | none => simp [e]
  | some x => rcases x with _ | ⟨_ | _ | _ | _ | _⟩ <;> simp [e, lkK]
theorem wp_frz_f {Q : D → S → Prop} {d : D} {s : S} : Wp (frz (.f d)) Q X s = Q d s := rfl
theorem wp_frz_o {Q : D → S → Prop} {d : List D} {s : S} : Wp (frz (.o d)) Q X s = Q (.lst d) s := rfl
theorem set_same {α : Type} {r : List α} {i : Nat} {x : α} (h : r[i]? = some x) : r.set i x = r := by
  obtain ⟨h', e⟩ := List.getElem?_eq_some_iff.mp h
  rw [← e, List.set_getElem_self]
theorem wp_frz_b {Q : D → S → Prop} : Wp (frz (.b i)) Q X ⟨r, g⟩ = getK r i fun x => fzK x fun d v => setK r i (some v) fun r' => Q d ⟨r', g⟩ := by
  rw [getK_eq]
  cases e : r[i]? with
  | none => simp [e, Wp, frz]
  | some x =>
    have hl : i < r.length := by
      obtain ⟨h', _⟩ := List.getElem?_eq_some_iff.mp e
      exact h'
    rcases x with _ | ⟨d | xs | _ | _ | _⟩
    · simp [e, Wp, frz, fzK]
    · have h1 : frz (.b i) ⟨r, g⟩ = .ok d ⟨r, g⟩ := by simp only [frz, e]
      show Wp _ Q X _ = setK r i (some (.f d)) fun r' => Q d ⟨r', g⟩
      rw [setK_eq, if_pos hl, set_same e]
      unfold Wp
      rw [h1]
    · have h1 : frz (.b i) ⟨r, g⟩ = .ok (.lst xs) ⟨r.set i (some (.f (.lst xs))), g⟩ := by simp only [frz, e]
      show Wp _ Q X _ = setK r i (some (.f (.lst xs))) fun r' => Q (.lst xs) ⟨r', g⟩
      rw [setK_eq, if_pos hl]
      unfold Wp
      rw [h1]
    · simp [e, Wp, frz, fzK]
    · simp [e, Wp, frz, fzK]
    · simp [e, Wp, frz, fzK]
theorem wp_ownAt {Q : List D → S → Prop} : Wp (ownAt i) Q X ⟨r, g⟩ = getK r i fun x => owK x fun d => Q d ⟨r, g⟩ := by
  rw [getK_eq]
  unfold Wp ownAt
  cases e : r[i]? with
  | none => simp [e]
  | some x => rcases x with _ | ⟨_ | _ | _ | _ | _⟩ <;> simp [e, owK]
theorem wp_move_f {Q : DV → S → Prop} {d : D} {s : S} : Wp (moveOut (.f d)) Q X s = Q (.f d) s := rfl
theorem wp_move_o {Q : DV → S → Prop} {d : List D} {s : S} : Wp (moveOut (.o d)) Q X s = Q (.o d) s := rfl
theorem wp_move_b {Q : DV → S → Prop} : Wp (moveOut (.b i)) Q X ⟨r, g⟩ = getK r i fun x => mvK x fun d => Q d ⟨r, g⟩ := by
  rw [getK_eq]
  unfold Wp moveOut
  cases e : r[i]? with
  | none => simp [e]
  | some x => rcases x with _ | ⟨_ | _ | _ | _ | _⟩ <;> simp [e, mvK]
end
/-! ### steps -/
section
variable {α β : Type} {Q : α → S → Prop} {X : Nat → D → S → Prop} {s : S} {m : M β} {f : β → M α} {r : List (Option DV)} {g : G} {i : Nat}
theorem r_bnd (h : Wp m (fun a s' => Wp (f a) Q X s') X s) : Wp (bnd m f) Q X s := by
  rw [wp_bnd]
  exact h
theorem r_ret {a : α} (h : Q a s) : Wp (ret a) Q X s := h
theorem r_opt {o : Option α} {a : α} (e : o = some a) (h : Q a s) : Wp (opt o) Q X s := by
  subst e
  exact h
theorem r_need {p : Prop} [Decidable p] {m : M α} (hp : p) (h : Wp m Q X s) : Wp (if p then m else stk) Q X s := by
  rw [if_pos hp]
  exact h
theorem r_if {k : Bool} {m n : M α} (h1 : k = true → Wp m Q X s) (h2 : k = false → Wp n Q X s) : Wp (if k then m else n) Q X s := by
  cases k
  · exact h2 rfl
  · exact h1 rfl
theorem r_ift {m n : M α} {inst : Decidable (true = true)} (h : Wp m Q X s) : Wp (@ite _ (true = true) inst m n) Q X s := by
  rw [if_pos rfl]
  exact h
theorem r_iff {m n : M α} {inst : Decidable (false = true)} (h : Wp n Q X s) : Wp (@ite _ (false = true) inst m n) Q X s := by
  rw [if_neg Bool.false_ne_true]
  exact h
theorem r_ifnt {m n : M α} {inst : Decidable ((!true) = true)} (h : Wp n Q X s) : Wp (@ite _ ((!true) = true) inst m n) Q X s := by
  have e : @ite _ ((!true) = true) inst m n = n := if_neg Bool.false_ne_true
  rw [e]
  exact h
theorem r_ifnf {m n : M α} {inst : Decidable ((!false) = true)} (h : Wp m Q X s) : Wp (@ite _ ((!false) = true) inst m n) Q X s := by
  have e : @ite _ ((!false) = true) inst m n = m := if_pos rfl
  rw [e]
  exact h
theorem r_optx {o : Option α} (h : ∃ a, o = some a ∧ Q a s) : Wp (opt o) Q X s := by
  obtain ⟨a, e, h⟩ := h
  subst e
  exact h
theorem r_ifd {p : Prop} [Decidable p] {m n : M α} (h1 : p → Wp m Q X s) (h2 : ¬ p → Wp n Q X s) : Wp (if decide p then m else n) Q X s := by
  by_cases h : p
  · rw [decide_eq_true h]
    exact h1 h
  · rw [decide_eq_false h]
    exact h2 h
theorem r_ifdn {p : Prop} [Decidable p] {m n : M α} (h1 : ¬ p → Wp m Q X s) (h2 : p → Wp n Q X s) : Wp (if !decide p then m else n) Q X s := by
  by_cases h : p
  · rw [decide_eq_true h]
    exact h2 h
  · rw [decide_eq_false h]
    exact h1 h
theorem r_look_f {Q : D → S → Prop} {d : D} (h : Q d s) : Wp (look (.f d)) Q X s := h
theorem r_look_o {Q : D → S → Prop} {d : List D} (h : Q (.lst d) s) : Wp (look (.o d)) Q X s := h
theorem r_look_b {Q : D → S → Prop} {x : Option DV} (e : r[i]? = some x) (h : lkK x fun d => Q d ⟨r, g⟩) : Wp (look (.b i)) Q X ⟨r, g⟩ := by
  rw [wp_look_b, getK_eq, e]
  exact h
theorem r_frz_f {Q : D → S → Prop} {d : D} (h : Q d s) : Wp (frz (.f d)) Q X s := h
theorem r_frz_o {Q : D → S → Prop} {d : List D} (h : Q (.lst d) s) : Wp (frz (.o d)) Q X s := h
theorem r_frz_b {Q : D → S → Prop} {x : Option DV} (e : r[i]? = some x) (h : fzK x fun d v => setK r i (some v) fun r' => Q d ⟨r', g⟩) : Wp (frz (.b i)) Q X ⟨r, g⟩ := by
  rw [wp_frz_b, getK_eq, e]
  exact h
theorem r_ownAt {Q : List D → S → Prop} {x : Option DV} (e : r[i]? = some x) (h : owK x fun d => Q d ⟨r, g⟩) : Wp (ownAt i) Q X ⟨r, g⟩ := by
  rw [wp_ownAt, getK_eq, e]
  exact h
theorem r_move_f {Q : DV → S → Prop} {d : D} (h : Q (.f d) s) : Wp (moveOut (.f d)) Q X s := h
theorem r_move_o {Q : DV → S → Prop} {d : List D} (h : Q (.o d) s) : Wp (moveOut (.o d)) Q X s := h
theorem r_move_b {Q : DV → S → Prop} {x : Option DV} (e : r[i]? = some x) (h : mvK x fun d => Q d ⟨r, g⟩) : Wp (moveOut (.b i)) Q X ⟨r, g⟩ := by
  rw [wp_move_b, getK_eq, e]
  exact h
theorem r_setR {Q : Unit → S → Prop} {v : DV} (h : setK r i (some v) fun r' => Q () ⟨r', g⟩) : Wp (setR i v) Q X ⟨r, g⟩ := by
  rw [wp_setR]
  exact h
theorem k_rdf {i : Nat} {d : D} {k : DV → Prop} (h : k (.f d)) : rdK i (some (.f d)) k := h
theorem k_rdo {i : Nat} {d : List D} {k : DV → Prop} (h : k (.b i)) : rdK i (some (.o d)) k := h
theorem k_lkf {d : D} {k : D → Prop} (h : k d) : lkK (some (.f d)) k := h
theorem k_lko {d : List D} {k : D → Prop} (h : k (.lst d)) : lkK (some (.o d)) k := h
theorem k_owo {d : List D} {k : List D → Prop} (h : k d) : owK (some (.o d)) k := h
theorem k_fzf {d : D} {k : D → DV → Prop} (h : k d (.f d)) : fzK (some (.f d)) k := h
theorem k_fzo {d : List D} {k : D → DV → Prop} (h : k (.lst d) (.f (.lst d))) : fzK (some (.o d)) k := h
theorem k_mvf {d : D} {k : DV → Prop} (h : k (.f d)) : mvK (some (.f d)) k := h
theorem k_mvo {d : List D} {k : DV → Prop} (h : k (.o d)) : mvK (some (.o d)) k := h
theorem k_set0 {α : Type} {x v : α} {r : List α} {k : List α → Prop} (h : k (v :: r)) : setK (x :: r) 0 v k := h
theorem k_setS {α : Type} {x v : α} {r : List α} {i : Nat} {k : List α → Prop} (h : setK r i v fun r' => k (x :: r')) : setK (x :: r) (i + 1) v k := h
theorem r_keep_f {Q : Unit → S → Prop} {d : D} (h : Wp (setR i (.f d)) Q X s) : Wp (keep i (.f d)) Q X s := h
theorem r_keep_o {Q : Unit → S → Prop} {d : List D} (h : Wp (setR i (.o d)) Q X s) : Wp (keep i (.o d)) Q X s := h
theorem r_keep_b {Q : Unit → S → Prop} {j : Nat} (h : Wp (frz (.b j)) (fun d s => Wp (setR i (.f d)) Q X s) X s) : Wp (keep i (.b j)) Q X s := by
  show Wp (bnd _ _) _ _ _
  rw [wp_bnd]
  exact h
theorem r_bool {Q : Bool → S → Prop} {k : Bool} (h : Q k s) : Wp (bool? (.f (.bl k))) Q X s := h
theorem r_int {Q : Int → S → Prop} {k : Int} (h : Q k s) : Wp (int? (.int k)) Q X s := h
end
/-- what a statement's way out leads to -/
def flK : Fl → Prop → (Fl → Prop) → Prop
  | .nx, p, _ => p
  | fl, _, q => q fl
theorem k_nx {p : Prop} {q : Fl → Prop} (h : p) : flK .nx p q := h
theorem k_bk {p : Prop} {q : Fl → Prop} (h : q .bk) : flK .bk p q := h
theorem k_ct {p : Prop} {q : Fl → Prop} (h : q .ct) : flK .ct p q := h
theorem k_rt {p : Prop} {q : Fl → Prop} {v : DV} (h : q (.rt v)) : flK (.rt v) p q := h
section
variable {T : Tab} {Φ : Fns} {Q : DV → S → Prop} {X : Nat → D → S → Prop} {s : S} {r : List (Option DV)} {g : G} {i : Nat} {a b c e : E} {o : BOp} {p : COp} {es : List E}
theorem r_var {x : Option DV} (e : r[i]? = some x) (h : rdK i x fun v => Q v ⟨r, g⟩) : Wp (evE T Φ (.var i)) Q X ⟨r, g⟩ := by
  rw [wp_var, getK_eq, e]
  exact h
theorem r_eint {k : Int} (h : Q (.f (.int k)) s) : Wp (evE T Φ (.int k)) Q X s := h
theorem r_ebl {k : Bool} (h : Q (.f (.bl k)) s) : Wp (evE T Φ (.bl k)) Q X s := h
theorem r_enon (h : Q (.f .non) s) : Wp (evE T Φ .non) Q X s := h
theorem r_estr {k : Str} (h : Q (.f (.str k)) s) : Wp (evE T Φ (.str k)) Q X s := h
theorem r_bin (h : Wp (evE T Φ a) (fun x s1 => Wp (evE T Φ b) (fun y s2 => Wp (look x) (fun dx s3 => Wp (look y) (fun dy s4 => Wp (opt (binD o dx dy)) Q X s4) X s3) X s2) X s1) X s) : Wp (evE T Φ (.bin o a b)) Q X s := by
  show Wp (bnd _ _) _ _ _
  simp only [wp_bnd]
  exact h
theorem r_neg (h : Wp (evE T Φ a) (fun x s1 => Wp (look x) (fun d s2 => Wp (int? d) (fun i s3 => Q (.f (.int (-i))) s3) X s2) X s1) X s) : Wp (evE T Φ (.neg a)) Q X s := by
  show Wp (bnd _ _) _ _ _
  simp only [wp_bnd]
  exact h
theorem r_cmp (h : Wp (evE T Φ a) (fun x s1 => Wp (evE T Φ b) (fun y s2 => Wp (look x) (fun dx s3 => Wp (look y) (fun dy s4 => Wp (opt (cmpD p dx dy)) (fun k s5 => Q (.f (.bl k)) s5) X s4) X s3) X s2) X s1) X s) : Wp (evE T Φ (.cmp p a b)) Q X s := by
  show Wp (bnd _ _) _ _ _
  simp only [wp_bnd]
  exact h
theorem r_chain {p2 : COp} (h : Wp (evE T Φ a) (fun x s1 => Wp (evE T Φ b) (fun y s2 => Wp (look x) (fun dx s3 => Wp (look y) (fun dy s4 => Wp (opt (cmpD p dx dy)) (fun k s5 => Wp (if k then bnd (evE T Φ c) fun z => bnd (look y) fun dy' => bnd (look z) fun dz => bnd (opt (cmpD p2 dy' dz)) fun l => ret (.f (.bl l)) else ret (.f (.bl false))) Q X s5) X s4) X s3) X s2) X s1) X s) : Wp (evE T Φ (.chain p p2 a b c)) Q X s := by
  show Wp (bnd _ _) _ _ _
  rw [wp_bnd]
  refine wp_post h fun x s1 h => ?_
  rw [wp_bnd]
  refine wp_post h fun y s2 h => ?_
  rw [wp_bnd]
  refine wp_post h fun y s2 h => ?_
  rw [wp_bnd]
  refine wp_post h fun y s2 h => ?_
  rw [wp_bnd]
  exact h
theorem r_isN (h : Wp (evE T Φ a) (fun x s1 => Wp (look x) (fun d s2 => Q (.f (.bl (isNonD d))) s2) X s1) X s) : Wp (evE T Φ (.isN a)) Q X s := by
  show Wp (bnd _ _) _ _ _
  simp only [wp_bnd]
  exact h
theorem r_notN (h : Wp (evE T Φ a) (fun x s1 => Wp (look x) (fun d s2 => Q (.f (.bl (!isNonD d))) s2) X s1) X s) : Wp (evE T Φ (.notN a)) Q X s := by
  show Wp (bnd _ _) _ _ _
  simp only [wp_bnd]
  exact h
theorem r_and (h : Wp (evE T Φ a) (fun x s1 => Wp (bool? x) (fun k s2 => Wp (if k then evE T Φ b else ret (.f (.bl false))) Q X s2) X s1) X s) : Wp (evE T Φ (.and a b)) Q X s := by
  show Wp (bnd _ _) _ _ _
  simp only [wp_bnd]
  exact h
theorem r_or (h : Wp (evE T Φ a) (fun x s1 => Wp (bool? x) (fun k s2 => Wp (if k then ret (.f (.bl true)) else evE T Φ b) Q X s2) X s1) X s) : Wp (evE T Φ (.or a b)) Q X s := by
  show Wp (bnd _ _) _ _ _
  simp only [wp_bnd]
  exact h
theorem r_not (h : Wp (evE T Φ a) (fun x s1 => Wp (bool? x) (fun k s2 => Q (.f (.bl (!k))) s2) X s1) X s) : Wp (evE T Φ (.not a)) Q X s := by
  show Wp (bnd _ _) _ _ _
  simp only [wp_bnd]
  exact h
theorem r_ite (h : Wp (evE T Φ c) (fun x s1 => Wp (bool? x) (fun k s2 => Wp (if k then evE T Φ a else evE T Φ b) Q X s2) X s1) X s) : Wp (evE T Φ (.ite c a b)) Q X s := by
  show Wp (bnd _ _) _ _ _
  simp only [wp_bnd]
  exact h
theorem r_esnil {Q : List DV → S → Prop} (h : Q [] s) : Wp (evEs T Φ []) Q X s := h
theorem r_escons {Q : List DV → S → Prop} (h : Wp (evE T Φ e) (fun v s1 => Wp (evEs T Φ es) (fun vs s2 => Q (v :: vs) s2) X s1) X s) : Wp (evEs T Φ (e :: es)) Q X s := by
  show Wp (bnd _ _) _ _ _
  simp only [wp_bnd]
  exact h
theorem r_fznil {Q : List D → S → Prop} (h : Q [] s) : Wp (frzs []) Q X s := h
theorem r_fzcons {Q : List D → S → Prop} {v : DV} {vs : List DV} (h : Wp (frz v) (fun d s1 => Wp (frzs vs) (fun ds s2 => Q (d :: ds) s2) X s1) X s) : Wp (frzs (v :: vs)) Q X s := by
  show Wp (bnd _ _) _ _ _
  simp only [wp_bnd]
  exact h
theorem r_lknil {Q : List D → S → Prop} (h : Q [] s) : Wp (looks []) Q X s := h
theorem r_lkcons {Q : List D → S → Prop} {v : DV} {vs : List DV} (h : Wp (look v) (fun d s1 => Wp (looks vs) (fun ds s2 => Q (d :: ds) s2) X s1) X s) : Wp (looks (v :: vs)) Q X s := by
  show Wp (bnd _ _) _ _ _
  simp only [wp_bnd]
  exact h
theorem r_tup (h : Wp (evEs T Φ es) (fun vs s1 => Wp (frzs vs) (fun ds s2 => ds.length ≤ lim ∧ Q (.f (.tup ds)) s2) X s1) X s) : Wp (evE T Φ (.tup es)) Q X s := by
  show Wp (bnd _ _) _ _ _
  rw [wp_bnd]
  refine wp_post h fun vs s1 h => ?_
  rw [wp_bnd]
  refine wp_post h fun ds s2 h => ?_
  rw [if_pos h.1]
  exact h.2
theorem r_lst (h : Wp (evEs T Φ es) (fun vs s1 => Wp (frzs vs) (fun ds s2 => ds.length ≤ lim ∧ Q (.o ds) s2) X s1) X s) : Wp (evE T Φ (.lst es)) Q X s := by
  show Wp (bnd _ _) _ _ _
  rw [wp_bnd]
  refine wp_post h fun vs s1 h => ?_
  rw [wp_bnd]
  refine wp_post h fun ds s2 h => ?_
  rw [if_pos h.1]
  exact h.2
theorem r_ix (h : Wp (evE T Φ a) (fun x s1 => Wp (evE T Φ b) (fun y s2 => Wp (look x) (fun dx s3 => Wp (look y) (fun dy s4 => Wp (opt (ixD dx dy)) (fun d s5 => Q (.f d) s5) X s4) X s3) X s2) X s1) X s) : Wp (evE T Φ (.ix a b)) Q X s := by
  show Wp (bnd _ _) _ _ _
  simp only [wp_bnd]
  exact h
theorem r_part0 {m : M DV} {Q : Option Int → S → Prop} (h : Q none s) : Wp (partM .nop m) Q X s := h
theorem r_part {m : M DV} {Q : Option Int → S → Prop} (hn : e ≠ .nop) (h : Wp m (fun x s1 => Wp (look x) (fun d s2 => Wp (int? d) (fun i s3 => Q (some i) s3) X s2) X s1) X s) : Wp (partM e m) Q X s := by
  have e' : partM e m = bnd m fun x => bnd (look x) fun d => bnd (int? d) fun i => ret (some i) := by
    cases e <;> first | rfl | exact absurd rfl hn
  rw [e']
  simp only [wp_bnd]
  exact h
theorem r_src0 {m : M DV} (h : Q (.f .non) s) : Wp (srcM .nop m) Q X s := h
theorem r_src {m : M DV} (hn : e ≠ .nop) (h : Wp m Q X s) : Wp (srcM e m) Q X s := by
  have e' : srcM e m = m := by
    cases e <;> first | rfl | exact absurd rfl hn
  rw [e']
  exact h
theorem r_zero0 {m : M DV} (h : Q (.f (.int 0)) s) : Wp (zeroM .nop m) Q X s := h
theorem r_zero {m : M DV} (hn : e ≠ .nop) (h : Wp m Q X s) : Wp (zeroM e m) Q X s := by
  have e' : zeroM e m = m := by
    cases e <;> first | rfl | exact absurd rfl hn
  rw [e']
  exact h
theorem r_tst0 {m : M DV} {Q : Bool → S → Prop} (h : Q true s) : Wp (tstM .nop m) Q X s := h
theorem r_tst {m : M DV} {Q : Bool → S → Prop} (hn : e ≠ .nop) (h : Wp m (fun x s1 => Wp (bool? x) Q X s1) X s) : Wp (tstM e m) Q X s := by
  have e' : tstM e m = bnd m bool? := by
    cases e <;> first | rfl | exact absurd rfl hn
  rw [e', wp_bnd]
  exact h
theorem r_sl (h : Wp (evE T Φ a) (fun x s1 => Wp (partM b (evE T Φ b)) (fun l s2 => Wp (partM c (evE T Φ c)) (fun h s3 => Wp (look x) (fun dx s4 => Wp (opt (slD l h dx)) Q X s4) X s3) X s2) X s1) X s) : Wp (evE T Φ (.sl a b c)) Q X s := by
  show Wp (bnd _ _) _ _ _
  simp only [wp_bnd]
  exact h
theorem r_rev (h : Wp (evE T Φ a) (fun x s1 => Wp (look x) (fun d s2 => ∃ xs, d = .lst xs ∧ Q (.o xs.reverse) s2) X s1) X s) : Wp (evE T Φ (.rev a)) Q X s := by
  show Wp (bnd _ _) _ _ _
  rw [wp_bnd]
  refine wp_post h fun x s1 h => ?_
  rw [wp_bnd]
  refine wp_post h fun d s2 h => ?_
  obtain ⟨xs, rfl, h⟩ := h
  exact h
theorem r_revt (h : Wp (evE T Φ a) (fun x s1 => Wp (look x) (fun d s2 => ∃ xs, d = .tup xs ∧ Q (.f (.tup xs.reverse)) s2) X s1) X s) : Wp (evE T Φ (.revt a)) Q X s := by
  show Wp (bnd _ _) _ _ _
  rw [wp_bnd]
  refine wp_post h fun x s1 h => ?_
  rw [wp_bnd]
  refine wp_post h fun d s2 h => ?_
  obtain ⟨xs, rfl, h⟩ := h
  exact h
theorem r_call {f : Nat} (h : Wp (evEs T Φ es) (fun vs s1 => Wp (frzs vs) (fun ds s2 => Wp (callM Φ f ds) Q X s2) X s1) X s) : Wp (evE T Φ (.call f es)) Q X s := by
  show Wp (bnd _ _) _ _ _
  simp only [wp_bnd]
  exact h
theorem r_make {f : Nat} (h : Wp (evEs T Φ es) (fun vs s1 => Wp (frzs vs) (fun ds s2 => Wp (callM Φ f ds) Q X s2) X s1) X s) : Wp (evE T Φ (.make f es)) Q X s := by
  show Wp (bnd _ _) _ _ _
  simp only [wp_bnd]
  exact h
theorem r_callk {f : Nat} {ps : List Nat} (h : Wp (evEs T Φ es) (fun vs s1 => Wp (frzs vs) (fun ds s2 => Wp (opt (permD ps ds)) (fun ds' s3 => Wp (callM Φ f ds') Q X s3) X s2) X s1) X s) : Wp (evE T Φ (.callk f ps es)) Q X s := by
  show Wp (bnd _ _) _ _ _
  simp only [wp_bnd]
  exact h
theorem r_fld {k : Nat} (h : Wp (evE T Φ a) (fun x s1 => Wp (look x) (fun d s2 => ∃ c fs v, d = .ins c fs ∧ ((T.fl c).zip fs).lookup k = some v ∧ Q (.f v) s2) X s1) X s) : Wp (evE T Φ (.fld a k)) Q X s := by
  show Wp (bnd _ _) _ _ _
  rw [wp_bnd]
  refine wp_post h fun x s1 h => ?_
  rw [wp_bnd]
  refine wp_post h fun d s2 h => ?_
  obtain ⟨c, fs, v, rfl, e, h⟩ := h
  show Wp (bnd _ _) _ _ _
  rw [wp_bnd, e]
  exact h
theorem r_blt {f : Blt} (h : Wp (evEs T Φ es) (fun vs s1 => Wp (looks vs) (fun ds s2 => Wp (opt (bltD f ds)) Q X s2) X s1) X s) : Wp (evE T Φ (.blt f es)) Q X s := by
  show Wp (bnd _ _) _ _ _
  simp only [wp_bnd]
  exact h
theorem r_isI {t : Ty} (h : Wp (evE T Φ a) (fun x s1 => Wp (look x) (fun d s2 => Wp (opt (isD t d)) (fun k s3 => Q (.f (.bl k)) s3) X s2) X s1) X s) : Wp (evE T Φ (.isI a t)) Q X s := by
  show Wp (bnd _ _) _ _ _
  simp only [wp_bnd]
  exact h
theorem r_lrg (h : Wp (zeroM a (evE T Φ a)) (fun x s1 => Wp (evE T Φ b) (fun y s2 => Wp (look x) (fun dx s3 => Wp (look y) (fun dy s4 => Wp (int? dx) (fun i s5 => Wp (int? dy) (fun j s6 => Wp (opt (rngD i j)) (fun ds s7 => Q (.o ds) s7) X s6) X s5) X s4) X s3) X s2) X s1) X s) : Wp (evE T Φ (.lrg a b)) Q X s := by
  show Wp (bnd _ _) _ _ _
  simp only [wp_bnd]
  exact h
theorem r_trg (h : Wp (zeroM a (evE T Φ a)) (fun x s1 => Wp (evE T Φ b) (fun y s2 => Wp (look x) (fun dx s3 => Wp (look y) (fun dy s4 => Wp (int? dx) (fun i s5 => Wp (int? dy) (fun j s6 => Wp (opt (rngD i j)) (fun ds s7 => Q (.f (.tup ds)) s7) X s6) X s5) X s4) X s3) X s2) X s1) X s) : Wp (evE T Φ (.trg a b)) Q X s := by
  show Wp (bnd _ _) _ _ _
  simp only [wp_bnd]
  exact h
theorem r_append (h : Wp (ownAt i) (fun _ s1 => Wp (evE T Φ e) (fun x s2 => Wp (frz x) (fun d s3 => Wp (ownAt i) (fun xs s4 => xs.length < lim ∧ Wp (setR i (.o (xs ++ [d]))) (fun _ s5 => Q (.f .non) s5) X s4) X s3) X s2) X s1) X s) : Wp (evE T Φ (.append i e)) Q X s := by
  show Wp (bnd _ _) _ _ _
  rw [wp_bnd]
  refine wp_post h fun _ s1 h => ?_
  rw [wp_bnd]
  refine wp_post h fun _ s1 h => ?_
  rw [wp_bnd]
  refine wp_post h fun _ s1 h => ?_
  rw [wp_bnd]
  refine wp_post h fun xs s1 h => ?_
  rw [if_pos h.1, wp_bnd]
  exact h.2
theorem r_pop (h : Wp (ownAt i) (fun xs s1 => Wp (opt xs[xs.length - 1]?) (fun d s2 => Wp (setR i (.o xs.dropLast)) (fun _ s3 => Q (.f d) s3) X s2) X s1) X s) : Wp (evE T Φ (.pop i)) Q X s := by
  show Wp (bnd _ _) _ _ _
  simp only [wp_bnd]
  exact h
theorem r_popAt (h : Wp (ownAt i) (fun _ s1 => Wp (evE T Φ e) (fun x s2 => Wp (look x) (fun k s3 => Wp (int? k) (fun j s4 => Wp (ownAt i) (fun xs s5 => (0 ≤ j ∧ j < xs.length ∧ j < 2 ^ 62) ∧ Wp (opt xs[j.toNat]?) (fun d s6 => Wp (setR i (.o (xs.eraseIdx j.toNat))) (fun _ s7 => Q (.f d) s7) X s6) X s5) X s4) X s3) X s2) X s1) X s) : Wp (evE T Φ (.popAt i e)) Q X s := by
  show Wp (bnd _ _) _ _ _
  rw [wp_bnd]
  refine wp_post h fun _ s1 h => ?_
  rw [wp_bnd]
  refine wp_post h fun _ s1 h => ?_
  rw [wp_bnd]
  refine wp_post h fun _ s1 h => ?_
  rw [wp_bnd]
  refine wp_post h fun _ s1 h => ?_
  rw [wp_bnd]
  refine wp_post h fun xs s1 h => ?_
  rw [if_pos h.1]
  simp only [wp_bnd]
  exact h.2
end
end DI

end
section
set_option Elab.async false
set_option linter.all false
set_option maxRecDepth 100000
set_option maxHeartbeats 4000000
/-! DW2: steps of statements, loops, defs. Own text. -/
namespace DI
open PySem (Str PyData)
/-- a side condition, then the rest -/
def Need (p q : Prop) : Prop := p ∧ q
theorem k_need {p q : Prop} (hp : p) (h : q) : Need p q := ⟨hp, h⟩
theorem k_tlen {ds : List D} {q : Prop} (h1 : ds.length ≤ lim) (h : q) : ds.length ≤ lim ∧ q := ⟨h1, h⟩
def wpK (r : List (Option DV)) : List Nat → (List (Option DV) → Prop) → Prop
  | [], k => k r
  | i :: is, k => wpK r is fun r' => setK r' i none k
def bkK (r0 r : List (Option DV)) : List Nat → (List (Option DV) → Prop) → Prop
  | [], k => k r
  | i :: is, k => bkK r0 r is fun r' => getK r0 i fun v => setK r' i v k
/-- the slots at a def's start -/
def stK : Nat → List D → (List (Option DV) → Prop) → Prop
  | 0, [], k => k []
  | 0, _ :: _, _ => False
  | m + 1, [], k => stK m [] fun r => k (none :: r)
  | m + 1, d :: ds, k => stK m ds fun r => k (some (.f d) :: r)
/-- a turn's way out -/
def loK : Fl → Prop → Prop → (DV → Prop) → Prop
  | .nx, n, _, _ => n
  | .ct, n, _, _ => n
  | .bk, _, b, _ => b
  | .rt v, _, _, q => q v
def bdQ (Q : DV → G → Prop) (fl : Fl) (s : S) : Prop := match fl with
  | .rt v => Q v s.g
  | .nx => Q (.f .non) s.g
  | _ => False
def bdX (X : Nat → D → G → Prop) (c : Nat) (d : D) (s : S) : Prop := X c d s.g
def Sp (T : Tab) (fns : List Fn) (n f : Nat) (ds : List D) (g : G) (Q : DV → G → Prop) (X : Nat → D → G → Prop) : Prop := match callD T fns n f ds g with
  | .ok v s => Q v s.g
  | .exc c d s => X c d s.g
  | .stuck => False
abbrev NG : Nat → D → G → Prop := fun _ _ _ => False
theorem wp0 {r : List (Option DV)} {k : List (Option DV) → Prop} (h : k r) : wpK r [] k := h
theorem wpS {r : List (Option DV)} {i : Nat} {is : List Nat} {k : List (Option DV) → Prop} (h : wpK r is fun r' => setK r' i none k) : wpK r (i :: is) k := h
theorem bk0 {r0 r : List (Option DV)} {k : List (Option DV) → Prop} (h : k r) : bkK r0 r [] k := h
theorem bkS {r0 r : List (Option DV)} {i : Nat} {is : List Nat} {k : List (Option DV) → Prop} (h : bkK r0 r is fun r' => getK r0 i fun v => setK r' i v k) : bkK r0 r (i :: is) k := h
theorem sz0 {k : List (Option DV) → Prop} (h : k []) : stK 0 [] k := h
theorem stN {m : Nat} {k : List (Option DV) → Prop} (h : stK m [] fun r => k (none :: r)) : stK (m + 1) [] k := h
theorem stC {m : Nat} {d : D} {ds : List D} {k : List (Option DV) → Prop} (h : stK m ds fun r => k (some (.f d) :: r)) : stK (m + 1) (d :: ds) k := h
theorem k_get0 {α : Type} {x : α} {r : List α} {k : α → Prop} (h : k x) : getK (x :: r) 0 k := h
theorem k_getS {α : Type} {x : α} {r : List α} {i : Nat} {k : α → Prop} (h : getK r i k) : getK (x :: r) (i + 1) k := h
theorem k_get4 {α : Type} {x y z w : α} {r : List α} {i : Nat} {k : α → Prop} (h : getK r i k) : getK (x :: y :: z :: w :: r) (i + 4) k := h
theorem k_set4 {α : Type} {x y z w v : α} {r : List α} {i : Nat} {k : List α → Prop} (h : setK r i v fun r' => k (x :: y :: z :: w :: r')) : setK (x :: y :: z :: w :: r) (i + 4) v k := h
theorem lo_nx {n b : Prop} {q : DV → Prop} (h : n) : loK .nx n b q := h
theorem lo_ct {n b : Prop} {q : DV → Prop} (h : n) : loK .ct n b q := h
theorem lo_bk {n b : Prop} {q : DV → Prop} (h : b) : loK .bk n b q := h
theorem lo_rt {n b : Prop} {q : DV → Prop} {v : DV} (h : q v) : loK (.rt v) n b q := h
theorem bd_rt {Q : DV → G → Prop} {v : DV} {r : List (Option DV)} {g : G} (h : Q v g) : bdQ Q (.rt v) ⟨r, g⟩ := h
theorem bd_nx {Q : DV → G → Prop} {r : List (Option DV)} {g : G} (h : Q (.f .non) g) : bdQ Q .nx ⟨r, g⟩ := h
theorem bd_x {X : Nat → D → G → Prop} {c : Nat} {d : D} {r : List (Option DV)} {g : G} (h : X c d g) : bdX X c d ⟨r, g⟩ := h
/-! ### reads again, by strides -/
section
variable {T : Tab} {Φ : Fns} {X : Nat → D → S → Prop} {r : List (Option DV)} {g : G} {i : Nat} {α : Type}
theorem w_var {Q : DV → S → Prop} (h : getK r i fun x => rdK i x fun v => Q v ⟨r, g⟩) : Wp (evE T Φ (.var i)) Q X ⟨r, g⟩ := by
  rw [wp_var]
  exact h
theorem q_look_b {Q : D → S → Prop} (h : getK r i fun x => lkK x fun d => Q d ⟨r, g⟩) : Wp (look (.b i)) Q X ⟨r, g⟩ := by
  rw [wp_look_b]
  exact h
theorem q_frz_b {Q : D → S → Prop} (h : getK r i fun x => fzK x fun d v => setK r i (some v) fun r' => Q d ⟨r', g⟩) : Wp (frz (.b i)) Q X ⟨r, g⟩ := by
  rw [wp_frz_b]
  exact h
theorem q_ownAt {Q : List D → S → Prop} (h : getK r i fun x => owK x fun d => Q d ⟨r, g⟩) : Wp (ownAt i) Q X ⟨r, g⟩ := by
  rw [wp_ownAt]
  exact h
theorem q_move_b {Q : DV → S → Prop} (h : getK r i fun x => mvK x fun d => Q d ⟨r, g⟩) : Wp (moveOut (.b i)) Q X ⟨r, g⟩ := by
  rw [wp_move_b]
  exact h
end
/-! ### operators -/
section
variable {X : Nat → D → S → Prop} {s : S} {Q : DV → S → Prop} {K : Bool → S → Prop} {i j : Int} {xs ys : List D} {a b : Bool}
theorem o_add (h : Q (.f (.int (i + j))) s) : Wp (opt (binD .add (.int i) (.int j))) Q X s := h
theorem o_sub (h : Q (.f (.int (i - j))) s) : Wp (opt (binD .sub (.int i) (.int j))) Q X s := h
theorem o_mul (h : Need (mulOk i j = true) (Q (.f (.int (i * j))) s)) : Wp (opt (binD .mul (.int i) (.int j))) Q X s := by
  show Wp (opt (if mulOk i j then some (DV.f (.int (i * j))) else none)) Q X s
  rw [if_pos h.1]
  exact h.2
theorem o_fdiv (h : Need (0 < j ∧ j.natAbs.log2 < 9000) (Q (.f (.int (i / j))) s)) : Wp (opt (binD .fdiv (.int i) (.int j))) Q X s := by
  show Wp (opt (if 0 < j ∧ j.natAbs.log2 < 9000 then some (DV.f (.int (i / j))) else none)) Q X s
  rw [if_pos h.1]
  exact h.2
theorem o_mod (h : Need (0 < j) (Q (.f (.int (i % j))) s)) : Wp (opt (binD .mod (.int i) (.int j))) Q X s := by
  show Wp (opt (if 0 < j then some (DV.f (.int (i % j))) else none)) Q X s
  rw [if_pos h.1]
  exact h.2
theorem o_addT (h : Need (xs.length + ys.length ≤ lim) (Q (.f (.tup (xs ++ ys))) s)) : Wp (opt (binD .add (.tup xs) (.tup ys))) Q X s := by
  show Wp (opt (if xs.length + ys.length ≤ lim then some (DV.f (.tup (xs ++ ys))) else none)) Q X s
  rw [if_pos h.1]
  exact h.2
theorem o_addL (h : Need (xs.length + ys.length ≤ lim) (Q (.o (xs ++ ys)) s)) : Wp (opt (binD .add (.lst xs) (.lst ys))) Q X s := by
  show Wp (opt (if xs.length + ys.length ≤ lim then some (DV.o (xs ++ ys)) else none)) Q X s
  rw [if_pos h.1]
  exact h.2
theorem o_mulL (h : Need (xs.length * j.toNat ≤ lim ∧ -(2 ^ 62) < j ∧ j < 2 ^ 62) (Q (.o (List.replicate j.toNat xs).flatten) s)) : Wp (opt (binD .mul (.lst xs) (.int j))) Q X s := by
  show Wp (opt (if xs.length * j.toNat ≤ lim ∧ -(2 ^ 62) < j ∧ j < 2 ^ 62 then some (DV.o (List.replicate j.toNat xs).flatten) else none)) Q X s
  rw [if_pos h.1]
  exact h.2
theorem o_lt (h : K (decide (i < j)) s) : Wp (opt (cmpD .lt (.int i) (.int j))) K X s := h
theorem o_le (h : K (decide (i ≤ j)) s) : Wp (opt (cmpD .le (.int i) (.int j))) K X s := h
theorem o_gt (h : K (decide (j < i)) s) : Wp (opt (cmpD .gt (.int i) (.int j))) K X s := h
theorem o_ge (h : K (decide (j ≤ i)) s) : Wp (opt (cmpD .ge (.int i) (.int j))) K X s := h
theorem o_eq {x y : D} {k : Bool} (e : eqD x y = some k) (h : K k s) : Wp (opt (cmpD .eq x y)) K X s := by
  show Wp (opt (eqD x y)) K X s
  rw [e]
  exact h
theorem o_ne {x y : D} {k : Bool} (e : eqD x y = some k) (h : K (!k) s) : Wp (opt (cmpD .ne x y)) K X s := by
  show Wp (opt ((eqD x y).map not)) K X s
  rw [e]
  exact h
theorem o_in {x y : D} {k : Bool} (e : inD x y = some k) (h : K k s) : Wp (opt (cmpD .inn x y)) K X s := by
  show Wp (opt (inD x y)) K X s
  rw [e]
  exact h
theorem o_nin {x y : D} {k : Bool} (e : inD x y = some k) (h : K (!k) s) : Wp (opt (cmpD .nin x y)) K X s := by
  show Wp (opt ((inD x y).map not)) K X s
  rw [e]
  exact h
theorem eqv_int (i j : Int) : eqD (.int i) (.int j) = some (decide (i = j)) := by
  unfold eqD
  rw [show shp (.int i) = true from rfl, show shp (.int j) = true from rfl]
  show some (PySem.PyData.eqv (.int i) (.int j)) = _
  rw [PySem.PyData.eqv]
  rfl
theorem eqv_bl (a b : Bool) : eqD (.bl a) (.bl b) = some (decide (a = b)) := by
  cases a <;> cases b <;> rfl
theorem o_eqI (h : K (decide (i = j)) s) : Wp (opt (cmpD .eq (.int i) (.int j))) K X s := o_eq (eqv_int i j) h
theorem o_neI (h : K (!decide (i = j)) s) : Wp (opt (cmpD .ne (.int i) (.int j))) K X s := o_ne (eqv_int i j) h
theorem o_eqB (h : K (decide (a = b)) s) : Wp (opt (cmpD .eq (.bl a) (.bl b))) K X s := o_eq (eqv_bl a b) h
theorem o_neB (h : K (!decide (a = b)) s) : Wp (opt (cmpD .ne (.bl a) (.bl b))) K X s := o_ne (eqv_bl a b) h
theorem o_lenL (h : Q (.f (.int xs.length)) s) : Wp (opt (bltD .len [.lst xs])) Q X s := h
theorem o_lenT (h : Q (.f (.int xs.length)) s) : Wp (opt (bltD .len [.tup xs])) Q X s := h
theorem o_int (h : Q (.f (.int i)) s) : Wp (opt (bltD .int [.int i])) Q X s := h
theorem o_abs (h : Q (.f (.int i.natAbs)) s) : Wp (opt (bltD .abs [.int i])) Q X s := h
theorem o_listL (h : Q (.o xs) s) : Wp (opt (bltD .list [.lst xs])) Q X s := h
theorem o_listT (h : Q (.o xs) s) : Wp (opt (bltD .list [.tup xs])) Q X s := h
theorem o_tupL (h : Q (.f (.tup xs)) s) : Wp (opt (bltD .tuple [.lst xs])) Q X s := h
theorem o_tupT (h : Q (.f (.tup xs)) s) : Wp (opt (bltD .tuple [.tup xs])) Q X s := h
theorem o_min (h : Q (.f (.int (if i ≤ j then i else j))) s) : Wp (opt (bltD .min [.int i, .int j])) Q X s := h
theorem o_max (h : Q (.f (.int (if j ≤ i then i else j))) s) : Wp (opt (bltD .max [.int i, .int j])) Q X s := h
theorem o_rng (h : Need (bnd62 i = true ∧ bnd62 j = true ∧ (j - i).toNat ≤ lim) (Q' (rngI i j) s)) : Wp (opt (rngD i j)) Q' X s := by
  unfold rngD
  rw [if_pos (by rw [h.1.1, h.1.2.1, decide_eq_true h.1.2.2]; rfl)]
  exact h.2
theorem o_itV {x y : D} {P : List D → S → Prop} {ds : List D} (e : seqOf x = some ds) (h : P ds s) : Wp (opt (itemsD .val x y)) P X s := by
  show Wp (opt (seqOf x)) P X s
  rw [e]
  exact h
theorem o_itVx {x y : D} {P : List D → S → Prop} (h : ∃ ds, seqOf x = some ds ∧ P ds s) : Wp (opt (itemsD .val x y)) P X s := by
  obtain ⟨ds, e, h⟩ := h
  exact o_itV e h
theorem o_itR {P : List D → S → Prop} (h : Need (bnd62 i = true ∧ bnd62 j = true) (P (rngI i j) s)) : Wp (opt (itemsD .rng (.int i) (.int j))) P X s := by
  show Wp (opt (if bnd62 i && bnd62 j then some (rngI i j) else none)) P X s
  rw [if_pos (by rw [h.1.1, h.1.2]; rfl)]
  exact h.2
theorem o_itE {x y : D} {P : List D → S → Prop} {ds : List D} (e : seqOf x = some ds) (h : P ((ds.zipIdx).map fun p => .tup [.int p.2, p.1]) s) : Wp (opt (itemsD .enum x y)) P X s := by
  show Wp (opt ((seqOf x).map _)) P X s
  rw [e]
  exact h
end
section
variable {X : Nat → D → S → Prop} {s : S}
theorem o_itEx {x y : D} {P : List D → S → Prop} (h : ∃ ds, seqOf x = some ds ∧ P ((ds.zipIdx).map fun p => .tup [.int p.2, p.1]) s) : Wp (opt (itemsD .enum x y)) P X s := by
  obtain ⟨ds, e, h⟩ := h
  exact o_itE e h
end
/-! ### statements -/
section
variable {T : Tab} {Φ : Fns} {Q : Fl → S → Prop} {X : Nat → D → S → Prop} {s : S} {r : List (Option DV)} {g : G} {i : Nat} {a b c e : E} {es : List E} {st : Sm} {ss sa sb : List Sm}
theorem t_nil (h : Q .nx s) : Wp (evSs T Φ []) Q X s := h
theorem t_cons (h : Wp (evS T Φ st) (fun fl s1 => flK fl (Wp (evSs T Φ ss) Q X s1) fun fl => Q fl s1) X s) : Wp (evSs T Φ (st :: ss)) Q X s := by
  show Wp (bnd _ _) _ _ _
  rw [wp_bnd]
  refine wp_post h fun fl s1 h => ?_
  cases fl <;> exact h
theorem t_pass (h : Q .nx s) : Wp (evS T Φ .pass) Q X s := h
theorem t_brk (h : Q .bk s) : Wp (evS T Φ .brk) Q X s := h
theorem t_cont (h : Q .ct s) : Wp (evS T Φ .cont) Q X s := h
theorem t_retN (h : Q (.rt (.f .non)) s) : Wp (evS T Φ .retN) Q X s := h
theorem t_ret (h : Wp (evE T Φ e) (fun v s1 => Wp (moveOut v) (fun w s2 => Q (.rt w) s2) X s1) X s) : Wp (evS T Φ (.ret e)) Q X s := by
  show Wp (bnd _ _) _ _ _
  simp only [wp_bnd]
  exact h
theorem t_expr (h : Wp (evE T Φ e) (fun _ s1 => Q .nx s1) X s) : Wp (evS T Φ (.expr e)) Q X s := by
  show Wp (bnd _ _) _ _ _
  simp only [wp_bnd]
  exact h
theorem t_set (h : Wp (evE T Φ e) (fun v s1 => Wp (keep i v) (fun _ s2 => Q .nx s2) X s1) X s) : Wp (evS T Φ (.set i e)) Q X s := by
  show Wp (bnd _ _) _ _ _
  simp only [wp_bnd]
  exact h
theorem t_par {ts : List TX} (h : Wp (evEs T Φ es) (fun vs s1 => Wp (settle vs) (fun ws s2 => Wp (asgXs T Φ ts ws) (fun _ s3 => Q .nx s3) X s2) X s1) X s) : Wp (evS T Φ (.par ts es)) Q X s := by
  show Wp (bnd _ _) _ _ _
  simp only [wp_bnd]
  exact h
theorem t_unp {ts : List Tg} (h : Wp (evE T Φ e) (fun v s1 => Wp (frz v) (fun d s2 => Wp (asgT (.tp ts) d) (fun _ s3 => Q .nx s3) X s2) X s1) X s) : Wp (evS T Φ (.unp ts e)) Q X s := by
  show Wp (bnd _ _) _ _ _
  simp only [wp_bnd]
  exact h
theorem t_setIx (h : Wp (evE T Φ e) (fun v s1 => Wp (frz v) (fun d s2 => Wp (setAt T Φ i c d) (fun _ s3 => Q .nx s3) X s2) X s1) X s) : Wp (evS T Φ (.setIx i c e)) Q X s := by
  show Wp (bnd _ _) _ _ _
  simp only [wp_bnd]
  exact h
theorem t_fset {k : Nat} (h : Wp (evE T Φ e) (fun v s1 => Wp (frz v) (fun d s2 => Wp (fsetM T k d) (fun _ s3 => Q .nx s3) X s2) X s1) X s) : Wp (evS T Φ (.fset k e)) Q X s := by
  show Wp (bnd _ _) _ _ _
  simp only [wp_bnd]
  exact h
theorem t_ifs (h : Wp (evE T Φ c) (fun x s1 => Wp (bool? x) (fun k s2 => Wp (if k then evSs T Φ sa else evSs T Φ sb) Q X s2) X s1) X s) : Wp (evS T Φ (.ifs c sa sb)) Q X s := by
  show Wp (bnd _ _) _ _ _
  simp only [wp_bnd]
  exact h
theorem t_for {t : Tg} {k : ItK} (h : Wp (evE T Φ a) (fun x s1 => Wp (srcM b (evE T Φ b)) (fun y s2 => Wp (frz x) (fun dx s3 => Wp (frz y) (fun dy s4 => Wp (opt (itemsD k dx dy)) (fun ds s5 => Wp (forGo (asgT t) (evSs T Φ ss) ds) Q X s5) X s4) X s3) X s2) X s1) X s) : Wp (evS T Φ (.for t k a b ss)) Q X s := by
  show Wp (bnd _ _) _ _ _
  simp only [wp_bnd]
  exact h
theorem t_while (h : Wp (whileGo (bnd (evE T Φ c) bool?) (evSs T Φ ss) FU) Q X s) : Wp (evS T Φ (.while c ss)) Q X s := h
theorem t_raise {k : Nat} (h : Wp (evE T Φ e) (fun v s1 => Wp (raiseM k v) Q X s1) X s) : Wp (evS T Φ (.raise k e)) Q X s := by
  show Wp (bnd _ _) _ _ _
  simp only [wp_bnd]
  exact h
theorem u_raise {k : Nat} {d : D} (h : X k d s) : Wp (raiseM k (.f d)) Q X s := h
end
section
variable {T : Tab} {Φ : Fns} {X : Nat → D → S → Prop} {s : S} {r : List (Option DV)} {g : G} {i : Nat} {e : E} {d : D} {ds : List D}
theorem u_setnil {Q : List DV → S → Prop} (h : Q [] s) : Wp (settle []) Q X s := h
theorem u_setb {Q : List DV → S → Prop} {vs : List DV} (h : Wp (frz (.b i)) (fun d s1 => Wp (settle vs) (fun ws s2 => Q (.f d :: ws) s2) X s1) X s) : Wp (settle (.b i :: vs)) Q X s := by
  show Wp (bnd _ _) _ _ _
  simp only [wp_bnd]
  exact h
theorem u_setf {Q : List DV → S → Prop} {vs : List DV} (h : Wp (settle vs) (fun ws s2 => Q (.f d :: ws) s2) X s) : Wp (settle (.f d :: vs)) Q X s := by
  show Wp (bnd _ _) _ _ _
  simp only [wp_bnd]
  exact h
theorem u_seto {Q : List DV → S → Prop} {vs : List DV} (h : Wp (settle vs) (fun ws s2 => Q (.o ds :: ws) s2) X s) : Wp (settle (.o ds :: vs)) Q X s := by
  show Wp (bnd _ _) _ _ _
  simp only [wp_bnd]
  exact h
theorem u_xnil {Q : Unit → S → Prop} (h : Q () s) : Wp (asgXs T Φ [] []) Q X s := h
theorem u_xcons {Q : Unit → S → Prop} {t : TX} {ts : List TX} {v : DV} {vs : List DV} (h : Wp (asgX T Φ t v) (fun _ s1 => Wp (asgXs T Φ ts vs) Q X s1) X s) : Wp (asgXs T Φ (t :: ts) (v :: vs)) Q X s := by
  show Wp (bnd _ _) _ _ _
  simp only [wp_bnd]
  exact h
theorem u_xnm {Q : Unit → S → Prop} {v : DV} (h : Wp (keep i v) Q X s) : Wp (asgX T Φ (.nm i) v) Q X s := h
theorem u_xix {Q : Unit → S → Prop} (h : Wp (setAt T Φ i e d) Q X s) : Wp (asgX T Φ (.ix i e) (.f d)) Q X s := h
theorem u_setAt {Q : Unit → S → Prop} (h : Wp (ownAt i) (fun _ s1 => Wp (evE T Φ e) (fun x s2 => Wp (look x) (fun dk s3 => Wp (int? dk) (fun j s4 => Wp (ownAt i) (fun xs s5 => Need (0 ≤ j ∧ j < xs.length ∧ j < 2 ^ 62) (Wp (setR i (.o (xs.set j.toNat d))) Q X s5)) X s4) X s3) X s2) X s1) X s) : Wp (setAt T Φ i e d) Q X s := by
  unfold setAt
  rw [wp_bnd]
  refine wp_post h fun _ s1 h => ?_
  rw [wp_bnd]
  refine wp_post h fun _ s1 h => ?_
  rw [wp_bnd]
  refine wp_post h fun _ s1 h => ?_
  rw [wp_bnd]
  refine wp_post h fun _ s1 h => ?_
  rw [wp_bnd]
  refine wp_post h fun xs s1 h => ?_
  rw [if_pos h.1]
  exact h.2
theorem u_tnm {Q : Unit → S → Prop} (h : Wp (setR i (.f d)) Q X s) : Wp (asgT (.nm i) d) Q X s := h
theorem u_ttp {Q : Unit → S → Prop} {ts : List Tg} (h : Wp (asgTs ts ds) Q X s) : Wp (asgT (.tp ts) (.tup ds)) Q X s := h
theorem u_ttpL {Q : Unit → S → Prop} {ts : List Tg} (h : Wp (asgTs ts ds) Q X s) : Wp (asgT (.tp ts) (.lst ds)) Q X s := h
theorem u_tnil {Q : Unit → S → Prop} (h : Q () s) : Wp (asgTs [] []) Q X s := h
theorem u_tcons {Q : Unit → S → Prop} {t : Tg} {ts : List Tg} (h : Wp (asgT t d) (fun _ s1 => Wp (asgTs ts ds) Q X s1) X s) : Wp (asgTs (t :: ts) (d :: ds)) Q X s := by
  show Wp (bnd _ _) _ _ _
  simp only [wp_bnd]
  exact h
theorem u_fset {Q : Unit → S → Prop} {c k : Nat} {fs : List D} (h : Need ((T.fl c)[fs.length]? = some k) (Q () ⟨some (.n c (fs ++ [d])) :: r, g⟩)) : Wp (fsetM T k d) Q X ⟨some (.n c fs) :: r, g⟩ := by
  unfold Wp fsetM
  simp only [List.getElem?_cons_zero, h.1, if_true, List.set_cons_zero]
  exact h.2
end
/-! ### loops -/
section
variable {Q : Fl → S → Prop} {X : Nat → D → S → Prop} {st : D → M Unit} {body : M Fl} {c : M Bool}
theorem l_for (I : List D → S → Prop) (step : ∀ d ds s, I (d :: ds) s → Wp (st d) (fun _ s1 => Wp body (fun fl s2 => loK fl (I ds s2) (Q .nx s2) fun v => Q (.rt v) s2) X s1) X s) (fin : ∀ s, I [] s → Q .nx s) : ∀ (ds : List D) (s : S), I ds s → Wp (forGo st body ds) Q X s
  | [], s, h => fin s h
  | d :: ds, s, h => by
    show Wp (bnd _ _) _ _ _
    rw [wp_bnd]
    refine wp_post (step d ds s h) fun _ s1 h => ?_
    rw [wp_bnd]
    refine wp_post h fun fl s2 h => ?_
    cases fl with
    | nx => exact l_for I step fin ds s2 h
    | ct => exact l_for I step fin ds s2 h
    | bk => exact h
    | rt v => exact h
theorem l_forI' {es : List D} (I : Nat → S → Prop) (step : ∀ k (hk : k < es.length) s, I k s → Wp (st es[k]) (fun _ s1 => Wp body (fun fl s2 => loK fl (I (k + 1) s2) (Q .nx s2) fun v => Q (.rt v) s2) X s1) X s) (fin : ∀ s, I es.length s → Q .nx s) {s : S} (h0 : I 0 s) : Wp (forGo st body es) Q X s := by
  refine l_for (fun ds s => ∃ k, ds = es.drop k ∧ k ≤ es.length ∧ I k s) (fun d ds s h => ?_) (fun s h => ?_) es s ⟨0, rfl, Nat.zero_le _, h0⟩
  · obtain ⟨k, hd, hk, h⟩ := h
    have hk2 : k < es.length := by
      rcases Nat.lt_or_ge k es.length with h | h
      · exact h
      · rw [List.drop_eq_nil_of_le h] at hd
        cases hd
    rw [List.drop_eq_getElem_cons hk2] at hd
    injection hd with e1 e2
    subst e1
    refine wp_post (step k hk2 s h) fun _ s1 h => ?_
    refine wp_post h fun fl s2 h => ?_
    cases fl with
    | nx => exact ⟨k + 1, e2, hk2, h⟩
    | ct => exact ⟨k + 1, e2, hk2, h⟩
    | bk => exact h
    | rt v => exact h
  · obtain ⟨k, hd, hk, h⟩ := h
    have hl : es.length ≤ k := List.drop_eq_nil_iff.mp hd.symm
    have : k = es.length := by omega
    subst this
    exact fin s h
/-- a range of naturals -/
theorem l_rng {m : Nat} (I : Nat → S → Prop) (step : ∀ k, k < m → ∀ s, I k s → Wp (st (.int (k : Int))) (fun _ s1 => Wp body (fun fl s2 => loK fl (I (k + 1) s2) (Q .nx s2) fun v => Q (.rt v) s2) X s1) X s) (fin : ∀ s, I m s → Q .nx s) {s : S} (h0 : I 0 s) : Wp (forGo st body (rngI 0 (m : Int))) Q X s := by
  rw [rngI_eq]
  refine l_forI' I (fun k hk s h => ?_) (fun s h => fin s (by simpa using h)) h0
  rw [List.length_map, List.length_range] at hk
  rw [List.getElem_map, List.getElem_range]
  exact step k hk s h
theorem l_enum {xs : List D} (I : Nat → S → Prop) (step : ∀ k (hk : k < xs.length) s, I k s → Wp (st (.tup [.int (k : Int), xs[k]])) (fun _ s1 => Wp body (fun fl s2 => loK fl (I (k + 1) s2) (Q .nx s2) fun v => Q (.rt v) s2) X s1) X s) (fin : ∀ s, I xs.length s → Q .nx s) {s : S} (h0 : I 0 s) : Wp (forGo st body ((xs.zipIdx).map fun p => .tup [.int p.2, p.1])) Q X s := by
  refine l_forI' I (fun k hk s h => ?_) (fun s h => fin s (by simpa using h)) h0
  have hk' : k < xs.length := by simpa using hk
  have e : ((xs.zipIdx).map fun p => D.tup [.int p.2, p.1])[k] = .tup [.int (k : Int), xs[k]] := by simp
  rw [e]
  exact step k hk' s h
theorem l_while (I : Nat → S → Prop) (step : ∀ m s, I m s → Wp c (fun k s1 => (k = true → Wp body (fun fl s2 => loK fl (∃ m', m' < m ∧ I m' s2) (Q .nx s2) fun v => Q (.rt v) s2) X s1) ∧ (k = false → Q .nx s1)) X s) : ∀ (n m : Nat) (s : S), m < n → I m s → Wp (whileGo c body n) Q X s
  | 0, m, s, hm, _ => absurd hm (Nat.not_lt_zero _)
  | n + 1, m, s, hm, h => by
    show Wp (bnd _ _) _ _ _
    rw [wp_bnd]
    refine wp_post (step m s h) fun k s1 h => ?_
    cases k with
    | false => exact h.2 rfl
    | true =>
      show Wp (bnd _ _) _ _ _
      rw [wp_bnd]
      refine wp_post (h.1 rfl) fun fl s2 h => ?_
      cases fl with
      | nx =>
        obtain ⟨m', hm', h⟩ := h
        exact l_while I step n m' s2 (by omega) h
      | ct =>
        obtain ⟨m', hm', h⟩ := h
        exact l_while I step n m' s2 (by omega) h
      | bk => exact h
      | rt v => exact h
end
/-! ### defs -/
section
variable {T : Tab} {fns : List Fn} {n f m p : Nat} {ds : List D} {g g' : G} {Q Q' : DV → G → Prop} {X X' : Nat → D → G → Prop} {v : DV}
theorem stK_eq : ∀ (m : Nat) (ds : List D) (k : List (Option DV) → Prop), ds.length ≤ m → stK m ds k = k (startR m ds)
  | 0, [], k, _ => rfl
  | 0, _ :: _, k, h => absurd h (by simp)
  | m + 1, [], k, _ => by
    show stK m [] _ = _
    rw [stK_eq m [] _ (Nat.zero_le _)]
    simp [startR, List.replicate_succ]
  | m + 1, d :: ds, k, h => by
    show stK m ds _ = _
    rw [stK_eq m ds _ (by simpa using h)]
    simp [startR]
theorem sp_body {bd : List Sm} (hf : fns[f]? = some (.body m p bd)) (hl : ds.length = p) (hp : p ≤ m) (h : stK m ds fun r => Wp (evSs T (callD T fns n) bd) (bdQ Q) (bdX X) ⟨r, g⟩) : Sp T fns (n + 1) f ds g Q X := by
  rw [stK_eq m ds _ (by omega)] at h
  unfold Sp
  have e : callD T fns (n + 1) f ds g = runFn T (callD T fns n) (.body m p bd) ds g := by
    show (match fns[f]? with | some fn => runFn T (callD T fns n) fn ds g | none => .stuck) = _
    rw [hf]
  rw [e]
  have e3 : runFn T (callD T fns n) (.body m p bd) ds g = if ds.length = p ∧ p ≤ m then (match evSs T (callD T fns n) bd { r := startR m ds, g := g } with
    | .ok (.rt v) s => .ok v s
    | .ok .nx s => .ok (.f .non) s
    | .exc c d s => .exc c d s
    | _ => .stuck) else .stuck := by
    unfold runFn
    rfl
  rw [e3, if_pos ⟨hl, hp⟩]
  unfold Wp at h
  cases e2 : evSs T (callD T fns n) bd ⟨startR m ds, g⟩ with
  | ok fl s =>
    rw [e2] at h
    cases fl <;> first | exact h | exact h.elim
  | exc c d s => rw [e2] at h; exact h
  | stuck => rw [e2] at h; exact h
theorem sp_ret (h : Ret T fns n f ds g v g') (q : Q v g') : Sp T fns n f ds g Q X := by
  obtain ⟨r, h⟩ := h
  unfold Sp
  rw [h]
  exact q
theorem ret_sp (h : Sp T fns n f ds g (fun v' g'' => v' = v ∧ g'' = g') NG) : Ret T fns n f ds g v g' := by
  unfold Sp at h
  cases e : callD T fns n f ds g with
  | ok v' s =>
    rw [e] at h
    obtain ⟨rfl, h2⟩ := h
    exact ⟨s.r, by rw [e, ← h2]⟩
  | exc c d s => rw [e] at h; exact h.elim
  | stuck => rw [e] at h; exact h.elim
theorem sp_ok (h : Sp T fns n f ds g Q NG) : ∃ v g', Ret T fns n f ds g v g' ∧ Q v g' := by
  unfold Sp at h
  cases e : callD T fns n f ds g with
  | ok v' s =>
    rw [e] at h
    exact ⟨v', s.g, ⟨s.r, e⟩, h⟩
  | exc c d s => rw [e] at h; exact h.elim
  | stuck => rw [e] at h; exact h.elim
theorem sp_mono (h : Sp T fns n f ds g Q X) (q : ∀ v g', Q v g' → Q' v g') (x : ∀ c d g', X c d g' → X' c d g') : Sp T fns n f ds g Q' X' := by
  unfold Sp at h ⊢
  cases e : callD T fns n f ds g with
  | ok v' s => rw [e] at h; exact q _ _ h
  | exc c d s => rw [e] at h; exact x _ _ _ h
  | stuck => rw [e] at h; exact h.elim
theorem sp_nx (h : Sp T fns n f ds g Q NG) (q : ∀ v g', Q v g' → Q' v g') : Sp T fns n f ds g Q' X' := sp_mono h q fun _ _ _ x => x.elim
theorem c_call {P : DV → S → Prop} {Y : Nat → D → S → Prop} {r : List (Option DV)} (h : Sp T fns n f ds g (fun v g' => P v ⟨r, g'⟩) (fun c d g' => Y c d ⟨r, g'⟩)) : Wp (callM (callD T fns n) f ds) P Y ⟨r, g⟩ := by
  unfold Sp at h
  unfold Wp callM
  cases e : callD T fns n f ds g with
  | ok v s =>
    rw [e] at h
    simp only [e]
    exact h
  | exc c d s =>
    rw [e] at h
    simp only [e]
    exact h
  | stuck => rw [e] at h; exact h.elim
theorem c_ret {P : DV → S → Prop} {Y : Nat → D → S → Prop} {r : List (Option DV)} (h : Ret T fns n f ds g v g') (q : P v ⟨r, g'⟩) : Wp (callM (callD T fns n) f ds) P Y ⟨r, g⟩ := c_call (sp_ret h q)
theorem c_sp {P : DV → S → Prop} {Y : Nat → D → S → Prop} {r : List (Option DV)} (h : Sp T fns n f ds g Q NG) (q : ∀ v g', Q v g' → P v ⟨r, g'⟩) : Wp (callM (callD T fns n) f ds) P Y ⟨r, g⟩ := c_call (sp_nx h q)
end
end DI

end
section
set_option Elab.async false
set_option linter.all false
set_option maxRecDepth 100000
set_option maxHeartbeats 4000000
/-! DW3: steps of comprehensions. Own text. -/
namespace DI
open PySem (Str PyData)
theorem wipe_get (r : List (Option DV)) (own : List Nat) (j : Nat) : (wipeR r own)[j]? = if j ∈ own then (r[j]?).map (fun _ => none) else r[j]? := by
  induction own with
  | nil => simp [wipeR]
  | cons i is ih =>
    show ((wipeR r is).set i none)[j]? = _
    rw [List.getElem?_set]
    by_cases h : i = j
    · subst h
      have hl : (wipeR r is).length = r.length := by
        have : ∀ own : List Nat, (wipeR r own).length = r.length := fun own => by
          induction own with
          | nil => rfl
          | cons i is ih => show ((wipeR r is).set i none).length = _; rw [List.length_set, ih]
        exact this is
      simp only [if_true, List.mem_cons, true_or, hl]
      by_cases h2 : i < r.length
      · simp [h2]
      · simp [h2]
    · have h' : ¬ j = i := fun e => h e.symm
      simp [h, h', ih]
theorem wipe_len (r : List (Option DV)) : ∀ own : List Nat, (wipeR r own).length = r.length
  | [] => rfl
  | i :: is => by
    show ((wipeR r is).set i none).length = _
    rw [List.length_set, wipe_len r is]
theorem back_wipe {r r' : List (Option DV)} {own : List Nat} (h : wipeR r' own = wipeR r own) : backR r r' own = r := by
  have hl : r'.length = r.length := by rw [← wipe_len r' own, h, wipe_len]
  have key : ∀ is : List Nat, ∀ j, (backR r r' is)[j]? = if j ∈ is then r[j]? else r'[j]? := fun is => by
    induction is with
    | nil => intro j; simp [backR]
    | cons i is ih =>
      intro j
      have hbl : (backR r r' is).length = r.length := by
        refine Nat.le_antisymm ?_ ?_
        · rcases Nat.lt_or_ge r.length (backR r r' is).length with h | h
          · exfalso
            have := ih r.length
            rw [List.getElem?_eq_getElem h, List.getElem?_eq_none (Nat.le_refl _), List.getElem?_eq_none (by omega)] at this
            simp at this
          · exact h
        · rcases Nat.lt_or_ge (backR r r' is).length r.length with h | h
          · exfalso
            have := ih (backR r r' is).length
            rw [List.getElem?_eq_none (Nat.le_refl _), List.getElem?_eq_getElem h, List.getElem?_eq_getElem (by omega)] at this
            split at this <;> cases this
          · exact h
      show (match r[i]? with | some v => (backR r r' is).set i v | none => backR r r' is)[j]? = _
      by_cases hi : i < r.length
      · rw [List.getElem?_eq_getElem hi]
        show ((backR r r' is).set i r[i])[j]? = _
        rw [List.getElem?_set]
        by_cases e : i = j
        · subst e
          rw [if_pos rfl, hbl, if_pos hi, if_pos List.mem_cons_self, List.getElem?_eq_getElem hi]
        · rw [if_neg e, ih]
          have e' : ¬ j = i := fun z => e z.symm
          simp [e']
      · have e0 : r[i]? = none := List.getElem?_eq_none (by omega)
        rw [e0]
        show (backR r r' is)[j]? = _
        rw [ih]
        by_cases e : j = i
        · subst e
          rw [if_pos List.mem_cons_self]
          split
          · rfl
          · rw [e0, List.getElem?_eq_none (by omega)]
        · simp [e]
  refine List.ext_getElem? fun j => ?_
  rw [key]
  split
  · rfl
  · rename_i hj
    have h1 := wipe_get r' own j
    have h2 := wipe_get r own j
    rw [if_neg hj] at h1 h2
    rw [← h1, h, h2]
theorem wpK_out {own : List Nat} : ∀ {r : List (Option DV)} {k : List (Option DV) → Prop}, wpK r own k → k (wipeR r own) := by
  induction own with
  | nil => exact fun h => h
  | cons i is ih =>
    intro r k h
    have := ih h
    rw [setK_eq] at this
    split at this
    · exact this
    · exact this.elim
def LcK (T : Tab) (Φ : Fns) (own : List Nat) (t : Tg) (c e : E) (ds : List D) (s : S) (Q : List D → S → Prop) : Prop :=
  Wp (lcGo own (asgT t) (tstM c (evE T Φ c)) (bnd (evE T Φ e) frz) ds []) (fun ys s' => Q ys ⟨backR s.r s'.r own, s'.g⟩) NX s
def SameW (own : List Nat) (r0 : List (Option DV)) (g : G) (s : S) : Prop := wipeR s.r own = r0 ∧ s.g = g
section
variable {T : Tab} {Φ : Fns} {own : List Nat} {t : Tg} {k : ItK} {a b c e : E} {ds : List D} {s : S} {r : List (Option DV)} {g : G}
theorem r_lc {Q : DV → S → Prop} {X : Nat → D → S → Prop} (h : Wp (evE T Φ a) (fun x s1 => Wp (srcM b (evE T Φ b)) (fun y s2 => Wp (frz x) (fun dx s3 => Wp (frz y) (fun dy s4 => Wp (opt (itemsD k dx dy)) (fun ds s5 => LcK T Φ own t c e ds s5 fun ys s' => Q (.o ys) s') X s4) X s3) X s2) X s1) X s) : Wp (evE T Φ (.lc own t k a b c e)) Q X s := by
  show Wp (bnd _ _) _ _ _
  rw [wp_bnd]
  refine wp_post h fun x s1 h => ?_
  rw [wp_bnd]
  refine wp_post h fun y s2 h => ?_
  rw [wp_bnd]
  refine wp_post h fun dx s3 h => ?_
  rw [wp_bnd]
  refine wp_post h fun dy s4 h => ?_
  rw [wp_bnd]
  refine wp_post h fun ds s5 h => ?_
  obtain ⟨ys, s', e1, h2⟩ := wp_out h
  refine wp_of (a := .o ys) (s' := ⟨backR s5.r s'.r own, s'.g⟩) ?_ h2
  show (match noExc (lcGo own (asgT t) (tstM c (evE T Φ c)) (bnd (evE T Φ e) frz) ds []) s5 with
    | .ok ys s' => Res.ok (DV.o ys) { s' with r := backR s5.r s'.r own }
    | _ => .stuck) = _
  unfold noExc
  rw [e1]
theorem lc_pureK {Q : List D → S → Prop} (p : D → Bool) (f : D → D) (hl : ds.length ≤ lim)
    (h : ∀ d ∈ ds, wpK r own fun r0 => Wp (asgT t d) (fun _ s1 => Wp (tstM c (evE T Φ c)) (fun k s2 => k = p d ∧ SameW own r0 g s2 ∧ (p d = true → Wp (evE T Φ e) (fun v s3 => Wp (frz v) (fun y s4 => y = f d ∧ SameW own r0 g s4) NX s3) NX s2)) NX s1) NX ⟨r0, g⟩)
    (q : Q ((ds.filter p).map f) ⟨r, g⟩) : LcK T Φ own t c e ds ⟨r, g⟩ Q := by
  have key : ∀ (l acc : List D) (s : S), (∀ d ∈ l, d ∈ ds) → SameW own (wipeR r own) g s → acc.length + l.length ≤ lim → ∃ s', lcGo own (asgT t) (tstM c (evE T Φ c)) (bnd (evE T Φ e) frz) l acc s = .ok (acc ++ (l.filter p).map f) s' ∧ SameW own (wipeR r own) g s' := by
    intro l
    induction l with
    | nil => exact fun acc s _ hs _ => ⟨s, by simp [lcGo, ret], hs⟩
    | cons d l ih =>
      intro acc s hm hs hle
      rw [List.length_cons] at hle
      obtain ⟨_, s1, e1, h1⟩ := wp_out (wpK_out (h d (hm d List.mem_cons_self)))
      obtain ⟨k, s2, e2, rfl, hs2, h2⟩ := wp_out h1
      have e0 : ({ s with r := wipeR s.r own } : S) = ⟨wipeR r own, g⟩ := by
        obtain ⟨x, y⟩ := hs
        rw [x, y]
      by_cases hp : p d = true
      · obtain ⟨v, s3, e3, h3⟩ := wp_out (h2 hp)
        obtain ⟨y, s4, e4, rfl, hs4⟩ := wp_out h3
        obtain ⟨s', e', hs'⟩ := ih (acc ++ [f d]) s4 (fun d' hd => hm d' (List.mem_cons_of_mem _ hd)) hs4 (by simp; omega)
        refine ⟨s', ?_, hs'⟩
        show bnd (asgT t d) _ { s with r := wipeR s.r own } = _
        rw [e0, bnd_of e1, bnd_of e2, if_pos hp]
        have e5 : bnd (evE T Φ e) frz s2 = .ok (f d) s4 := (bnd_of e3).trans e4
        rw [bnd_of e5, if_pos (by omega), e']
        simp [List.filter_cons, hp]
      · have hp' : p d = false := by simpa using hp
        obtain ⟨s', e', hs'⟩ := ih acc s2 (fun d' hd => hm d' (List.mem_cons_of_mem _ hd)) hs2 (by omega)
        refine ⟨s', ?_, hs'⟩
        show bnd (asgT t d) _ { s with r := wipeR s.r own } = _
        rw [e0, bnd_of e1, bnd_of e2, hp', if_neg Bool.false_ne_true, e']
        simp [List.filter_cons, hp']
  obtain ⟨s', e1, hs⟩ := key ds [] ⟨r, g⟩ (fun _ h => h) ⟨rfl, rfl⟩ (by simpa using hl)
  unfold LcK
  refine wp_of e1 ?_
  obtain ⟨x, y⟩ := hs
  show Q _ ⟨backR r s'.r own, s'.g⟩
  rw [back_wipe x, y]
  exact q
theorem wpK_mono {own : List Nat} : ∀ {r : List (Option DV)} {P P' : List (Option DV) → Prop}, (∀ r, P r → P' r) → wpK r own P → wpK r own P' := by
  induction own with
  | nil => exact fun h => h _
  | cons i is ih =>
    intro r P P' h
    refine ih fun r' h' => ?_
    rw [setK_eq] at h' ⊢
    split at h'
    · rw [if_pos (by assumption)]
      exact h _ h'
    · exact h'.elim
/-- without a test -/
theorem lc_mapK {Q : List D → S → Prop} (f : D → D) (hl : ds.length ≤ lim)
    (h : ∀ d ∈ ds, wpK r own fun r0 => Wp (asgT t d) (fun _ s1 => SameW own r0 g s1 ∧ Wp (evE T Φ e) (fun v s3 => Wp (frz v) (fun y s4 => y = f d ∧ SameW own r0 g s4) NX s3) NX s1) NX ⟨r0, g⟩)
    (q : Q (ds.map f) ⟨r, g⟩) : LcK T Φ own t .nop e ds ⟨r, g⟩ Q := by
  refine lc_pureK (fun _ => true) f hl (fun d hd => ?_) (by rw [List.filter_eq_self.mpr (fun _ _ => rfl)]; exact q)
  refine wpK_mono (fun r0 h => ?_) (h d hd)
  refine wp_post h fun _ s1 h => ?_
  exact ⟨rfl, h.1, fun _ => h.2⟩
/-- in general: I ds acc s, what is left and what is found -/
theorem lc_inv {Q : List D → S → Prop} (I : List D → List D → S → Prop) (h0 : I ds [] s)
    (step : ∀ d l acc r' g', I (d :: l) acc ⟨r', g'⟩ → wpK r' own fun r0 => Wp (asgT t d) (fun _ s1 => Wp (tstM c (evE T Φ c)) (fun k s2 => (k = true → Wp (evE T Φ e) (fun v s3 => Wp (frz v) (fun y s4 => acc.length < lim ∧ I l (acc ++ [y]) s4) NX s3) NX s2) ∧ (k = false → I l acc s2)) NX s1) NX ⟨r0, g'⟩)
    (fin : ∀ ys s', I [] ys s' → Q ys ⟨backR s.r s'.r own, s'.g⟩) : LcK T Φ own t c e ds s Q := by
  have key : ∀ (l acc : List D) (s : S), I l acc s → ∃ ys s', lcGo own (asgT t) (tstM c (evE T Φ c)) (bnd (evE T Φ e) frz) l acc s = .ok ys s' ∧ I [] ys s' := by
    intro l
    induction l with
    | nil => exact fun acc s h => ⟨acc, s, rfl, h⟩
    | cons d l ih =>
      intro acc s h
      obtain ⟨r', g'⟩ := s
      obtain ⟨_, s1, e1, h1⟩ := wp_out (wpK_out (step d l acc r' g' h))
      obtain ⟨k, s2, e2, h2⟩ := wp_out h1
      cases k with
      | true =>
        obtain ⟨v, s3, e3, h3⟩ := wp_out (h2.1 rfl)
        obtain ⟨y, s4, e4, h5, h4⟩ := wp_out h3
        obtain ⟨ys, s', e', hI⟩ := ih (acc ++ [y]) s4 h4
        refine ⟨ys, s', ?_, hI⟩
        show bnd (asgT t d) _ (S.mk (wipeR r' own) g') = _
        rw [bnd_of e1, bnd_of e2, if_pos rfl]
        have e5 : bnd (evE T Φ e) frz s2 = .ok y s4 := (bnd_of e3).trans e4
        rw [bnd_of e5, if_pos h5, e']
      | false =>
        obtain ⟨ys, s', e', hI⟩ := ih acc s2 (h2.2 rfl)
        refine ⟨ys, s', ?_, hI⟩
        show bnd (asgT t d) _ (S.mk (wipeR r' own) g') = _
        rw [bnd_of e1, bnd_of e2, if_neg Bool.false_ne_true, e']
  obtain ⟨ys, s', e1, hI⟩ := key ds [] s h0
  exact wp_of e1 (fin ys s' hI)
end
end DI

end
section
set_option Elab.async false
set_option linter.all false
set_option maxRecDepth 100000
set_option maxHeartbeats 4000000
/-! DW4: comprehensions and loops over a list made by a function. Own text. -/
namespace DI
open PySem (Str PyData)
section
variable {T : Tab} {Φ : Fns} {own : List Nat} {t : Tg} {k : ItK} {a b c e : E} {s : S} {r : List (Option DV)} {g : G} {α : Type}
theorem lc_pureA {Q : List D → S → Prop} {l : List α} {h : α → D} (p : α → Bool) (f : α → D) (hl : l.length ≤ lim)
    (hh : ∀ x ∈ l, wpK r own fun r0 => Wp (asgT t (h x)) (fun _ s1 => Wp (tstM c (evE T Φ c)) (fun k s2 => k = p x ∧ SameW own r0 g s2 ∧ (p x = true → Wp (evE T Φ e) (fun v s3 => Wp (frz v) (fun y s4 => y = f x ∧ SameW own r0 g s4) NX s3) NX s2)) NX s1) NX ⟨r0, g⟩)
    (q : Q ((l.filter p).map f) ⟨r, g⟩) : LcK T Φ own t c e (l.map h) ⟨r, g⟩ Q := by
  have key : ∀ (l2 : List α) (acc : List D) (s : S), (∀ d ∈ l2, d ∈ l) → SameW own (wipeR r own) g s → acc.length + l2.length ≤ lim → ∃ s', lcGo own (asgT t) (tstM c (evE T Φ c)) (bnd (evE T Φ e) frz) (l2.map h) acc s = .ok (acc ++ (l2.filter p).map f) s' ∧ SameW own (wipeR r own) g s' := by
    intro l2
    induction l2 with
    | nil => exact fun acc s _ hs _ => ⟨s, by simp [lcGo, ret], hs⟩
    | cons d l2 ih =>
      intro acc s hm hs hle
      rw [List.length_cons] at hle
      obtain ⟨_, s1, e1, h1⟩ := wp_out (wpK_out (hh d (hm d List.mem_cons_self)))
      obtain ⟨k, s2, e2, rfl, hs2, h2⟩ := wp_out h1
      have e0 : ({ s with r := wipeR s.r own } : S) = ⟨wipeR r own, g⟩ := by
        obtain ⟨x, y⟩ := hs
        rw [x, y]
      by_cases hp : p d = true
      · obtain ⟨v, s3, e3, h3⟩ := wp_out (h2 hp)
        obtain ⟨y, s4, e4, rfl, hs4⟩ := wp_out h3
        obtain ⟨s', e', hs'⟩ := ih (acc ++ [f d]) s4 (fun d' hd => hm d' (List.mem_cons_of_mem _ hd)) hs4 (by simp; omega)
        refine ⟨s', ?_, hs'⟩
        show bnd (asgT t (h d)) _ { s with r := wipeR s.r own } = _
        rw [e0, bnd_of e1, bnd_of e2, if_pos hp]
        have e5 : bnd (evE T Φ e) frz s2 = .ok (f d) s4 := (bnd_of e3).trans e4
        rw [bnd_of e5, if_pos (by omega), e']
        simp [List.filter_cons, hp]
      · have hp' : p d = false := by simpa using hp
        obtain ⟨s', e', hs'⟩ := ih acc s2 (fun d' hd => hm d' (List.mem_cons_of_mem _ hd)) hs2 (by omega)
        refine ⟨s', ?_, hs'⟩
        show bnd (asgT t (h d)) _ { s with r := wipeR s.r own } = _
        rw [e0, bnd_of e1, bnd_of e2, hp', if_neg Bool.false_ne_true, e']
        simp [List.filter_cons, hp']
  obtain ⟨s', e1, hs⟩ := key l [] ⟨r, g⟩ (fun _ h => h) ⟨rfl, rfl⟩ (by simpa using hl)
  unfold LcK
  refine wp_of e1 ?_
  obtain ⟨x, y⟩ := hs
  show Q _ ⟨backR r s'.r own, s'.g⟩
  rw [back_wipe x, y]
  exact q
theorem lc_mapA {Q : List D → S → Prop} {l : List α} {h : α → D} (f : α → D) (hl : l.length ≤ lim)
    (hh : ∀ x ∈ l, wpK r own fun r0 => Wp (asgT t (h x)) (fun _ s1 => Wp (evE T Φ e) (fun v s3 => Wp (frz v) (fun y s4 => y = f x ∧ SameW own r0 g s4) NX s3) NX s1) NX ⟨r0, g⟩)
    (q : Q (l.map f) ⟨r, g⟩) (hs : ∀ x ∈ l, wpK r own fun r0 => Wp (asgT t (h x)) (fun _ s1 => SameW own r0 g s1) NX ⟨r0, g⟩ := by intro x hx; repeat (first | with_reducible refine wpS ?_ | with_reducible refine wp0 ?_ | with_reducible refine k_set4 ?_ | with_reducible refine k_setS ?_ | with_reducible refine k_set0 ?_ | with_reducible refine u_ttp ?_ | with_reducible refine u_tcons ?_ | with_reducible refine u_tnil ?_ | with_reducible refine u_tnm ?_ | with_reducible refine r_setR ?_); exact ⟨rfl, rfl⟩) : LcK T Φ own t .nop e (l.map h) ⟨r, g⟩ Q := by
  refine lc_pureA (fun _ => true) f hl (fun x hx => ?_) (by rw [List.filter_eq_self.mpr (fun _ _ => rfl)]; exact q)
  have h1 := wpK_out (hh x hx)
  have h2 := wpK_out (hs x hx)
  have key : wpK r own fun r0 => r0 = wipeR r own := by
    have : ∀ (own : List Nat) (P : List (Option DV) → Prop), wpK r own P → wpK r own fun r0 => r0 = wipeR r own ∧ P r0 := by
      intro own
      induction own with
      | nil => exact fun P h => ⟨rfl, h⟩
      | cons i is ih =>
        intro P h
        show wpK r is fun r' => setK r' i none fun r0 => r0 = wipeR r (i :: is) ∧ P r0
        refine wpK_mono (fun r' h' => ?_) (ih (fun r' => setK r' i none P) h)
        obtain ⟨e1, h'⟩ := h'
        rw [setK_eq] at h' ⊢
        split at h'
        · rw [if_pos (by assumption)]
          refine ⟨?_, h'⟩
          show r'.set i none = (wipeR r is).set i none
          rw [e1]
        · exact h'.elim
    exact wpK_mono (fun r' h => h.1) (this own _ (hh x hx))
  refine wpK_mono (fun r0 e0 => ?_) key
  subst e0
  obtain ⟨u, s1, e1, h1⟩ := wp_out h1
  obtain ⟨u', s1', e1', h2⟩ := wp_out h2
  rw [e1] at e1'
  cases e1'
  exact wp_of e1 ⟨rfl, h2, fun _ => h1⟩
end
section
variable {Q : Fl → S → Prop} {X : Nat → D → S → Prop} {st : D → M Unit} {body : M Fl} {c : M Bool} {α : Type}
/-- a for over the images of a list -/
theorem l_forA {l : List α} {h : α → D} (I : Nat → S → Prop) (step : ∀ k (hk : k < l.length) s, I k s → Wp (st (h l[k])) (fun _ s1 => Wp body (fun fl s2 => loK fl (I (k + 1) s2) (Q .nx s2) fun v => Q (.rt v) s2) X s1) X s) (fin : ∀ s, I l.length s → Q .nx s) {s : S} (h0 : I 0 s) : Wp (forGo st body (l.map h)) Q X s := by
  refine l_forI' I (fun k hk s hI => ?_) (fun s hI => fin s (by simpa using hI)) h0
  rw [List.length_map] at hk
  rw [List.getElem_map]
  exact step k hk s hI
end
theorem enum_map {α : Type} (l : List α) (h : α → D) : (((l.map h).zipIdx).map fun p => D.tup [.int p.2, p.1]) = (List.range l.length).attach.map fun i => D.tup [.int (i.1 : Int), h (l[i.1]'(List.mem_range.mp i.2))] := by
  refine List.ext_getElem (by simp) fun i h1 h2 => ?_
  simp
theorem enum_nat (l : List Nat) : (((l.map fun (n : Nat) => D.int n).zipIdx).map fun p => D.tup [.int p.2, p.1]) = (List.range l.length).map fun (i : Nat) => D.tup [.int (i : Int), .int (l.getD i 0 : Nat)] := by
  refine List.ext_getElem (by simp) fun i h1 h2 => ?_
  have hi : i < l.length := by simpa using h1
  simp [List.getD_eq_getElem?_getD, hi]
end DI

end
section
set_option Elab.async false
set_option linter.all false
set_option maxRecDepth 100000
set_option maxHeartbeats 4000000
/-! KC0: data of any depth, comparisons with the empty list, reprs. Own text. -/
namespace DI
open PySem (Str PyData)
def Lay (k : Nat) (d : D) : Prop := PyData.canLay0 d.py = true ∧ PyData.depth d.py ≤ k
theorem lay_all {k : Nat} : ∀ xs : List D, (∀ x ∈ xs, Lay k x) → PyData.canLayAll0 (pyAll xs) = true ∧ PyData.depthAll (pyAll xs) ≤ k
  | [], _ => ⟨by show PyData.canLayAll0 [] = true; simp [PyData.canLayAll0], by show PyData.depthAll [] ≤ k; simp [PyData.depthAll]⟩
  | x :: xs, h => by
    have h1 := h x List.mem_cons_self
    have h2 := lay_all xs fun y hy => h y (List.mem_cons_of_mem _ hy)
    refine ⟨?_, ?_⟩
    · show PyData.canLayAll0 (x.py :: pyAll xs) = true
      rw [PyData.canLayAll0, h1.1, h2.1]
      rfl
    · show PyData.depthAll (x.py :: pyAll xs) ≤ k
      have := h1.2
      have := h2.2
      simp only [PyData.depthAll]
      omega
theorem lay_int {k : Nat} (i : Int) : Lay (k + 1) (.int i) := ⟨rfl, by show PyData.depth (.int i) ≤ _; simp [PyData.depth]⟩
theorem lay_bl {k : Nat} (b : Bool) : Lay (k + 1) (.bl b) := ⟨rfl, by show PyData.depth (.bool b) ≤ _; simp [PyData.depth]⟩
theorem lay_non {k : Nat} : Lay (k + 1) .non := ⟨rfl, by show PyData.depth .none ≤ _; simp [PyData.depth]⟩
theorem lay_tup {k : Nat} {xs : List D} (h : ∀ x ∈ xs, Lay k x) : Lay (k + 1) (.tup xs) := by
  have h2 := lay_all xs h
  refine ⟨?_, ?_⟩
  · show PyData.canLay0 (.tuple (pyAll xs)) = true
    rw [PyData.canLay0]
    exact h2.1
  · show PyData.depth (.tuple (pyAll xs)) ≤ _
    rw [PyData.depth]
    have := h2.2
    omega
theorem lay_lst {k : Nat} {xs : List D} (h : ∀ x ∈ xs, Lay k x) : Lay (k + 1) (.lst xs) := by
  have h2 := lay_all xs h
  refine ⟨?_, ?_⟩
  · show PyData.canLay0 (.list (pyAll xs)) = true
    rw [PyData.canLay0]
    exact h2.1
  · show PyData.depth (.list (pyAll xs)) ≤ _
    rw [PyData.depth]
    have := h2.2
    omega
theorem lay_mono {k j : Nat} {d : D} (h : Lay k d) (hk : k ≤ j) : Lay j d := ⟨h.1, Nat.le_trans h.2 hk⟩
theorem lay_shp {k : Nat} {d : D} (h : Lay k d) (hk : k ≤ 60 := by decide) : shp d = true := by
  unfold shp PySem.SeqAt.shaped
  rw [Bool.and_eq_true]
  exact ⟨h.1, decide_eq_true (Nat.le_trans h.2 (Nat.le_trans hk (by decide)))⟩
theorem shp_nil : shp (.lst []) = true := lay_shp (k := 2) (lay_lst fun _ h => absurd h List.not_mem_nil)
theorem eqD_nilG {k : Nat} {xs : List D} (h : Lay k (.lst xs)) (hk : k ≤ 60 := by decide) : eqD (.lst xs) (.lst []) = some xs.isEmpty := by
  unfold eqD
  rw [lay_shp h hk, shp_nil]
  show some (PyData.eqv (.list (pyAll xs)) (.list [])) = _
  rw [PyData.eqv]
  cases xs with
  | nil =>
    show some (PyData.eqvAll [] []) = _
    rw [PyData.eqvAll]
    rfl
  | cons x xs =>
    show some (PyData.eqvAll (x.py :: pyAll xs) []) = _
    rw [PyData.eqvAll]
    rfl
theorem eqv_intsG : ∀ a b : List Int, PyData.eqvAll (pyAll (a.map D.int)) (pyAll (b.map D.int)) = decide (a = b)
  | [], [] => rfl
  | [], _ :: _ => by simp [pyAll, PyData.eqvAll]
  | _ :: _, [] => by simp [pyAll, PyData.eqvAll]
  | x :: a, y :: b => by
    have ih := eqv_intsG a b
    simp only [List.map_cons, pyAll, D.py, PyData.eqvAll, PyData.eqv, ih]
    by_cases h : x = y
    · subst h
      simp
    · have h2 : (x == y) = false := by
        rw [beq_eq_false_iff_ne]
        exact h
      simp [h, h2]
theorem eqD_lst {a b : List Int} : eqD (.lst (a.map D.int)) (.lst (b.map D.int)) = some (decide (a = b)) := by
  unfold eqD
  have hl : ∀ a : List Int, shp (.lst (a.map D.int)) = true := fun a => lay_shp (k := 2) (lay_lst fun x hx => by
    obtain ⟨i, _, rfl⟩ := List.mem_map.mp hx
    exact lay_int i)
  rw [hl, hl]
  show some (PyData.eqv (.list (pyAll _)) (.list (pyAll _))) = _
  rw [PyData.eqv, eqv_intsG]
theorem repr_bl (b : Bool) : ∃ x, bltD .repr [.bl b] = some (.f (.str x)) ∧ x = PyData.shown (.bool b) := by
  cases b <;> exact ⟨_, rfl, rfl⟩
theorem eqD_rbl (a b : Bool) : eqD (.str (PyData.shown (.bool a))) (.str (PyData.shown (.bool b))) = some (decide (a = b)) := by
  cases a <;> cases b <;> decide +kernel
section
variable {X : Nat → D → S → Prop} {s : S}
theorem o_reprB {P : DV → S → Prop} {b : Bool} (h : P (.f (.str (PyData.shown (.bool b)))) s) : Wp (opt (bltD .repr [.bl b])) P X s := by
  obtain ⟨x, e, rfl⟩ := repr_bl b
  rw [e]
  exact h
theorem o_neRB {P : Bool → S → Prop} {a b : Bool} (h : P (!decide (a = b)) s) : Wp (opt (cmpD .ne (.str (PyData.shown (.bool a))) (.str (PyData.shown (.bool b))))) P X s := o_ne (eqD_rbl a b) h
end
theorem back_congr {r r2 x : List (Option DV)} : ∀ (own : List Nat), (∀ i ∈ own, r[i]? = r2[i]?) → backR r x own = backR r2 x own
  | [], _ => rfl
  | i :: is, h => by
    show (match r[i]? with | some v => (backR r x is).set i v | none => backR r x is) = (match r2[i]? with | some v => (backR r2 x is).set i v | none => backR r2 x is)
    rw [h i List.mem_cons_self, back_congr is fun j hj => h j (List.mem_cons_of_mem _ hj)]
section
variable {T : Tab} {Φ : Fns} {own : List Nat} {t : Tg} {c e : E} {r r2 : List (Option DV)} {g : G} {α : Type}
/-- a comprehension whose first turn freezes something: from r to r2 -/
theorem lc_pureB {Q : List D → S → Prop} {l : List α} {h : α → D} (r2 : List (Option DV)) (p : α → Bool) (f : α → D) (hl : l.length ≤ lim) (hr : ∀ i ∈ own, r2[i]? = r[i]?)
    (hh : ∀ x ∈ l, ∀ r', r' = r ∨ r' = r2 → wpK r' own fun r0 => Wp (asgT t (h x)) (fun _ s1 => Wp (tstM c (evE T Φ c)) (fun k s2 => k = p x ∧ (p x = false → SameW own (wipeR r2 own) g s2) ∧ (p x = true → Wp (evE T Φ e) (fun v s3 => Wp (frz v) (fun y s4 => y = f x ∧ SameW own (wipeR r2 own) g s4) NX s3) NX s2)) NX s1) NX ⟨r0, g⟩)
    (q0 : l = [] → Q [] ⟨r, g⟩) (q : l ≠ [] → Q ((l.filter p).map f) ⟨r2, g⟩) : LcK T Φ own t c e (l.map h) ⟨r, g⟩ Q := by
  have key : ∀ (l2 : List α) (acc : List D) (s : S), (∀ d ∈ l2, d ∈ l) → (SameW own (wipeR r own) g s ∨ SameW own (wipeR r2 own) g s) → acc.length + l2.length ≤ lim → ∃ s', lcGo own (asgT t) (tstM c (evE T Φ c)) (bnd (evE T Φ e) frz) (l2.map h) acc s = .ok (acc ++ (l2.filter p).map f) s' ∧ (l2 = [] ∧ s' = s ∨ l2 ≠ [] ∧ SameW own (wipeR r2 own) g s') := by
    intro l2
    induction l2 with
    | nil => exact fun acc s _ hs _ => ⟨s, by simp [lcGo, ret], .inl ⟨rfl, rfl⟩⟩
    | cons d l2 ih =>
      intro acc s hm hs hle
      rw [List.length_cons] at hle
      have e0 : ∃ r', (r' = r ∨ r' = r2) ∧ ({ s with r := wipeR s.r own } : S) = ⟨wipeR r' own, g⟩ := by
        rcases hs with ⟨x, y⟩ | ⟨x, y⟩
        · exact ⟨r, .inl rfl, by rw [x, y]⟩
        · exact ⟨r2, .inr rfl, by rw [x, y]⟩
      obtain ⟨r', hr', e0⟩ := e0
      obtain ⟨_, s1, e1, h1⟩ := wp_out (wpK_out (hh d (hm d List.mem_cons_self) r' hr'))
      obtain ⟨k, s2, e2, rfl, hs2, h2⟩ := wp_out h1
      by_cases hp : p d = true
      · obtain ⟨v, s3, e3, h3⟩ := wp_out (h2 hp)
        obtain ⟨y, s4, e4, rfl, hs4⟩ := wp_out h3
        obtain ⟨s', e', hs'⟩ := ih (acc ++ [f d]) s4 (fun d' hd => hm d' (List.mem_cons_of_mem _ hd)) (.inr hs4) (by simp; omega)
        refine ⟨s', ?_, .inr ⟨List.cons_ne_nil _ _, ?_⟩⟩
        · show bnd (asgT t (h d)) _ { s with r := wipeR s.r own } = _
          rw [e0, bnd_of e1, bnd_of e2, if_pos hp]
          have e5 : bnd (evE T Φ e) frz s2 = .ok (f d) s4 := (bnd_of e3).trans e4
          rw [bnd_of e5, if_pos (by omega), e']
          simp [List.filter_cons, hp]
        · rcases hs' with ⟨_, rfl⟩ | ⟨_, hs'⟩
          · exact hs4
          · exact hs'
      · have hp' : p d = false := by simpa using hp
        obtain ⟨s', e', hs'⟩ := ih acc s2 (fun d' hd => hm d' (List.mem_cons_of_mem _ hd)) (.inr (hs2 hp')) (by omega)
        refine ⟨s', ?_, .inr ⟨List.cons_ne_nil _ _, ?_⟩⟩
        · show bnd (asgT t (h d)) _ { s with r := wipeR s.r own } = _
          rw [e0, bnd_of e1, bnd_of e2, hp', if_neg Bool.false_ne_true, e']
          simp [List.filter_cons, hp']
        · rcases hs' with ⟨_, rfl⟩ | ⟨_, hs'⟩
          · exact hs2 hp'
          · exact hs'
  obtain ⟨s', e1, hs⟩ := key l [] ⟨r, g⟩ (fun _ h => h) (.inl ⟨rfl, rfl⟩) (by simpa using hl)
  unfold LcK
  refine wp_of e1 ?_
  rcases hs with ⟨rfl, rfl⟩ | ⟨hne, x, y⟩
  · show Q _ ⟨backR r r own, g⟩
    rw [back_wipe rfl]
    exact q0 rfl
  · show Q _ ⟨backR r s'.r own, s'.g⟩
    rw [back_congr (r2 := r2) own fun i hi => (hr i hi).symm, back_wipe x, y]
    exact q hne
end
end DI

end
section
set_option Elab.async false
set_option linter.all false
set_option maxRecDepth 100000
set_option maxHeartbeats 4000000
/-! DW5: plain tuples, lambdas, errors caught. Own text. -/
namespace DI
open PySem (Str PyData)
def tplK : D → (List D → Prop) → Prop
  | .lst xs, k => k xs
  | _, _ => False
def plK : DV → (List D → Prop) → Prop
  | .p xs, k => k xs
  | _, _ => False
def exK : D → (Nat → D → Prop) → Prop
  | .exn k d, q => q k d
  | _, _ => False
theorem k_tpl {xs : List D} {k : List D → Prop} (h : k xs) : tplK (.lst xs) k := h
theorem k_pl {xs : List D} {k : List D → Prop} (h : k xs) : plK (.p xs) k := h
theorem k_ex {n : Nat} {d : D} {k : Nat → D → Prop} (h : k n d) : exK (.exn n d) k := h
theorem k_rdp {i : Nat} {xs : List D} {k : DV → Prop} (h : k (.p xs)) : rdK i (some (.p xs)) k := h
section
variable {T : Tab} {Φ : Fns} {X : Nat → D → S → Prop} {s : S} {xs : List D}
theorem r_look_p {Q : D → S → Prop} (h : Q (.tup xs) s) : Wp (look (.p xs)) Q X s := h
theorem r_frz_p {Q : D → S → Prop} (h : Q (.tup xs) s) : Wp (frz (.p xs)) Q X s := h
theorem r_move_p {Q : DV → S → Prop} (h : Q (.p xs) s) : Wp (moveOut (.p xs)) Q X s := h
theorem r_keep_p {Q : Unit → S → Prop} {i : Nat} (h : Wp (setR i (.p xs)) Q X s) : Wp (keep i (.p xs)) Q X s := h
theorem u_setp {Q : List DV → S → Prop} {vs : List DV} (h : Wp (settle vs) (fun ws s2 => Q (.p xs :: ws) s2) X s) : Wp (settle (.p xs :: vs)) Q X s := by
  show Wp (bnd _ _) _ _ _
  simp only [wp_bnd]
  exact h
variable {Q : DV → S → Prop} {a b : E}
theorem r_tpl (h : Wp (evE T Φ a) (fun x s1 => Wp (look x) (fun d s2 => tplK d fun xs => Q (.p xs) s2) X s1) X s) : Wp (evE T Φ (.tpl a)) Q X s := by
  show Wp (bnd _ _) _ _ _
  rw [wp_bnd]
  refine wp_post h fun x s1 h => ?_
  rw [wp_bnd]
  refine wp_post h fun d s2 h => ?_
  cases d <;> first | exact h | exact h.elim
theorem r_tidx (h : Wp (evE T Φ a) (fun x s1 => plK x fun xs => Wp (evE T Φ b) (fun y s2 => Wp (look y) (fun dy s3 => Wp (opt (mbD .tidx xs dy)) (fun d s4 => Q (.f d) s4) X s3) X s2) X s1) X s) : Wp (evE T Φ (.mb .tidx a b)) Q X s := by
  show Wp (bnd _ _) _ _ _
  rw [wp_bnd]
  refine wp_post h fun x s1 h => ?_
  cases x with
  | p xs =>
    show Wp (if MB.tidx = .tidx ∨ MB.tidx = .tcnt then _ else stk) _ _ _
    rw [if_pos (.inl rfl), wp_bnd]
    refine wp_post h fun y s2 h => ?_
    rw [wp_bnd]
    refine wp_post h fun dy s3 h => ?_
    rw [wp_bnd]
    exact wp_post h fun d s4 h => h
  | _ => exact h.elim
theorem r_xat (h : Wp (evE T Φ a) (fun x s1 => Wp (look x) (fun d s2 => exK d fun _ d' => Q (.f d') s2) X s1) X s) : Wp (evE T Φ (.xat a)) Q X s := by
  show Wp (bnd _ _) _ _ _
  rw [wp_bnd]
  refine wp_post h fun x s1 h => ?_
  rw [wp_bnd]
  refine wp_post h fun d s2 h => ?_
  cases d <;> first | exact h | exact h.elim
theorem r_isX {ts fs : List Nat} (h : Wp (evE T Φ a) (fun x s1 => Wp (look x) (fun d s2 => exK d fun k _ => if ts.contains k then Q (.f (.bl true)) s2 else if fs.contains k then Q (.f (.bl false)) s2 else False) X s1) X s) : Wp (evE T Φ (.isX a ts fs)) Q X s := by
  show Wp (bnd _ _) _ _ _
  rw [wp_bnd]
  refine wp_post h fun x s1 h => ?_
  rw [wp_bnd]
  refine wp_post h fun d s2 h => ?_
  cases d with
  | exn k d =>
    have h' : if ts.contains k then Q (.f (.bl true)) s2 else if fs.contains k then Q (.f (.bl false)) s2 else False := h
    show Wp (if ts.contains k then ret (DV.f (.bl true)) else if fs.contains k then ret (DV.f (.bl false)) else stk) _ _ _
    by_cases h1 : ts.contains k = true
    · rw [if_pos h1] at h' ⊢
      exact h'
    · rw [if_neg h1] at h' ⊢
      by_cases h2 : fs.contains k = true
      · rw [if_pos h2] at h' ⊢
        exact h'
      · rw [if_neg h2] at h'
        exact h'.elim
  | _ => exact h.elim
theorem r_lamc {f : Nat} (h : Wp (evE T Φ a) (fun _ s1 => Wp (callM Φ f [.non]) Q X s1) (fun k d s1 => Wp (callM Φ f [.exn k d]) Q X s1) s) : Wp (evE T Φ (.lamc f a)) Q X s := by
  show Wp (lamM Φ f (evE T Φ a)) Q X s
  unfold Wp at h
  unfold Wp lamM
  cases e : evE T Φ a s with
  | ok v s1 => rw [e] at h; exact h
  | exc k d s1 => rw [e] at h; exact h
  | stuck => rw [e] at h; exact h
end
section
variable {T : Tab} {fns : List Fn} {n f m k j : Nat} {g : G} {Q : DV → G → Prop} {X : Nat → D → G → Prop} {d : D} {hs : List (Option Nat × List Nat × List Nat × List Sm)} {ts fs : List Nat} {su : List Sm}
theorem sp_lamN (hf : fns[f]? = some (.lam m hs)) (h : Q (.f .non) g) : Sp T fns (n + 1) f [.non] g Q X := by
  unfold Sp
  have e : callD T fns (n + 1) f [.non] g = .ok (.f .non) ⟨[], g⟩ := by
    show (match fns[f]? with | some fn => runFn T (callD T fns n) fn [.non] g | none => .stuck) = _
    rw [hf]
    rfl
  rw [e]
  exact h
theorem sp_lamX {r0 : List (Option DV)} (hf : fns[f]? = some (.lam m ((some j, ts, fs, su) :: hs))) (hk : ts.contains k = true) (hj : (List.replicate m (none : Option DV))[j]? = some none) (hr : (List.replicate m none).set j (some (.f (.exn k d))) = r0)
    (h : Wp (evSs T (callD T fns n) su) (fun fl s => ∃ v, fl = .rt v ∧ (s.r.set j none).all noXO = true ∧ noXV v = true ∧ Q v s.g) NX ⟨r0, g⟩) : Sp T fns (n + 1) f [.exn k d] g Q X := by
  unfold Sp
  have e : callD T fns (n + 1) f [.exn k d] g = lamGo T (callD T fns n) m k d g ((some j, ts, fs, su) :: hs) := by
    show (match fns[f]? with | some fn => runFn T (callD T fns n) fn [.exn k d] g | none => .stuck) = _
    rw [hf]
    rfl
  obtain ⟨fl, s, e2, v, rfl, h1, h2, q⟩ := wp_out h
  have e3 : suiteM (some j) k d (evSs T (callD T fns n) su) { r := List.replicate m none, g := g } = .ok (.rt v) { s with r := s.r.set j none } := by
    unfold suiteM
    dsimp only
    rw [hj]
    dsimp only
    rw [hr]
    unfold noExc
    rw [e2]
    dsimp only
    rw [h1, show noXF (.rt v) = true from h2]
    rfl
  have e4 : lamGo T (callD T fns n) m k d g ((some j, ts, fs, su) :: hs) = .ok v { s with r := s.r.set j none } := by
    unfold lamGo
    rw [if_pos hk, e3]
  rw [e, e4]
  exact q
end
end DI

end
section
set_option Elab.async false
set_option linter.all false
set_option maxRecDepth 100000
set_option maxHeartbeats 4000000
/-! KB2: plain checks, reorderings. Own text. -/
namespace LK
open PySem (Str)
open DI PM
local macro_rules | `(tactic| fail $s:str) => match s.getString with
  | "a1" => `(tactic| first
    | with_reducible refine w_var ?_ | with_reducible refine k_getS ?_ | with_reducible refine k_get0 ?_ | with_reducible refine k_get4 ?_ | with_reducible refine k_rdf ?_
    | with_reducible refine k_lkf ?_ | with_reducible refine k_fzf ?_ | with_reducible refine r_look_f ?_ | with_reducible refine r_frz_f ?_ | with_reducible refine r_eint ?_
    | with_reducible refine r_cmp ?_ | with_reducible refine r_bin ?_)
  | "a2" => `(tactic| first
    | with_reducible refine r_escons ?_ | with_reducible refine r_esnil ?_ | with_reducible refine r_fzcons ?_ | with_reducible refine r_fznil ?_ | with_reducible refine r_lkcons ?_
    | with_reducible refine r_lknil ?_ | with_reducible refine r_ix ?_ | with_reducible refine t_cons ?_ | with_reducible refine t_nil ?_ | with_reducible refine t_set ?_
    | with_reducible refine t_ifs ?_ | with_reducible refine t_ret ?_)
  | "a3" => `(tactic| first
    | with_reducible refine bd_rt ?_ | with_reducible refine k_nx ?_ | with_reducible refine k_rt ?_ | with_reducible refine r_bool ?_ | with_reducible refine wpS ?_
    | with_reducible refine wp0 ?_ | with_reducible refine stC ?_ | with_reducible refine stN ?_ | with_reducible refine sz0 ?_ | with_reducible refine k_setS ?_
    | with_reducible refine k_mvf ?_)
  | "a4" => `(tactic| first
    | with_reducible refine k_rdo ?_ | with_reducible refine k_lko ?_ | with_reducible refine k_owo ?_ | with_reducible refine k_fzo ?_ | with_reducible refine k_mvo ?_
    | with_reducible refine k_set0 ?_ | with_reducible refine k_set4 ?_ | with_reducible refine r_ebl ?_ | with_reducible refine r_enon ?_ | with_reducible refine r_estr ?_
    | with_reducible refine r_look_o ?_ | with_reducible refine q_look_b ?_ | with_reducible refine r_frz_o ?_ | with_reducible refine q_frz_b ?_ | with_reducible refine q_ownAt ?_
    | with_reducible refine r_move_f ?_)
  | "a5" => `(tactic| first
    | with_reducible refine r_move_o ?_ | with_reducible refine q_move_b ?_ | with_reducible refine r_setR ?_ | with_reducible refine r_keep_f ?_ | with_reducible refine r_keep_o ?_
    | with_reducible refine r_keep_b ?_ | with_reducible refine r_int ?_ | with_reducible refine r_neg ?_ | with_reducible refine r_isN ?_ | with_reducible refine r_notN ?_
    | with_reducible refine r_and ?_ | with_reducible refine r_or ?_ | with_reducible refine r_not ?_ | with_reducible refine r_ite ?_ | with_reducible refine r_chain ?_
    | with_reducible refine r_call ?_)
  | "a6" => `(tactic| first
    | with_reducible refine r_callk ?_ | with_reducible refine r_make ?_ | with_reducible refine r_blt ?_ | with_reducible refine r_isI ?_ | with_reducible refine r_lrg ?_
    | with_reducible refine r_trg ?_ | with_reducible refine r_append ?_ | with_reducible refine r_pop ?_ | with_reducible refine r_popAt ?_ | with_reducible refine r_lc ?_
    | with_reducible refine r_sl ?_ | with_reducible refine r_tup ?_ | with_reducible refine r_lst ?_ | with_reducible refine r_fld ?_ | with_reducible refine r_part0 ?_
    | ((with_reducible refine r_part ?_ ?_); (· intro z; cases z)))
  | "a7" => `(tactic| first
    | with_reducible refine r_src0 ?_ | ((with_reducible refine r_src ?_ ?_); (· intro z; cases z)) | with_reducible refine r_zero0 ?_ | ((with_reducible refine r_zero ?_ ?_); (· intro z; cases z)) | with_reducible refine r_tst0 ?_
    | ((with_reducible refine r_tst ?_ ?_); (· intro z; cases z)) | with_reducible refine r_ifnt ?_ | with_reducible refine r_ifnf ?_ | with_reducible refine r_ift ?_ | with_reducible refine r_iff ?_
    | with_reducible refine r_ret ?_ | with_reducible refine r_bnd ?_ | with_reducible refine o_add ?_ | with_reducible refine o_sub ?_ | with_reducible refine o_mul ?_
    | with_reducible refine o_fdiv ?_)
  | "a8" => `(tactic| first
    | with_reducible refine o_mod ?_ | with_reducible refine o_addT ?_ | with_reducible refine o_addL ?_ | with_reducible refine o_mulL ?_ | with_reducible refine o_lt ?_
    | with_reducible refine o_le ?_ | with_reducible refine o_gt ?_ | with_reducible refine o_ge ?_ | with_reducible refine o_eqI ?_ | with_reducible refine o_neI ?_
    | with_reducible refine o_eqB ?_ | with_reducible refine o_neB ?_ | with_reducible refine o_lenL ?_ | with_reducible refine o_lenT ?_ | with_reducible refine o_int ?_
    | with_reducible refine o_abs ?_)
  | "a9" => `(tactic| first
    | with_reducible refine o_listL ?_ | with_reducible refine o_listT ?_ | with_reducible refine o_tupL ?_ | with_reducible refine o_tupT ?_ | with_reducible refine o_min ?_
    | with_reducible refine o_max ?_ | with_reducible refine o_rng ?_ | with_reducible refine o_itR ?_ | with_reducible refine t_retN ?_ | with_reducible refine t_expr ?_
    | with_reducible refine t_par ?_ | with_reducible refine t_unp ?_ | with_reducible refine t_setIx ?_ | with_reducible refine t_for ?_ | with_reducible refine t_while ?_
    | with_reducible refine t_raise ?_)
  | "a10" => `(tactic| first
    | with_reducible refine t_pass ?_ | with_reducible refine t_brk ?_ | with_reducible refine t_cont ?_ | with_reducible refine t_fset ?_ | with_reducible refine u_fset ?_
    | with_reducible refine u_raise ?_ | with_reducible refine u_setnil ?_ | with_reducible refine u_setb ?_ | with_reducible refine u_setf ?_ | with_reducible refine u_seto ?_
    | with_reducible refine u_xnil ?_ | with_reducible refine u_xcons ?_ | with_reducible refine u_xnm ?_ | with_reducible refine u_xix ?_ | with_reducible refine u_setAt ?_
    | with_reducible refine u_tnm ?_)
  | "a11" => `(tactic| first
    | with_reducible refine u_ttp ?_ | with_reducible refine u_ttpL ?_ | with_reducible refine u_tnil ?_ | with_reducible refine u_tcons ?_ | with_reducible refine k_bk ?_
    | with_reducible refine k_ct ?_ | with_reducible refine lo_nx ?_ | with_reducible refine lo_ct ?_ | with_reducible refine lo_bk ?_ | with_reducible refine lo_rt ?_
    | with_reducible refine bd_nx ?_ | with_reducible refine bd_x ?_ | ((with_reducible refine k_tlen ?_ ?_); (· first | (show 0 ≤ lim; decide) | (show 1 ≤ lim; decide) | (show 2 ≤ lim; decide) | (show 3 ≤ lim; decide) | (show 4 ≤ lim; decide) | (show 5 ≤ lim; decide) | (show 6 ≤ lim; decide) | (show 8 ≤ lim; decide) | (show 10 ≤ lim; decide))) | ((with_reducible refine o_itVx ?_); refine ⟨_, rfl, ?_⟩) | ((with_reducible refine o_itEx ?_); refine ⟨_, rfl, ?_⟩)
    | ((with_reducible refine r_optx ?_); refine ⟨_, rfl, ?_⟩))
  | "a12" => `(tactic| first
    | with_reducible refine k_rdp ?_ | with_reducible refine r_look_p ?_ | with_reducible refine r_frz_p ?_ | with_reducible refine r_move_p ?_ | with_reducible refine r_keep_p ?_ | with_reducible refine u_setp ?_
    | with_reducible refine r_tpl ?_ | with_reducible refine k_tpl ?_ | with_reducible refine r_tidx ?_ | with_reducible refine k_pl ?_ | with_reducible refine r_lamc ?_ | with_reducible refine r_xat ?_ | with_reducible refine k_ex ?_ | with_reducible refine r_isX ?_ | with_reducible refine o_mulL ?_)
  | _ => Lean.Macro.throwUnsupported
local macro_rules | `(tactic| infer_instance) => `(tactic| first | fail "a1" | fail "a2" | fail "a3" | fail "a4" | fail "a5" | fail "a6" | fail "a7" | fail "a8" | fail "a9" | fail "a10" | fail "a11" | fail "a12")
theorem neg_dec {p : Prop} [Decidable p] (h : p) : (!decide p) = false := by rw [decide_eq_true h]; rfl
def tn (xs : List Nat) : D := .tup (xs.map fun (n : Nat) => .int n)
def il (xs : List Nat) : List D := xs.map fun (n : Nat) => .int n
def tl (xs : List Nat) : D := .lst (il xs)
theorem il_len (xs : List Nat) : (il xs).length = xs.length := by simp [il]
theorem at_il {xs : List Nat} {s : Nat} (h : s < xs.length) : atI (il xs) (s : Int) = some (.int (xs.getD s 0 : Nat)) := by
  unfold atI il
  rw [if_pos (by omega), Int.toNat_natCast, List.getElem?_map, List.getElem?_eq_getElem h, List.getD_eq_getElem?_getD, List.getElem?_eq_getElem h]
  rfl
section
variable {n m : Nat} {g : G} {X : Nat → D → G → Prop} {Q : DV → G → Prop}
theorem s_isint {i : Int} (h : Q (.f (.bl true)) g) : Sp tab fns (n + 1) 0 [.int i] g Q X := by
  refine sp_body (bd := b0) (m := 1) (p := 1) rfl rfl (by decide) ?_
  unfold b0
  repeat infer_instance
  exact h
theorem s_isnum {i : Int} (h : Q (.f (.bl (decide (0 ≤ i)))) g) : Sp tab fns (n + 2) 1 [.int i] g Q X := by
  refine sp_body (bd := b1) (m := 1) (p := 1) rfl rfl (by decide) ?_
  unfold b1
  repeat infer_instance
  refine c_call (s_isint ?_)
  repeat infer_instance
  exact h
theorem s_isix {i k : Int} (h : Q (.f (.bl (decide (0 ≤ i ∧ i < k)))) g) : Sp tab fns (n + 3) 2 [.int i, .int k] g Q X := by
  refine sp_body (bd := b2) (m := 2) (p := 2) rfl rfl (by decide) ?_
  unfold b2
  repeat infer_instance
  refine c_call (s_isnum ?_)
  repeat infer_instance
  refine r_ifd (fun h1 => ?_) (fun h1 => ?_)
  · repeat infer_instance
    rw [show decide (i < k) = decide (0 ≤ i ∧ i < k) by simp [h1]]
    exact h
  · repeat infer_instance
    rw [show false = decide (0 ≤ i ∧ i < k) by simp [h1]]
    exact h
theorem s_isseqT {xs : List D} (h : Q (.f (.bl true)) g) : Sp tab fns (n + 1) 3 [.tup xs] g Q X := by
  refine sp_body (bd := b3) (m := 1) (p := 1) rfl rfl (by decide) ?_
  unfold b3
  repeat infer_instance
  exact h
theorem s_isseqL {xs : List D} (h : Q (.f (.bl true)) g) : Sp tab fns (n + 1) 3 [.lst xs] g Q X := by
  refine sp_body (bd := b3) (m := 1) (p := 1) rfl rfl (by decide) ?_
  unfold b3
  repeat infer_instance
  exact h
theorem s_isseq_no {d : D} (hd : isD .seq d = some false) (h : Q (.f (.bl false)) g) : Sp tab fns (n + 1) 3 [d] g Q X := by
  refine sp_body (bd := b3) (m := 1) (p := 1) rfl rfl (by decide) ?_
  unfold b3
  iterate 9 infer_instance
  refine r_opt hd ?_
  repeat infer_instance
  exact h
/-- a list or tuple of numbers -/
def Sq (p : List Nat) (d : D) : Prop := d = tn p ∨ d = tl p
theorem s_isseq {p : List Nat} {d : D} (hd : Sq p d) (h : Q (.f (.bl true)) g) : Sp tab fns (n + 1) 3 [d] g Q X := by
  rcases hd with rfl | rfl
  · exact s_isseqT h
  · exact s_isseqL h
/-- divisor, _law_gcd -/
theorem s_gcd {a b : Nat} (hb : b ≤ 2 ^ 100) (h : Q (.f (.int (Nat.gcd a b : Nat))) g) : Sp tab fns (n + 1) 36 [.int (a : Int), .int (b : Int)] g Q X := by
  refine sp_body (bd := b36) (m := 2) (p := 2) rfl rfl (by decide) ?_
  unfold b36
  repeat infer_instance
  refine l_while (fun m s => m = 0 ∧ False ∨ ∃ (x y : Nat), m = y ∧ s = ⟨[some (.f (.int (x : Int))), some (.f (.int (y : Int)))], g⟩ ∧ Nat.gcd x y = Nat.gcd a b) ?_ FU b _ ?_ ?_
  · rintro m s (⟨_, hf⟩ | ⟨x, y, rfl, rfl, hg⟩)
    · exact hf.elim
    · repeat infer_instance
      refine ⟨fun hk => ?_, fun hk => ?_⟩
      · have hy : 0 < m := by simpa using hk
        repeat infer_instance
        refine k_need (by omega) ?_
        repeat infer_instance
        refine ⟨x % m, Nat.mod_lt _ hy, .inr ⟨m, x % m, rfl, ?_, ?_⟩⟩
        · rw [Int.natCast_emod]
        · rw [← hg, Nat.gcd_comm x m, Nat.gcd_rec m x, Nat.gcd_comm]
      · have hy : m = 0 := by simpa using hk
        subst hy
        repeat infer_instance
        rw [Nat.gcd_zero_right] at hg
        rw [hg]
        exact h
  · exact FU_gt hb
  · exact .inr ⟨a, b, rfl, rfl, rfl⟩
end
end LK

end
section
set_option Elab.async false
set_option linter.all false
set_option maxRecDepth 100000
set_option maxHeartbeats 4000000
/-! KB3: reorderings checked, frames. Own text. -/
namespace LK
open PySem (Str)
open DI PM
local macro_rules | `(tactic| fail $s:str) => match s.getString with
  | "a1" => `(tactic| first
    | with_reducible refine w_var ?_ | with_reducible refine k_getS ?_ | with_reducible refine k_get0 ?_ | with_reducible refine k_get4 ?_ | with_reducible refine k_rdf ?_
    | with_reducible refine k_lkf ?_ | with_reducible refine k_fzf ?_ | with_reducible refine r_look_f ?_ | with_reducible refine r_frz_f ?_ | with_reducible refine r_eint ?_
    | with_reducible refine r_cmp ?_ | with_reducible refine r_bin ?_)
  | "a2" => `(tactic| first
    | with_reducible refine r_escons ?_ | with_reducible refine r_esnil ?_ | with_reducible refine r_fzcons ?_ | with_reducible refine r_fznil ?_ | with_reducible refine r_lkcons ?_
    | with_reducible refine r_lknil ?_ | with_reducible refine r_ix ?_ | with_reducible refine t_cons ?_ | with_reducible refine t_nil ?_ | with_reducible refine t_set ?_
    | with_reducible refine t_ifs ?_ | with_reducible refine t_ret ?_)
  | "a3" => `(tactic| first
    | with_reducible refine bd_rt ?_ | with_reducible refine k_nx ?_ | with_reducible refine k_rt ?_ | with_reducible refine r_bool ?_ | with_reducible refine wpS ?_
    | with_reducible refine wp0 ?_ | with_reducible refine stC ?_ | with_reducible refine stN ?_ | with_reducible refine sz0 ?_ | with_reducible refine k_setS ?_
    | with_reducible refine k_mvf ?_)
  | "a4" => `(tactic| first
    | with_reducible refine k_rdo ?_ | with_reducible refine k_lko ?_ | with_reducible refine k_owo ?_ | with_reducible refine k_fzo ?_ | with_reducible refine k_mvo ?_
    | with_reducible refine k_set0 ?_ | with_reducible refine k_set4 ?_ | with_reducible refine r_ebl ?_ | with_reducible refine r_enon ?_ | with_reducible refine r_estr ?_
    | with_reducible refine r_look_o ?_ | with_reducible refine q_look_b ?_ | with_reducible refine r_frz_o ?_ | with_reducible refine q_frz_b ?_ | with_reducible refine q_ownAt ?_
    | with_reducible refine r_move_f ?_)
  | "a5" => `(tactic| first
    | with_reducible refine r_move_o ?_ | with_reducible refine q_move_b ?_ | with_reducible refine r_setR ?_ | with_reducible refine r_keep_f ?_ | with_reducible refine r_keep_o ?_
    | with_reducible refine r_keep_b ?_ | with_reducible refine r_int ?_ | with_reducible refine r_neg ?_ | with_reducible refine r_isN ?_ | with_reducible refine r_notN ?_
    | with_reducible refine r_and ?_ | with_reducible refine r_or ?_ | with_reducible refine r_not ?_ | with_reducible refine r_ite ?_ | with_reducible refine r_chain ?_
    | with_reducible refine r_call ?_)
  | "a6" => `(tactic| first
    | with_reducible refine r_callk ?_ | with_reducible refine r_make ?_ | with_reducible refine r_blt ?_ | with_reducible refine r_isI ?_ | with_reducible refine r_lrg ?_
    | with_reducible refine r_trg ?_ | with_reducible refine r_append ?_ | with_reducible refine r_pop ?_ | with_reducible refine r_popAt ?_ | with_reducible refine r_lc ?_
    | with_reducible refine r_sl ?_ | with_reducible refine r_tup ?_ | with_reducible refine r_lst ?_ | with_reducible refine r_fld ?_ | with_reducible refine r_part0 ?_
    | ((with_reducible refine r_part ?_ ?_); (· intro z; cases z)))
  | "a7" => `(tactic| first
    | with_reducible refine r_src0 ?_ | ((with_reducible refine r_src ?_ ?_); (· intro z; cases z)) | with_reducible refine r_zero0 ?_ | ((with_reducible refine r_zero ?_ ?_); (· intro z; cases z)) | with_reducible refine r_tst0 ?_
    | ((with_reducible refine r_tst ?_ ?_); (· intro z; cases z)) | with_reducible refine r_ifnt ?_ | with_reducible refine r_ifnf ?_ | with_reducible refine r_ift ?_ | with_reducible refine r_iff ?_
    | with_reducible refine r_ret ?_ | with_reducible refine r_bnd ?_ | with_reducible refine o_add ?_ | with_reducible refine o_sub ?_ | with_reducible refine o_mul ?_
    | with_reducible refine o_fdiv ?_)
  | "a8" => `(tactic| first
    | with_reducible refine o_mod ?_ | with_reducible refine o_addT ?_ | with_reducible refine o_addL ?_ | with_reducible refine o_mulL ?_ | with_reducible refine o_lt ?_
    | with_reducible refine o_le ?_ | with_reducible refine o_gt ?_ | with_reducible refine o_ge ?_ | with_reducible refine o_eqI ?_ | with_reducible refine o_neI ?_
    | with_reducible refine o_eqB ?_ | with_reducible refine o_neB ?_ | with_reducible refine o_lenL ?_ | with_reducible refine o_lenT ?_ | with_reducible refine o_int ?_
    | with_reducible refine o_abs ?_)
  | "a9" => `(tactic| first
    | with_reducible refine o_listL ?_ | with_reducible refine o_listT ?_ | with_reducible refine o_tupL ?_ | with_reducible refine o_tupT ?_ | with_reducible refine o_min ?_
    | with_reducible refine o_max ?_ | with_reducible refine o_rng ?_ | with_reducible refine o_itR ?_ | with_reducible refine t_retN ?_ | with_reducible refine t_expr ?_
    | with_reducible refine t_par ?_ | with_reducible refine t_unp ?_ | with_reducible refine t_setIx ?_ | with_reducible refine t_for ?_ | with_reducible refine t_while ?_
    | with_reducible refine t_raise ?_)
  | "a10" => `(tactic| first
    | with_reducible refine t_pass ?_ | with_reducible refine t_brk ?_ | with_reducible refine t_cont ?_ | with_reducible refine t_fset ?_ | with_reducible refine u_fset ?_
    | with_reducible refine u_raise ?_ | with_reducible refine u_setnil ?_ | with_reducible refine u_setb ?_ | with_reducible refine u_setf ?_ | with_reducible refine u_seto ?_
    | with_reducible refine u_xnil ?_ | with_reducible refine u_xcons ?_ | with_reducible refine u_xnm ?_ | with_reducible refine u_xix ?_ | with_reducible refine u_setAt ?_
    | with_reducible refine u_tnm ?_)
  | "a11" => `(tactic| first
    | with_reducible refine u_ttp ?_ | with_reducible refine u_ttpL ?_ | with_reducible refine u_tnil ?_ | with_reducible refine u_tcons ?_ | with_reducible refine k_bk ?_
    | with_reducible refine k_ct ?_ | with_reducible refine lo_nx ?_ | with_reducible refine lo_ct ?_ | with_reducible refine lo_bk ?_ | with_reducible refine lo_rt ?_
    | with_reducible refine bd_nx ?_ | with_reducible refine bd_x ?_ | ((with_reducible refine k_tlen ?_ ?_); (· first | (show 0 ≤ lim; decide) | (show 1 ≤ lim; decide) | (show 2 ≤ lim; decide) | (show 3 ≤ lim; decide) | (show 4 ≤ lim; decide) | (show 5 ≤ lim; decide) | (show 6 ≤ lim; decide) | (show 8 ≤ lim; decide) | (show 10 ≤ lim; decide))) | ((with_reducible refine o_itVx ?_); refine ⟨_, rfl, ?_⟩) | ((with_reducible refine o_itEx ?_); refine ⟨_, rfl, ?_⟩)
    | ((with_reducible refine r_optx ?_); refine ⟨_, rfl, ?_⟩))
  | "a12" => `(tactic| first
    | with_reducible refine k_rdp ?_ | with_reducible refine r_look_p ?_ | with_reducible refine r_frz_p ?_ | with_reducible refine r_move_p ?_ | with_reducible refine r_keep_p ?_ | with_reducible refine u_setp ?_
    | with_reducible refine r_tpl ?_ | with_reducible refine k_tpl ?_ | with_reducible refine r_tidx ?_ | with_reducible refine k_pl ?_ | with_reducible refine r_lamc ?_ | with_reducible refine r_xat ?_ | with_reducible refine k_ex ?_ | with_reducible refine r_isX ?_ | with_reducible refine o_mulL ?_)
  | _ => Lean.Macro.throwUnsupported
local macro_rules | `(tactic| infer_instance) => `(tactic| first | fail "a1" | fail "a2" | fail "a3" | fail "a4" | fail "a5" | fail "a6" | fail "a7" | fail "a8" | fail "a9" | fail "a10" | fail "a11" | fail "a12")
theorem seq_of {p : List Nat} {d : D} (h : Sq p d) : seqOf d = some (il p) := by
  rcases h with rfl | rfl <;> rfl
theorem len_of {p : List Nat} {d : D} (h : Sq p d) : bltD .len [d] = some (.f (.int (p.length : Nat))) := by
  rcases h with rfl | rfl
  · show some (DV.f (.int ((p.map fun (n : Nat) => D.int n).length : Nat))) = _
    rw [List.length_map]
  · show some (DV.f (.int ((il p).length : Nat))) = _
    rw [il_len]
theorem tup_of {p : List Nat} {d : D} (h : Sq p d) : bltD .tuple [d] = some (.f (tn p)) := by
  rcases h with rfl | rfl <;> rfl
def seen (p : List Nat) (k : Nat) : List D := (List.range p.length).map fun j => .bl (decide (j ∈ p.take k))
theorem seen_len (p : List Nat) (k : Nat) : (seen p k).length = p.length := by simp [seen]
theorem seen_zero (p : List Nat) : seen p 0 = (List.replicate p.length [D.bl false]).flatten := by
  unfold seen
  refine List.ext_getElem ?_ fun i h1 h2 => ?_
  · simp
  · simp [List.flatten_replicate_singleton]
theorem seen_succ {p : List Nat} {k : Nat} (h : k < p.length) : (seen p k).set (p.getD k 0) (.bl true) = seen p (k + 1) := by
  unfold seen
  refine List.ext_getElem (by simp) fun i h1 h2 => ?_
  rw [List.getElem_set, List.getElem_map, List.getElem_map, List.getElem_range]
  have e : p.getD k 0 = p[k] := by rw [List.getD_eq_getElem?_getD, List.getElem?_eq_getElem h]; rfl
  have key : ∀ x, x ∈ p.take (k + 1) ↔ x ∈ p.take k ∨ x = p[k] := fun x => by
    rw [List.take_succ_eq_append_getElem h, List.mem_append, List.mem_singleton]
  rw [e]
  by_cases hi : p[k] = i
  · rw [if_pos hi, decide_eq_true ((key i).mpr (.inr hi.symm))]
  · rw [if_neg hi]
    have : ¬ i = p[k] := fun z => hi z.symm
    congr 1
    rw [decide_eq_decide, key]
    exact ⟨.inl, fun z => z.resolve_right this⟩
theorem seen_at {p : List Nat} {k j : Nat} (h : j < p.length) : atI (seen p k) (j : Int) = some (.bl (decide (j ∈ p.take k))) := by
  unfold atI
  rw [if_pos (by omega), Int.toNat_natCast, List.getElem?_eq_getElem (by rw [seen_len]; exact h)]
  simp [seen]
section
variable {n m : Nat} {g : G} {X : Nat → D → G → Prop} {Q : DV → G → Prop} {p : List Nat} {d : D}
theorem s_fault (hp : IsP m p) (hd : Sq p d) (hm : m ≤ 1000) (h : Q (.f .non) g) : Sp tab fns (n + 4) 48 [d] g Q X := by
  have hlim : (1000 : Nat) ≤ lim := by decide
  have hl := hp.len
  refine sp_body (bd := b48) (m := 4) (p := 1) rfl rfl (by decide) ?_
  unfold b48
  repeat infer_instance
  refine c_call (s_isseq hd ?_)
  repeat infer_instance
  refine r_opt (len_of hd) ?_
  repeat infer_instance
  refine k_need ⟨by show 1 * _ ≤ lim; rw [Int.toNat_natCast]; omega, by omega, by omega⟩ ?_
  rw [Int.toNat_natCast, ← seen_zero]
  repeat infer_instance
  refine o_itE (seq_of hd) ?_
  unfold il
  rw [enum_nat]
  refine l_forA (fun k s => ∃ x2 x3, s = ⟨[some (.f d), some (.o (seen p k)), x2, x3], g⟩) ?_ ?_ ⟨_, _, rfl⟩
  · rintro k hk s ⟨x2, x3, rfl⟩
    rw [List.length_range] at hk
    rw [List.getElem_range]
    have hpk : p.getD k 0 < p.length := by rw [hl]; exact hp.get_lt (by omega)
    repeat infer_instance
    refine r_opt (len_of hd) ?_
    repeat infer_instance
    refine c_call (s_isix ?_)
    repeat infer_instance
    rw [neg_dec ⟨by omega, by omega⟩]
    repeat infer_instance
    refine r_opt (show ixD (.lst (seen p k)) (.int ((p.getD k 0 : Nat) : Int)) = some (.bl false) from ?_) ?_
    · show atI _ _ = _
      rw [seen_at hpk]
      congr 2
      rw [decide_eq_false_iff_not]
      intro hmem
      obtain ⟨j, hj, e⟩ := List.getElem_of_mem hmem
      rw [List.length_take] at hj
      rw [List.getElem_take] at e
      have := hp.inj (s := j) (t := k) (by omega) (by omega) (by rw [getD_eq (by omega), e])
      omega
    repeat infer_instance
    refine k_need ⟨by omega, by rw [seen_len]; omega, by omega⟩ ?_
    rw [Int.toNat_natCast, seen_succ (by omega)]
    repeat infer_instance
    exact ⟨_, _, rfl⟩
  · rintro s ⟨x2, x3, rfl⟩
    repeat infer_instance
    exact h
theorem s_checked (hp : IsP m p) (hd : Sq p d) (hm : m ≤ 1000) (h : Q (.f (tn p)) g) : Sp tab fns (n + 5) 49 [d] g Q X := by
  refine sp_body (bd := b49) (m := 2) (p := 1) rfl rfl (by decide) ?_
  unfold b49
  repeat infer_instance
  refine c_call (s_fault hp hd hm ?_)
  repeat infer_instance
  refine r_iff ?_
  repeat infer_instance
  refine r_opt (tup_of hd) ?_
  repeat infer_instance
  exact h
/-- the places that move -/
def moved (p : List Nat) : List Nat := (List.range p.length).filter fun i => !decide (p.getD i 0 = i)
theorem moved_lt {p : List Nat} {i : Nat} (h : i ∈ moved p) : i < p.length := List.mem_range.mp (List.mem_filter.mp h).1
theorem moved_ne {p : List Nat} {i : Nat} (h : i ∈ moved p) : p.getD i 0 ≠ i := by
  have := (List.mem_filter.mp h).2
  simpa using this
def dist (p : List Nat) (i : Nat) : Nat := ((p.getD i 0 : Int) - (i : Int)).natAbs
/-- the greatest common divisor of all ways -/
def stepOf (p : List Nat) : Nat := (moved p).foldl (fun s i => Nat.gcd (dist p i) s) 0
/-- first, last, step -/
def frameP (p : List Nat) : Option (Nat × Nat × Nat) := if moved p = [] then none else some ((moved p).headD 0, p.length - 1 - (moved p).getLastD 0, stepOf p)
def triD (t : Nat × Nat × Nat) : D := .tup [.int (t.1 : Int), .int (t.2.1 : Int), .int (t.2.2 : Int)]
def optD : Option (Nat × Nat × Nat) → D
  | none => .non
  | some t => triD t
def stepAt (p : List Nat) (k : Nat) : Nat := ((moved p).take k).foldl (fun s i => Nat.gcd (dist p i) s) 0
theorem fold_gcd_le {p : List Nat} {m : Nat} : ∀ (l : List Nat) (s : Nat), (∀ i ∈ l, dist p i ≤ m) → s ≤ m → l.foldl (fun s i => Nat.gcd (dist p i) s) s ≤ m
  | [], s, _, h => h
  | i :: l, s, hi, h => by
    refine fold_gcd_le l _ (fun j hj => hi j (List.mem_cons_of_mem _ hj)) ?_
    show Nat.gcd (dist p i) s ≤ m
    by_cases e : dist p i = 0
    · rw [e, Nat.gcd_zero_left]
      exact h
    · exact Nat.le_trans (Nat.gcd_le_left _ (by omega)) (hi i List.mem_cons_self)
theorem ix_tn {xs : List Nat} {s : Nat} (h : s < xs.length) : ixD (tn xs) (.int (s : Int)) = some (.int (xs.getD s 0 : Nat)) := at_il h
theorem at_head {l : List Nat} (h : l ≠ []) : atI (il l) 0 = some (.int (l.headD 0 : Nat)) := by
  cases l with
  | nil => exact absurd rfl h
  | cons x l => rfl
theorem at_last {l : List Nat} (h : l ≠ []) : atI (il l) (-1) = some (.int (l.getLastD 0 : Nat)) := by
  have hl : 0 < l.length := List.length_pos_iff.mpr h
  unfold atI
  rw [if_neg (by omega), if_pos (by rw [il_len]; omega), show ((-1 : Int) + ((il l).length : Nat)).toNat = l.length - 1 by rw [il_len]; omega]
  unfold il
  rw [List.getElem?_map, List.getElem?_eq_getElem (by omega), List.getLastD_eq_getLast?, List.getLast?_eq_getElem?, List.getElem?_eq_getElem (by omega)]
  rfl
theorem dist_le {p : List Nat} (hp : IsP m p) {i : Nat} (hi : i < m) : dist p i ≤ m := by
  have := hp.get_lt hi
  unfold dist
  omega
theorem lc_moved {Φ : Fns} {c e : E} {t : Tg} {own : List Nat} {r : List (Option DV)} {Q : List D → S → Prop} (hl : p.length ≤ lim)
    (hh : ∀ i ∈ List.range p.length, wpK r own fun r0 => Wp (asgT t (.tup [.int (i : Int), .int (p.getD i 0 : Nat)])) (fun _ s1 => Wp (tstM c (evE tab Φ c)) (fun k s2 => k = (!decide ((p.getD i 0 : Int) = (i : Int))) ∧ SameW own r0 g s2 ∧ ((!decide ((p.getD i 0 : Int) = (i : Int))) = true → Wp (evE tab Φ e) (fun v s3 => Wp (frz v) (fun y s4 => y = .int (i : Int) ∧ SameW own r0 g s4) NX s3) NX s2)) NX s1) NX ⟨r0, g⟩)
    (q : Q (il (moved p)) ⟨r, g⟩) : LcK tab Φ own t c e (((il p).zipIdx).map fun p => .tup [.int p.2, p.1]) ⟨r, g⟩ Q := by
  unfold il
  rw [enum_nat]
  refine lc_pureA (fun i => !decide ((p.getD i 0 : Int) = (i : Int))) (fun i => .int (i : Int)) (by rw [List.length_range]; exact hl) hh ?_
  have e : ((List.range p.length).filter fun i => !decide ((p.getD i 0 : Int) = (i : Int))) = moved p := by
    unfold moved
    congr 1
    funext i
    congr 1
    rw [decide_eq_decide]
    omega
  rw [e]
  exact q
theorem s_frame (hp : IsP m p) (hd : Sq p d) (hm : m ≤ 1000) (h : Q (.f (optD (frameP p))) g) : Sp tab fns (n + 6) 57 [d] g Q X := by
  have hlim : (1000 : Nat) ≤ lim := by decide
  have hl := hp.len
  refine sp_body (bd := b57) (m := 6) (p := 1) rfl rfl (by decide) ?_
  unfold b57
  repeat infer_instance
  refine c_call (s_checked hp hd hm ?_)
  repeat infer_instance
  refine lc_moved (by omega) (fun i hi => ?_) ?_
  · repeat infer_instance
    refine ⟨rfl, ⟨rfl, rfl⟩, fun _ => ?_⟩
    repeat infer_instance
    exact ⟨rfl, rfl, rfl⟩
  repeat infer_instance
  refine r_ifd (fun h1 => ?_) (fun h1 => ?_)
  · have e : moved p = [] := by
      rw [il_len] at h1
      exact List.length_eq_zero_iff.mp (by omega)
    have e2 : frameP p = none := if_pos e
    rw [e2] at h
    repeat infer_instance
    exact h
  have hne : moved p ≠ [] := fun e => h1 (by rw [e]; rfl)
  have hfr : frameP p = some ((moved p).headD 0, p.length - 1 - (moved p).getLastD 0, stepOf p) := if_neg hne
  have hlast : (moved p).getLastD 0 < p.length := by
    have h2 : (moved p).getLastD 0 ∈ moved p := by
      rw [List.getLastD_eq_getLast?, List.getLast?_eq_some_getLast hne]
      exact List.getLast_mem hne
    exact moved_lt h2
  repeat infer_instance
  refine l_forA (fun k s => ∃ x4, s = ⟨[some (.f d), some (.f (tn p)), some (.f (tl (moved p))), some (.f (.int (stepAt p k : Nat))), x4, none], g⟩) ?_ ?_ ⟨_, rfl⟩
  · rintro k hk s ⟨x4, rfl⟩
    have hlt := moved_lt (List.getElem_mem hk)
    repeat infer_instance
    refine r_opt (ix_tn hlt) ?_
    repeat infer_instance
    refine c_call (s_gcd (a := dist p (moved p)[k]) (b := stepAt p k) ?_ ?_)
    · refine Nat.le_trans (fold_gcd_le (m := m) _ _ (fun i hi => dist_le hp ?_) (Nat.zero_le _)) (by omega)
      rw [← hl]
      exact moved_lt (List.mem_of_mem_take hi)
    repeat infer_instance
    have e : stepAt p (k + 1) = Nat.gcd (dist p (moved p)[k]) (stepAt p k) := by
      unfold stepAt
      rw [List.take_succ_eq_append_getElem hk, List.foldl_append]
      rfl
    rw [e]
    exact ⟨_, rfl⟩
  · rintro s ⟨x4, rfl⟩
    have e : stepAt p (moved p).length = stepOf p := by
      unfold stepAt stepOf
      rw [List.take_length]
    rw [e]
    repeat infer_instance
    refine r_opt (show ixD (tl (moved p)) (.int 0) = _ from at_head hne) ?_
    repeat infer_instance
    refine r_opt (show ixD (tl (moved p)) (.int (-1)) = _ from at_last hne) ?_
    repeat infer_instance
    rw [hfr] at h
    rw [List.length_map, show ((p.length : Int) - 1 - ((moved p).getLastD 0 : Nat)) = ((p.length - 1 - (moved p).getLastD 0 : Nat) : Int) by omega]
    exact h
end
end LK

end
section
set_option Elab.async false
set_option linter.all false
set_option maxRecDepth 100000
set_option maxHeartbeats 4000000
/-! KM1: draws, reorderings, cuts of rows: what many laws share. Own text. -/
namespace LK
open PySem (Str)
open DI PM
local macro_rules | `(tactic| fail $s:str) => match s.getString with
  | "a1" => `(tactic| first
    | with_reducible refine w_var ?_ | with_reducible refine k_getS ?_ | with_reducible refine k_get0 ?_ | with_reducible refine k_get4 ?_ | with_reducible refine k_rdf ?_
    | with_reducible refine k_lkf ?_ | with_reducible refine k_fzf ?_ | with_reducible refine r_look_f ?_ | with_reducible refine r_frz_f ?_ | with_reducible refine r_eint ?_
    | with_reducible refine r_cmp ?_ | with_reducible refine r_bin ?_)
  | "a2" => `(tactic| first
    | with_reducible refine r_escons ?_ | with_reducible refine r_esnil ?_ | with_reducible refine r_fzcons ?_ | with_reducible refine r_fznil ?_ | with_reducible refine r_lkcons ?_
    | with_reducible refine r_lknil ?_ | with_reducible refine r_ix ?_ | with_reducible refine t_cons ?_ | with_reducible refine t_nil ?_ | with_reducible refine t_set ?_
    | with_reducible refine t_ifs ?_ | with_reducible refine t_ret ?_)
  | "a3" => `(tactic| first
    | with_reducible refine bd_rt ?_ | with_reducible refine k_nx ?_ | with_reducible refine k_rt ?_ | with_reducible refine r_bool ?_ | with_reducible refine wpS ?_
    | with_reducible refine wp0 ?_ | with_reducible refine stC ?_ | with_reducible refine stN ?_ | with_reducible refine sz0 ?_ | with_reducible refine k_setS ?_
    | with_reducible refine k_mvf ?_)
  | "a4" => `(tactic| first
    | with_reducible refine k_rdo ?_ | with_reducible refine k_lko ?_ | with_reducible refine k_owo ?_ | with_reducible refine k_fzo ?_ | with_reducible refine k_mvo ?_
    | with_reducible refine k_set0 ?_ | with_reducible refine k_set4 ?_ | with_reducible refine r_ebl ?_ | with_reducible refine r_enon ?_ | with_reducible refine r_estr ?_
    | with_reducible refine r_look_o ?_ | with_reducible refine q_look_b ?_ | with_reducible refine r_frz_o ?_ | with_reducible refine q_frz_b ?_ | with_reducible refine q_ownAt ?_
    | with_reducible refine r_move_f ?_)
  | "a5" => `(tactic| first
    | with_reducible refine r_move_o ?_ | with_reducible refine q_move_b ?_ | with_reducible refine r_setR ?_ | with_reducible refine r_keep_f ?_ | with_reducible refine r_keep_o ?_
    | with_reducible refine r_keep_b ?_ | with_reducible refine r_int ?_ | with_reducible refine r_neg ?_ | with_reducible refine r_isN ?_ | with_reducible refine r_notN ?_
    | with_reducible refine r_and ?_ | with_reducible refine r_or ?_ | with_reducible refine r_not ?_ | with_reducible refine r_ite ?_ | with_reducible refine r_chain ?_
    | with_reducible refine r_call ?_)
  | "a6" => `(tactic| first
    | with_reducible refine r_callk ?_ | with_reducible refine r_make ?_ | with_reducible refine r_blt ?_ | with_reducible refine r_isI ?_ | with_reducible refine r_lrg ?_
    | with_reducible refine r_trg ?_ | with_reducible refine r_append ?_ | with_reducible refine r_pop ?_ | with_reducible refine r_popAt ?_ | with_reducible refine r_lc ?_
    | with_reducible refine r_sl ?_ | with_reducible refine r_tup ?_ | with_reducible refine r_lst ?_ | with_reducible refine r_fld ?_ | with_reducible refine r_part0 ?_
    | ((with_reducible refine r_part ?_ ?_); (· intro z; cases z)))
  | "a7" => `(tactic| first
    | with_reducible refine r_src0 ?_ | ((with_reducible refine r_src ?_ ?_); (· intro z; cases z)) | with_reducible refine r_zero0 ?_ | ((with_reducible refine r_zero ?_ ?_); (· intro z; cases z)) | with_reducible refine r_tst0 ?_
    | ((with_reducible refine r_tst ?_ ?_); (· intro z; cases z)) | with_reducible refine r_ifnt ?_ | with_reducible refine r_ifnf ?_ | with_reducible refine r_ift ?_ | with_reducible refine r_iff ?_
    | with_reducible refine r_ret ?_ | with_reducible refine r_bnd ?_ | with_reducible refine o_add ?_ | with_reducible refine o_sub ?_ | with_reducible refine o_mul ?_
    | with_reducible refine o_fdiv ?_)
  | "a8" => `(tactic| first
    | with_reducible refine o_mod ?_ | with_reducible refine o_addT ?_ | with_reducible refine o_addL ?_ | with_reducible refine o_mulL ?_ | with_reducible refine o_lt ?_
    | with_reducible refine o_le ?_ | with_reducible refine o_gt ?_ | with_reducible refine o_ge ?_ | with_reducible refine o_eqI ?_ | with_reducible refine o_neI ?_
    | with_reducible refine o_eqB ?_ | with_reducible refine o_neB ?_ | with_reducible refine o_lenL ?_ | with_reducible refine o_lenT ?_ | with_reducible refine o_int ?_
    | with_reducible refine o_abs ?_)
  | "a9" => `(tactic| first
    | with_reducible refine o_listL ?_ | with_reducible refine o_listT ?_ | with_reducible refine o_tupL ?_ | with_reducible refine o_tupT ?_ | with_reducible refine o_min ?_
    | with_reducible refine o_max ?_ | with_reducible refine o_rng ?_ | with_reducible refine o_itR ?_ | with_reducible refine t_retN ?_ | with_reducible refine t_expr ?_
    | with_reducible refine t_par ?_ | with_reducible refine t_unp ?_ | with_reducible refine t_setIx ?_ | with_reducible refine t_for ?_ | with_reducible refine t_while ?_
    | with_reducible refine t_raise ?_)
  | "a10" => `(tactic| first
    | with_reducible refine t_pass ?_ | with_reducible refine t_brk ?_ | with_reducible refine t_cont ?_ | with_reducible refine t_fset ?_ | with_reducible refine u_fset ?_
    | with_reducible refine u_raise ?_ | with_reducible refine u_setnil ?_ | with_reducible refine u_setb ?_ | with_reducible refine u_setf ?_ | with_reducible refine u_seto ?_
    | with_reducible refine u_xnil ?_ | with_reducible refine u_xcons ?_ | with_reducible refine u_xnm ?_ | with_reducible refine u_xix ?_ | with_reducible refine u_setAt ?_
    | with_reducible refine u_tnm ?_)
  | "a11" => `(tactic| first
    | with_reducible refine u_ttp ?_ | with_reducible refine u_ttpL ?_ | with_reducible refine u_tnil ?_ | with_reducible refine u_tcons ?_ | with_reducible refine k_bk ?_
    | with_reducible refine k_ct ?_ | with_reducible refine lo_nx ?_ | with_reducible refine lo_ct ?_ | with_reducible refine lo_bk ?_ | with_reducible refine lo_rt ?_
    | with_reducible refine bd_nx ?_ | with_reducible refine bd_x ?_ | ((with_reducible refine k_tlen ?_ ?_); (· first | (show 0 ≤ lim; decide) | (show 1 ≤ lim; decide) | (show 2 ≤ lim; decide) | (show 3 ≤ lim; decide) | (show 4 ≤ lim; decide) | (show 5 ≤ lim; decide) | (show 6 ≤ lim; decide) | (show 8 ≤ lim; decide) | (show 10 ≤ lim; decide))) | ((with_reducible refine o_itVx ?_); refine ⟨_, rfl, ?_⟩) | ((with_reducible refine o_itEx ?_); refine ⟨_, rfl, ?_⟩)
    | ((with_reducible refine r_optx ?_); refine ⟨_, rfl, ?_⟩))
  | "a12" => `(tactic| first
    | with_reducible refine k_rdp ?_ | with_reducible refine r_look_p ?_ | with_reducible refine r_frz_p ?_ | with_reducible refine r_move_p ?_ | with_reducible refine r_keep_p ?_ | with_reducible refine u_setp ?_
    | with_reducible refine r_tpl ?_ | with_reducible refine k_tpl ?_ | with_reducible refine r_tidx ?_ | with_reducible refine k_pl ?_ | with_reducible refine r_lamc ?_ | with_reducible refine r_xat ?_ | with_reducible refine k_ex ?_ | with_reducible refine r_isX ?_ | with_reducible refine o_mulL ?_)
  | _ => Lean.Macro.throwUnsupported
local macro_rules | `(tactic| infer_instance) => `(tactic| first | fail "a1" | fail "a2" | fail "a3" | fail "a4" | fail "a5" | fail "a6" | fail "a7" | fail "a8" | fail "a9" | fail "a10" | fail "a11" | fail "a12")
theorem map_empty {α β : Type} (f : α → β) (l : List α) : (l.map f).isEmpty = l.isEmpty := by cases l <;> rfl
theorem rng_ok {m : Nat} (hm : m ≤ 1000) : bnd62 0 = true ∧ bnd62 (m : Int) = true ∧ ((m : Int) - 0).toNat ≤ lim := by
  have hlim : (1000 : Nat) ≤ lim := by decide
  refine ⟨by decide, ?_, by omega⟩
  simp only [bnd62, Bool.and_eq_true, decide_eq_true_eq]
  omega
theorem rng_ok2 {m : Nat} (hm : m ≤ 1000) : bnd62 0 = true ∧ bnd62 (m : Int) = true := ⟨(rng_ok hm).1, (rng_ok hm).2.1⟩
theorem isP_of {m : Nat} {p : List Nat} (hl : p.length = m) (h1 : ∀ x, x < m → p.getD x 0 < m) (h2 : ∀ x y, x < m → y < m → p.getD x 0 = p.getD y 0 → x = y) : IsP m p := by
  refine ⟨hl, fun s hs => ?_, ?_⟩
  · obtain ⟨i, hi, rfl⟩ := List.getElem_of_mem hs
    have := h1 i (by omega)
    rw [getD_eq hi] at this
    exact this
  · rw [List.nodup_iff_pairwise_ne, List.pairwise_iff_getElem]
    intro i j hi hj hij e
    have := h2 i j (by omega) (by omega) (by rw [getD_eq hi, getD_eq hj, e])
    omega
theorem getD_set {p : List Nat} {i v x : Nat} (hi : i < p.length) : (p.set i v).getD x 0 = if x = i then v else p.getD x 0 := by
  rw [List.getD_eq_getElem?_getD, List.getElem?_set]
  by_cases h : i = x
  · subst h
    simp [hi]
  · have h' : ¬ x = i := fun e => h e.symm
    simp [h, h', List.getD_eq_getElem?_getD]
theorem il_set (p : List Nat) (i v : Nat) : (il p).set i (.int (v : Int)) = il (p.set i v) := by
  unfold il
  rw [List.map_set]
theorem cut_to {xs : List D} {b : Nat} (hb : b ≤ xs.length) : cutD xs none (some (b : Int)) = xs.take b := by
  unfold cutD cutIx
  simp only [List.drop_zero, if_neg (show ¬ (b : Int) < 0 by omega), Int.toNat_natCast, Nat.min_eq_left hb, Nat.sub_zero]
theorem cut_from {xs : List D} {a : Nat} (ha : a ≤ xs.length) : cutD xs (some (a : Int)) none = xs.drop a := by
  unfold cutD cutIx
  simp only [if_neg (show ¬ (a : Int) < 0 by omega), Int.toNat_natCast, Nat.min_eq_left ha]
  exact List.take_of_length_le (by rw [List.length_drop]; omega)
theorem cut_ab {xs : List D} {a b : Nat} (hab : a ≤ b) (hb : b ≤ xs.length) : cutD xs (some (a : Int)) (some (b : Int)) = (xs.drop a).take (b - a) := by
  unfold cutD cutIx
  simp only [if_neg (show ¬ (a : Int) < 0 by omega), if_neg (show ¬ (b : Int) < 0 by omega), Int.toNat_natCast, Nat.min_eq_left (Nat.le_trans hab hb), Nat.min_eq_left hb]
theorem isP_perm {m : Nat} {p p' : List Nat} (h : IsP m p) (hp : p'.Perm p) : IsP m p' := ⟨by rw [hp.length_eq, h.len], fun s hs => h.lt s (hp.subset hs), hp.nodup_iff.mpr h.nd⟩
theorem il_take (p : List Nat) (k : Nat) : (il p).take k = il (p.take k) := by unfold il; rw [List.map_take]
theorem il_drop (p : List Nat) (k : Nat) : (il p).drop k = il (p.drop k) := by unfold il; rw [List.map_drop]
theorem swap_isP {m : Nat} {p : List Nat} {i j : Nat} (hp : IsP m p) (hi : i < m) (hj : j < m) : IsP m ((p.set i (p.getD j 0)).set j (p.getD i 0)) := by
  have hl := hp.len
  have g : ∀ x, ((p.set i (p.getD j 0)).set j (p.getD i 0)).getD x 0 = if x = j then p.getD i 0 else if x = i then p.getD j 0 else p.getD x 0 := fun x => by
    rw [getD_set (by rw [List.length_set]; omega), getD_set (by omega)]
  refine isP_of (by rw [List.length_set, List.length_set, hl]) (fun x hx => ?_) (fun x y hx hy e => ?_)
  · rw [g]
    split
    · exact hp.get_lt hi
    · split
      · exact hp.get_lt hj
      · exact hp.get_lt hx
  · rw [g, g] at e
    by_cases h1 : x = j <;> by_cases h2 : y = j
    · omega
    · rw [if_pos h1, if_neg h2] at e
      by_cases h3 : y = i
      · rw [if_pos h3] at e
        have := hp.inj hi hj e
        omega
      · rw [if_neg h3] at e
        have := hp.inj hi hy e
        omega
    · rw [if_neg h1, if_pos h2] at e
      by_cases h3 : x = i
      · rw [if_pos h3] at e
        have := hp.inj hj hi e
        omega
      · rw [if_neg h3] at e
        have := hp.inj hx hi e
        omega
    · rw [if_neg h1, if_neg h2] at e
      by_cases h3 : x = i <;> by_cases h4 : y = i
      · omega
      · rw [if_pos h3, if_neg h4] at e
        have := hp.inj hj hy e
        omega
      · rw [if_neg h3, if_pos h4] at e
        have := hp.inj hx hj e
        omega
      · rw [if_neg h3, if_neg h4] at e
        exact hp.inj hx hy e
abbrev GG := List Int × Int
theorem rngD_m2 {m : Nat} (h : m ≤ 1000) : rngD 0 (m : Int) = some ((List.range m).map fun (i : Nat) => D.int (i : Int)) := by
  have e : (bnd62 0 && bnd62 (m : Int) && decide (((m : Int) - 0).toNat ≤ lim)) = true := by
    have hl : lim = 16777216 := rfl
    simp only [bnd62, Bool.and_eq_true, decide_eq_true_eq, hl]
    omega
  unfold rngD
  rw [if_pos e, rngI_eq]
section
variable {n m : Nat} {ns : List Int} {X : Nat → D → G → Prop} {Q : DV → G → Prop} {d : D} {gg : GG}
theorem log_lt {k : Int} (hk : 0 < k) (h : k < 2 ^ 100) : k.natAbs.log2 < 9000 := by
  have h1 : k.natAbs < 2 ^ 100 := by omega
  have h2 := (Nat.log2_lt (by omega)).mpr h1
  omega
theorem s_any {k : Int} (hk : 0 < k) (hk2 : k < 2 ^ 100) (h : ∀ (j : Nat) (gg' : GG), (j : Int) < k → Q (.f (.int (j : Int))) (some gg')) : Sp tab fns (n + 1) 6 [.deal, .int k] (some gg) Q X := by
  refine sp_ret (ret_any rfl hk (log_lt hk hk2)) ?_
  obtain ⟨h1, h2⟩ := anyD_lt hk gg
  have := h (anyD k gg).1.toNat (anyD k gg).2 (by omega)
  rw [Int.toNat_of_nonneg h1] at this
  exact this
/-- one of some things -/
theorem s_of {xs : List D} {d : D} (hd : seqOf d = some xs) (h1 : xs ≠ []) (h2 : xs.length ≤ 1000) (h : ∀ x gg', x ∈ xs → Q (.f x) (some gg')) : Sp tab fns (n + 2) 11 [.deal, d] (some gg) Q X := by
  have hl : 0 < xs.length := List.length_pos_iff.mpr h1
  refine sp_body (bd := b11) (m := 2) (p := 2) rfl rfl (by decide) ?_
  unfold b11
  repeat infer_instance
  refine r_opt (show bltD .len [d] = some (.f (.int (xs.length : Nat))) from ?_) ?_
  · cases d <;> first | (cases hd; done) | (cases hd; rfl)
  repeat infer_instance
  refine c_call (s_any (by omega) (by omega) fun j gg' hj => ?_)
  repeat infer_instance
  have hj2 : j < xs.length := by omega
  refine r_opt (show ixD d (.int (j : Int)) = some xs[j] from ?_) ?_
  · have e : ixD d (.int (j : Int)) = atI xs (j : Int) := by
      cases d <;> first | (cases hd; done) | (cases hd; rfl)
    rw [e]
    unfold atI
    rw [if_pos (by omega), Int.toNat_natCast, List.getElem?_eq_getElem hj2]
  repeat infer_instance
  exact h _ _ (List.getElem_mem _)
theorem map_erase {α β : Type} (f : α → β) : ∀ (l : List α) (i : Nat), (l.map f).eraseIdx i = (l.eraseIdx i).map f
  | [], _ => rfl
  | x :: l, 0 => rfl
  | x :: l, i + 1 => by
    show f x :: (l.map f).eraseIdx i = _
    rw [map_erase f l i]
    rfl
theorem erase_perm {α : Type} : ∀ (l : List α) (i : Nat) (h : i < l.length), (l[i] :: l.eraseIdx i).Perm l
  | x :: l, 0, _ => List.Perm.refl _
  | x :: l, i + 1, h => by
    have h' : i < l.length := by simpa using h
    have ih := erase_perm l i h'
    show (l[i] :: x :: l.eraseIdx i).Perm (x :: l)
    exact (List.Perm.swap x l[i] _).trans (ih.cons x)
/-- the things in another order -/
theorem s_mixed {α : Type} {l : List α} {f : α → D} {k : Nat} (hd : seqOf d = some (l.map f)) (hk : ∀ x ∈ l, Lay k (f x)) (hk2 : k ≤ 50) (hl : l.length ≤ 1000) (h : ∀ (l' : List α) (gg' : GG), l'.Perm l → Q (.o (l'.map f)) (some gg')) : Sp tab fns (n + 2) 12 [.deal, d] (some gg) Q X := by
  have hlim : (1000 : Nat) < lim := by decide
  refine sp_body (bd := b12) (m := 4) (p := 2) rfl rfl (by decide) ?_
  unfold b12
  repeat infer_instance
  refine r_opt (show bltD .list [d] = some (.o (l.map f)) from ?_) ?_
  · cases d <;> first | (cases hd; done) | (cases hd; rfl)
  repeat infer_instance
  refine l_while (fun m s => ∃ left found gg', m = left.length ∧ (found ++ left).Perm l ∧ s = ⟨[some (.f .deal), some (.f d), some (.o (left.map f)), some (.o (found.map f))], some gg'⟩) ?_ FU l.length _ (FU_gt (by omega)) ⟨l, [], gg, rfl, List.Perm.refl _, rfl⟩
  rintro m s ⟨left, found, gg', rfl, hp, rfl⟩
  have hlen := hp.length_eq
  rw [List.length_append] at hlen
  have hin : ∀ x ∈ left, x ∈ l := fun x hx => hp.subset (List.mem_append_right _ hx)
  repeat infer_instance
  refine o_ne (eqD_nilG (k := k + 1) (lay_lst fun x hx => ?_) (by omega)) ?_
  · obtain ⟨y, hy, rfl⟩ := List.mem_map.mp hx
    exact hk y (hin y hy)
  rw [map_empty]
  repeat infer_instance
  refine ⟨fun hc => ?_, fun hc => ?_⟩
  · have hne : left ≠ [] := fun e => by rw [e] at hc; cases hc
    have hpos : 0 < left.length := List.length_pos_iff.mpr hne
    repeat infer_instance
    rw [List.length_map]
    refine c_call (s_any (by omega) (by omega) fun j gg2 hj => ?_)
    have hj2 : j < left.length := by omega
    repeat infer_instance
    refine ⟨⟨by omega, by rw [List.length_map]; omega, by omega⟩, ?_⟩
    rw [Int.toNat_natCast]
    refine r_opt (show (left.map f)[j]? = some (f left[j]) from ?_) ?_
    · rw [List.getElem?_map, List.getElem?_eq_getElem hj2]
      rfl
    rw [map_erase]
    repeat infer_instance
    refine ⟨by rw [List.length_map]; omega, ?_⟩
    repeat infer_instance
    refine ⟨(left.eraseIdx j).length, ?_, left.eraseIdx j, found ++ [left[j]], gg2, rfl, ?_, ?_⟩
    · rw [List.length_eraseIdx_of_lt hj2]
      omega
    · rw [List.append_assoc]
      exact (List.Perm.append_left found (erase_perm left j hj2)).trans hp
    · rw [List.map_append]
      rfl
  · have hne : left = [] := by
      cases left with
      | nil => rfl
      | cons x r => cases hc
    subst hne
    rw [List.append_nil] at hp
    repeat infer_instance
    exact h _ _ hp
theorem s_draw {salt : Int} (h0 : 0 ≤ salt) (h1 : salt < 1000000) (h : Q (.f .deal) (some (drawD salt ns))) : Sp tab fns (n + 1) 8 [.scr ns, .int salt] none Q X := by
  refine sp_ret (v := .f .deal) (g' := some (drawD salt ns)) ⟨[], ?_⟩ h
  show (if 0 ≤ salt ∧ salt < 1000000 then _ else _) = _
  rw [if_pos ⟨h0, h1⟩]
end
theorem r_isB {T : Tab} {Φ : Fns} {Q : DV → S → Prop} {X : Nat → D → S → Prop} {s : S} {a : E} {k : Bool} (h : Wp (evE T Φ a) (fun x s1 => Wp (look x) (fun d s2 => Wp (bool? (.f d)) (fun l s3 => Q (.f (.bl (l == k))) s3) X s2) X s1) X s) : Wp (evE T Φ (.isB a k)) Q X s := by
  show Wp (bnd _ _) _ _ _
  simp only [wp_bnd]
  exact h
end LK

end
section
set_option Elab.async false
set_option linter.all false
set_option maxRecDepth 100000
set_option maxHeartbeats 4000000
/-! KM2: the inverse of a reordering; counts over ranges; numbers sorted and shown. Own text. -/
namespace LK
open PySem (Str PyData)
open DI PM
/-- where an entry stands -/
def wh (p : List Nat) (j : Nat) : Nat := p.idxOf j
def inv (p : List Nat) : List Nat := (List.range p.length).map (wh p)
section
variable {m : Nat} {p : List Nat}
theorem wh_lt (hp : IsP m p) {j : Nat} (hj : j < m) : wh p j < m := by
  have := List.idxOf_lt_length_iff.mpr (hp.all hj)
  rw [hp.len] at this
  exact this
theorem wh_at (hp : IsP m p) {j : Nat} (hj : j < m) : p.getD (wh p j) 0 = j := by
  have h := List.idxOf_lt_length_iff.mpr (hp.all hj)
  unfold wh
  rw [getD_eq h, List.getElem_idxOf]
theorem wh_of (hp : IsP m p) {i : Nat} (hi : i < m) : wh p (p.getD i 0) = i := hp.inj (wh_lt hp (hp.get_lt hi)) hi (wh_at hp (hp.get_lt hi))
theorem inv_len : (inv p).length = p.length := by simp [inv]
theorem inv_get (hp : IsP m p) {j : Nat} (hj : j < m) : (inv p).getD j 0 = wh p j := by
  have hl := hp.len
  rw [getD_eq (by rw [inv_len]; omega)]
  simp [inv]
theorem inv_isP (hp : IsP m p) : IsP m (inv p) := by
  refine isP_of (by rw [inv_len, hp.len]) (fun x hx => ?_) fun x y hx hy e => ?_
  · rw [inv_get hp hx]
    exact wh_lt hp hx
  · rw [inv_get hp hx, inv_get hp hy] at e
    rw [← wh_at hp hx, e, wh_at hp hy]
theorem wh_inv (hp : IsP m p) {i : Nat} (hi : i < m) : wh (inv p) i = p.getD i 0 := by
  have h := inv_isP hp
  refine h.inj (wh_lt h hi) (hp.get_lt hi) ?_
  rw [wh_at h hi, inv_get hp (hp.get_lt hi), wh_of hp hi]
theorem idxF_il : ∀ (p : List Nat) (j k : Nat), j ∈ p → idxF (.int (j : Int)) (il p) k = some (k + p.idxOf j)
  | [], j, k, h => absurd h List.not_mem_nil
  | x :: p, j, k, h => by
    show (if ((x : Int) == (j : Int)) then some k else idxF _ (il p) (k + 1)) = _
    by_cases e : x = j
    · subst e
      rw [if_pos (beq_self_eq_true _), List.idxOf_cons_self]
      rfl
    · have e2 : ((x : Int) == (j : Int)) = false := by
        rw [beq_eq_false_iff_ne]
        omega
      have hm : j ∈ p := (List.mem_cons.mp h).resolve_left fun z => e z.symm
      have e3 : (x == j) = false := beq_eq_false_iff_ne.mpr e
      rw [e2, if_neg Bool.false_ne_true, idxF_il p j (k + 1) hm, List.idxOf_cons, e3, cond_false]
      congr 1
      omega
theorem flat_il (p : List Nat) : (il p).all flatD = true := by
  rw [List.all_eq_true]
  intro x hx
  obtain ⟨i, _, rfl⟩ := List.mem_map.mp hx
  rfl
theorem mb_il {j : Nat} (h : j ∈ p) : mbD .tidx (il p) (.int (j : Int)) = some (.int (wh p j : Nat)) := by
  unfold mbD
  rw [flat_il]
  show Option.map _ (idxF _ _ 0) = _
  rw [idxF_il p j 0 h, Nat.zero_add]
  rfl
end
/-! ### counts -/
theorem cnt_none {n : Nat} {f : Nat → Bool} (h : ∀ i, i < n → f i = false) : (List.range n).countP f = 0 := by
  rw [List.countP_eq_zero]
  intro i hi
  rw [h i (List.mem_range.mp hi)]
  exact Bool.false_ne_true
theorem cnt_one {f : Nat → Bool} {j : Nat} : ∀ {n : Nat}, j < n → (∀ i, i < n → f i = true → i = j) → (List.range n).countP f = if f j then 1 else 0
  | n + 1, hj, h => by
    rw [List.range_succ, List.countP_append, List.countP_singleton]
    rcases Nat.lt_or_ge j n with h1 | h1
    · have : f n = false := by
        cases e : f n with
        | false => rfl
        | true => have := h n (by omega) e; omega
      rw [cnt_one h1 fun i hi => h i (by omega), this]
      rfl
    · have e : j = n := by omega
      subst e
      rw [cnt_none fun i hi => ?_, Nat.zero_add]
      cases e : f i with
      | false => rfl
      | true => have := h i (by omega) e; omega
theorem cnt_add {a b c d : Nat → Bool} : ∀ l : List Nat, (∀ i ∈ l, (if a i then 1 else 0) + (if b i then 1 else 0) = (if c i then 1 else 0) + (if d i then (1 : Nat) else 0)) → l.countP a + l.countP b = l.countP c + l.countP d
  | [], _ => rfl
  | x :: l, h => by
    have h1 := h x List.mem_cons_self
    have h2 := cnt_add l fun i hi => h i (List.mem_cons_of_mem _ hi)
    rw [List.countP_cons, List.countP_cons, List.countP_cons, List.countP_cons]
    omega
/-! ### numbers sorted -/
theorem ints_il : ∀ xs : List Nat, intsD (il xs) = some (xs.map fun (n : Nat) => (n : Int))
  | [] => rfl
  | x :: xs => by
    show (intsD (il xs)).map _ = _
    rw [ints_il xs]
    rfl
theorem sort_il {a b : List Nat} (h : a.length < 64) (hb : b.Pairwise (· < ·)) (hp : a.Perm b) : bltD .sorted [.lst (il a)] = some (.o (il b)) := by
  show (intsD (il a)).bind _ = _
  rw [ints_il]
  show (if _ then _ else _) = _
  rw [if_pos (by rw [List.length_map]; exact h)]
  have e : sortI (a.map fun (n : Nat) => (n : Int)) = b.map fun (n : Nat) => (n : Int) := by
    refine sorted_uniq ((sortI_perm _).trans (hp.map _)) (sortI_sorted _) ?_
    rw [List.pairwise_map]
    exact hb.imp fun {x y} h => by omega
  rw [e, List.map_map]
  rfl
/-! ### numbers shown -/
theorem lay_il {k : Nat} (xs : List Nat) : Lay (k + 2) (.tup (il xs)) := lay_tup fun x hx => by
  obtain ⟨i, _, rfl⟩ := List.mem_map.mp hx
  exact lay_int _
theorem ok_app {x y : Str} (hx : PyData.strOk x = true) (hy : PyData.strOk y = true) : PyData.strOk (x ++ y) = true := by
  show (x.cps ++ y.cps).all (fun c => decide (c < 0x110000)) = true
  rw [Array.all_append, Bool.and_eq_true]
  exact ⟨hx, hy⟩
theorem ok_of (s : String) : PyData.strOk (PySem.Str.ofString s) = true := by
  unfold PyData.strOk
  rw [PySem.Str.ofString_eq_toList, Array.all_eq_true']
  intro c hc
  rw [List.mem_toArray] at hc
  obtain ⟨ch, _, rfl⟩ := List.mem_map.mp hc
  have h := ch.valid
  have e : ch.toNat = ch.val.toNat := rfl
  rw [decide_eq_true_eq, e]
  rcases h with h | h
  · omega
  · omega
theorem ok_join : ∀ ts : List Str, (∀ t ∈ ts, PyData.strOk t = true) → PyData.strOk (PySem.Str.join ", " ts) = true
  | [], _ => ok_of ""
  | [x], h => h x List.mem_cons_self
  | x :: y :: r, h => by
    show PyData.strOk (x ++ (", " : String) ++ PySem.Str.join ", " (y :: r)) = true
    exact ok_app (ok_app (h x List.mem_cons_self) (ok_of _)) (ok_join (y :: r) fun t ht => h t (List.mem_cons_of_mem _ ht))
/-- data that can be shown -/
structure Sh (W : Nat) (d : D) : Prop where
  a : PyData.showable d.py = true
  b : PyData.leavesShort 13 d.py = true
  c : PyData.weight d.py ≤ W
  d : PyData.strOk (PyData.shown d.py) = true
theorem sh_int {n : Nat} (h : n < 10 ^ 9) : Sh 40 (.int (n : Int)) := by
  have hl : n.log2 < 40 := by
    by_cases h0 : n = 0
    · subst h0; decide
    · exact (Nat.log2_lt h0).mpr (by omega)
  refine ⟨?_, ?_, ?_, ok_of _⟩
  · show decide ((n : Int).natAbs.log2 < 1920) = true
    rw [decide_eq_true_eq, Int.natAbs_natCast]
    omega
  · show decide _ = true
    rw [decide_eq_true_eq]
    exact PyData.shown_int_le (by rw [Int.natAbs_natCast]; omega)
  · show (if (n : Int) == 0 then 0 else (n : Int).natAbs.log2 + 1) ≤ 40
    split
    · omega
    · rw [Int.natAbs_natCast]
      omega
theorem sh_all {W : Nat} : ∀ xs : List D, (∀ x ∈ xs, Sh W x) → PyData.showableAll (pyAll xs) = true ∧ PyData.leavesShortAll 13 (pyAll xs) = true ∧ PyData.weightAll (pyAll xs) ≤ xs.length * (W + 1) ∧ ∀ t ∈ PyData.shownAll (pyAll xs), PyData.strOk t = true
  | [], _ => ⟨rfl, rfl, Nat.zero_le _, fun _ h => absurd h List.not_mem_nil⟩
  | x :: xs, h => by
    have h1 := h x List.mem_cons_self
    obtain ⟨a, b, c, d⟩ := sh_all xs fun y hy => h y (List.mem_cons_of_mem _ hy)
    refine ⟨?_, ?_, ?_, ?_⟩
    · show (PyData.showable x.py && PyData.showableAll (pyAll xs)) = true
      rw [h1.a, a]
      rfl
    · show (PyData.leavesShort 13 x.py && PyData.leavesShortAll 13 (pyAll xs)) = true
      rw [h1.b, b]
      rfl
    · show PyData.weight x.py + 1 + PyData.weightAll (pyAll xs) ≤ _
      have := h1.c
      rw [List.length_cons, Nat.add_mul]
      omega
    · intro t ht
      rcases List.mem_cons.mp ht with rfl | ht
      · exact h1.d
      · exact d t ht
theorem sh_tup {W W2 : Nat} {xs : List D} (h : ∀ x ∈ xs, Sh W x) (hW : xs.length * (W + 1) ≤ W2) : Sh W2 (.tup xs) := by
  obtain ⟨a, b, c, d⟩ := sh_all xs h
  refine ⟨a, b, Nat.le_trans c hW, ?_⟩
  show PyData.strOk (("(" : Str) ++ PySem.Str.join ", " (PyData.shownAll (pyAll xs)) ++ (if (PyData.shownAll (pyAll xs)).length == 1 then ",)" else ")" : String)) = true
  exact ok_app (ok_app (ok_of _) (ok_join _ d)) (ok_of _)
theorem sh_il {xs : List Nat} (h : ∀ x ∈ xs, x < 10 ^ 9) (hl : xs.length ≤ 5000) : Sh 300000 (.tup (il xs)) := by
  refine sh_tup (W := 40) (fun x hx => ?_) (by rw [il_len]; omega)
  obtain ⟨i, hi, rfl⟩ := List.mem_map.mp hx
  exact sh_int (h i hi)
theorem repr_of {d : D} {k W : Nat} (hl : Lay k d) (hs : Sh W d) (hk : k ≤ 60 := by decide) (hW : W ≤ 500000 := by decide) : bltD .repr [d] = some (.f (.str (PyData.shown d.py))) := by
  show (if _ then _ else _) = _
  have h := PyData.shown_le 13 (by decide) d.py hs.b
  have hc := hs.c
  have hlim : lim = 16777216 := rfl
  rw [lay_shp hl hk, hs.a, decide_eq_true (by rw [hlim]; omega)]
  rfl
theorem eqD_strOk {x : Str} (h : PyData.strOk x = true) : eqD (.str x) (.str x) = some true := by
  have e : shp (.str x) = true := by
    show (PyData.canLay0 (.str x) && decide (PyData.depth (.str x) ≤ 64)) = true
    rw [show PyData.canLay0 (.str x) = true from h, Bool.true_and, decide_eq_true_eq]
    simp [PyData.depth]
  unfold eqD
  rw [e]
  show some (PyData.eqv (.str x) (.str x)) = _
  rw [PyData.eqv, beq_self_eq_true]
section
variable {X : Nat → D → S → Prop} {s : S} {d : D}
theorem o_repr {P : DV → S → Prop} {k W : Nat} (hl : Lay k d) (hs : Sh W d) (h : P (.f (.str (PyData.shown d.py))) s) (hk : k ≤ 60 := by decide) (hW : W ≤ 500000 := by decide) : Wp (opt (bltD .repr [d])) P X s := r_opt (repr_of hl hs hk hW) h
theorem o_neS {P : Bool → S → Prop} {W : Nat} (hs : Sh W d) (h : P false s) : Wp (opt (cmpD .ne (.str (PyData.shown d.py)) (.str (PyData.shown d.py)))) P X s := o_ne (k := true) (eqD_strOk hs.d) h
end
end LK

end
section
set_option Elab.async false
set_option linter.all false
set_option maxRecDepth 100000
set_option maxHeartbeats 4000000
/-! KM3: cuts, open entries, the width; plain. Own text. -/
namespace LK
open PySem (Str)
open DI PM
local macro_rules | `(tactic| fail $s:str) => match s.getString with
  | "a1" => `(tactic| first
    | with_reducible refine w_var ?_ | with_reducible refine k_getS ?_ | with_reducible refine k_get0 ?_ | with_reducible refine k_get4 ?_ | with_reducible refine k_rdf ?_
    | with_reducible refine k_lkf ?_ | with_reducible refine k_fzf ?_ | with_reducible refine r_look_f ?_ | with_reducible refine r_frz_f ?_ | with_reducible refine r_eint ?_
    | with_reducible refine r_cmp ?_ | with_reducible refine r_bin ?_)
  | "a2" => `(tactic| first
    | with_reducible refine r_escons ?_ | with_reducible refine r_esnil ?_ | with_reducible refine r_fzcons ?_ | with_reducible refine r_fznil ?_ | with_reducible refine r_lkcons ?_
    | with_reducible refine r_lknil ?_ | with_reducible refine r_ix ?_ | with_reducible refine t_cons ?_ | with_reducible refine t_nil ?_ | with_reducible refine t_set ?_
    | with_reducible refine t_ifs ?_ | with_reducible refine t_ret ?_)
  | "a3" => `(tactic| first
    | with_reducible refine bd_rt ?_ | with_reducible refine k_nx ?_ | with_reducible refine k_rt ?_ | with_reducible refine r_bool ?_ | with_reducible refine wpS ?_
    | with_reducible refine wp0 ?_ | with_reducible refine stC ?_ | with_reducible refine stN ?_ | with_reducible refine sz0 ?_ | with_reducible refine k_setS ?_
    | with_reducible refine k_mvf ?_)
  | "a4" => `(tactic| first
    | with_reducible refine k_rdo ?_ | with_reducible refine k_lko ?_ | with_reducible refine k_owo ?_ | with_reducible refine k_fzo ?_ | with_reducible refine k_mvo ?_
    | with_reducible refine k_set0 ?_ | with_reducible refine k_set4 ?_ | with_reducible refine r_ebl ?_ | with_reducible refine r_enon ?_ | with_reducible refine r_estr ?_
    | with_reducible refine r_look_o ?_ | with_reducible refine q_look_b ?_ | with_reducible refine r_frz_o ?_ | with_reducible refine q_frz_b ?_ | with_reducible refine q_ownAt ?_
    | with_reducible refine r_move_f ?_)
  | "a5" => `(tactic| first
    | with_reducible refine r_move_o ?_ | with_reducible refine q_move_b ?_ | with_reducible refine r_setR ?_ | with_reducible refine r_keep_f ?_ | with_reducible refine r_keep_o ?_
    | with_reducible refine r_keep_b ?_ | with_reducible refine r_int ?_ | with_reducible refine r_neg ?_ | with_reducible refine r_isN ?_ | with_reducible refine r_notN ?_
    | with_reducible refine r_and ?_ | with_reducible refine r_or ?_ | with_reducible refine r_not ?_ | with_reducible refine r_ite ?_ | with_reducible refine r_chain ?_
    | with_reducible refine r_call ?_)
  | "a6" => `(tactic| first
    | with_reducible refine r_callk ?_ | with_reducible refine r_make ?_ | with_reducible refine r_blt ?_ | with_reducible refine r_isI ?_ | with_reducible refine r_lrg ?_
    | with_reducible refine r_trg ?_ | with_reducible refine r_append ?_ | with_reducible refine r_pop ?_ | with_reducible refine r_popAt ?_ | with_reducible refine r_lc ?_
    | with_reducible refine r_sl ?_ | with_reducible refine r_tup ?_ | with_reducible refine r_lst ?_ | with_reducible refine r_fld ?_ | with_reducible refine r_part0 ?_
    | ((with_reducible refine r_part ?_ ?_); (· intro z; cases z)))
  | "a7" => `(tactic| first
    | with_reducible refine r_src0 ?_ | ((with_reducible refine r_src ?_ ?_); (· intro z; cases z)) | with_reducible refine r_zero0 ?_ | ((with_reducible refine r_zero ?_ ?_); (· intro z; cases z)) | with_reducible refine r_tst0 ?_
    | ((with_reducible refine r_tst ?_ ?_); (· intro z; cases z)) | with_reducible refine r_ifnt ?_ | with_reducible refine r_ifnf ?_ | with_reducible refine r_ift ?_ | with_reducible refine r_iff ?_
    | with_reducible refine r_ret ?_ | with_reducible refine r_bnd ?_ | with_reducible refine o_add ?_ | with_reducible refine o_sub ?_ | with_reducible refine o_mul ?_
    | with_reducible refine o_fdiv ?_)
  | "a8" => `(tactic| first
    | with_reducible refine o_mod ?_ | with_reducible refine o_addT ?_ | with_reducible refine o_addL ?_ | with_reducible refine o_mulL ?_ | with_reducible refine o_lt ?_
    | with_reducible refine o_le ?_ | with_reducible refine o_gt ?_ | with_reducible refine o_ge ?_ | with_reducible refine o_eqI ?_ | with_reducible refine o_neI ?_
    | with_reducible refine o_eqB ?_ | with_reducible refine o_neB ?_ | with_reducible refine o_lenL ?_ | with_reducible refine o_lenT ?_ | with_reducible refine o_int ?_
    | with_reducible refine o_abs ?_)
  | "a9" => `(tactic| first
    | with_reducible refine o_listL ?_ | with_reducible refine o_listT ?_ | with_reducible refine o_tupL ?_ | with_reducible refine o_tupT ?_ | with_reducible refine o_min ?_
    | with_reducible refine o_max ?_ | with_reducible refine o_rng ?_ | with_reducible refine o_itR ?_ | with_reducible refine t_retN ?_ | with_reducible refine t_expr ?_
    | with_reducible refine t_par ?_ | with_reducible refine t_unp ?_ | with_reducible refine t_setIx ?_ | with_reducible refine t_for ?_ | with_reducible refine t_while ?_
    | with_reducible refine t_raise ?_)
  | "a10" => `(tactic| first
    | with_reducible refine t_pass ?_ | with_reducible refine t_brk ?_ | with_reducible refine t_cont ?_ | with_reducible refine t_fset ?_ | with_reducible refine u_fset ?_
    | with_reducible refine u_raise ?_ | with_reducible refine u_setnil ?_ | with_reducible refine u_setb ?_ | with_reducible refine u_setf ?_ | with_reducible refine u_seto ?_
    | with_reducible refine u_xnil ?_ | with_reducible refine u_xcons ?_ | with_reducible refine u_xnm ?_ | with_reducible refine u_xix ?_ | with_reducible refine u_setAt ?_
    | with_reducible refine u_tnm ?_)
  | "a11" => `(tactic| first
    | with_reducible refine u_ttp ?_ | with_reducible refine u_ttpL ?_ | with_reducible refine u_tnil ?_ | with_reducible refine u_tcons ?_ | with_reducible refine k_bk ?_
    | with_reducible refine k_ct ?_ | with_reducible refine lo_nx ?_ | with_reducible refine lo_ct ?_ | with_reducible refine lo_bk ?_ | with_reducible refine lo_rt ?_
    | with_reducible refine bd_nx ?_ | with_reducible refine bd_x ?_ | ((with_reducible refine k_tlen ?_ ?_); (· first | (show 0 ≤ lim; decide) | (show 1 ≤ lim; decide) | (show 2 ≤ lim; decide) | (show 3 ≤ lim; decide) | (show 4 ≤ lim; decide) | (show 5 ≤ lim; decide) | (show 6 ≤ lim; decide) | (show 8 ≤ lim; decide) | (show 10 ≤ lim; decide))) | ((with_reducible refine o_itVx ?_); refine ⟨_, rfl, ?_⟩) | ((with_reducible refine o_itEx ?_); refine ⟨_, rfl, ?_⟩)
    | ((with_reducible refine r_optx ?_); refine ⟨_, rfl, ?_⟩))
  | "a12" => `(tactic| first
    | with_reducible refine k_rdp ?_ | with_reducible refine r_look_p ?_ | with_reducible refine r_frz_p ?_ | with_reducible refine r_move_p ?_ | with_reducible refine r_keep_p ?_ | with_reducible refine u_setp ?_
    | with_reducible refine r_tpl ?_ | with_reducible refine k_tpl ?_ | with_reducible refine r_tidx ?_ | with_reducible refine k_pl ?_ | with_reducible refine r_lamc ?_ | with_reducible refine r_xat ?_ | with_reducible refine k_ex ?_ | with_reducible refine r_isX ?_ | with_reducible refine o_mulL ?_)
  | _ => Lean.Macro.throwUnsupported
local macro_rules | `(tactic| infer_instance) => `(tactic| first | fail "a1" | fail "a2" | fail "a3" | fail "a4" | fail "a5" | fail "a6" | fail "a7" | fail "a8" | fail "a9" | fail "a10" | fail "a11" | fail "a12")
/-- entries that stand ahead of a cut in one row alone -/
def opn (p : List Nat) (c : Nat) : List Nat := (List.range p.length).filter fun i => !decide (decide (i < c) = decide (p.getD i 0 < c))
def ahead (p : List Nat) (c : Nat) : List Nat := (List.range p.length).filter fun i => decide (i < c) && decide (c ≤ p.getD i 0)
def behind (p : List Nat) (c : Nat) : List Nat := (List.range p.length).filter fun i => decide (c ≤ i) && decide (p.getD i 0 < c)
theorem opn_lt {p : List Nat} {c : Nat} : (opn p c).Pairwise (· < ·) := List.Pairwise.sublist List.filter_sublist List.pairwise_lt_range
theorem opn_perm {p : List Nat} {c : Nat} : (ahead p c ++ behind p c).Perm (opn p c) := by
  have nd : ∀ f : Nat → Bool, ((List.range p.length).filter f).Nodup := fun f => List.Nodup.sublist List.filter_sublist List.nodup_range
  refine (List.perm_ext_iff_of_nodup ?_ (nd _)).mpr fun i => ?_
  · refine List.nodup_append.mpr ⟨nd _, nd _, fun x hx y hy e => ?_⟩
    subst e
    have h1 := (List.mem_filter.mp hx).2
    have h2 := (List.mem_filter.mp hy).2
    simp only [Bool.and_eq_true, decide_eq_true_eq] at h1 h2
    omega
  · unfold ahead behind
    simp only [List.mem_append, List.mem_filter, Bool.and_eq_true, decide_eq_true_eq, Bool.not_eq_true', decide_eq_false_iff_not, decide_eq_decide]
    constructor
    · rintro (⟨h1, h2, h3⟩ | ⟨h1, h2, h3⟩)
      · exact ⟨h1, by omega⟩
      · exact ⟨h1, by omega⟩
    · rintro ⟨h1, h2⟩
      by_cases h : i < c
      · exact .inl ⟨h1, h, by omega⟩
      · exact .inr ⟨h1, by omega, by omega⟩
theorem opn_len {p : List Nat} {c : Nat} : (opn p c).length = (ahead p c).length + (behind p c).length := by
  rw [← opn_perm.length_eq, List.length_append]
theorem opn_le {p : List Nat} {c : Nat} : (opn p c).length ≤ p.length := by
  have := List.length_filter_le (fun i => !decide (decide (i < c) = decide (p.getD i 0 < c))) (List.range p.length)
  rw [List.length_range] at this
  exact this
theorem opn_mem {p : List Nat} {c i : Nat} (h : i ∈ opn p c) : i < p.length := List.mem_range.mp (List.mem_filter.mp h).1
section
variable {m c : Nat} {p : List Nat}
def one (b : Bool) : Nat := if b then 1 else 0
theorem ahead_step (hp : IsP m p) (hc : c < m) : (ahead p (c + 1)).length + one (decide (wh p c < c)) = (ahead p c).length + one (decide (c < p.getD c 0)) := by
  have hl := hp.len
  unfold ahead
  rw [← List.countP_eq_length_filter, ← List.countP_eq_length_filter, hl]
  have e1 : one (decide (wh p c < c)) = (List.range m).countP fun i => decide (i < c) && decide (p.getD i 0 = c) := by
    rw [cnt_one (j := wh p c) (wh_lt hp hc) fun i hi h => ?_]
    · rw [wh_at hp hc]
      simp [one]
    · simp only [Bool.and_eq_true, decide_eq_true_eq] at h
      rw [← h.2, wh_of hp hi]
  have e2 : one (decide (c < p.getD c 0)) = (List.range m).countP fun i => decide (i = c) && decide (c < p.getD i 0) := by
    rw [cnt_one (j := c) hc fun i hi h => ?_]
    · simp [one]
    · simp only [Bool.and_eq_true, decide_eq_true_eq] at h
      exact h.1
  rw [e1, e2]
  refine cnt_add _ fun i _ => ?_
  simp only [Bool.and_eq_true, decide_eq_true_eq]
  split <;> split <;> split <;> split <;> omega
theorem behind_step (hp : IsP m p) (hc : c < m) : (behind p (c + 1)).length + one (decide (p.getD c 0 < c)) = (behind p c).length + one (decide (c < wh p c)) := by
  have hl := hp.len
  unfold behind
  rw [← List.countP_eq_length_filter, ← List.countP_eq_length_filter, hl]
  have e1 : one (decide (c < wh p c)) = (List.range m).countP fun i => decide (c < i) && decide (p.getD i 0 = c) := by
    rw [cnt_one (j := wh p c) (wh_lt hp hc) fun i hi h => ?_]
    · rw [wh_at hp hc]
      simp [one]
    · simp only [Bool.and_eq_true, decide_eq_true_eq] at h
      rw [← h.2, wh_of hp hi]
  have e2 : one (decide (p.getD c 0 < c)) = (List.range m).countP fun i => decide (i = c) && decide (p.getD i 0 < c) := by
    rw [cnt_one (j := c) hc fun i hi h => ?_]
    · simp [one]
    · simp only [Bool.and_eq_true, decide_eq_true_eq] at h
      exact h.1
  rw [e1, e2]
  refine cnt_add _ fun i _ => ?_
  simp only [Bool.and_eq_true, decide_eq_true_eq]
  split <;> split <;> split <;> split <;> omega
theorem zero_cut : (ahead p 0).length = 0 ∧ (behind p 0).length = 0 := by
  unfold ahead behind
  simp
theorem same_cut (hp : IsP m p) : ∀ c, c ≤ m → (ahead p c).length = (behind p c).length
  | 0, _ => by rw [zero_cut.1, zero_cut.2]
  | c + 1, hc => by
    have h1 := ahead_step hp (c := c) (by omega)
    have h2 := behind_step hp (c := c) (by omega)
    have h3 := same_cut hp c (by omega)
    have e : p.getD c 0 = c ↔ wh p c = c := by
      constructor
      · intro z
        have := wh_of hp (i := c) (by omega)
        rw [z] at this
        exact this
      · intro z
        have := wh_at hp (j := c) (by omega)
        rw [z] at this
        exact this
    unfold one at h1 h2
    simp only [decide_eq_true_eq] at h1 h2
    split at h1 <;> split at h1 <;> split at h2 <;> split at h2 <;> omega
theorem opn_step (hp : IsP m p) (hc : c < m) : (opn p (c + 1)).length + (one (decide (wh p c < c)) + one (decide (p.getD c 0 < c))) = (opn p c).length + (one (decide (c < p.getD c 0)) + one (decide (c < wh p c))) := by
  have h1 := ahead_step hp hc
  have h2 := behind_step hp hc
  rw [opn_len, opn_len]
  omega
theorem opn_inv (hp : IsP m p) : ∀ c, c ≤ m → (opn (inv p) c).length = (opn p c).length
  | 0, _ => by rw [opn_len, opn_len, zero_cut.1, zero_cut.2, zero_cut.1, zero_cut.2]
  | c + 1, hc => by
    have h1 := opn_step hp (c := c) (by omega)
    have h2 := opn_step (inv_isP hp) (c := c) (by omega)
    rw [wh_inv hp (by omega), inv_get hp (by omega)] at h2
    have := opn_inv hp c (by omega)
    omega
/-- the greatest at the first cuts -/
def mx (p : List Nat) : Nat → Nat
  | 0 => 0
  | k + 1 => max (mx p k) (opn p k).length
theorem mx_inv (hp : IsP m p) : ∀ k, k ≤ m + 1 → mx (inv p) k = mx p k
  | 0, _ => rfl
  | k + 1, h => by
    unfold mx
    rw [mx_inv hp k (by omega), opn_inv hp k (by omega)]
theorem mx_one : mx p 1 = 0 := by
  show max 0 (opn p 0).length = 0
  rw [opn_len, zero_cut.1, zero_cut.2]
  rfl
theorem mx_le : ∀ k, mx p k ≤ p.length
  | 0 => Nat.zero_le _
  | k + 1 => by
    unfold mx
    have := mx_le k
    have := opn_le (p := p) (c := k)
    omega
theorem max_if (a b : Nat) : (if (b : Int) ≤ (a : Int) then (a : Int) else (b : Int)) = ((max a b : Nat) : Int) := by
  split <;> omega
/-- a row in which some entries stand again -/
def bk (p : List Nat) (k : Nat) : List D := (List.range p.length).map fun j => if wh p j < k then .int (wh p j : Nat) else .non
theorem bk_len {k : Nat} : (bk p k).length = p.length := by simp [bk]
theorem bk_zero : bk p 0 = (List.replicate p.length [D.non]).flatten := by
  unfold bk
  refine List.ext_getElem ?_ fun i h1 h2 => ?_
  · simp
  · simp [List.flatten_replicate_singleton]
theorem bk_succ (hp : IsP m p) {k : Nat} (h : k < m) : (bk p k).set (p.getD k 0) (.int (k : Int)) = bk p (k + 1) := by
  have hl := hp.len
  unfold bk
  refine List.ext_getElem (by simp) fun i h1 h2 => ?_
  have hi : i < m := by simp at h2; omega
  rw [List.getElem_set, List.getElem_map, List.getElem_map, List.getElem_range]
  by_cases e : p.getD k 0 = i
  · have e2 : wh p i = k := by rw [← e, wh_of hp h]
    rw [if_pos e, if_pos (by omega), e2]
  · rw [if_neg e]
    have hne : wh p i ≠ k := fun z => e (by rw [← z, wh_at hp hi])
    by_cases h3 : wh p i < k
    · rw [if_pos h3, if_pos (by omega)]
    · rw [if_neg h3, if_neg (by omega)]
theorem bk_all (hp : IsP m p) : bk p m = il (inv p) := by
  have hl := hp.len
  unfold bk il inv
  rw [List.map_map]
  refine List.map_congr_left fun j hj => ?_
  have := List.mem_range.mp hj
  rw [if_pos (wh_lt hp (by omega))]
  rfl
end
theorem r_one {T : Tab} {Φ : Fns} {Q : DV → S → Prop} {X : Nat → D → S → Prop} {s : S} {k j : Bool} (e : k = j) (h : Q (.f (.int (one j : Nat))) s) : Wp (if k then evE T Φ (.int 1) else evE T Φ (.int 0)) Q X s := by
  subst e
  cases k
  · exact h
  · exact h
section
variable {n m c : Nat} {g : G} {X : Nat → D → G → Prop} {Q : DV → G → Prop} {p : List Nat} {d : D}
theorem s_opened (hl : p.length ≤ 1000) (h : Q (.f (.tup (il (opn p c)))) g) : Sp tab fns (n + 1) 66 [tn p, .int (c : Int)] g Q X := by
  have hlim : (1000 : Nat) < lim := by decide
  refine sp_body (bd := b66) (m := 4) (p := 2) rfl rfl (by decide) ?_
  unfold b66 tn
  repeat infer_instance
  rw [enum_nat]
  refine lc_pureA (fun i => !decide (decide ((i : Int) < (c : Int)) = decide (((p.getD i 0 : Nat) : Int) < (c : Int)))) (fun (i : Nat) => .int (i : Int)) (by rw [List.length_range]; omega) (fun i hi => ?_) ?_
  · repeat infer_instance
    refine ⟨rfl, ⟨rfl, rfl⟩, fun _ => ?_⟩
    repeat infer_instance
    exact ⟨rfl, rfl, rfl⟩
  have e : (((List.range p.length).filter fun (i : Nat) => !decide (decide ((i : Int) < (c : Int)) = decide (((p.getD i 0 : Nat) : Int) < (c : Int)))).map fun (i : Nat) => D.int (i : Int)) = il (opn p c) := by
    unfold il opn
    congr 2
    funext i
    rw [show decide ((i : Int) < (c : Int)) = decide (i < c) by rw [decide_eq_decide]; omega, show decide (((p.getD i 0 : Nat) : Int) < (c : Int)) = decide (p.getD i 0 < c) by rw [decide_eq_decide]; omega]
  rw [e]
  repeat infer_instance
  exact h
theorem s_open (hp : IsP m p) (hd : Sq p d) (hm : m ≤ 1000) (hc : c ≤ m) (h : Q (.f (.tup (il (opn p c)))) g) : Sp tab fns (n + 6) 67 [d, .int (c : Int)] g Q X := by
  have hl := hp.len
  refine sp_body (bd := b67) (m := 3) (p := 2) rfl rfl (by decide) ?_
  unfold b67
  repeat infer_instance
  refine c_call (s_checked hp hd hm ?_)
  repeat infer_instance
  rw [List.length_map]
  refine c_call (s_isix ?_)
  repeat infer_instance
  rw [neg_dec ⟨by omega, by omega⟩]
  repeat infer_instance
  refine c_call (s_opened (by omega) ?_)
  repeat infer_instance
  exact h
/-- what is no cut of a row -/
def NoCut (m : Nat) (x : D) : Prop := ∀ (n : Nat) (g : G) (Q : DV → G → Prop) (X : Nat → D → G → Prop), Q (.f (.bl false)) g → Sp tab fns (n + 3) 2 [x, .int ((m : Int) + 1)] g Q X
theorem s_openN (hp : IsP m p) (hd : Sq p d) (hm : m ≤ 1000) {x : D} (hx : NoCut m x) (h : X 9 (.int 0) g) : Sp tab fns (n + 6) 67 [d, x] g Q X := by
  have hl := hp.len
  refine sp_body (bd := b67) (m := 3) (p := 2) rfl rfl (by decide) ?_
  unfold b67
  repeat infer_instance
  refine c_call (s_checked hp hd hm ?_)
  repeat infer_instance
  rw [List.length_map, hl]
  refine c_call (hx _ _ _ _ ?_)
  repeat infer_instance
  exact h
theorem no_int {i : Int} (h : ¬ (0 ≤ i ∧ i < (m : Int) + 1)) : NoCut m (.int i) := fun n g Q X q => s_isix (by
  rw [decide_eq_false h]
  exact q)
theorem s_isint_no {x : D} (hx : isD .int x = some false ∨ ∃ b, x = .bl b) (h : Q (.f (.bl false)) g) : Sp tab fns (n + 1) 0 [x] g Q X := by
  rcases hx with hx | ⟨b, rfl⟩
  · refine sp_body (bd := b0) (m := 1) (p := 1) rfl rfl (by decide) ?_
    unfold b0
    iterate 9 infer_instance
    refine r_opt hx ?_
    repeat infer_instance
    exact h
  · refine sp_body (bd := b0) (m := 1) (p := 1) rfl rfl (by decide) ?_
    unfold b0
    repeat infer_instance
    exact h
theorem no_other {x : D} (hx : isD .int x = some false ∨ ∃ b, x = .bl b) : NoCut m x := fun n g Q X q => by
  refine sp_body (bd := b2) (m := 2) (p := 2) rfl rfl (by decide) ?_
  unfold b2
  repeat infer_instance
  refine c_call ?_
  refine sp_body (bd := b1) (m := 1) (p := 1) rfl rfl (by decide) ?_
  unfold b1
  repeat infer_instance
  refine c_call (s_isint_no hx ?_)
  repeat infer_instance
  exact q
theorem s_idle {f : Nat} (hf : f = 68) (hm : m ≤ 1000) (h : Q (.f (tn (idP m))) g) : Sp tab fns (n + 1) f [.int (m : Int)] g Q X := by
  refine sp_body (bd := b68) (m := 1) (p := 1) (by rw [hf]; rfl) rfl (by decide) ?_
  unfold b68
  repeat infer_instance
  refine k_need (rng_ok hm) ?_
  rw [rngI_eq]
  repeat infer_instance
  exact h
theorem s_reordI (hp : IsP m p) (hd : Sq p d) (hm : m ≤ 1000) (h : Q (.f (tn (inv p))) g) : Sp tab fns (n + 6) 69 [tn (idP m), d] g Q X := by
  have hlim : (1000 : Nat) < lim := by decide
  have hl := hp.len
  have hil : (idP m).length = m := List.length_range
  refine sp_body (bd := b69) (m := 6) (p := 2) rfl rfl (by decide) ?_
  unfold b69
  repeat infer_instance
  refine c_call (s_checked hp hd hm ?_)
  repeat infer_instance
  rw [List.length_map, List.length_map, hil, hl, decide_eq_true rfl]
  repeat infer_instance
  refine k_need ⟨by show 1 * _ ≤ lim; rw [List.length_map, Int.toNat_natCast]; omega, by rw [List.length_map]; omega, by rw [List.length_map]; omega⟩ ?_
  rw [List.length_map, Int.toNat_natCast, ← bk_zero]
  unfold tn
  repeat infer_instance
  rw [enum_nat]
  refine l_forA (fun k s => ∃ x4 x5, s = ⟨[some (.f (tn (idP m))), some (.f d), some (.f (tn p)), some (.o (bk p k)), x4, x5], g⟩) ?_ ?_ ⟨_, _, rfl⟩
  · rintro k hk s ⟨x4, x5, rfl⟩
    rw [List.length_range] at hk
    rw [List.getElem_range]
    have hpk : p.getD k 0 < p.length := by rw [hl]; exact hp.get_lt (by omega)
    repeat infer_instance
    refine r_opt (ix_tn (by omega)) ?_
    repeat infer_instance
    refine k_need ⟨by omega, by rw [bk_len]; omega, by omega⟩ ?_
    rw [Int.toNat_natCast, id_get (by omega), bk_succ hp (by omega)]
    repeat infer_instance
    exact ⟨_, _, rfl⟩
  · rintro s ⟨x4, x5, rfl⟩
    rw [List.length_range, hl, bk_all hp]
    repeat infer_instance
    exact h
theorem s_back (hp : IsP m p) (hd : Sq p d) (hm : m ≤ 1000) (h : Q (.f (tn (inv p))) g) : Sp tab fns (n + 7) 70 [d] g Q X := by
  have hl := hp.len
  refine sp_body (bd := b70) (m := 2) (p := 1) rfl rfl (by decide) ?_
  unfold b70
  repeat infer_instance
  refine c_call (s_checked hp hd hm ?_)
  unfold tn
  iterate 26 infer_instance
  rw [List.length_map, hl]
  with_reducible refine c_call (s_idle rfl hm ?_)
  repeat infer_instance
  refine c_call (s_reordI hp (.inl rfl) hm ?_)
  repeat infer_instance
  exact h
theorem s_width (hp : IsP m p) (hd : Sq p d) (hm : m ≤ 1000) (h : Q (.f (.int (mx p (m + 1) : Nat))) g) : Sp tab fns (n + 8) 71 [d] g Q X := by
  have hl := hp.len
  refine sp_body (bd := b71) (m := 6) (p := 1) rfl rfl (by decide) ?_
  unfold b71
  repeat infer_instance
  refine c_call (s_checked hp hd hm ?_)
  repeat infer_instance
  refine c_call (s_back hp (.inl rfl) hm ?_)
  unfold tn
  repeat infer_instance
  rw [enum_nat]
  refine l_forA (fun k s => ∃ x4 x5, s = ⟨[some (.f d), some (.f (tn p)), some (.f (.int (mx p (k + 1) : Nat))), some (.f (.int ((opn p k).length : Nat))), x4, x5], g⟩) ?_ ?_ ?_
  · rintro k hk s ⟨x4, x5, rfl⟩
    rw [List.length_range, inv_len] at hk
    rw [List.getElem_range, inv_get hp (by omega)]
    have hs := opn_step hp (c := k) (by omega)
    repeat infer_instance
    refine r_opt (ix_tn (by omega)) ?_
    repeat infer_instance
    refine r_one (j := decide (k < p.getD k 0)) (by rw [decide_eq_decide]; omega) ?_
    repeat infer_instance
    refine r_opt (ix_tn (by omega)) ?_
    repeat infer_instance
    refine r_one (j := decide (p.getD k 0 < k)) (by rw [decide_eq_decide]; omega) ?_
    repeat infer_instance
    refine r_one (j := decide (k < wh p k)) (by rw [decide_eq_decide]; omega) ?_
    repeat infer_instance
    refine r_one (j := decide (wh p k < k)) (by rw [decide_eq_decide]; omega) ?_
    repeat infer_instance
    rw [show ((opn p k).length : Int) + (one (decide (k < p.getD k 0)) : Nat) - (one (decide (p.getD k 0 < k)) : Nat) + (one (decide (k < wh p k)) : Nat) - (one (decide (wh p k < k)) : Nat) = ((opn p (k + 1)).length : Nat) by omega, max_if]
    exact ⟨_, _, rfl⟩
  · rintro s ⟨x4, x5, rfl⟩
    rw [List.length_range, inv_len, hl]
    repeat infer_instance
    exact h
  · refine ⟨none, none, ?_⟩
    rw [mx_one, opn_len, zero_cut.1, zero_cut.2]
    rfl
end
end LK

end
section
set_option Elab.async false
set_option linter.all false
set_option maxRecDepth 100000
set_option maxHeartbeats 4000000
/-! KM4: a drawn reordering; plain. Own text. -/
namespace LK
open PySem (Str)
open DI PM
local macro_rules | `(tactic| fail $s:str) => match s.getString with
  | "a1" => `(tactic| first
    | with_reducible refine w_var ?_ | with_reducible refine k_getS ?_ | with_reducible refine k_get0 ?_ | with_reducible refine k_get4 ?_ | with_reducible refine k_rdf ?_
    | with_reducible refine k_lkf ?_ | with_reducible refine k_fzf ?_ | with_reducible refine r_look_f ?_ | with_reducible refine r_frz_f ?_ | with_reducible refine r_eint ?_
    | with_reducible refine r_cmp ?_ | with_reducible refine r_bin ?_)
  | "a2" => `(tactic| first
    | with_reducible refine r_escons ?_ | with_reducible refine r_esnil ?_ | with_reducible refine r_fzcons ?_ | with_reducible refine r_fznil ?_ | with_reducible refine r_lkcons ?_
    | with_reducible refine r_lknil ?_ | with_reducible refine r_ix ?_ | with_reducible refine t_cons ?_ | with_reducible refine t_nil ?_ | with_reducible refine t_set ?_
    | with_reducible refine t_ifs ?_ | with_reducible refine t_ret ?_)
  | "a3" => `(tactic| first
    | with_reducible refine bd_rt ?_ | with_reducible refine k_nx ?_ | with_reducible refine k_rt ?_ | with_reducible refine r_bool ?_ | with_reducible refine wpS ?_
    | with_reducible refine wp0 ?_ | with_reducible refine stC ?_ | with_reducible refine stN ?_ | with_reducible refine sz0 ?_ | with_reducible refine k_setS ?_
    | with_reducible refine k_mvf ?_)
  | "a4" => `(tactic| first
    | with_reducible refine k_rdo ?_ | with_reducible refine k_lko ?_ | with_reducible refine k_owo ?_ | with_reducible refine k_fzo ?_ | with_reducible refine k_mvo ?_
    | with_reducible refine k_set0 ?_ | with_reducible refine k_set4 ?_ | with_reducible refine r_ebl ?_ | with_reducible refine r_enon ?_ | with_reducible refine r_estr ?_
    | with_reducible refine r_look_o ?_ | with_reducible refine q_look_b ?_ | with_reducible refine r_frz_o ?_ | with_reducible refine q_frz_b ?_ | with_reducible refine q_ownAt ?_
    | with_reducible refine r_move_f ?_)
  | "a5" => `(tactic| first
    | with_reducible refine r_move_o ?_ | with_reducible refine q_move_b ?_ | with_reducible refine r_setR ?_ | with_reducible refine r_keep_f ?_ | with_reducible refine r_keep_o ?_
    | with_reducible refine r_keep_b ?_ | with_reducible refine r_int ?_ | with_reducible refine r_neg ?_ | with_reducible refine r_isN ?_ | with_reducible refine r_notN ?_
    | with_reducible refine r_and ?_ | with_reducible refine r_or ?_ | with_reducible refine r_not ?_ | with_reducible refine r_ite ?_ | with_reducible refine r_chain ?_
    | with_reducible refine r_call ?_)
  | "a6" => `(tactic| first
    | with_reducible refine r_callk ?_ | with_reducible refine r_make ?_ | with_reducible refine r_blt ?_ | with_reducible refine r_isI ?_ | with_reducible refine r_lrg ?_
    | with_reducible refine r_trg ?_ | with_reducible refine r_append ?_ | with_reducible refine r_pop ?_ | with_reducible refine r_popAt ?_ | with_reducible refine r_lc ?_
    | with_reducible refine r_sl ?_ | with_reducible refine r_tup ?_ | with_reducible refine r_lst ?_ | with_reducible refine r_fld ?_ | with_reducible refine r_part0 ?_
    | ((with_reducible refine r_part ?_ ?_); (· intro z; cases z)))
  | "a7" => `(tactic| first
    | with_reducible refine r_src0 ?_ | ((with_reducible refine r_src ?_ ?_); (· intro z; cases z)) | with_reducible refine r_zero0 ?_ | ((with_reducible refine r_zero ?_ ?_); (· intro z; cases z)) | with_reducible refine r_tst0 ?_
    | ((with_reducible refine r_tst ?_ ?_); (· intro z; cases z)) | with_reducible refine r_ifnt ?_ | with_reducible refine r_ifnf ?_ | with_reducible refine r_ift ?_ | with_reducible refine r_iff ?_
    | with_reducible refine r_ret ?_ | with_reducible refine r_bnd ?_ | with_reducible refine o_add ?_ | with_reducible refine o_sub ?_ | with_reducible refine o_mul ?_
    | with_reducible refine o_fdiv ?_)
  | "a8" => `(tactic| first
    | with_reducible refine o_mod ?_ | with_reducible refine o_addT ?_ | with_reducible refine o_addL ?_ | with_reducible refine o_mulL ?_ | with_reducible refine o_lt ?_
    | with_reducible refine o_le ?_ | with_reducible refine o_gt ?_ | with_reducible refine o_ge ?_ | with_reducible refine o_eqI ?_ | with_reducible refine o_neI ?_
    | with_reducible refine o_eqB ?_ | with_reducible refine o_neB ?_ | with_reducible refine o_lenL ?_ | with_reducible refine o_lenT ?_ | with_reducible refine o_int ?_
    | with_reducible refine o_abs ?_)
  | "a9" => `(tactic| first
    | with_reducible refine o_listL ?_ | with_reducible refine o_listT ?_ | with_reducible refine o_tupL ?_ | with_reducible refine o_tupT ?_ | with_reducible refine o_min ?_
    | with_reducible refine o_max ?_ | with_reducible refine o_rng ?_ | with_reducible refine o_itR ?_ | with_reducible refine t_retN ?_ | with_reducible refine t_expr ?_
    | with_reducible refine t_par ?_ | with_reducible refine t_unp ?_ | with_reducible refine t_setIx ?_ | with_reducible refine t_for ?_ | with_reducible refine t_while ?_
    | with_reducible refine t_raise ?_)
  | "a10" => `(tactic| first
    | with_reducible refine t_pass ?_ | with_reducible refine t_brk ?_ | with_reducible refine t_cont ?_ | with_reducible refine t_fset ?_ | with_reducible refine u_fset ?_
    | with_reducible refine u_raise ?_ | with_reducible refine u_setnil ?_ | with_reducible refine u_setb ?_ | with_reducible refine u_setf ?_ | with_reducible refine u_seto ?_
    | with_reducible refine u_xnil ?_ | with_reducible refine u_xcons ?_ | with_reducible refine u_xnm ?_ | with_reducible refine u_xix ?_ | with_reducible refine u_setAt ?_
    | with_reducible refine u_tnm ?_)
  | "a11" => `(tactic| first
    | with_reducible refine u_ttp ?_ | with_reducible refine u_ttpL ?_ | with_reducible refine u_tnil ?_ | with_reducible refine u_tcons ?_ | with_reducible refine k_bk ?_
    | with_reducible refine k_ct ?_ | with_reducible refine lo_nx ?_ | with_reducible refine lo_ct ?_ | with_reducible refine lo_bk ?_ | with_reducible refine lo_rt ?_
    | with_reducible refine bd_nx ?_ | with_reducible refine bd_x ?_ | ((with_reducible refine k_tlen ?_ ?_); (· first | (show 0 ≤ lim; decide) | (show 1 ≤ lim; decide) | (show 2 ≤ lim; decide) | (show 3 ≤ lim; decide) | (show 4 ≤ lim; decide) | (show 5 ≤ lim; decide) | (show 6 ≤ lim; decide) | (show 8 ≤ lim; decide) | (show 10 ≤ lim; decide))) | ((with_reducible refine o_itVx ?_); refine ⟨_, rfl, ?_⟩) | ((with_reducible refine o_itEx ?_); refine ⟨_, rfl, ?_⟩)
    | ((with_reducible refine r_optx ?_); refine ⟨_, rfl, ?_⟩))
  | "a12" => `(tactic| first
    | with_reducible refine k_rdp ?_ | with_reducible refine r_look_p ?_ | with_reducible refine r_frz_p ?_ | with_reducible refine r_move_p ?_ | with_reducible refine r_keep_p ?_ | with_reducible refine u_setp ?_
    | with_reducible refine r_tpl ?_ | with_reducible refine k_tpl ?_ | with_reducible refine r_tidx ?_ | with_reducible refine k_pl ?_ | with_reducible refine r_lamc ?_ | with_reducible refine r_xat ?_ | with_reducible refine k_ex ?_ | with_reducible refine r_isX ?_ | with_reducible refine o_mulL ?_)
  | _ => Lean.Macro.throwUnsupported
local macro_rules | `(tactic| infer_instance) => `(tactic| first | fail "a1" | fail "a2" | fail "a3" | fail "a4" | fail "a5" | fail "a6" | fail "a7" | fail "a8" | fail "a9" | fail "a10" | fail "a11" | fail "a12")
theorem perm_isP {m : Nat} {q : List Nat} (h : q.Perm (List.range m)) : IsP m q := isP_perm (IsP.id m) h
theorem turned_perm {m a b : Nat} (hab : a ≤ b) (hb : b ≤ m) : ((List.range m).take a ++ (((List.range m).drop a).take (b - a)).reverse ++ (List.range m).drop b).Perm (List.range m) := by
  have e : (List.range m).drop b = ((List.range m).drop a).drop (b - a) := by rw [List.drop_drop]; congr 1; omega
  have h := (List.reverse_perm (((List.range m).drop a).take (b - a))).append_right ((List.range m).drop b)
  rw [e, List.take_append_drop] at h
  have h2 := h.append_left ((List.range m).take a)
  rw [List.take_append_drop] at h2
  rw [e, List.append_assoc]
  exact h2
section
variable {n m : Nat} {X : Nat → D → G → Prop} {Q : DV → G → Prop} {gg : GG}
theorem s_drawn (h : ∀ m p gg', IsP m p → m ≤ 12 → Q (.p (il p)) (some gg')) : Sp tab fns (n + 3) 64 [.deal] (some gg) Q X := by
  have hlim : (10000 : Nat) < lim := by decide
  refine sp_body (bd := b64) (m := 7) (p := 1) rfl rfl (by decide) ?_
  unfold b64
  repeat infer_instance
  refine c_call (s_any (by decide) (by decide) fun m gg1 hm => ?_)
  repeat infer_instance
  refine c_call (s_any (by decide) (by decide) fun k gg2 hk => ?_)
  repeat infer_instance
  refine r_ifd (fun h1 => ?_) (fun h1 => ?_)
  · repeat infer_instance
    refine k_need (rng_ok (by omega)) ?_
    rw [rngI_eq]
    repeat infer_instance
    refine c_call (s_mixed (k := 1) (l := List.range m) (f := fun (n : Nat) => D.int (n : Int)) rfl (fun x _ => lay_int _) (by decide) (by rw [List.length_range]; omega) fun q gg5 hq => ?_)
    repeat infer_instance
    exact h _ q gg5 (perm_isP hq) (by omega)
  repeat infer_instance
  refine r_ifd (fun h2 => ?_) (fun h2 => ?_)
  · repeat infer_instance
    refine k_need (rng_ok (by omega)) ?_
    rw [rngI_eq]
    repeat infer_instance
    refine c_call (s_mixed (k := 1) (l := List.range m) (f := fun (n : Nat) => D.int (n : Int)) rfl (fun x _ => lay_int _) (by decide) (by rw [List.length_range]; omega) fun q gg5 hq => ?_)
    repeat infer_instance
    exact h _ q gg5 (perm_isP hq) (by omega)
  repeat infer_instance
  refine k_need (rng_ok (by omega)) ?_
  rw [rngI_eq, show ((List.range m).map fun (i : Nat) => D.int (i : Int)) = il (idP m) from rfl]
  repeat infer_instance
  refine r_ifd (fun h3 => ?_) (fun h3 => ?_)
  · repeat infer_instance
    refine c_call (s_any (by decide) (by decide) fun t gg3 ht => ?_)
    repeat infer_instance
    refine k_need ⟨by decide, by simp only [bnd62, Bool.and_eq_true, decide_eq_true_eq]; omega⟩ ?_
    rw [show (1 + (t : Int)) = ((t + 1 : Nat) : Int) by omega]
    refine l_rng (fun k' s => ∃ p x4 x6 gg', IsP m p ∧ s = ⟨[some (.f .deal), some (.f (.int (m : Int))), some (.f (.int (k : Int))), some (.o (il p)), x4, none, x6], some gg'⟩) ?_ ?_ ⟨_, _, _, _, IsP.id m, rfl⟩
    · rintro k' hk' s ⟨p, x4, x6, gg', hp, rfl⟩
      have hl := hp.len
      repeat infer_instance
      refine c_call (s_any (by omega) (by omega) fun i gg4 hi => ?_)
      repeat infer_instance
      rw [show ((i : Int) + 1) = ((i + 1 : Nat) : Int) by omega]
      refine r_opt (show ixD (.lst (il p)) (.int ((i + 1 : Nat) : Int)) = some (.int (p.getD (i + 1) 0 : Nat)) from at_il (by omega)) ?_
      repeat infer_instance
      refine r_opt (show ixD (.lst (il p)) (.int (i : Int)) = some (.int (p.getD i 0 : Nat)) from at_il (by omega)) ?_
      repeat infer_instance
      refine k_need ⟨by omega, by rw [il_len]; omega, by omega⟩ ?_
      rw [Int.toNat_natCast, il_set]
      repeat infer_instance
      rw [show ((i : Int) + 1) = ((i + 1 : Nat) : Int) by omega]
      refine k_need ⟨by omega, by rw [il_len, List.length_set]; omega, by omega⟩ ?_
      rw [Int.toNat_natCast, il_set]
      repeat infer_instance
      exact ⟨_, _, _, _, swap_isP hp (by omega) (by omega), rfl⟩
    · rintro s ⟨p, x4, x6, gg', hp, rfl⟩
      repeat infer_instance
      exact h _ _ _ hp (by omega)
  · repeat infer_instance
    refine c_call (s_any (by omega) (by omega) fun a gg3 ha => ?_)
    repeat infer_instance
    refine c_call (s_any (by omega) (by omega) fun e gg4 he => ?_)
    repeat infer_instance
    rw [show ((a : Int) + 2 + (e : Int)) = ((a + 2 + e : Nat) : Int) by omega]
    have hb : a + 2 + e ≤ m := by omega
    have hab : a ≤ a + 2 + e := by omega
    generalize a + 2 + e = b at hb hab
    refine r_rev ?_
    repeat infer_instance
    refine ⟨_, rfl, ?_⟩
    have hil : (il (idP m)).length = m := by rw [il_len]; exact List.length_range
    rw [cut_to (by omega), cut_ab (by omega) (by omega)]
    repeat infer_instance
    refine k_need (by simp; omega) ?_
    repeat infer_instance
    rw [cut_from (by omega)]
    refine k_need (by simp; omega) ?_
    rw [il_take, il_drop, il_take, il_drop, show (il (((idP m).drop a).take (b - a))).reverse = il ((((idP m).drop a).take (b - a)).reverse) by unfold il; rw [List.map_reverse], show ∀ x y z : List Nat, il x ++ il y ++ il z = il (x ++ y ++ z) from fun x y z => by unfold il; rw [List.map_append, List.map_append]]
    repeat infer_instance
    exact h _ _ _ (perm_isP (turned_perm (by omega) hb)) (by omega)
end
end LK

end
section
set_option Elab.async false
set_option linter.all false
set_option maxRecDepth 100000
set_option maxHeartbeats 4000000
/-! KM5: the law k22; plain. Own text. -/
namespace LK
open PySem (Str)
open DI PM
local macro_rules | `(tactic| fail $s:str) => match s.getString with
  | "a1" => `(tactic| first
    | with_reducible refine w_var ?_ | with_reducible refine k_getS ?_ | with_reducible refine k_get0 ?_ | with_reducible refine k_get4 ?_ | with_reducible refine k_rdf ?_
    | with_reducible refine k_lkf ?_ | with_reducible refine k_fzf ?_ | with_reducible refine r_look_f ?_ | with_reducible refine r_frz_f ?_ | with_reducible refine r_eint ?_
    | with_reducible refine r_cmp ?_ | with_reducible refine r_bin ?_)
  | "a2" => `(tactic| first
    | with_reducible refine r_escons ?_ | with_reducible refine r_esnil ?_ | with_reducible refine r_fzcons ?_ | with_reducible refine r_fznil ?_ | with_reducible refine r_lkcons ?_
    | with_reducible refine r_lknil ?_ | with_reducible refine r_ix ?_ | with_reducible refine t_cons ?_ | with_reducible refine t_nil ?_ | with_reducible refine t_set ?_
    | with_reducible refine t_ifs ?_ | with_reducible refine t_ret ?_)
  | "a3" => `(tactic| first
    | with_reducible refine bd_rt ?_ | with_reducible refine k_nx ?_ | with_reducible refine k_rt ?_ | with_reducible refine r_bool ?_ | with_reducible refine wpS ?_
    | with_reducible refine wp0 ?_ | with_reducible refine stC ?_ | with_reducible refine stN ?_ | with_reducible refine sz0 ?_ | with_reducible refine k_setS ?_
    | with_reducible refine k_mvf ?_)
  | "a4" => `(tactic| first
    | with_reducible refine k_rdo ?_ | with_reducible refine k_lko ?_ | with_reducible refine k_owo ?_ | with_reducible refine k_fzo ?_ | with_reducible refine k_mvo ?_
    | with_reducible refine k_set0 ?_ | with_reducible refine k_set4 ?_ | with_reducible refine r_ebl ?_ | with_reducible refine r_enon ?_ | with_reducible refine r_estr ?_
    | with_reducible refine r_look_o ?_ | with_reducible refine q_look_b ?_ | with_reducible refine r_frz_o ?_ | with_reducible refine q_frz_b ?_ | with_reducible refine q_ownAt ?_
    | with_reducible refine r_move_f ?_)
  | "a5" => `(tactic| first
    | with_reducible refine r_move_o ?_ | with_reducible refine q_move_b ?_ | with_reducible refine r_setR ?_ | with_reducible refine r_keep_f ?_ | with_reducible refine r_keep_o ?_
    | with_reducible refine r_keep_b ?_ | with_reducible refine r_int ?_ | with_reducible refine r_neg ?_ | with_reducible refine r_isN ?_ | with_reducible refine r_notN ?_
    | with_reducible refine r_and ?_ | with_reducible refine r_or ?_ | with_reducible refine r_not ?_ | with_reducible refine r_ite ?_ | with_reducible refine r_chain ?_
    | with_reducible refine r_call ?_)
  | "a6" => `(tactic| first
    | with_reducible refine r_callk ?_ | with_reducible refine r_make ?_ | with_reducible refine r_blt ?_ | with_reducible refine r_isI ?_ | with_reducible refine r_lrg ?_
    | with_reducible refine r_trg ?_ | with_reducible refine r_append ?_ | with_reducible refine r_pop ?_ | with_reducible refine r_popAt ?_ | with_reducible refine r_lc ?_
    | with_reducible refine r_sl ?_ | with_reducible refine r_tup ?_ | with_reducible refine r_lst ?_ | with_reducible refine r_fld ?_ | with_reducible refine r_part0 ?_
    | ((with_reducible refine r_part ?_ ?_); (· intro z; cases z)))
  | "a7" => `(tactic| first
    | with_reducible refine r_src0 ?_ | ((with_reducible refine r_src ?_ ?_); (· intro z; cases z)) | with_reducible refine r_zero0 ?_ | ((with_reducible refine r_zero ?_ ?_); (· intro z; cases z)) | with_reducible refine r_tst0 ?_
    | ((with_reducible refine r_tst ?_ ?_); (· intro z; cases z)) | with_reducible refine r_ifnt ?_ | with_reducible refine r_ifnf ?_ | with_reducible refine r_ift ?_ | with_reducible refine r_iff ?_
    | with_reducible refine r_ret ?_ | with_reducible refine r_bnd ?_ | with_reducible refine o_add ?_ | with_reducible refine o_sub ?_ | with_reducible refine o_mul ?_
    | with_reducible refine o_fdiv ?_)
  | "a8" => `(tactic| first
    | with_reducible refine o_mod ?_ | with_reducible refine o_addT ?_ | with_reducible refine o_addL ?_ | with_reducible refine o_mulL ?_ | with_reducible refine o_lt ?_
    | with_reducible refine o_le ?_ | with_reducible refine o_gt ?_ | with_reducible refine o_ge ?_ | with_reducible refine o_eqI ?_ | with_reducible refine o_neI ?_
    | with_reducible refine o_eqB ?_ | with_reducible refine o_neB ?_ | with_reducible refine o_lenL ?_ | with_reducible refine o_lenT ?_ | with_reducible refine o_int ?_
    | with_reducible refine o_abs ?_)
  | "a9" => `(tactic| first
    | with_reducible refine o_listL ?_ | with_reducible refine o_listT ?_ | with_reducible refine o_tupL ?_ | with_reducible refine o_tupT ?_ | with_reducible refine o_min ?_
    | with_reducible refine o_max ?_ | with_reducible refine o_rng ?_ | with_reducible refine o_itR ?_ | with_reducible refine t_retN ?_ | with_reducible refine t_expr ?_
    | with_reducible refine t_par ?_ | with_reducible refine t_unp ?_ | with_reducible refine t_setIx ?_ | with_reducible refine t_for ?_ | with_reducible refine t_while ?_
    | with_reducible refine t_raise ?_)
  | "a10" => `(tactic| first
    | with_reducible refine t_pass ?_ | with_reducible refine t_brk ?_ | with_reducible refine t_cont ?_ | with_reducible refine t_fset ?_ | with_reducible refine u_fset ?_
    | with_reducible refine u_raise ?_ | with_reducible refine u_setnil ?_ | with_reducible refine u_setb ?_ | with_reducible refine u_setf ?_ | with_reducible refine u_seto ?_
    | with_reducible refine u_xnil ?_ | with_reducible refine u_xcons ?_ | with_reducible refine u_xnm ?_ | with_reducible refine u_xix ?_ | with_reducible refine u_setAt ?_
    | with_reducible refine u_tnm ?_)
  | "a11" => `(tactic| first
    | with_reducible refine u_ttp ?_ | with_reducible refine u_ttpL ?_ | with_reducible refine u_tnil ?_ | with_reducible refine u_tcons ?_ | with_reducible refine k_bk ?_
    | with_reducible refine k_ct ?_ | with_reducible refine lo_nx ?_ | with_reducible refine lo_ct ?_ | with_reducible refine lo_bk ?_ | with_reducible refine lo_rt ?_
    | with_reducible refine bd_nx ?_ | with_reducible refine bd_x ?_ | ((with_reducible refine k_tlen ?_ ?_); (· first | (show 0 ≤ lim; decide) | (show 1 ≤ lim; decide) | (show 2 ≤ lim; decide) | (show 3 ≤ lim; decide) | (show 4 ≤ lim; decide) | (show 5 ≤ lim; decide) | (show 6 ≤ lim; decide) | (show 8 ≤ lim; decide) | (show 10 ≤ lim; decide))) | ((with_reducible refine o_itVx ?_); refine ⟨_, rfl, ?_⟩) | ((with_reducible refine o_itEx ?_); refine ⟨_, rfl, ?_⟩)
    | ((with_reducible refine r_optx ?_); refine ⟨_, rfl, ?_⟩))
  | "a12" => `(tactic| first
    | with_reducible refine k_rdp ?_ | with_reducible refine r_look_p ?_ | with_reducible refine r_frz_p ?_ | with_reducible refine r_move_p ?_ | with_reducible refine r_keep_p ?_ | with_reducible refine u_setp ?_
    | with_reducible refine r_tpl ?_ | with_reducible refine k_tpl ?_ | with_reducible refine r_tidx ?_ | with_reducible refine k_pl ?_ | with_reducible refine r_lamc ?_ | with_reducible refine r_xat ?_ | with_reducible refine k_ex ?_ | with_reducible refine r_isX ?_ | with_reducible refine o_mulL ?_)
  | _ => Lean.Macro.throwUnsupported
local macro_rules | `(tactic| infer_instance) => `(tactic| first | fail "a1" | fail "a2" | fail "a3" | fail "a4" | fail "a5" | fail "a6" | fail "a7" | fail "a8" | fail "a9" | fail "a10" | fail "a11" | fail "a12")
local macro_rules | `(tactic| nofun) => `(tactic| first | fail "a1" | fail "a2" | fail "a3" | fail "a4" | fail "a5" | fail "a6" | fail "a7" | fail "a8" | fail "a9" | fail "a10" | fail "a11" | skip)
def b72c : List Sm := [.set 9 (.lc [12] (.nm 12) .rng (.int 0) (.blt .len [(.var 3)]) (.and (.cmp .lt (.var 12) (.var 6)) (.cmp .ge (.ix (.var 3) (.var 12)) (.var 6))) (.var 12)),
  .set 10 (.lc [12] (.nm 12) .rng (.int 0) (.blt .len [(.var 3)]) (.and (.cmp .ge (.var 12) (.var 6)) (.cmp .lt (.ix (.var 3) (.var 12)) (.var 6))) (.var 12)),
  .set 11 (.blt .tuple [(.blt .sorted [(.bin .add (.var 9) (.var 10))])]),
  .ifs (.or (.cmp .ne (.blt .repr [(.call 67 [(.var 5), (.var 6)])]) (.blt .repr [(.var 11)])) (.cmp .ne (.blt .repr [(.callk 67 [1, 0] [(.var 6), (.var 3)])]) (.blt .repr [(.var 11)]))) [.ret (.bl false)] [],
  .ifs (.cmp .ne (.blt .len [(.var 9)]) (.blt .len [(.var 10)])) [.ret (.bl false)] [],
  .set 4 (.blt .max [(.var 4), (.blt .len [(.var 11)])])]
def b72w : List Sm := [.ifs (.cmp .ne (.blt .repr [(.lamc 65 (.call 67 [(.var 3), (.var 8)]))]) (.str "0")) [.ret (.bl false)] []]
def b72m : List Sm := [.set 7 (.blt .tuple [(.lc [13] (.nm 13) .rng (.int 0) (.blt .len [(.var 3)]) .nop (.mb .tidx (.var 3) (.var 13)))]),
  .ifs (.or (.cmp .ne (.blt .repr [(.call 71 [(.var 5)])]) (.blt .repr [(.var 4)])) (.cmp .ne (.blt .repr [(.callk 71 [0] [(.var 7)])]) (.blt .repr [(.var 4)]))) [.ret (.bl false)] [],
  .for (.nm 8) .val (.lst [(.bin .add (.blt .len [(.var 3)]) (.int 1)), (.bin .sub (.int 0) (.int 1)), .non, (.bl true), (.str "0"), (.tup [(.int 0)]), (.bin .add (.bin .add (.blt .len [(.var 3)]) (.int 1)) (.call 6 [(.var 1), (.int 9)]))]) .nop b72w]
def b72t : List Sm := [.par [.nm 3, .nm 4] [(.call 64 [(.var 1)]), (.int 0)],
  .set 5 (.call 11 [(.var 1), (.lst [(.blt .list [(.var 3)]), (.var 3)])]),
  .for (.nm 6) .rng (.int 0) (.bin .add (.blt .len [(.var 3)]) (.int 1)) b72c] ++ b72m
theorem b72_eq : b72 = [.set 1 (.call 8 [(.var 0), (.int 22)]), .for (.nm 2) .rng (.int 0) (.int 4) b72t, .ret (.bl true)] := rfl
section
variable {n m : Nat} {Q : DV → G → Prop} {gg : GG} {g : G} {ns : List Int} {p : List Nat} {d : D}
abbrev stM (ns : List Int) (x2 x3 x4 x5 x6 x7 x8 x9 x10 x11 : Option DV) (g : G) : S := ⟨[some (.f (.scr ns)), some (.f .deal), x2, x3, x4, x5, x6, x7, x8, x9, x10, x11, none, none], g⟩
theorem il_fl {xs : List Nat} {f : Nat → Bool} {f2 : Nat → Bool} (h : ∀ i, f i = f2 i) : ((xs.filter f).map fun (i : Nat) => D.int (i : Int)) = il (xs.filter f2) := by
  unfold il
  congr 2
  funext i
  exact h i
theorem l_cut {c w : Nat} (hp : IsP m p) (hm : m ≤ 12) (hd : Sq p d) (hc : c ≤ m) (x2 x7 x8 x9 x10 x11 : Option DV) :
    Wp (evSs tab (callD tab fns (n + 8)) b72c) (fun fl s => fl = .nx ∧ ∃ y9 y10 y11, s = stM ns x2 (some (.p (il p))) (some (.f (.int (max w (opn p c).length : Nat)))) (some (.f d)) (some (.f (.int (c : Int)))) x7 x8 y9 y10 y11 g) NX
      (stM ns x2 (some (.p (il p))) (some (.f (.int (w : Int)))) (some (.f d)) (some (.f (.int (c : Int)))) x7 x8 x9 x10 x11 g) := by
  have hlim : (10000 : Nat) < lim := by decide
  have hl := hp.len
  unfold b72c stM
  repeat infer_instance
  rw [il_len, hl]
  refine k_need (rng_ok2 (by omega)) ?_
  rw [rngI_eq]
  refine lc_pureA (fun i => decide ((i : Int) < (c : Int)) && decide ((c : Int) ≤ (p.getD i 0 : Nat))) (fun (i : Nat) => .int (i : Int)) (by rw [List.length_range]; omega) (fun i hi => ?_) ?_
  · have hi := List.mem_range.mp hi
    repeat infer_instance
    refine r_ifd (fun h1 => ?_) (fun h1 => ?_)
    · repeat infer_instance
      refine r_opt (show ixD (.tup (il p)) (.int (i : Int)) = some (.int (p.getD i 0 : Nat)) from at_il (by omega)) ?_
      repeat infer_instance
      refine ⟨by rw [decide_eq_true h1]; rfl, ⟨rfl, rfl⟩, fun _ => ?_⟩
      repeat infer_instance
      exact ⟨rfl, rfl, rfl⟩
    · repeat infer_instance
      refine ⟨by rw [decide_eq_false h1]; rfl, ⟨rfl, rfl⟩, fun hz => ?_⟩
      rw [decide_eq_false h1] at hz
      cases hz
  have e1 : (((List.range m).filter fun (i : Nat) => decide ((i : Int) < (c : Int)) && decide ((c : Int) ≤ (p.getD i 0 : Nat))).map fun (i : Nat) => D.int (i : Int)) = il (ahead p c) := by
    unfold ahead
    rw [hl]
    refine il_fl fun i => ?_
    rw [show decide ((i : Int) < (c : Int)) = decide (i < c) by rw [decide_eq_decide]; omega, show decide ((c : Int) ≤ ((p.getD i 0 : Nat) : Int)) = decide (c ≤ p.getD i 0) by rw [decide_eq_decide]; omega]
  rw [e1]
  repeat infer_instance
  rw [il_len, hl]
  refine k_need (rng_ok2 (by omega)) ?_
  rw [rngI_eq]
  refine lc_pureA (fun i => decide ((c : Int) ≤ (i : Int)) && decide ((p.getD i 0 : Nat) < (c : Int))) (fun (i : Nat) => .int (i : Int)) (by rw [List.length_range]; omega) (fun i hi => ?_) ?_
  · have hi := List.mem_range.mp hi
    repeat infer_instance
    refine r_ifd (fun h1 => ?_) (fun h1 => ?_)
    · repeat infer_instance
      refine r_opt (show ixD (.tup (il p)) (.int (i : Int)) = some (.int (p.getD i 0 : Nat)) from at_il (by omega)) ?_
      repeat infer_instance
      refine ⟨by rw [decide_eq_true h1]; rfl, ⟨rfl, rfl⟩, fun _ => ?_⟩
      repeat infer_instance
      exact ⟨rfl, rfl, rfl⟩
    · repeat infer_instance
      refine ⟨by rw [decide_eq_false h1]; rfl, ⟨rfl, rfl⟩, fun hz => ?_⟩
      rw [decide_eq_false h1] at hz
      cases hz
  have e2 : (((List.range m).filter fun (i : Nat) => decide ((c : Int) ≤ (i : Int)) && decide ((p.getD i 0 : Nat) < (c : Int))).map fun (i : Nat) => D.int (i : Int)) = il (behind p c) := by
    unfold behind
    rw [hl]
    refine il_fl fun i => ?_
    rw [show decide ((c : Int) ≤ (i : Int)) = decide (c ≤ i) by rw [decide_eq_decide]; omega, show decide (((p.getD i 0 : Nat) : Int) < (c : Int)) = decide (p.getD i 0 < c) by rw [decide_eq_decide]; omega]
  rw [e2]
  have hsame := same_cut hp c hc
  have hperm := opn_perm (p := p) (c := c)
  have hlt := opn_lt (p := p) (c := c)
  have hle := opn_le (p := p) (c := c)
  have hol := opn_len (p := p) (c := c)
  have hsm : ∀ x ∈ opn p c, x < 10 ^ 9 := fun x hx => by
    have := opn_mem hx
    omega
  have hopen1 : ∀ {g : G} {Q : DV → G → Prop} {X : Nat → D → G → Prop}, Q (.f (.tup (il (opn p c)))) g → Sp tab fns (n + 8) 67 [d, .int (c : Int)] g Q X := fun q => s_open (n := n + 2) hp hd (by omega) hc q
  have hopen2 : ∀ {g : G} {Q : DV → G → Prop} {X : Nat → D → G → Prop}, Q (.f (.tup (il (opn p c)))) g → Sp tab fns (n + 8) 67 [.tup (il p), .int (c : Int)] g Q X := fun q => s_open (n := n + 2) hp (.inl rfl) (by omega) hc q
  clear e1 e2
  generalize ahead p c = A at *
  generalize behind p c = B at *
  generalize opn p c = O at *
  repeat infer_instance
  refine k_need (by rw [il_len, il_len]; omega) ?_
  rw [show il A ++ il B = il (A ++ B) by unfold il; rw [List.map_append]]
  refine r_opt (sort_il (by rw [List.length_append]; omega) hlt hperm) ?_
  repeat infer_instance
  refine c_call (hopen1 ?_)
  repeat infer_instance
  refine o_repr (lay_il (k := 10) O) (sh_il hsm (by omega)) ?_
  repeat infer_instance
  refine o_repr (lay_il (k := 10) O) (sh_il hsm (by omega)) ?_
  repeat infer_instance
  refine o_neS (sh_il hsm (by omega)) ?_
  repeat infer_instance
  refine c_call (hopen2 ?_)
  repeat infer_instance
  refine o_repr (lay_il (k := 10) O) (sh_il hsm (by omega)) ?_
  repeat infer_instance
  refine o_repr (lay_il (k := 10) O) (sh_il hsm (by omega)) ?_
  repeat infer_instance
  refine o_neS (sh_il hsm (by omega)) ?_
  repeat infer_instance
  rw [il_len, il_len, hsame, decide_eq_true rfl]
  repeat infer_instance
  rw [il_len, max_if]
  exact ⟨rfl, _, _, _, rfl⟩
theorem s_told (h : Q (.f (.int 0)) g) {X : Nat → D → G → Prop} : Sp tab fns (n + 1) 65 [.exn 9 (.int 0)] g Q X := by
  refine sp_lamX (m := 2) (j := 1) (ts := [9]) (fs := [3]) (hs := []) (r0 := [none, some (.f (.exn 9 (.int 0)))]) (su := [.ret (.ite (.isX (.var 1) [3, 9] []) (.xat (.var 1)) .non)]) rfl rfl rfl rfl ?_
  repeat infer_instance
  rw [if_pos (show ([3, 9] : List Nat).contains 9 = true from rfl)]
  repeat infer_instance
  exact ⟨_, rfl, rfl, rfl, h⟩
theorem l_wr {x : D} (hx : ∀ {g : G} {Q : DV → G → Prop} {X : Nat → D → G → Prop}, X 9 (.int 0) g → Sp tab fns (n + 8) 67 [.tup (il p), x] g Q X) (x2 x4 x5 x6 x7 x9 x10 x11 : Option DV) :
    Wp (evSs tab (callD tab fns (n + 8)) b72w) (fun fl s => fl = .nx ∧ s = stM ns x2 (some (.p (il p))) x4 x5 x6 x7 (some (.f x)) x9 x10 x11 g) NX
      (stM ns x2 (some (.p (il p))) x4 x5 x6 x7 (some (.f x)) x9 x10 x11 g) := by
  unfold b72w stM
  repeat infer_instance
  refine c_call (hx ?_)
  refine c_call (n := n + 7 + 1) (s_told ?_)
  repeat infer_instance
  refine o_ne (k := true) (show eqD (.str (PySem.PyData.shown (D.int 0).py)) (.str "0") = some true from by decide +kernel) ?_
  repeat infer_instance
  exact ⟨rfl, rfl⟩
theorem l_mid {gg : GG} (hp : IsP m p) (hm : m ≤ 12) (hd : Sq p d) (x2 x6 x7 x8 x9 x10 x11 : Option DV) :
    Wp (evSs tab (callD tab fns (n + 8)) b72m) (fun fl s => fl = .nx ∧ ∃ x3 x4 x5 y6 y7 y8 y9 y10 y11 gg', s = stM ns x2 x3 x4 x5 y6 y7 y8 y9 y10 y11 (some gg')) NX
      (stM ns x2 (some (.p (il p))) (some (.f (.int (mx p (m + 1) : Nat)))) (some (.f d)) x6 x7 x8 x9 x10 x11 (some gg)) := by
  have hlim : (10000 : Nat) < lim := by decide
  have hl := hp.len
  have hmx := mx_le (p := p) (m + 1)
  have hw1 : ∀ {g : G} {Q : DV → G → Prop} {X : Nat → D → G → Prop}, Q (.f (.int (mx p (m + 1) : Nat))) g → Sp tab fns (n + 8) 71 [d] g Q X := fun q => s_width hp hd (by omega) q
  have hw2 : ∀ {g : G} {Q : DV → G → Prop} {X : Nat → D → G → Prop}, Q (.f (.int (mx p (m + 1) : Nat))) g → Sp tab fns (n + 8) 71 [.tup (il (inv p))] g Q X := fun q => s_width (inv_isP hp) (.inl rfl) (by omega) (by rw [mx_inv hp _ (Nat.le_refl _)]; exact q)
  generalize mx p (m + 1) = w at *
  unfold b72m stM
  repeat infer_instance
  rw [il_len, hl]
  refine k_need (rng_ok2 (by omega)) ?_
  rw [rngI_eq]
  refine lc_mapA (fun (j : Nat) => .int (wh p j : Nat)) (by rw [List.length_range]; omega) (fun j hj => ?_) ?_
  · have hj := List.mem_range.mp hj
    repeat infer_instance
    refine r_opt (mb_il (hp.all hj)) ?_
    repeat infer_instance
    exact ⟨rfl, rfl, rfl⟩
  have e : ((List.range m).map fun (j : Nat) => D.int (wh p j : Nat)) = il (inv p) := by
    unfold il inv
    rw [List.map_map, hl]
    rfl
  rw [e]
  generalize inv p = q at *
  repeat infer_instance
  refine c_call (hw1 ?_)
  repeat infer_instance
  have hli : ∀ k, Lay (k + 1) (.int (w : Int)) := fun k => lay_int _
  have hsh : Sh 40 (.int (w : Int)) := sh_int (by omega)
  refine o_repr (hli 10) hsh ?_
  repeat infer_instance
  refine o_repr (hli 10) hsh ?_
  repeat infer_instance
  refine o_neS hsh ?_
  repeat infer_instance
  refine c_call (hw2 ?_)
  repeat infer_instance
  refine o_repr (hli 10) hsh ?_
  repeat infer_instance
  refine o_repr (hli 10) hsh ?_
  repeat infer_instance
  refine o_neS hsh ?_
  repeat infer_instance
  rw [il_len, hl]
  refine c_call (s_any (by decide) (by decide) fun t gg2 ht => ?_)
  repeat infer_instance
  have hall : ∀ x ∈ [D.int ((m : Int) + 1), .int (0 - 1), .non, .bl true, .str "0", .tup [.int 0], .int ((m : Int) + 1 + (t : Int))], NoCut m x := by
    intro x hx
    simp only [List.mem_cons, List.not_mem_nil, or_false] at hx
    rcases hx with rfl | rfl | rfl | rfl | rfl | rfl | rfl
    · exact no_int (by omega)
    · exact no_int (by omega)
    · exact no_other (.inl rfl)
    · exact no_other (.inr ⟨_, rfl⟩)
    · exact no_other (.inl rfl)
    · exact no_other (.inl rfl)
    · exact no_int (by omega)
  generalize hbad : [D.int ((m : Int) + 1), .int (0 - 1), .non, .bl true, .str "0", .tup [.int 0], .int ((m : Int) + 1 + (t : Int))] = bad at hall
  have hbl : bad.length ≤ lim := by rw [← hbad]; show 7 ≤ lim; decide
  refine k_tlen hbl ?_
  repeat infer_instance
  refine l_forI' (fun k s => ∃ y8 y9 y10 y11, s = stM ns x2 (some (.p (il p))) (some (.f (.int (w : Int)))) (some (.f d)) x6 (some (.f (.tup (il q)))) y8 y9 y10 y11 (some gg2)) ?_ ?_ ⟨_, _, _, _, rfl⟩
  · rintro k hk s ⟨y8, y9, y10, y11, rfl⟩
    unfold stM
    repeat infer_instance
    refine wp_post (l_wr (fun q => s_openN hp (.inl rfl) (by omega) (hall _ (List.getElem_mem hk)) q) x2 _ _ x6 _ y9 y10 y11) ?_
    rintro fl s2 ⟨rfl, rfl⟩
    exact ⟨_, _, _, _, rfl⟩
  · rintro s ⟨y8, y9, y10, y11, rfl⟩
    repeat infer_instance
    exact ⟨rfl, _, _, _, _, _, _, _, _, _, _, rfl⟩
def MI (ns : List Int) (s : S) : Prop := ∃ x2 x3 x4 x5 x6 x7 x8 x9 x10 x11 gg, s = stM ns x2 x3 x4 x5 x6 x7 x8 x9 x10 x11 (some gg)
theorem l_turn (x2 x3 x4 x5 x6 x7 x8 x9 x10 x11 : Option DV) (gg : GG) :
    Wp (evSs tab (callD tab fns (n + 8)) b72t) (fun fl s => fl = .nx ∧ MI ns s) NX (stM ns x2 x3 x4 x5 x6 x7 x8 x9 x10 x11 (some gg)) := by
  have hlim : (10000 : Nat) < lim := by decide
  unfold b72t stM
  simp only [List.cons_append, List.nil_append]
  repeat infer_instance
  refine c_call (s_drawn fun m p gg1 hp hm => ?_)
  have hl := hp.len
  repeat infer_instance
  refine c_call (s_of (xs := [.lst (il p), .tup (il p)]) rfl (List.cons_ne_nil _ _) (by show 2 ≤ 1000; decide) fun d gg2 hd => ?_)
  have hd : Sq p d := by
    simp only [List.mem_cons, List.not_mem_nil, or_false] at hd
    exact hd.symm
  repeat infer_instance
  rw [il_len, hl, show ((m : Int) + 1) = ((m + 1 : Nat) : Int) by omega]
  refine k_need (rng_ok2 (by omega)) ?_
  refine l_rng (fun c s => ∃ y6 y9 y10 y11, s = stM ns x2 (some (.p (il p))) (some (.f (.int (mx p c : Nat)))) (some (.f d)) y6 x7 x8 y9 y10 y11 (some gg2)) ?_ ?_ ⟨_, _, _, _, rfl⟩
  · rintro c hc s ⟨y6, y9, y10, y11, rfl⟩
    unfold stM
    iterate 30 nofun
    with_reducible refine wp_post (l_cut hp hm hd (c := c) (w := mx p c) (by omega) x2 x7 x8 y9 y10 y11) ?_
    rintro fl s2 ⟨rfl, z9, z10, z11, rfl⟩
    exact ⟨_, _, _, _, rfl⟩
  · rintro s ⟨y6, y9, y10, y11, rfl⟩
    with_reducible refine k_nx ?_
    with_reducible refine wp_post (l_mid hp hm hd x2 y6 x7 x8 y9 y10 y11) ?_
    rintro fl s2 ⟨rfl, x3, x4, x5, z6, z7, z8, z9, z10, z11, gg', rfl⟩
    exact ⟨rfl, _, _, _, _, _, _, _, _, _, _, _, rfl⟩
theorem s_law : Sp tab fns (n + 9) 72 [.scr ns] none (fun v _ => v = .f (.bl true)) NG := by
  have hf : fns[72]? = some (.body 14 1 b72) := rfl
  with_reducible refine sp_body hf rfl (by decide) ?_
  rw [b72_eq]
  generalize hb : b72t = bb
  iterate 40 nofun
  with_reducible refine c_call (s_draw (by decide) (by decide) ?_)
  iterate 40 nofun
  refine k_need ⟨by decide, by decide⟩ ?_
  refine l_rng (m := 4) (fun _ s => MI ns s) ?_ ?_ ⟨_, _, _, _, _, _, _, _, _, _, _, rfl⟩
  · rintro k hk s ⟨x2, x3, x4, x5, x6, x7, x8, x9, x10, x11, gg, rfl⟩
    unfold stM
    iterate 40 nofun
    rw [← hb]
    with_reducible refine wp_post (l_turn (some (.f (.int (k : Int)))) x3 x4 x5 x6 x7 x8 x9 x10 x11 gg) ?_
    rintro fl s2 ⟨rfl, h2⟩
    exact h2
  · rintro s ⟨x2, x3, x4, x5, x6, x7, x8, x9, x10, x11, gg, rfl⟩
    unfold stM
    iterate 20 nofun
    rfl
theorem plain : ∀ ns : List Int, ns.length ≤ 63 → ∃ s', DI.callD LK.tab LK.fns 25 72 [.scr ns] none = .ok (.f (.bl true)) s' := fun ns _ => by
  obtain ⟨v, g', ⟨r, h⟩, rfl⟩ := sp_ok (s_law (n := 16) (ns := ns))
  exact ⟨_, h⟩
end
end LK

end
theorem PySem.Challenge.cw_endsandround_k22_cuts_and_open_entries_holds : PySem.Challenge.rw_endsandround_k22_cuts_and_open_entries.Holds := by
  exact LK.ends LK.plain
