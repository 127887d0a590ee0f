import PyProof.Rows.All
import Wide.All
import OpenK.AllK
import Wide.FinOn
import KE.KStateDown
import HandS.ForMost
import HandS.Exc
import HandS.TryOnly
import HandS.ExcOwn
import HandS.WordsExc
import HandS.Defaults
import HandS.Deep
import HandS.IsInst
import HandS.TupAny
import HandS.TupLe
import HandS.SortRule
import HandS.TupMul
import HandS.Style
import HandS.Conv
import HandS.DictComp
import HandS.Walk
import HandS.Zip
import HandS.Strs
import HandS.HeadEnd
import HandS.HeadHook4
import HandS.Head2
import HandS.WordsDict
import HandS.TupLen
import HandS.SortInts
import HandS.Small
import PySem.Challenge.RW_stretchwebs_k86_whole_spans_and_breaks
set_option Elab.async false
set_option linter.all false
set_option maxRecDepth 100000
set_option maxHeartbeats 4000000
/-! MiA: a small pure language for the programs at hand: data, results, operations, expressions, statements, and what they evaluate to. -/
namespace Mi
open PySem

/-! ### data -/
inductive D where
  | non | bl (b : Bool) | int (i : Int) | str (s : Str) | tup (ds : List D) | lst (ds : List D) | dct | obj (c : Nat) (fs : List D) | fn (n : Nat)
  /-- the script -/
  | scr (ns : List Int)
  deriving Inhabited

mutual
def D.py : D → PyData
  | .non => .none
  | .bl b => .bool b
  | .int i => .int i
  | .str s => .str s
  | .tup ds => .tuple (D.pys ds)
  | .lst ds => .list (D.pys ds)
  | .dct => .dict []
  | .obj _ _ => .dict []
  | .fn _ => .dict []
  | .scr _ => .dict []
def D.pys : List D → List PyData
  | [] => []
  | d :: ds => D.py d :: D.pys ds
end
/-- Python's == of data -/
def D.eqv (a b : D) : Bool := PyData.eqv a.py b.py
/-- plain data, not too deep -/
def D.ok (a : D) : Bool := PySem.SeqAt.shaped a.py

/-- the longest list -/
abbrev lim : Nat := sizeLine

/-! ### what stands in variables, what expressions give -/
inductive R where
  | d (x : D) | loc (l : Nat) | fl (ds : List D) | fd (t : Bool) (kvs : List (D × D))
  deriving Inhabited
/-- what changes -/
inductive O where
  | lst (ds : List D) | dic (t : Bool) (kvs : List (D × D)) | ins (c : Nat) (fs : List (Str × D))
  deriving Inhabited
abbrev Sto := List O
abbrev Env := List (Option R)

structure Exn where
  c : Nat
  fs : List D

inductive Res (α : Type) where
  | ok (a : α) (S : Sto) | exc (x : Exn) (S : Sto) | bad
def Res.andThen {α β : Type} : Res α → (α → Sto → Res β) → Res β
  | .ok a S, k => k a S
  | .exc x S, _ => .exc x S
  | .bad, _ => .bad
def Res.noExc {α : Type} : Res α → Res α
  | .ok a S => .ok a S
  | _ => .bad
section
variable {α β γ : Type} {a : α} {S : Sto} {x : Exn} {k : α → Sto → Res β}
@[simp] theorem andThen_ok : (Res.ok a S).andThen k = k a S := rfl
@[simp] theorem andThen_exc : (Res.exc x S : Res α).andThen k = .exc x S := rfl
@[simp] theorem andThen_bad : (Res.bad : Res α).andThen k = .bad := rfl
@[simp] theorem noExc_ok : (Res.ok a S).noExc = .ok a S := rfl
@[simp] theorem noExc_exc : (Res.exc x S : Res α).noExc = .bad := rfl
@[simp] theorem noExc_bad : (Res.bad : Res α).noExc = .bad := rfl
end
def guardR {α : Type} (c : Bool) (r : Res α) : Res α := if c = true then r else .bad
def ofO {α : Type} (S : Sto) : Option α → Res α
  | some a => .ok a S
  | none => .bad

def R.frz : R → R
  | .fl ds => .d (.lst ds)
  | .fd false [] => .d .dct
  | r => r
/-- the items of a list (kind true) or a tuple (kind false) -/
def R.seq (S : Sto) : R → Option (Bool × List D)
  | .d (.tup ds) => some (false, ds)
  | .d (.lst ds) => some (true, ds)
  | .fl ds => some (true, ds)
  | .loc l => match S[l]? with
    | some (.lst ds) => some (true, ds)
    | _ => none
  | _ => none
/-- as data -/
def R.dat (S : Sto) : R → Option D
  | .d x => some x
  | .fl ds => some (.lst ds)
  | .loc l => match S[l]? with
    | some (.lst ds) => some (.lst ds)
    | _ => none
  | .fd _ _ => none

/-! ### order -/
mutual
def ltD : D → D → Option Bool
  | .int a, .int b => some (decide (a < b))
  | .str a, .str b => some (decide (a.cps.toList < b.cps.toList))
  | .tup a, .tup b => ltDs a b
  | _, _ => none
def ltDs : List D → List D → Option Bool
  | [], [] => some false
  | [], _ :: _ => some true
  | _ :: _, [] => some false
  | x :: xs, y :: ys => match ltD x y, ltDs xs ys with
    | some b, some r => some (if D.eqv x y = true then r else b)
    | _, _ => none
end
mutual
def leD : D → D → Option Bool
  | .int a, .int b => some (decide (a ≤ b))
  | .tup a, .tup b => leDs a b
  | _, _ => none
def leDs : List D → List D → Option Bool
  | [], [] => some true
  | [], _ :: _ => some true
  | _ :: _, [] => some false
  | x :: xs, y :: ys => match leD x y, leDs xs ys with
    | some b, some r => some (if D.eqv x y = true then r else b)
    | _, _ => none
end
/-- a shape: data of one shape are ordered -/
inductive Sh where
  | i | s | many (t : Sh) | two (a b : Sh) | three (a b c : Sh)
  deriving Inhabited
def Sh.has : Sh → D → Bool
  | .i, .int _ => true
  | .s, .str _ => true
  | .many t, .tup ds => ds.all (Sh.has t)
  | .two a b, .tup [x, y] => Sh.has a x && Sh.has b y
  | .three a b c, .tup [x, y, z] => Sh.has a x && (Sh.has b y && Sh.has c z)
  | _, _ => false
def ltB (x y : D) : Bool := (ltD x y).getD false
def sortD : List D → List D
  | [] => []
  | x :: xs => insF x (sortD xs)
where
  /-- ahead of those that are not below it -/
  insF (x : D) : List D → List D
    | [] => [x]
    | y :: ys => if ltB y x = true then y :: insF x ys else x :: y :: ys
def minD : D → List D → D
  | m, [] => m
  | m, x :: xs => minD (if ltB x m = true then x else m) xs
def maxD : D → List D → D
  | m, [] => m
  | m, x :: xs => maxD (if ltB m x = true then x else m) xs

/-! ### operations -/
inductive BO where
  | add | sub | mul | fdiv | mod | pow
inductive CO where
  | eq | ne | lt | le | gt | ge | is | isnot | isin | notin
/-- built-ins of one argument -/
inductive B1 where
  | len | all | any | tuple | list | int | abs | sum | sorted (h : Sh) | min (h : Sh) | max (h : Sh)
/-- of two ints -/
inductive B2 where
  | min | max
inductive Ty where
  | bool | int | str | tuple | list | dict | cls (n : Nat)
/-- methods without, with one, with two arguments -/
inductive M0 where
  | pop
inductive M1 where
  | append | extend | pop | index | count | remove
inductive M2 where
  | insert

def mulOk (i j : Int) : Bool := decide ((-(2 ^ 64) < i ∧ i < 2 ^ 64) ∨ (-(2 ^ 64) < j ∧ j < 2 ^ 64))
def powOk (i j : Int) : Bool := decide (0 ≤ j ∧ j ≤ 1000000 ∧ i.natAbs < 2 ^ 64)
def divOk (j : Int) : Bool := decide (j ≠ 0 ∧ j.natAbs < 1073741824)
/-- ints -/
def binI : BO → Int → Int → Option Int
  | .add, i, j => some (i + j)
  | .sub, i, j => some (i - j)
  | .mul, i, j => if mulOk i j = true then some (i * j) else none
  | .fdiv, i, j => if divOk j = true then some (i.fdiv j) else none
  | .mod, i, j => if decide (j ≠ 0) = true then some (i.fmod j) else none
  | .pow, i, j => if powOk i j = true then some (i ^ j.toNat) else none
/-- lists, tuples -/
def binS : BO → Bool × List D → Bool × List D → Option R
  | .add, (true, a), (true, b) => if a.length + b.length ≤ lim then some (.fl (a ++ b)) else none
  | .add, (false, a), (false, b) => if a.length + b.length ≤ lim then some (.d (.tup (a ++ b))) else none
  | _, _, _ => none
/-- a list or a tuple, n times -/
def repS (a : Bool × List D) (n : Int) : Option R :=
  match a.1 with
  | true => if -(2 ^ 62) ≤ n ∧ n < 2 ^ 62 ∧ a.2.length * n.toNat ≤ lim then some (.fl (List.replicate n.toNat a.2).flatten) else none
  | false => if a.2 ≠ [] ∧ 2 ≤ n ∧ n ≤ 1000 ∧ a.2.length ≤ 1000 then some (.d (.tup (List.replicate n.toNat a.2).flatten)) else none
def binop (o : BO) (x y : R) (S : Sto) : Res R :=
  match x, y with
  | .d (.int i), .d (.int j) => ofO S ((binI o i j).map fun k => .d (.int k))
  | x, .d (.int j) => (match o, x.seq S with
    | .mul, some a => ofO S (repS a j)
    | _, _ => .bad)
  | x, y => (match x.seq S, y.seq S with
    | some a, some b => ofO S (binS o a b)
    | _, _ => .bad)

def flatK : D → Bool
  | .int _ => true
  | .str _ => true
  | _ => false
def keyB (t : Bool) : D → Bool
  | .int _ => !t
  | .str _ => !t
  | .tup ds => t && ds.all flatK
  | _ => false
def look (k : D) (kvs : List (D × D)) : Option D := (kvs.find? fun p => D.eqv p.1 k).map (·.2)
def put (k v : D) (kvs : List (D × D)) : List (D × D) :=
  if (kvs.any fun p => D.eqv p.1 k) = true then kvs.map (fun p => if D.eqv p.1 k = true then (p.1, v) else p) else kvs ++ [(k, v)]
/-- a dict: its kind, its pairs -/
def R.dic (S : Sto) : R → Option (Bool × List (D × D))
  | .fd t kvs => some (t, kvs)
  | .loc l => match S[l]? with
    | some (.dic t kvs) => some (t, kvs)
    | _ => none
  | _ => none
def isinB (S : Sto) (x : R) (y : R) : Option Bool :=
  match x.dat S with
  | none => none
  | some a => match y.seq S with
    | some (_, ds) => if (a.ok && ds.all D.ok) = true then some (ds.any fun z => D.eqv z a) else none
    | none => match y.dic S with
      | some (t, kvs) => if keyB t a = true then some (look a kvs).isSome else none
      | none => none
def cmpB (o : CO) (x y : R) (S : Sto) : Option Bool :=
  match o with
  | .eq => match x.dat S, y.dat S with
    | some a, some b => if (a.ok && b.ok) = true then some (D.eqv a b) else none
    | _, _ => none
  | .ne => match x.dat S, y.dat S with
    | some a, some b => if (a.ok && b.ok) = true then some (!D.eqv a b) else none
    | _, _ => none
  | .lt => match x, y with
    | .d a, .d b => if (a.ok && b.ok) = true then ltD a b else none
    | _, _ => none
  | .le => match x, y with
    | .d a, .d b => if (a.ok && b.ok) = true then leD a b else none
    | _, _ => none
  | .gt => match x, y with
    | .d (.int a), .d (.int b) => some (decide (b < a))
    | _, _ => none
  | .ge => match x, y with
    | .d (.int a), .d (.int b) => some (decide (b ≤ a))
    | _, _ => none
  | .is => match y with
    | .d .non => (match x with
      | .d .non => some true
      | _ => some false)
    | .d (.bl b) => (match x with
      | .d (.bl a) => some (a == b)
      | _ => none)
    | _ => none
  | .isnot => match y with
    | .d .non => (match x with
      | .d .non => some false
      | _ => some true)
    | .d (.bl b) => (match x with
      | .d (.bl a) => some (!(a == b))
      | _ => none)
    | _ => none
  | .isin => isinB S x y
  | .notin => (isinB S x y).map (!·)
def cmpop (o : CO) (x y : R) (S : Sto) : Res R := ofO S ((cmpB o x y S).map fun b => .d (.bl b))

/-- not an empty tuple -/
def neT : D → Bool
  | .tup [] => false
  | _ => true
def allBl : List D → Option (List Bool)
  | [] => some []
  | .bl b :: r => (allBl r).map (b :: ·)
  | _ :: _ => none
def allInt : List D → Option (List Int)
  | [] => some []
  | .int b :: r => (allInt r).map (b :: ·)
  | _ :: _ => none
def lenR (x : R) (S : Sto) : Option Nat :=
  match x.seq S with
  | some (_, ds) => some ds.length
  | none => match x.dic S with
    | some (_, kvs) => some kvs.length
    | none => match x with
      | .d (.str z) => if z.length ≤ lim then some z.length else none
      | .d .dct => some 0
      | _ => none
def b1op (b : B1) (x : R) (S : Sto) : Res R :=
  match b with
  | .len => ofO S ((lenR x S).map fun n => .d (.int n))
  | .all => ofO S ((x.seq S).bind fun p => (allBl p.2).bind fun bs => if p.1 = true then some (.d (.bl (bs.all id))) else none)
  | .any => ofO S ((x.seq S).bind fun p => (allBl p.2).bind fun bs => if p.1 = true then some (.d (.bl (bs.any id))) else none)
  | .tuple => ofO S ((x.seq S).map fun p => .d (.tup p.2))
  | .list => ofO S ((x.seq S).map fun p => .fl p.2)
  | .int => match x with
    | .d (.int i) => .ok (.d (.int i)) S
    | _ => .bad
  | .abs => match x with
    | .d (.int i) => .ok (.d (.int (if i < 0 then -i else i))) S
    | _ => .bad
  | .sum => ofO S ((x.seq S).bind fun p => (allInt p.2).bind fun bs => if p.1 = true then some (.d (.int bs.sum)) else none)
  | .sorted h => ofO S ((x.seq S).bind fun p => if ((p.2.all fun z => h.has z && z.ok) && (decide (p.2.length < 2) || p.2.all neT)) = true then some (.fl (sortD p.2)) else none)
  | .min h => ofO S ((x.seq S).bind fun p => if (p.2.all fun z => h.has z && z.ok) = true then (match p.2 with
    | [] => none
    | m :: r => some (.d (minD m r))) else none)
  | .max h => ofO S ((x.seq S).bind fun p => if (p.2.all fun z => h.has z && z.ok) = true then (match p.2 with
    | [] => none
    | m :: r => some (.d (maxD m r))) else none)
def b2op (b : B2) (x y : R) (S : Sto) : Res R :=
  match x, y with
  | .d (.int i), .d (.int j) => .ok (.d (.int (match b with
    | .min => if j < i then j else i
    | .max => if j > i then j else i))) S
  | _, _ => .bad
def isTy (t : Ty) (x : R) (S : Sto) : Option Bool :=
  match x with
  | .loc l => (match S[l]?, t with
    | some (.lst _), .list => some true
    | some (.dic _ _), .dict => some true
    | some (.lst _), .cls _ => none
    | some (.dic _ _), .cls _ => none
    | some (.lst _), _ => some false
    | some (.dic _ _), _ => some false
    | some (.ins c _), .cls n => if c = n then some true else none
    | some (.ins _ _), _ => some false
    | none, _ => none)
  | .d x => (match x, t with
    | .bl _, .bool => some true
    | .bl _, .int => some true
    | .int _, .int => some true
    | .str _, .str => some true
    | .tup _, .tuple => some true
    | .lst _, .list => some true
    | .dct, .dict => some true
    | .obj c _, .cls n => if c = n then some true else none
    | .fn _, _ => none
    | .scr _, _ => none
    | _, _ => some false)
  | _ => none

/-- the place that an index of any sign means -/
def ixD (ds : List D) (i : Int) : Option D := L2.atI ds i
def ixop (x i : R) (S : Sto) : Res R :=
  match x.seq S with
  | some (_, ds) => (match i with
    | .d (.int k) => ofO S ((ixD ds k).map R.d)
    | _ => .bad)
  | none => match x.dic S, i with
    | some (t, kvs), .d k => if keyB t k = true then ofO S ((look k kvs).map R.d) else .bad
    | _, _ => .bad
def cutD (ds : List D) (lo hi : Option Int) : List D := (ds.drop (HT.sIx ds.length 0 lo)).take (HT.sIx ds.length ds.length hi - HT.sIx ds.length 0 lo)
end Mi

set_option Elab.async false
set_option linter.all false
set_option maxRecDepth 100000
set_option maxHeartbeats 4000000
/-! MiB: expressions, statements, what they evaluate to. -/
namespace Mi
open PySem

/-- targets of loops and of unpacking -/
inductive Tg where
  | nm (i : Nat) | two (a b : Tg) | three (a b c : Tg) | four (a b c d : Tg)

mutual
inductive E where
  | var (i : Nat)
  | lit (d : D)
  | glb (x : Str) (d : D)
  | tup (es : Es)
  | lst (es : Es)
  | dic0 (t : Bool)
  | bin (o : BO) (a b : E)
  | neg (a : E)
  | not (a : E)
  | cmp (o : CO) (a b : E)
  | chn (o o' : CO) (a b c : E)
  | and (a b : E)
  | or (a b : E)
  | ite (c a b : E)
  | call (n : Nat) (es : Es)
  | dyn (i : Nat) (es : Es)
  | b1 (b : B1) (a : E)
  | b2 (b : B2) (a b : E)
  | lrng (a b : E)
  | trng (a b : E)
  | isi (a : E) (t : Ty)
  | isi2 (a : E) (t u : Ty)
  | m0 (m : M0) (o : E)
  | m1 (m : M1) (o a : E)
  | m2 (m : M2) (o a b : E)
  | ix (a i : E)
  | sl (a lo hi : E)
  | rev (a : E)
  | fld (a : E) (n : Nat) (f : Str)
  | lc1 (own : List Nat) (elt : E) (tg : Tg) (it : It) (c : E)
  | lc2 (own own2 : List Nat) (elt : E) (tg : Tg) (it : It) (c : E) (tg2 : Tg) (it2 : It) (c2 : E)
  | dc1 (own : List Nat) (t : Bool) (k v : E) (tg : Tg) (it : It) (c : E)
inductive Es where
  | nil | cons (e : E) (es : Es)
inductive It where
  | seq (e : E) | rng (a b : E) | enum (e : E) | zip (a b : E)
end

/-- what may change while it is walked: the list at a place, its items with their numbers, two sequences side by side -/
inductive Dyn where
  | lst (l : Nat) | en (l : Nat) | zp (x y : R)
/-- where a loop walks -/
inductive Src where
  | fix (ds : List D) | dyn (k : Dyn)

def Env.get (δ : Env) (i : Nat) : Option R := (δ[i]?).join
def wipeE (δ : Env) : List Nat → Env
  | [] => δ
  | v :: vs => (wipeE δ vs).set v none
def D.two : D → Option (D × D)
  | .tup [x, y] => some (x, y)
  | _ => none
def D.three : D → Option (D × D × D)
  | .tup [x, y, z] => some (x, y, z)
  | _ => none
def D.four : D → Option (D × D × D × D)
  | .tup [x, y, z, u] => some (x, y, z, u)
  | _ => none
theorem D.two_inv {d x y : D} (h : d.two = some (x, y)) : d = .tup [x, y] := by
  unfold D.two at h
  split at h
  · cases h; rfl
  · cases h
theorem D.three_inv {d x y z : D} (h : d.three = some (x, y, z)) : d = .tup [x, y, z] := by
  unfold D.three at h
  split at h
  · cases h; rfl
  · cases h
theorem D.four_inv {d x y z u : D} (h : d.four = some (x, y, z, u)) : d = .tup [x, y, z, u] := by
  unfold D.four at h
  split at h
  · cases h; rfl
  · cases h
def Tg.set : Tg → D → Env → Option Env
  | .nm i => fun x δ => some (δ.set i (some (.d x)))
  | .two a b => fun x δ => match x.two with
    | some (y, z) => (a.set y δ).bind (b.set z)
    | none => none
  | .three a b c => fun x δ => match x.three with
    | some (y, z, u) => ((a.set y δ).bind (b.set z)).bind (c.set u)
    | none => none
  | .four a b c d => fun x δ => match x.four with
    | some (y, z, u, v) => (((a.set y δ).bind (b.set z)).bind (c.set u)).bind (d.set v)
    | none => none
def rngD (lo : Int) (n : Nat) : List D := (List.range n).map fun i => .int (lo + (i : Nat))
def small62 (i : Int) : Bool := decide (-(2 ^ 62) ≤ i ∧ i < 2 ^ 62)
def R.int : R → Option Int
  | .d (.int i) => some i
  | _ => none
/-- two ints -/
def twoI (a b : R) (S : Sto) : Res (Int × Int) := match a.int, b.int with
  | some i, some j => .ok (i, j) S
  | _, _ => .bad
def rngS (a b : R) (S : Sto) : Res (List D) := (twoI a b S).andThen fun p S => if (small62 p.1 && small62 p.2) = true then .ok (rngD p.1 (p.2 - p.1).toNat) S else .bad
def enumD (ds : List D) : List D := ((List.range ds.length).zip ds).map fun p => .tup [.int (p.1 : Nat), p.2]
def zipD (xs ys : List D) : List D := (xs.zip ys).map fun p => .tup [p.1, p.2]
def stoL (S : Sto) (l : Nat) : Option (List D) := match S[l]? with
  | some (.lst ds) => some ds
  | _ => none
/-- the items as they stand -/
def Dyn.items (S : Sto) : Dyn → Option (List D)
  | .lst l => stoL S l
  | .en l => (stoL S l).map enumD
  | .zp x y => (x.seq S).bind fun a => (y.seq S).bind fun b => if (a.1 == b.1) = true then some (zipD a.2 b.2) else none
/-- at turn i -/
def Src.at? (s : Src) (S : Sto) (i : Nat) : Option D := match s with
  | .fix ds => ds[i]?
  | .dyn k => (k.items S).bind fun ds => ds[i]?
/-- it is there -/
def Src.here (s : Src) (S : Sto) : Bool := match s with
  | .fix _ => true
  | .dyn k => (k.items S).isSome
def Src.len (s : Src) (S : Sto) : Nat := match s with
  | .fix ds => ds.length
  | .dyn k => ((k.items S).getD []).length
def zipop (x y : R) (S : Sto) : Res Src := match x, y with
  | .d (.tup xs), .d (.tup ys) => .ok (.fix (zipD xs ys)) S
  | .d (.lst xs), .d (.lst ys) => .ok (.fix (zipD xs ys)) S
  | x, y => if (Dyn.items S (.zp x y)).isSome = true then .ok (.dyn (.zp x y)) S else .bad
def srcOf (r : R) (S : Sto) : Res Src := match r with
  | .d (.tup ds) => .ok (.fix ds) S
  | .d (.lst ds) => .ok (.fix ds) S
  | .fl ds => .ok (.fix ds) S
  | .loc l => match S[l]? with
    | some (.lst _) => .ok (.dyn (.lst l)) S
    | _ => .bad
  | _ => .bad

/-- what calls of defs give -/
abbrev Phi := Nat → List R → Sto → Res R

/-- a walk from turn i on, at most n turns: α is carried -/
def walkN {α : Type} (s : Src) (f : D → α → Sto → Res α) : Nat → Nat → α → Sto → Res α
  | 0, i, a, S => if s.here S = true ∧ s.at? S i = none then .ok a S else .bad
  | n + 1, i, a, S => if s.here S = true then (match s.at? S i with
    | some x => (f x a S).andThen fun a' S' => walkN s f n (i + 1) a' S'
    | none => .ok a S) else .bad
/-- over fixed items -/
def walkD {α : Type} (f : D → α → Sto → Res α) : List D → α → Sto → Res α
  | [], a, S => .ok a S
  | x :: xs, a, S => (f x a S).andThen fun a' S' => walkD f xs a' S'
def walk {α : Type} (s : Src) (f : D → α → Sto → Res α) (a : α) (S : Sto) : Res α := match s with
  | .fix ds => walkD f ds a S
  | .dyn k => walkN (.dyn k) f ((Src.dyn k).len S) 0 a S

def toD (r : R) (S : Sto) : Res D := match r.frz with
  | .d x => .ok x S
  | _ => .bad
def toB (r : R) (S : Sto) : Res Bool := match r with
  | .d (.bl b) => .ok b S
  | _ => .bad
/-- an argument: data, or a place -/
def toA (r : R) (S : Sto) : Res R := match r.frz with
  | .d x => .ok (.d x) S
  | .loc l => .ok (.loc l) S
  | _ => .bad
/-- a part of a slice -/
def toP (r : R) (S : Sto) : Res (Option Int) := match r with
  | .d .non => .ok none S
  | .d (.int i) => .ok (some i) S
  | _ => .bad

/-- what a method is called of: a list, a tuple, a dict -/
inductive RK where
  | lst | tup | dic
def R.kind (S : Sto) (x : R) : Option RK := match x.seq S with
  | some (true, _) => some .lst
  | some (false, _) => some .tup
  | none => match x.dic S with
    | some _ => some .dic
    | none => none
def m0ok : M0 → RK → Bool
  | .pop, .lst => true
  | _, _ => false
def m1ok (z : Bool) : M1 → RK → Bool
  | .append, .lst => true
  | .extend, .lst => true
  | .pop, .lst => true
  | .index, .lst => true
  | .index, .tup => z
  | _, _ => false
def m2ok : M2 → RK → Bool
  | _, _ => false
def m0op (k : RK) (m : M0) (o : R) (S : Sto) : Res R := match k, m, o with
  | .lst, .pop, .loc l => (match stoL S l with
    | some ds => (match ds.getLast? with
      | some x => .ok (.d x) (S.set l (.lst ds.dropLast))
      | none => .bad)
    | none => .bad)
  | _, _, _ => .bad
/-- the place of the first that is equal -/
def indexO (x : D) (ds : List D) : Option Nat := ds.findIdx? fun z => D.eqv z x
def m1op (z : Bool) (k : RK) (m : M1) (o x : R) (S : Sto) : Res R := match m, o with
  | .append, .loc l => (match stoL S l, x with
    | some ds, .d y => if ds.length < lim then .ok (.d .non) (S.set l (.lst (ds ++ [y]))) else .bad
    | _, _ => .bad)
  | .extend, .loc l => (match stoL S l, x with
    | some ds, .d (.lst es) => if ds.length + es.length ≤ lim then .ok (.d .non) (S.set l (.lst (ds ++ es))) else .bad
    | _, _ => .bad)
  | .pop, .loc l => (match stoL S l, x with
    | some ds, .d (.int i) => (match L2.ixN ds.length i with
      | some j => (match ds[j]? with
        | some y => .ok (.d y) (S.set l (.lst (ds.eraseIdx j)))
        | none => .bad)
      | none => .bad)
    | _, _ => .bad)
  | .index, o => (match k, o.seq S, x with
    | .lst, some (true, ds), .d y => if (y.ok && (D.lst ds).ok) = true then ofO S ((indexO y ds).map fun j => .d (.int j)) else .bad
    | .tup, some (false, ds), .d y => if (y.ok && (z && (D.tup ds).ok)) = true then ofO S ((indexO y ds).map fun j => .d (.int j)) else .bad
    | _, _, _ => .bad)
  | _, _ => .bad
def m2op (k : RK) (m : M2) (o x y : R) (S : Sto) : Res R := .bad
def slop (x : R) (lo hi : Option Int) (S : Sto) : Res R := match x with
  | .d (.scr ns) => .ok (.fl (cutD (ns.map D.int) lo hi)) S
  | x => (match x.seq S with
    | some (true, ds) => .ok (.fl (cutD ds lo hi)) S
    | some (false, ds) => .ok (.d (.tup (cutD ds lo hi))) S
    | none => .bad)
def revop (x : R) (S : Sto) : Res R := match x.seq S with
  | some (true, ds) => .ok (.fl ds.reverse) S
  | some (false, ds) => .ok (.d (.tup ds.reverse)) S
  | none => .bad
/-- the names of a class's fields -/
abbrev Cl := Nat → List Str
def fldop (cl : Cl) (x : R) (n : Nat) (f : Str) (S : Sto) : Res R := match x with
  | .d (.obj c fs) => if c = n then ofO S (((cl c).zip fs).lookup f |>.map R.d) else .bad
  | .loc l => (match S[l]? with
    | some (.ins c fs) => if c = n then ofO S ((fs.lookup f).map R.d) else .bad
    | _ => .bad)
  | _ => .bad

section
variable (z : Bool) (cl : Cl) (Φ : Phi)
mutual
def ev : E → Env → Sto → Res R
  | .var i => fun δ S => ofO S (δ.get i)
  | .lit d => fun _ S => .ok (.d d) S
  | .glb _ d => fun _ S => .ok (.d d) S
  | .tup es => fun δ S => (evs es δ S).andThen fun ds S => .ok (.d (.tup ds)) S
  | .lst es => fun δ S => (evs es δ S).andThen fun ds S => .ok (.fl ds) S
  | .dic0 t => fun _ S => if (z && t) = true then .bad else .ok (.fd t []) S
  | .bin o a b => fun δ S => (ev a δ S).andThen fun x S => (toA x S).andThen fun x S => (ev b δ S).andThen fun y S => (toA y S).andThen fun y S => binop o x y S
  | .neg a => fun δ S => (ev a δ S).andThen fun x S => match x with
    | .d (.int i) => .ok (.d (.int (-i))) S
    | _ => .bad
  | .not a => fun δ S => (ev a δ S).andThen fun x S => (toB x S).andThen fun b S => .ok (.d (.bl (!b))) S
  | .cmp o a b => fun δ S => (ev a δ S).andThen fun x S => (toA x S).andThen fun x S => (ev b δ S).andThen fun y S => (toA y S).andThen fun y S => cmpop o x y S
  | .chn o o' a b c => fun δ S => (ev a δ S).andThen fun x S => (toA x S).andThen fun x S => (ev b δ S).andThen fun y S => (toA y S).andThen fun y S => (cmpop o x y S).andThen fun r S => (toB r S).andThen fun k S =>
      if k = true then (ev c δ S).andThen fun z S => (toA z S).andThen fun z S => cmpop o' y z S else .ok (.d (.bl false)) S
  | .and a b => fun δ S => (ev a δ S).andThen fun x S => (toB x S).andThen fun k S => if k = true then ev b δ S else .ok (.d (.bl false)) S
  | .or a b => fun δ S => (ev a δ S).andThen fun x S => (toB x S).andThen fun k S => if k = true then .ok (.d (.bl true)) S else ev b δ S
  | .ite c a b => fun δ S => (ev c δ S).andThen fun x S => (toB x S).andThen fun k S => if k = true then ev a δ S else ev b δ S
  | .call n es => fun δ S => (eva es δ S).andThen fun rs S => Φ n rs S
  | .dyn i es => fun δ S => match δ.get i with
    | some (.d (.fn n)) => (eva es δ S).andThen fun rs S => Φ n rs S
    | _ => .bad
  | .b1 b a => fun δ S => (ev a δ S).andThen fun x S => b1op b x S
  | .b2 o a b => fun δ S => (ev a δ S).andThen fun x S => (toA x S).andThen fun x S => (ev b δ S).andThen fun y S => (toA y S).andThen fun y S => b2op o x y S
  | .lrng a b => fun δ S => (ev a δ S).andThen fun x S => (ev b δ S).andThen fun y S => (rngS x y S).andThen fun ds S => if ds.length ≤ lim then .ok (.fl ds) S else .bad
  | .trng a b => fun δ S => (ev a δ S).andThen fun x S => (ev b δ S).andThen fun y S => (rngS x y S).andThen fun ds S => if ds.length ≤ lim then .ok (.d (.tup ds)) S else .bad
  | .isi a t => fun δ S => (ev a δ S).andThen fun x S => (toA x S).andThen fun x S => ofO S ((isTy t x S).map fun b => .d (.bl b))
  | .isi2 a t u => fun δ S => (ev a δ S).andThen fun x S => (toA x S).andThen fun x S => ofO S ((isTy t x S).bind fun b => (isTy u x S).map fun c => .d (.bl (b || c)))
  | .m0 m o => fun δ S => (ev o δ S).andThen fun x S => (toA x S).andThen fun x S => match x.kind S with
    | some k => if m0ok m k = true then m0op k m x S else .bad
    | none => .bad
  | .m1 m o a => fun δ S => (ev o δ S).andThen fun x S => (toA x S).andThen fun x S => match x.kind S with
    | some k => if m1ok z m k = true then (ev a δ S).andThen fun y S => (toA y S).andThen fun y S => m1op z k m x y S else .bad
    | none => .bad
  | .m2 m o a b => fun δ S => (ev o δ S).andThen fun x S => (toA x S).andThen fun x S => match x.kind S with
    | some k => if m2ok m k = true then (ev a δ S).andThen fun y S => (toA y S).andThen fun y S => (ev b δ S).andThen fun z S => (toA z S).andThen fun z S => m2op k m x y z S else .bad
    | none => .bad
  | .ix a i => fun δ S => (ev a δ S).andThen fun x S => (toA x S).andThen fun x S => (ev i δ S).andThen fun y S => (toA y S).andThen fun y S => ixop x y S
  | .sl a lo hi => fun δ S => (ev a δ S).andThen fun x S => (toA x S).andThen fun x S => (ev lo δ S).andThen fun y S => (toP y S).andThen fun l S => (ev hi δ S).andThen fun z S => (toP z S).andThen fun h S => slop x l h S
  | .rev a => fun δ S => (ev a δ S).andThen fun x S => (toA x S).andThen fun x S => revop x S
  | .fld a n f => fun δ S => (ev a δ S).andThen fun x S => (toA x S).andThen fun x S => fldop cl x n f S
  | .lc1 own elt tg it c => fun δ S => (evI it δ S).andThen fun src S => (walk src (fun x acc S => match tg.set x (wipeE δ own) with
      | none => .bad
      | some δ' => (ev c δ' S).andThen fun k S => (toB k S).andThen fun k S => if k = true then (ev elt δ' S).andThen fun y S => (toD y S).andThen fun y S => .ok (acc ++ [y]) S else .ok acc S) [] S).noExc.andThen fun ds S => if ds.length ≤ lim then .ok (.fl ds) S else .bad
  | .lc2 own own2 elt tg it c tg2 it2 c2 => fun δ S => (evI it δ S).andThen fun src S => (walk src (fun x acc S => match tg.set x (wipeE δ own) with
      | none => .bad
      | some δ' => (ev c δ' S).andThen fun k S => (toB k S).andThen fun k S => if k = true then (evI it2 δ' S).andThen fun src2 S => walk src2 (fun x acc S => match tg2.set x (wipeE δ' own2) with
        | none => .bad
        | some δ' => (ev c2 δ' S).andThen fun k S => (toB k S).andThen fun k S => if k = true then (ev elt δ' S).andThen fun y S => (toD y S).andThen fun y S => (.ok (acc ++ [y]) S) else .ok acc S) acc S
        else .ok acc S) [] S).noExc.andThen fun ds S => if ds.length ≤ lim then .ok (.fl ds) S else .bad
  | .dc1 own t kE vE tg it c => fun δ S => (evI it δ S).andThen fun src S => (walk src (fun x acc S => match tg.set x (wipeE δ own) with
      | none => .bad
      | some δ' => (ev c δ' S).andThen fun k S => (toB k S).andThen fun k S => if k = true then (ev kE δ' S).andThen fun a S => (toD a S).andThen fun a S => (ev vE δ' S).andThen fun y S => (toD y S).andThen fun y S =>
        if (keyB t a && !(z && t)) = true then .ok (put a y acc) S else .bad else .ok acc S) [] S).noExc.andThen fun kvs S => if kvs.length < lim then .ok (.fd t kvs) S else .bad
def evs : Es → Env → Sto → Res (List D)
  | .nil => fun _ S => .ok [] S
  | .cons e es => fun δ S => (ev e δ S).andThen fun x S => (toD x S).andThen fun x S => (evs es δ S).andThen fun xs S => .ok (x :: xs) S
def eva : Es → Env → Sto → Res (List R)
  | .nil => fun _ S => .ok [] S
  | .cons e es => fun δ S => (ev e δ S).andThen fun x S => (toA x S).andThen fun x S => (eva es δ S).andThen fun xs S => .ok (x :: xs) S
def evI : It → Env → Sto → Res Src
  | .seq e => fun δ S => (ev e δ S).andThen fun x S => (toA x S).andThen fun x S => srcOf x S
  | .rng a b => fun δ S => (ev a δ S).andThen fun x S => (ev b δ S).andThen fun y S => (rngS x y S).andThen fun ds S => .ok (.fix ds) S
  | .enum e => fun δ S => (ev e δ S).andThen fun x S => (toA x S).andThen fun x S => match x with
    | .d (.tup ds) => .ok (.fix (enumD ds)) S
    | .d (.lst ds) => .ok (.fix (enumD ds)) S
    | .loc l => if (stoL S l).isSome = true then .ok (.dyn (.en l)) S else .bad
    | _ => .bad
  | .zip a b => fun δ S => (ev a δ S).andThen fun x S => (toA x S).andThen fun x S => (ev b δ S).andThen fun y S => (toA y S).andThen fun y S => zipop x y S
end
end

/-! ### statements -/
mutual
inductive St where
  | asg (i : Nat) (box : Bool) (e : E)
  | unp (tg : Tg) (e : E)
  | par (xs : List (Nat × Bool)) (es : Es)
  | setix (o i e : E)
  | aug (i : Nat) (o : BO) (e : E)
  | ex (e : E)
  | ret (e : E)
  | iff (c : E) (a b : Sts)
  | whl (c : E) (b : Sts)
  | for (tg : Tg) (it : It) (b : Sts)
  | rse
  | pass
inductive Sts where
  | nil | cons (s : St) (ss : Sts)
end
inductive Fl where
  | next (δ : Env) | ret (r : R)

/-- a value on its way to a name: as it is, or as a new place -/
def boxR (box : Bool) (r : R) (S : Sto) : Res R :=
  match box, r with
  | true, .fl ds => .ok (.loc S.length) (S ++ [.lst ds])
  | true, .fd t kvs => .ok (.loc S.length) (S ++ [.dic t kvs])
  | true, .loc l => .ok (.loc l) S
  | true, _ => .bad
  | false, r => toA r S
def bindR (i : Nat) (box : Bool) (r : R) (δ : Env) (S : Sto) : Res Env := (boxR box r S).andThen fun a S => .ok (δ.set i (some a)) S
def setop (o i v : R) (S : Sto) : Res Unit := match o with
  | .loc l => (match S[l]?, v with
    | some (.lst ds), .d y => (match i with
      | .d (.int k) => (match L2.ixN ds.length k with
        | some j => .ok () (S.set l (.lst (ds.set j y)))
        | none => .bad)
      | _ => .bad)
    | some (.dic t kvs), .d y => (match i with
      | .d k => if keyB t k = true ∧ kvs.length < lim then .ok () (S.set l (.dic t (put k y kvs))) else .bad
      | _ => .bad)
    | _, _ => .bad)
  | _ => .bad
def augF : BO → Option (Int → Int → Int)
  | .add => some fun x y => x + y
  | .sub => some fun x y => x - y
  | _ => none
def whileN (c : Env → Sto → Res Bool) (b : Env → Sto → Res Fl) : Nat → Env → Sto → Res Fl
  | 0, _, _ => .bad
  | n + 1, δ, S => (c δ S).andThen fun k S => if k = true then (b δ S).andThen fun f S => match f with
    | .next δ => whileN c b n δ S
    | .ret r => .ok (.ret r) S else .ok (.next δ) S
/-- a walk whose turns may return -/
def forF (f : D → Env → Sto → Res Fl) (x : D) (a : Fl) (S : Sto) : Res Fl := match a with
  | .next δ => f x δ S
  | .ret r => .ok (.ret r) S
/-- over fixed items -/
def forD (f : D → Env → Sto → Res Fl) : List D → Env → Sto → Res Fl
  | [], δ, S => .ok (.next δ) S
  | x :: xs, δ, S => (f x δ S).andThen fun a S => match a with
    | .next δ => forD f xs δ S
    | .ret r => .ok (.ret r) S
def forN (s : Src) (f : D → Env → Sto → Res Fl) : Nat → Nat → Env → Sto → Res Fl
  | 0, i, δ, S => if s.here S = true ∧ s.at? S i = none then .ok (.next δ) S else .bad
  | n + 1, i, δ, S => if s.here S = true then (match s.at? S i with
    | some x => (f x δ S).andThen fun a S => (match a with
      | .next δ => forN s f n (i + 1) δ S
      | .ret r => .ok (.ret r) S)
    | none => .ok (.next δ) S) else .bad
def forS (s : Src) (f : D → Env → Sto → Res Fl) (δ : Env) (S : Sto) : Res Fl := match s with
  | .fix ds => forD f ds δ S
  | .dyn k => forN (.dyn k) f ((Src.dyn k).len S) 0 δ S
/-- the most turns of a while -/
def most : Nat := 1000000000

section
variable (z : Bool) (cl : Cl) (Φ : Phi)
/-- several values, each put where it is to go -/
def evp : List (Nat × Bool) → Es → Env → Sto → Res (List R)
  | [], .nil, _, S => .ok [] S
  | (_, b) :: xs, .cons e es, δ, S => (ev z cl Φ e δ S).andThen fun r S => (boxR b r S).andThen fun a S => (evp xs es δ S).andThen fun as S => .ok (a :: as) S
  | _, _, _, _ => .bad
def setAll : List (Nat × Bool) → List R → Env → Env
  | (i, _) :: xs, r :: rs, δ => setAll xs rs (δ.set i (some r))
  | _, _, δ => δ
mutual
def exec : St → Env → Sto → Res Fl
  | .asg i box e => fun δ S => (ev z cl Φ e δ S).andThen fun r S => (bindR i box r δ S).andThen fun δ S => .ok (.next δ) S
  | .unp tg e => fun δ S => (ev z cl Φ e δ S).andThen fun r S => match r with
    | .d x => (match tg.set x δ with
      | some δ => .ok (.next δ) S
      | none => .bad)
    | _ => .bad
  | .par xs es => fun δ S => (evp z cl Φ xs es δ S).andThen fun as S => .ok (.next (setAll xs as δ)) S
  | .setix o i e => fun δ S => (ev z cl Φ e δ S).andThen fun v S => (toA v S).andThen fun v S => (ev z cl Φ o δ S).andThen fun o S => (toA o S).andThen fun o S => (ev z cl Φ i δ S).andThen fun i S => (toA i S).andThen fun i S =>
      (setop o i v S).andThen fun _ S => .ok (.next δ) S
  | .aug i o e => fun δ S => match augF o, δ.get i with
    | some f, some (.d (.int x)) => (ev z cl Φ e δ S).andThen fun y S => (match y.int with
      | some y => .ok (.next (δ.set i (some (.d (.int (f x y)))))) S
      | none => .bad)
    | _, _ => .bad
  | .ex e => fun δ S => (ev z cl Φ e δ S).andThen fun _ S => .ok (.next δ) S
  | .ret e => fun δ S => (ev z cl Φ e δ S).andThen fun r S => .ok (.ret r) S
  | .iff c a b => fun δ S => (ev z cl Φ c δ S).andThen fun x S => (toB x S).andThen fun k S => if k = true then execs a δ S else execs b δ S
  | .whl c b => fun δ S => whileN (fun δ S => (ev z cl Φ c δ S).andThen fun x S => toB x S) (execs b) most δ S
  | .for tg it b => fun δ S => (evI z cl Φ it δ S).andThen fun src S => forS src (fun x δ S => match tg.set x δ with
      | some δ => execs b δ S
      | none => .bad) δ S
  | .rse => fun _ _ => .bad
  | .pass => fun δ S => .ok (.next δ) S
def execs : Sts → Env → Sto → Res Fl
  | .nil => fun δ S => .ok (.next δ) S
  | .cons s ss => fun δ S => (exec s δ S).andThen fun f S => match f with
    | .next δ => execs ss δ S
    | .ret r => .ok (.ret r) S
end
/-- what is handed back, the def's own places gone -/
def backR (r : R) (n : Nat) (S : Sto) : Res R := match r with
  | .loc l => if l < n then .ok (.loc l) (S.take n) else (match S[l]? with
    | some (.lst ds) => .ok (.fl ds) (S.take n)
    | some (.dic t kvs) => .ok (.fd t kvs) (S.take n)
    | _ => .bad)
  | r => .ok r (S.take n)
/-- a def called: m slots in all, p parameters -/
def callF (m p : Nat) (b : Sts) (rs : List R) (S : Sto) : Res R :=
  if rs.length = p then
    match execs z cl Φ b (rs.map some ++ List.replicate (m - p) none) S with
    | .ok (.next _) S' => .ok (.d .non) (S'.take S.length)
    | .ok (.ret r) S' => backR r S.length S'
    | .exc x S' => .exc x (S'.take S.length)
    | .bad => .bad
  else .bad
end
end Mi

set_option Elab.async false
set_option linter.all false
set_option maxRecDepth 100000
set_option maxHeartbeats 4000000
/-! MiC: how data lie in the heap; the world of a run; what a reading of an expression is. -/
namespace Mi
open PySem PySem.Spec PyProof.Rows L2

/-- where the text's defs and classes stand; the fields of its classes -/
structure Tb where
  fa : Nat → Addr
  cl : Cl
  z : Bool
  /-- which of them are classes whose instances are data -/
  cs : List Nat
/-- what is told of a tuple: its items alone, or its object too -/
def TupO (z : Bool) (o : HO) (xs : List V) : Prop := (z = false ∧ o = .tup xs) ∨ (z = true ∧ ∃ ob : Obj, ob.dict = none ∧ o = .frz ob (.tup xs))
theorem TupO.rd {z : Bool} {o : HO} {xs : List V} {H : Hp} {a : Addr} (t : TupO z o xs) (h : H a = some o) : Rd H a (.tup xs) := by
  rcases t with ⟨_, rfl⟩ | ⟨_, ob, _, rfl⟩
  · exact .inl h
  · exact .inr ⟨ob, h⟩

/-- the frozen, the locked, the places -/
structure Wd where
  F : Hp
  L : Hp
  μ : List Addr
abbrev Wd.wF (W : Wd) (F : Hp) : Wd := ⟨F, W.L, W.μ⟩

section
variable (K : PySem.W.Frag) (T : Tb) (F : Hp)
mutual
inductive Rp : V → D → Prop
  | non : Rp .non .non
  | bl (b : Bool) : Rp (.bl b) (.bl b)
  | int (i : Int) : Rp (.int i) (.int i)
  | str (x : Str) : Rp (.str x) (.str x)
  | tup {a : Addr} {o : HO} {xs : List V} {ds : List D} : TupO T.z o xs → F a = some o → Rps xs ds → Rp (.ref a) (.tup ds)
  | lst {a : Addr} {xs : List V} {ds : List D} : F a = some (.lst xs) → Rps xs ds → Rp (.ref a) (.lst ds)
  | dct {a : Addr} : F a = some (.dK []) → Rp (.ref a) .dct
  | obj {a dx : Addr} {c : Nat} {xs : List V} {ds : List D} : c ∈ T.cs → F a = some (.ins (T.fa c) dx ((T.cl c).zip xs)) → (T.cl c).length = xs.length → Rps xs ds → Rp (.ref a) (.obj c ds)
  | fn (n : Nat) : Rp (.ref (T.fa n)) (.fn n)
  | scr {a : Addr} {ns : List Int} : SqL K F a (ns.map V.int) → Rp (.ref a) (.scr ns)
inductive Rps : List V → List D → Prop
  | nil : Rps [] []
  | cons {x : V} {xs : List V} {d : D} {ds : List D} : Rp x d → Rps xs ds → Rps (x :: xs) (d :: ds)
end
end

def Ext (F F' : Hp) : Prop := ∀ a o, F a = some o → F' a = some o
theorem Ext.refl (F : Hp) : Ext F F := fun _ _ h => h
theorem Ext.trans {F G H : Hp} (a : Ext F G) (b : Ext G H) : Ext F H := fun c o h => b c o (a c o h)
theorem Ext.upd {F : Hp} {p : Addr} {o : HO} (h : F p = none) : Ext F (upd F p o) := fun a u e => by rw [upd_ne (ne_of_none e h)]; exact e
theorem SqL.ext {K : PySem.W.Frag} {F F' : Hp} {a : Addr} {xs : List V} (e : Ext F F') (h : SqL K F a xs) : SqL K F' a xs := by
  rcases h with (h | ⟨o, h⟩) | h
  · exact .inl (.inl (e _ _ h))
  · exact .inl (.inr ⟨o, e _ _ h⟩)
  · exact .inr h
section
variable {K : PySem.W.Frag} {T : Tb} {F F' : Hp}
mutual
theorem Rp.ext (e : Ext F F') : ∀ {v : V} {d : D}, Rp K T F v d → Rp K T F' v d
  | _, _, .non => .non
  | _, _, .bl b => .bl b
  | _, _, .int i => .int i
  | _, _, .str x => .str x
  | _, _, .tup t h r => .tup t (e _ _ h) (Rps.ext e r)
  | _, _, .lst h r => .lst (e _ _ h) (Rps.ext e r)
  | _, _, .dct h => .dct (e _ _ h)
  | _, _, .obj m h l r => .obj m (e _ _ h) l (Rps.ext e r)
  | _, _, .fn n => .fn n
  | _, _, .scr h => .scr (SqL.ext e h)
theorem Rps.ext (e : Ext F F') : ∀ {vs : List V} {ds : List D}, Rps K T F vs ds → Rps K T F' vs ds
  | _, _, .nil => .nil
  | _, _, .cons h r => .cons (Rp.ext e h) (Rps.ext e r)
end
theorem Rps.length : ∀ {vs : List V} {ds : List D}, Rps K T F vs ds → vs.length = ds.length
  | _, _, .nil => rfl
  | _, _, .cons _ r => congrArg (· + 1) (Rps.length r)
theorem Rps.get : ∀ {vs : List V} {ds : List D} {i : Nat} {d : D}, Rps K T F vs ds → ds[i]? = some d → ∃ v, vs[i]? = some v ∧ Rp K T F v d
  | _, _, _, _, .nil, e => by simp at e
  | _, _, 0, _, .cons h r, e => by simp at e; subst e; exact ⟨_, rfl, h⟩
  | _, _, i + 1, d, .cons h r, e => by
    obtain ⟨v, h1, h2⟩ := Rps.get (i := i) (d := d) r (by simpa using e)
    exact ⟨v, by simpa using h1, h2⟩
theorem Rps.getV : ∀ {vs : List V} {ds : List D} {i : Nat} {v : V}, Rps K T F vs ds → vs[i]? = some v → ∃ d, ds[i]? = some d ∧ Rp K T F v d
  | _, _, _, _, .nil, e => by simp at e
  | _, _, 0, _, .cons h r, e => by simp at e; subst e; exact ⟨_, rfl, h⟩
  | _, _, i + 1, d, .cons h r, e => by
    obtain ⟨v, h1, h2⟩ := Rps.getV (i := i) (v := d) r (by simpa using e)
    exact ⟨v, by simpa using h1, h2⟩
theorem Rps.append : ∀ {vs ws : List V} {ds es : List D}, Rps K T F vs ds → Rps K T F ws es → Rps K T F (vs ++ ws) (ds ++ es)
  | _, _, _, _, .nil, s => s
  | _, _, _, _, .cons h r, s => .cons h (Rps.append r s)
theorem Rps.take : ∀ {vs : List V} {ds : List D} (n : Nat), Rps K T F vs ds → Rps K T F (vs.take n) (ds.take n)
  | _, _, 0, _ => .nil
  | _, _, _ + 1, .nil => .nil
  | _, _, n + 1, .cons h r => .cons h (Rps.take n r)
theorem Rps.drop : ∀ {vs : List V} {ds : List D} (n : Nat), Rps K T F vs ds → Rps K T F (vs.drop n) (ds.drop n)
  | _, _, 0, r => r
  | _, _, _ + 1, .nil => .nil
  | _, _, n + 1, .cons _ r => Rps.drop n r
theorem Rps.reverse {vs : List V} {ds : List D} (h : Rps K T F vs ds) : Rps K T F vs.reverse ds.reverse := by
  induction vs generalizing ds with
  | nil => cases h; exact .nil
  | cons v vs ih =>
    cases h with
    | cons h r =>
      rw [List.reverse_cons, List.reverse_cons]
      exact (ih r).append (.cons h .nil)
theorem Rps.set : ∀ {vs : List V} {ds : List D} {v : V} {d : D} (i : Nat), Rps K T F vs ds → Rp K T F v d → Rps K T F (vs.set i v) (ds.set i d)
  | _, _, _, _, _, .nil, _ => .nil
  | _, _, _, _, 0, .cons _ r, h => .cons h r
  | _, _, _, _, i + 1, .cons q r, h => .cons q (Rps.set i r h)
theorem Rps.eraseIdx : ∀ {vs : List V} {ds : List D} (i : Nat), Rps K T F vs ds → Rps K T F (vs.eraseIdx i) (ds.eraseIdx i)
  | _, _, _, .nil => .nil
  | _, _, 0, .cons _ r => r
  | _, _, i + 1, .cons h r => .cons h (Rps.eraseIdx i r)
theorem Rps.dropLast : ∀ {vs : List V} {ds : List D}, Rps K T F vs ds → Rps K T F vs.dropLast ds.dropLast
  | _, _, .nil => .nil
  | _, _, .cons _ .nil => .nil
  | _, _, .cons h (.cons q r) => .cons h (Rps.dropLast (.cons q r))
theorem Rps.rep {vs : List V} {ds : List D} (h : Rps K T F vs ds) : ∀ n : Nat, Rps K T F (List.replicate n vs).flatten (List.replicate n ds).flatten
  | 0 => .nil
  | n + 1 => by
    rw [List.replicate_succ, List.replicate_succ, List.flatten_cons, List.flatten_cons]
    exact h.append (Rps.rep h n)
theorem Rps.ints : ∀ ns : List Int, Rps K T F (ns.map V.int) (ns.map D.int)
  | [] => .nil
  | n :: ns => .cons (.int n) (Rps.ints ns)
theorem Rps.bls : ∀ {vs : List V} {ds : List D} {bs : List Bool}, Rps K T F vs ds → allBl ds = some bs → vs = bs.map V.bl
  | _, _, _, .nil, e => by simp [allBl] at e; subst e; rfl
  | _, .bl b :: ds, bs, .cons (.bl _) r, e => by
    simp only [allBl, Option.map_eq_some_iff] at e
    obtain ⟨cs, e1, e2⟩ := e
    subst e2
    rw [Rps.bls r e1]; rfl
  | _, _ :: _, _, .cons .non _, e => by simp [allBl] at e
  | _, _ :: _, _, .cons (.int _) _, e => by simp [allBl] at e
  | _, _ :: _, _, .cons (.str _) _, e => by simp [allBl] at e
  | _, _ :: _, _, .cons (.tup _ _ _) _, e => by simp [allBl] at e
  | _, _ :: _, _, .cons (.lst _ _) _, e => by simp [allBl] at e
  | _, _ :: _, _, .cons (.dct _) _, e => by simp [allBl] at e
  | _, _ :: _, _, .cons (.obj _ _ _ _) _, e => by simp [allBl] at e
  | _, _ :: _, _, .cons (.fn _) _, e => by simp [allBl] at e
  | _, _ :: _, _, .cons (.scr _) _, e => by simp [allBl] at e
theorem Rps.allInts : ∀ {vs : List V} {ds : List D} {bs : List Int}, Rps K T F vs ds → allInt ds = some bs → vs = bs.map V.int
  | _, _, _, .nil, e => by simp [allInt] at e; subst e; rfl
  | _, .int b :: ds, bs, .cons (.int _) r, e => by
    simp only [allInt, Option.map_eq_some_iff] at e
    obtain ⟨cs, e1, e2⟩ := e
    subst e2
    rw [Rps.allInts r e1]; rfl
  | _, _ :: _, _, .cons .non _, e => by simp [allInt] at e
  | _, _ :: _, _, .cons (.bl _) _, e => by simp [allInt] at e
  | _, _ :: _, _, .cons (.str _) _, e => by simp [allInt] at e
  | _, _ :: _, _, .cons (.tup _ _ _) _, e => by simp [allInt] at e
  | _, _ :: _, _, .cons (.lst _ _) _, e => by simp [allInt] at e
  | _, _ :: _, _, .cons (.dct _) _, e => by simp [allInt] at e
  | _, _ :: _, _, .cons (.obj _ _ _ _) _, e => by simp [allInt] at e
  | _, _ :: _, _, .cons (.fn _) _, e => by simp [allInt] at e
  | _, _ :: _, _, .cons (.scr _) _, e => by simp [allInt] at e
end

/-! ### what stands at a place -/
def kD : Key → D
  | .inl i => .int i
  | .inr x => .str x
inductive KRp (K : PySem.W.Frag) (T : Tb) (F : Hp) : List (Key × V) → List (D × D) → Prop
  | nil : KRp K T F [] []
  | cons {k : Key} {v : V} {d : D} {kvs : List (Key × V)} {ps : List (D × D)} : Rp K T F v d → KRp K T F kvs ps → KRp K T F ((k, v) :: kvs) ((kD k, d) :: ps)
inductive KTp (K : PySem.W.Frag) (T : Tb) (F : Hp) : List (List Key × V) → List (D × D) → Prop
  | nil : KTp K T F [] []
  | cons {k : List Key} {v : V} {d : D} {kvs : List (List Key × V)} {ps : List (D × D)} : Rp K T F v d → KTp K T F kvs ps → KTp K T F ((k, v) :: kvs) ((.tup (k.map kD), d) :: ps)
inductive ORp (K : PySem.W.Frag) (T : Tb) (F : Hp) : O → HO → Prop
  | lst {xs : List V} {ds : List D} : Rps K T F xs ds → ORp K T F (.lst ds) (.lst xs)
  | dK {kvs : List (Key × V)} {ps : List (D × D)} : KRp K T F kvs ps → ORp K T F (.dic false ps) (.dK kvs)
  | dT {kvs : List (List Key × V)} {ps : List (D × D)} : T.z = false → KTp K T F kvs ps → ORp K T F (.dic true ps) (.dT kvs)
  | ins {c : Nat} {dx : Addr} {ns : List Str} {xs : List V} {ds : List D} : c ∈ T.cs → ns.length = xs.length → Rps K T F xs ds → ORp K T F (.ins c (ns.zip ds)) (.ins (T.fa c) dx (ns.zip xs))
section
variable {K : PySem.W.Frag} {T : Tb} {F F' : Hp}
theorem KRp.ext (e : Ext F F') : ∀ {kvs : List (Key × V)} {ps : List (D × D)}, KRp K T F kvs ps → KRp K T F' kvs ps
  | _, _, .nil => .nil
  | _, _, .cons h r => .cons (h.ext e) (KRp.ext e r)
theorem KTp.ext (e : Ext F F') : ∀ {kvs : List (List Key × V)} {ps : List (D × D)}, KTp K T F kvs ps → KTp K T F' kvs ps
  | _, _, .nil => .nil
  | _, _, .cons h r => .cons (h.ext e) (KTp.ext e r)
theorem ORp.ext (e : Ext F F') {o : O} {u : HO} : ORp K T F o u → ORp K T F' o u
  | .lst r => .lst (r.ext e)
  | .dK r => .dK (r.ext e)
  | .dT z r => .dT z (r.ext e)
  | .ins m l r => .ins m l (r.ext e)
end

/-! ### the world -/
structure Rel (K : PySem.W.Frag) (T : Tb) (W : Wd) (S : Sto) (H : Hp) : Prop where
  sub : Ext W.F H
  lsub : Ext W.L H
  disj : ∀ a o, W.L a = some o → W.F a = none
  mF : ∀ a ∈ W.μ, W.F a = none
  mL : ∀ a ∈ W.μ, W.L a = none
  nd : W.μ.Nodup
  len : W.μ.length = S.length
  obj : ∀ (l : Nat) (a : Addr) (o : O), W.μ[l]? = some a → S[l]? = some o → ∃ u, H a = some u ∧ ORp K T W.F o u
/-- a new address: none of ours -/
structure New (W : Wd) (a : Addr) : Prop where
  f : W.F a = none
  l : W.L a = none
  m : a ∉ W.μ
section
variable {K : PySem.W.Frag} {T : Tb} {W : Wd} {S : Sto} {H : Hp} {p : Addr} {o : HO}
theorem Rel.fresh (r : Rel K T W S H) (h : H p = none) : New W p := by
  refine ⟨?_, ?_, fun hm => ?_⟩
  · cases e : W.F p with
    | none => rfl
    | some u => rw [r.sub _ _ e] at h; cases h
  · cases e : W.L p with
    | none => rfl
    | some u => rw [r.lsub _ _ e] at h; cases h
  · obtain ⟨l, hl⟩ := List.getElem?_of_mem hm
    have hlt : l < W.μ.length := (List.getElem?_eq_some_iff.mp hl).1
    rw [r.len] at hlt
    obtain ⟨u, e, _⟩ := r.obj l p S[l] hl (List.getElem?_eq_getElem hlt)
    rw [h] at e; cases e
/-- something new that is none of ours -/
theorem Rel.junk (r : Rel K T W S H) (h : H p = none) : Rel K T W S (upd H p o) := by
  have e : Ext H (upd H p o) := Ext.upd h
  exact ⟨r.sub.trans e, r.lsub.trans e, r.disj, r.mF, r.mL, r.nd, r.len, fun l a u h1 h2 => by
    obtain ⟨u, h3, h4⟩ := r.obj l a u h1 h2
    exact ⟨u, e _ _ h3, h4⟩⟩
/-- .. any heap that has all that we know -/
theorem Rel.heap {H' : Hp} (r : Rel K T W S H) (e : Ext H H') : Rel K T W S H' :=
  ⟨r.sub.trans e, r.lsub.trans e, r.disj, r.mF, r.mL, r.nd, r.len, fun l a u h1 h2 => by
    obtain ⟨u, h3, h4⟩ := r.obj l a u h1 h2
    exact ⟨u, e _ _ h3, h4⟩⟩
/-- what is new and stands is frozen -/
theorem Rel.freeze (r : Rel K T W S H) (n : New W p) (h : H p = some o) : Rel K T (W.wF (upd W.F p o)) S H := by
  refine ⟨fun a u e => ?_, r.lsub, fun a u e => ?_, fun a hm => ?_, r.mL, r.nd, r.len, fun l a u h1 h2 => ?_⟩
  · have e' : upd W.F p o a = some u := e
    by_cases q : a = p
    · subst q; rw [upd_same] at e'; cases e'; exact h
    · rw [upd_ne q] at e'; exact r.sub _ _ e'
  · show upd W.F p o a = none
    rw [upd_ne (fun q => by subst q; have := n.l; rw [show W.L a = some u from e] at this; cases this)]
    exact r.disj a u e
  · show upd W.F p o a = none
    rw [upd_ne (fun q => by subst q; exact n.m hm)]
    exact r.mF a hm
  · obtain ⟨u, h3, h4⟩ := r.obj l a u h1 h2
    exact ⟨u, h3, h4.ext (Ext.upd n.f)⟩
/-- .. is locked -/
theorem Rel.lock (r : Rel K T W S H) (n : New W p) (h : H p = some o) : Rel K T ⟨W.F, upd W.L p o, W.μ⟩ S H := by
  refine ⟨r.sub, fun a u e => ?_, fun a u e => ?_, r.mF, fun a hm => ?_, r.nd, r.len, r.obj⟩
  · have e' : upd W.L p o a = some u := e
    by_cases q : a = p
    · subst q; rw [upd_same] at e'; cases e'; exact h
    · rw [upd_ne q] at e'; exact r.lsub _ _ e'
  · have e' : upd W.L p o a = some u := e
    by_cases q : a = p
    · subst q; exact n.f
    · rw [upd_ne q] at e'; exact r.disj _ _ e'
  · show upd W.L p o a = none
    rw [upd_ne (fun q => by subst q; exact n.m hm)]
    exact r.mL a hm
/-- .. becomes a place -/
theorem Rel.place {x : O} (r : Rel K T W S H) (n : New W p) (h : H p = some o) (x0 : ORp K T W.F x o) : Rel K T ⟨W.F, W.L, W.μ ++ [p]⟩ (S ++ [x]) H := by
  refine ⟨r.sub, r.lsub, r.disj, fun a hm => ?_, fun a hm => ?_, ?_, ?_, fun l a u h1 h2 => ?_⟩
  · rcases List.mem_append.mp hm with hm | hm
    · exact r.mF a hm
    · rw [List.mem_singleton.mp hm]; exact n.f
  · rcases List.mem_append.mp hm with hm | hm
    · exact r.mL a hm
    · rw [List.mem_singleton.mp hm]; exact n.l
  · refine List.nodup_append.mpr ⟨r.nd, by simp, fun a ha b hb e => ?_⟩
    rw [List.mem_singleton.mp hb] at e
    subst e
    exact n.m ha
  · show (W.μ ++ [p]).length = (S ++ [x]).length
    rw [List.length_append, List.length_append, r.len]
    rfl
  · have h1' : (W.μ ++ [p])[l]? = some a := h1
    by_cases hl : l < W.μ.length
    · rw [List.getElem?_append_left hl] at h1'
      rw [List.getElem?_append_left (by rw [← r.len]; exact hl)] at h2
      exact r.obj l a u h1' h2
    · have e : l = W.μ.length := by
        have := (List.getElem?_eq_some_iff.mp h1').1
        simp at this
        omega
      subst e
      rw [List.getElem?_append_right (Nat.le_refl _)] at h1'
      rw [r.len, List.getElem?_append_right (Nat.le_refl _)] at h2
      simp at h1' h2
      subst h1' h2
      exact ⟨o, h, x0⟩
/-- a place is written -/
theorem Rel.write {x : O} {l : Nat} (r : Rel K T W S H) (hl : W.μ[l]? = some p) (x0 : ORp K T W.F x o) : Rel K T W (S.set l x) (upd H p o) := by
  have hp : p ∈ W.μ := List.mem_of_getElem? hl
  refine ⟨fun a u e => ?_, fun a u e => ?_, r.disj, r.mF, r.mL, r.nd, by rw [List.length_set]; exact r.len, fun k a u h1 h2 => ?_⟩
  · rw [upd_ne (fun q => by subst q; rw [r.mF _ hp] at e; cases e)]
    exact r.sub _ _ e
  · rw [upd_ne (fun q => by subst q; rw [r.mL _ hp] at e; cases e)]
    exact r.lsub _ _ e
  · by_cases q : a = p
    · subst q
      have hlt : l < W.μ.length := (List.getElem?_eq_some_iff.mp hl).1
      have hkt : k < W.μ.length := (List.getElem?_eq_some_iff.mp h1).1
      have e : k = l := by
        have e1 := (List.getElem?_eq_some_iff.mp h1).2
        have e2 := (List.getElem?_eq_some_iff.mp hl).2
        exact (List.getElem_inj r.nd).mp (e1.trans e2.symm)
      subst e
      rw [List.getElem?_set_self (by rw [← r.len]; exact hkt)] at h2
      cases h2
      exact ⟨o, upd_same, x0⟩
    · have hk : l ≠ k := fun e => by subst e; rw [hl] at h1; cases h1; exact q rfl
      rw [List.getElem?_set_ne hk] at h2
      obtain ⟨u', h3, h4⟩ := r.obj k a u h1 h2
      exact ⟨u', by rw [upd_ne q]; exact h3, h4⟩
/-- the later places are forgotten -/
theorem Rel.pop {μ : List Addr} {n : Nat} (r : Rel K T W S H) (h : W.μ = μ ++ W.μ.drop n) (hn : μ.length = n) (hS : n ≤ S.length) : Rel K T ⟨W.F, W.L, μ⟩ (S.take n) H := by
  have hsub : ∀ a ∈ μ, a ∈ W.μ := fun a ha => by rw [h]; exact List.mem_append_left _ ha
  refine ⟨r.sub, r.lsub, r.disj, fun a ha => r.mF a (hsub a ha), fun a ha => r.mL a (hsub a ha), ?_, ?_, fun l a o h1 h2 => ?_⟩
  · have := r.nd
    rw [h] at this
    exact (List.nodup_append.mp this).1
  · show μ.length = (S.take n).length
    rw [List.length_take]; omega
  · have hl : l < μ.length := (List.getElem?_eq_some_iff.mp h1).1
    have h1' : W.μ[l]? = some a := by rw [h, List.getElem?_append_left hl]; exact h1
    rw [List.getElem?_take_of_lt (by omega)] at h2
    exact r.obj l a o h1' h2
theorem Rel.at (r : Rel K T W S H) {l : Nat} {x : O} (h : S[l]? = some x) : ∃ a u, W.μ[l]? = some a ∧ H a = some u ∧ ORp K T W.F x u := by
  have hlt : l < S.length := (List.getElem?_eq_some_iff.mp h).1
  rw [← r.len] at hlt
  obtain ⟨u, h1, h2⟩ := r.obj l _ x (List.getElem?_eq_getElem hlt) h
  exact ⟨_, u, List.getElem?_eq_getElem hlt, h1, h2⟩
end

/-! ### results -/
/-- data, or a place -/
def RpA (K : PySem.W.Frag) (T : Tb) (W : Wd) : R → V → Prop
  | .d x, v => Rp K T W.F v x
  | .loc l, v => ∃ a, v = .ref a ∧ W.μ[l]? = some a
  | _, _ => False
abbrev RpAs (K : PySem.W.Frag) (T : Tb) (W : Wd) : List R → List V → Prop := Paired (RpA K T W)
/-- any result -/
def RpR (K : PySem.W.Frag) (T : Tb) (W : Wd) (H : Hp) : R → V → Prop
  | .d x, v => Rp K T W.F v x
  | .loc l, v => ∃ a, v = .ref a ∧ W.μ[l]? = some a
  | .fl ds, v => ∃ a xs, v = .ref a ∧ H a = some (.lst xs) ∧ Rps K T W.F xs ds ∧ New W a
  | .fd t kvs, v => ∃ a u, v = .ref a ∧ H a = some u ∧ ORp K T W.F (.dic t kvs) u ∧ New W a
/-- an exception -/
def XRp (K : PySem.W.Frag) (T : Tb) (F H : Hp) (x : Exn) (c : Value) (d : Option Addr) : Prop :=
  c = .ref (T.fa x.c) ∧ ((x.fs = [] ∧ d = none) ∨ ∃ dx xs, d = some dx ∧ H dx = some (.xd ((T.cl x.c).zip xs)) ∧ (T.cl x.c).length = xs.length ∧ Rps K T F xs x.fs)
def Post (K : PySem.W.Frag) (T : Tb) (E : XK) (W : Wd) (r : Res R) (Q : VK) : Prop :=
  match r with
  | .ok a S => ∀ F H v, Ext W.F F → Rel K T (W.wF F) S H → RpR K T (W.wF F) H a v → Q v H
  | .exc x S => ∀ F H c d, Ext W.F F → Rel K T (W.wF F) S H → XRp K T F H x c d → E c d H
  | .bad => False
section
variable {K : PySem.W.Frag} {T : Tb} {E : XK} {W : Wd} {S : Sto} {H : Hp} {Q : VK}
theorem RpA.ext {F : Hp} (e : Ext W.F F) : ∀ {r : R} {v : V}, RpA K T W r v → RpA K T (W.wF F) r v
  | .d _, _, h => Rp.ext e h
  | .loc _, _, h => h
theorem RpAs.ext {F : Hp} (e : Ext W.F F) {rs : List R} {vs : List V} (h : RpAs K T W rs vs) : RpAs K T (W.wF F) rs vs := Paired.mapP h fun _ _ => RpA.ext e
theorem RpA.r {r : R} {v : V} (h : RpA K T W r v) : RpR K T W H r v := by
  cases r with
  | d x => exact h
  | loc l => exact h
  | _ => exact h.elim
theorem Post.mono {r : Res R} {F : Hp} (e : Ext W.F F) (h : Post K T E W r Q) : Post K T E (W.wF F) r Q := by
  cases r with
  | ok a S => exact fun F' H v e' rel rp => h F' H v (e.trans e') rel rp
  | exc x S => exact fun F' H c d e' rel rp => h F' H c d (e.trans e') rel rp
  | bad => exact h
/-- an argument: what is new is frozen -/
theorem toA_ok {r a : R} {v : V} {S' : Sto} (rel : Rel K T W S H) (rp : RpR K T W H r v) (h : toA r S = .ok a S') : S' = S ∧ ∃ F, Ext W.F F ∧ Rel K T (W.wF F) S H ∧ RpA K T (W.wF F) a v := by
  cases r with
  | d x =>
    have h' : Res.ok (.d x) S = .ok a S' := h
    cases h'
    exact ⟨rfl, W.F, Ext.refl _, rel, rp⟩
  | loc l =>
    have h' : Res.ok (.loc l) S = .ok a S' := h
    cases h'
    exact ⟨rfl, W.F, Ext.refl _, rel, rp⟩
  | fl ds =>
    have h' : Res.ok (.d (.lst ds)) S = .ok a S' := h
    cases h'
    obtain ⟨p, xs, rfl, hp, rx, n⟩ := rp
    exact ⟨rfl, _, Ext.upd n.f, rel.freeze n hp, .lst upd_same (rx.ext (Ext.upd n.f))⟩
  | fd t kvs =>
    cases t with
    | true =>
      have h' : Res.bad = .ok a S' := h
      cases h'
    | false =>
      cases kvs with
      | nil =>
        have h' : Res.ok (.d .dct) S = .ok a S' := h
        cases h'
        obtain ⟨p, u, rfl, hp, rx, n⟩ := rp
        cases rx with
        | dK r => cases r; exact ⟨rfl, _, Ext.upd n.f, rel.freeze n hp, .dct upd_same⟩
      | cons p ps =>
        have h' : Res.bad = .ok a S' := h
        cases h'
theorem Post.here {a : R} {v : V} (h : Post K T E W (.ok a S) Q) (rel : Rel K T W S H) (rp : RpR K T W H a v) : Q v H := h W.F H v (Ext.refl _) rel rp
/-- a new tuple -/
theorem Post.tup {ds : List D} {xs : List V} (h : Post K T E W (.ok (.d (.tup ds)) S) Q) (rel : Rel K T W S H) (rx : Rps K T W.F xs ds) : ∀ p o, H p = none → TupO T.z o xs → Q (.ref p) (upd H p o) := fun p o hp ht =>
  h _ _ _ (Ext.upd (rel.fresh hp).f) ((rel.junk hp).freeze (rel.fresh hp) upd_same) (.tup ht upd_same (rx.ext (Ext.upd (rel.fresh hp).f)))
/-- a new list -/
theorem Post.lst {ds : List D} {xs : List V} (h : Post K T E W (.ok (.fl ds) S) Q) (rel : Rel K T W S H) (rx : Rps K T W.F xs ds) : ∀ p, H p = none → Q (.ref p) (upd H p (.lst xs)) := fun p hp =>
  h.here (rel.junk hp) ⟨p, xs, rfl, upd_same, rx, rel.fresh hp⟩
/-- a new dict -/
theorem Post.dic {t : Bool} {kvs : List (D × D)} {u : HO} (h : Post K T E W (.ok (.fd t kvs) S) Q) (rel : Rel K T W S H) (rx : ORp K T W.F (.dic t kvs) u) : ∀ p, H p = none → Q (.ref p) (upd H p u) := fun p hp =>
  h.here (rel.junk hp) ⟨p, u, rfl, upd_same, rx, rel.fresh hp⟩
/-- what a sequence is -/
theorem seqA {a : R} {x : V} {k : Bool} {ds : List D} (rel : Rel K T W S H) (ra : RpR K T W H a x) (h : a.seq S = some (k, ds)) :
    ∃ p xs, x = .ref p ∧ Rps K T W.F xs ds ∧ ((k = true ∧ H p = some (.lst xs)) ∨ (k = false ∧ Rd H p (.tup xs) ∧ ∃ o, TupO T.z o xs ∧ H p = some o)) := by
  cases a with
  | d y =>
    cases y with
    | tup es =>
      have e : (false, es) = (k, ds) := Option.some.inj h
      cases e
      have ra : Rp K T W.F x (.tup _) := ra
      cases ra with
      | tup h0 h1 h2 => exact ⟨_, _, rfl, h2, .inr ⟨rfl, h0.rd (rel.sub _ _ h1), _, h0, rel.sub _ _ h1⟩⟩
    | lst es =>
      have e : (true, es) = (k, ds) := Option.some.inj h
      cases e
      have ra : Rp K T W.F x (.lst _) := ra
      cases ra with
      | lst h1 h2 => exact ⟨_, _, rfl, h2, .inl ⟨rfl, rel.sub _ _ h1⟩⟩
    | _ => cases h
  | loc l =>
    obtain ⟨p, rfl, hp⟩ := (show ∃ a, x = .ref a ∧ W.μ[l]? = some a from ra)
    simp only [R.seq] at h
    split at h
    · rename_i es he
      have e : (true, es) = (k, ds) := Option.some.inj h
      cases e
      obtain ⟨a, u, h1, h2, h3⟩ := rel.at he
      rw [hp] at h1; cases h1
      cases h3 with
      | lst r => exact ⟨_, _, rfl, r, .inl ⟨rfl, h2⟩⟩
    · cases h
  | fl es =>
    have e : (true, es) = (k, ds) := Option.some.inj h
    cases e
    obtain ⟨p, xs, rfl, hp, rx, n⟩ := ra
    exact ⟨p, xs, rfl, rx, .inl ⟨rfl, hp⟩⟩
  | fd t kvs => cases h
theorem dicA {a : R} {x : V} {t : Bool} {kvs : List (D × D)} (rel : Rel K T W S H) (ra : RpR K T W H a x) (h : a.dic S = some (t, kvs)) :
    ∃ p u, x = .ref p ∧ H p = some u ∧ ORp K T W.F (.dic t kvs) u := by
  cases a with
  | d y => cases h
  | loc l =>
    obtain ⟨p, rfl, hp⟩ := (show ∃ a, x = .ref a ∧ W.μ[l]? = some a from ra)
    simp only [R.dic] at h
    split at h
    · rename_i t' kvs' he
      have e : (t', kvs') = (t, kvs) := Option.some.inj h
      cases e
      obtain ⟨a, u, h1, h2, h3⟩ := rel.at he
      rw [hp] at h1; cases h1
      exact ⟨_, _, rfl, h2, h3⟩
    · cases h
  | fl es => cases h
  | fd t' kvs' =>
    have e : (t', kvs') = (t, kvs) := Option.some.inj h
    cases e
    obtain ⟨p, u, rfl, hp, rx, n⟩ := ra
    exact ⟨p, u, rfl, hp, rx⟩
end
end Mi

set_option Elab.async false
set_option linter.all false
set_option maxRecDepth 100000
set_option maxHeartbeats 4000000
/-! MiD: the operations by values. -/
namespace Mi
open PySem PySem.Spec PyProof.Rows L2

section
variable {K : PySem.W.Frag} {T : Tb} {F H : Hp}
mutual
theorem Rp.dp (e : Ext F H) : ∀ {v : V} {d : D}, Rp K T F v d → d.py.canLay0 = true → Dp K H v d.py
  | _, _, .non, _ => .non
  | _, _, .bl b, _ => .bl b
  | _, _, .int i, _ => .int i
  | _, _, .str x, _ => .str x
  | _, .tup ds, .tup t h r, c => .tup (.inl (t.rd (e _ _ h))) (Rps.dp e r (show PyData.canLayAll0 (D.pys ds) = true by simpa [D.py, PyData.canLay0] using c))
  | _, .lst ds, .lst h r, c => .lst (SqL.of (e _ _ h)) (Rps.dp e r (show PyData.canLayAll0 (D.pys ds) = true by simpa [D.py, PyData.canLay0] using c))
  | _, _, .dct _, c => by simp [D.py, PyData.canLay0] at c
  | _, _, .obj _ _ _ _, c => by simp [D.py, PyData.canLay0] at c
  | _, _, .fn _, c => by simp [D.py, PyData.canLay0] at c
  | _, _, .scr _, c => by simp [D.py, PyData.canLay0] at c
theorem Rps.dp (e : Ext F H) : ∀ {vs : List V} {ds : List D}, Rps K T F vs ds → PyData.canLayAll0 (D.pys ds) = true → DpAll K H vs (D.pys ds)
  | _, _, .nil, _ => .nil
  | _, d :: ds, .cons h r, c => by
    have c' : d.py.canLay0 = true ∧ PyData.canLayAll0 (D.pys ds) = true := by simpa [D.pys, PyData.canLayAll0] using c
    exact .cons (Rp.dp e h c'.1) (Rps.dp e r c'.2)
end
theorem D.ok_lay {a : D} (h : a.ok = true) : a.py.canLay0 = true := SeqAt.canLay_of_shaped h
theorem D.ok_depth {a : D} (h : a.ok = true) : a.py.depth ≤ 64 := SeqAt.depth_of_shaped h
theorem all_lay : ∀ {ds : List D}, ds.all D.ok = true → PyData.canLayAll0 (D.pys ds) = true
  | [], _ => rfl
  | d :: ds, h => by
    rw [List.all_cons, Bool.and_eq_true] at h
    show (d.py.canLay0 && PyData.canLayAll0 (D.pys ds)) = true
    rw [D.ok_lay h.1, all_lay h.2]; rfl
theorem all_depth : ∀ {ds : List D}, ds.all D.ok = true → PyData.depthAll (D.pys ds) ≤ 64
  | [], _ => Nat.zero_le _
  | d :: ds, h => by
    rw [List.all_cons, Bool.and_eq_true] at h
    show max d.py.depth (PyData.depthAll (D.pys ds)) ≤ 64
    exact Nat.max_le.mpr ⟨D.ok_depth h.1, all_depth h.2⟩
theorem pys_map : ∀ ds : List D, D.pys ds = ds.map D.py
  | [] => rfl
  | d :: ds => by show d.py :: D.pys ds = _; rw [pys_map ds]; rfl
end

section
variable {X : Cx} {T : Tb} {E : XK} {W : Wd} {S : Sto} {H : Hp} {Q : VK} {pins : List (Addr × Obj)} {σ : L2.St} {s : Shared}
theorem datA {a : R} {x : V} {d : D} (rel : Rel X.K T W S H) (ra : RpA X.K T W a x) (h : a.dat S = some d) (ok : d.ok = true) : Dp X.K H x d.py := by
  cases a with
  | d y =>
    have e : y = d := Option.some.inj h
    subst e
    exact Rp.dp rel.sub (show Rp X.K T W.F x y from ra) (D.ok_lay ok)
  | loc l =>
    obtain ⟨p, rfl, hp⟩ := (show ∃ a, x = .ref a ∧ W.μ[l]? = some a from ra)
    simp only [R.dat] at h
    split at h
    · rename_i es he
      have e : D.lst es = d := Option.some.inj h
      subst e
      obtain ⟨a, u, h1, h2, h3⟩ := rel.at he
      rw [hp] at h1; cases h1
      cases h3 with
      | lst r => exact .lst (SqL.of h2) (Rps.dp rel.sub r (by simpa [D.py, PyData.canLay0] using D.ok_lay ok))
    · cases h
  | fl es => exact ra.elim
  | fd t kvs => exact ra.elim

/-! ### ints, lists, tuples: + - * // % ** -/
def BO.py : BO → Operator
  | .add => .Add
  | .sub => .Sub
  | .mul => .Mult
  | .fdiv => .FloorDiv
  | .mod => .Mod
  | .pow => .Pow
def CO.py : CO → CmpOp
  | .eq => .Eq
  | .ne => .NotEq
  | .lt => .Lt
  | .le => .LtE
  | .gt => .Gt
  | .ge => .GtE
  | .is => .Is
  | .isnot => .IsNot
  | .isin => .In
  | .notin => .NotIn
/-- two operands -/
def rdO (K : PySem.W.Frag) (T : Tb) (E : XK) (f : R → R → Sto → Res R) : R2 := fun x y H Q => ∃ W S a b, Rel K T W S H ∧ RpA K T W a x ∧ RpA K T W b y ∧ Post K T E W (f a b S) Q

theorem mulOk_ok {i j : Int} (h : mulOk i j = true) : CMul i j := by unfold mulOk at h; have := of_decide_eq_true h; exact this
theorem divOk_ok {i j : Int} (h : divOk j = true) : CDivN i j := by unfold divOk at h; have := of_decide_eq_true h; exact this
theorem powOk_ok {i j : Int} (h : powOk i j = true) : CPow i j := by unfold powOk at h; have := of_decide_eq_true h; exact this
theorem op_int {o : BO} {i j : Int} {v u : Value} (I : Inv X pins σ H s) (rx : RelV (.int i) v) (ry : RelV (.int j) u) (rel : Rel X.K T W S H)
    (post : Post X.K T E W (ofO S ((binI o i j).map fun k => R.d (.int k))) Q) : wpAny (model X.prog X.w) X.A (binaryOp o.py v u) (EP X pins σ Q) X.xe s := by
  cases o with
  | add => exact op_add pins s σ H _ _ v u Q I rx ry ⟨i, j, rfl, rfl, post.here rel (.int _)⟩
  | sub => exact op_sub pins s σ H _ _ v u Q I rx ry ⟨i, j, rfl, rfl, post.here rel (.int _)⟩
  | mul =>
    simp only [binI] at post
    split at post
    · rename_i h
      exact op_mul pins s σ H _ _ v u Q I rx ry ⟨i, j, rfl, rfl, mulOk_ok h, post.here rel (.int _)⟩
    · exact post.elim
  | fdiv =>
    simp only [binI] at post
    split at post
    · rename_i h
      exact op_fdivN pins s σ H _ _ v u Q I rx ry ⟨i, j, rfl, rfl, divOk_ok h, post.here rel (.int _)⟩
    · exact post.elim
  | mod =>
    simp only [binI] at post
    split at post
    · rename_i h
      exact op_modN pins s σ H _ _ v u Q I rx ry ⟨i, j, rfl, rfl, of_decide_eq_true h, post.here rel (.int _)⟩
    · exact post.elim
  | pow =>
    simp only [binI] at post
    split at post
    · rename_i h
      exact op_pow pins s σ H _ _ v u Q I rx ry ⟨i, j, rfl, rfl, powOk_ok h, post.here rel (.int _)⟩
    · exact post.elim

/-- a tuple laid: told as we want it -/
theorem Inv.tupNew {us : List Value} {xs : List V} {t' : Nat} (I : Inv X pins σ H s) (r : Vals xs us) (hz : xs.length ≤ sizeLine) (z : Bool) :
    ∃ o, TupO z o xs ∧ Inv X pins σ (upd H s.heap.objs.size o) { s with heap := s.heap.push { cls := .type "tuple", data := .seq us.toArray }, toks := t' } := by
  have hp : (s.heap.push { cls := .type "tuple", data := .seq us.toArray }).get? s.heap.objs.size = some { cls := .type "tuple", data := .seq us.toArray } := Heap.get?_push_size _ rfl
  cases z with
  | false => exact ⟨_, .inl ⟨rfl, rfl⟩, I.laid (fun b o e => Heap.get?_push_of_some _ e) (Nat.le_refl _) ⟨hz, us, r, _, hp, rfl, 0, rfl⟩⟩
  | true => exact ⟨_, .inr ⟨rfl, { cls := .type "tuple", data := .seq us.toArray }, rfl, rfl⟩, I.laid (fun b o e => Heap.get?_push_of_some _ e) (Nat.le_refl _) ⟨hp, hz, us, r, _, hp, rfl, 0, rfl⟩⟩
/-- .. at the end of an evaluation -/
theorem EP.tup {us : List Value} {xs : List V} {t' : Nat} {z : Bool} (I : Inv X pins σ H s) (r : Vals xs us) (hz : xs.length ≤ sizeLine) (q : ∀ p o, H p = none → TupO z o xs → Q (.ref p) (upd H p o)) :
    EP X pins σ Q (.ref s.heap.objs.size) { s with heap := s.heap.push { cls := .type "tuple", data := .seq us.toArray }, toks := t' } := by
  obtain ⟨o, ho, I'⟩ := Inv.tupNew (t' := t') I r hz z
  exact ⟨.ref s.heap.objs.size, _, I', rfl, q _ _ (I.hok.fresh (Nat.le_refl _)) ho⟩

/-- t + u of tuples -/
theorem op_catZ {a b : Addr} {xs ys : List V} {v u : Value} {z : Bool} (I : Inv X pins σ H s) (rx : RelV (.ref a) v) (ry : RelV (.ref b) u) (ha : Rd H a (.tup xs)) (hb : Rd H b (.tup ys)) (hz : xs.length + ys.length ≤ sizeLine)
    (q1 : xs = [] → Q (.ref b) H) (q2 : xs ≠ [] → ys = [] → Q (.ref a) H) (q3 : xs ≠ [] → ys ≠ [] → ∀ p o, H p = none → TupO z o (xs ++ ys) → Q (.ref p) (upd H p o)) :
    wpAny (model X.prog X.w) X.A (binaryOp .Add v u) (EP X pins σ Q) X.xe s := by
  cases rx
  cases ry
  obtain ⟨its, r1, p1, _⟩ := I.tuple (show SqT X.K H a xs from .inl ha)
  obtain ⟨its2, r2, p2, _⟩ := I.tuple (show SqT X.K H b ys from .inl hb)
  by_cases hx : its = []
  · subst hx
    exact cat_tup0 p1 p2 ⟨.ref b, H, I, rfl, q1 (by cases r1; rfl)⟩
  · have hx' : xs ≠ [] := fun z => hx ((Vals.nil_iff r1).mpr z)
    have hl : (its ++ its2).length = (xs ++ ys).length := (r1.append r2).length.symm
    refine HT.cat_tup p1 p2 hx (fun e => ⟨.ref a, H, I, rfl, q2 hx' ((Vals.nil_iff r2).mp e)⟩) (fun e => ?_) ?_
    · exact EP.tup (t' := s.toks) I (r1.append r2) (by rw [List.length_append]; exact hz) (q3 hx' (fun z => e ((Vals.nil_iff r2).mpr z)))
    · rw [List.length_append, List.length_append] at hl
      omega
/-- t * n of a tuple -/
theorem op_repZ {a : Addr} {k : Int} {xs : List V} {v u : Value} {z : Bool} (I : Inv X pins σ H s) (rx : RelV (.ref a) v) (ry : RelV (.int k) u) (ha : Rd H a (.tup xs)) (hne : xs ≠ []) (h1 : 2 ≤ k) (h2 : k ≤ 1000) (hz : xs.length ≤ 1000)
    (q : ∀ p o, H p = none → TupO z o (List.replicate k.toNat xs).flatten → Q (.ref p) (upd H p o)) : wpAny (model X.prog X.w) X.A (binaryOp .Mult v u) (EP X pins σ Q) X.xe s := by
  cases rx
  obtain ⟨t, rfl⟩ := ry
  obtain ⟨its, r, ⟨⟨cls, dd, data, sl⟩, ho, hc, n, hd⟩, hs⟩ := I.tuple (show SqT X.K H a xs from .inl ha)
  simp only at hc hd
  subst hc hd
  have hle : its.length = xs.length := r.length.symm
  have hn : its ≠ [] := fun e => hne (by
    rw [e] at hle
    exact List.eq_nil_of_length_eq_zero hle.symm)
  have hi : its.toArray.isEmpty = false := by
    cases its with
    | nil => exact absurd rfl hn
    | cons a b => rfl
  have hsz0 : its.toArray.size = xs.length := by rw [List.size_toArray, hle]
  have hm : ((its.toArray.size : Nat) : Int) * k ≤ 1000000 := by
    rw [hsz0]
    have a1 : ((xs.length : Nat) : Int) * k ≤ 1000 * k := Int.mul_le_mul_of_nonneg_right (by omega) (by omega)
    omega
  have flen : (List.replicate k.toNat its).flatten.length ≤ sizeLine := by
    rw [PyProof.Rows.lm_len_rep_flat, hle, sizeLine_eq]
    have a1 : k.toNat * xs.length ≤ 1000 * 1000 := Nat.mul_le_mul (by omega) hz
    omega
  have c0 : (decide (k < -(2 ^ 63)) || decide (k ≥ 2 ^ 63)) = false := by
    rw [decide_eq_false (by omega), decide_eq_false (by omega)] <;> rfl
  have c1 : (its.toArray.isEmpty || k == 1) = false := by
    rw [hi, Bool.false_or]
    exact beq_eq_false_iff_ne.mpr (by omega)
  have c2 : (decide (k ≤ 0) || its.toArray.isEmpty) = false := by
    rw [hi, Bool.or_false]
    exact decide_eq_false (by omega)
  have c4 : Builtin.Tuple.tupleTooMany (((its.toArray.size : Nat) : Int) * k) = false := by
    unfold Builtin.Tuple.tupleTooMany
    rw [sizeLine_eq]
    exact decide_eq_false (by omega)
  refine wpAny_binaryOp_repeat_ref (T := "tuple") (U := "int") (by decide) ⟨_, ho, rfl⟩ (fun s' => typeIs_int s' k t) L2.noFill_tuple_mul F.fills_int_mul F.slot_int_rmul L2.repeat_tuple F.slot_int_index.lookup
    (call_meets F.slot_int_rmul (typeIs_int s k t) F.entry_int_rmul (F.args_int_rmul_2 _ _) (L2.int_rmul_tuple k t a its.toArray n dd sl)
      ⟨ho, rfl, ⟨_, ho, rfl⟩, call_meets F.slot_tuple_mul ⟨_, ho, rfl⟩ F.entry_tuple_mul (F.args_tuple_mul_2 _ _) (L2.tuple_mulW a its.toArray n dd sl k t c0 c1 c2 (by omega) c4 (by rw [L2.size_rep, List.size_toArray]; exact flen)) ⟨ho, ?_⟩⟩)
  rw [L2.size_rep]
  exact EP.tup (t' := s.toks) I (r.rep k.toNat) (by rw [PyProof.Rows.lm_len_rep_flat, sizeLine_eq]; have a1 : k.toNat * xs.length ≤ 1000 * 1000 := Nat.mul_le_mul (by omega) hz; omega) q
/-- a tuple is data -/
theorem seqTup {a : R} {x : V} {ds : List D} {S : Sto} (ra : RpA X.K T W a x) (h : a.seq S = some (false, ds)) : a = .d (.tup ds) := by
  cases a with
  | d y =>
    cases y with
    | tup es =>
      have e : (false, es) = (false, ds) := Option.some.inj h
      cases e
      rfl
    | lst es => cases (Option.some.inj h)
    | _ => cases h
  | loc l =>
    simp only [R.seq] at h
    split at h
    · cases (Option.some.inj h)
    · cases h
  | _ => exact ra.elim
theorem op_bin (o : BO) : OpR X (binaryOp o.py) (rdO X.K T E (binop o)) := by
  intro pins s σ H x y v u Q I rx ry ⟨W, S, a, b, rel, ra, rb, post⟩
  unfold binop at post
  split at post
  · rename_i i j
    cases (show Rp X.K T W.F x (.int i) from ra)
    cases (show Rp X.K T W.F y (.int j) from rb)
    exact op_int I rx ry rel post
  · rename_i j _
    cases (show Rp X.K T W.F y (.int j) from rb)
    split at post
    · rename_i a' p hs
      obtain ⟨k, ds⟩ := p
      obtain ⟨p, xs, rfl, rd, hk⟩ := seqA rel ra.r hs
      rcases hk with ⟨rfl, hp⟩ | ⟨rfl, hp, _⟩
      · simp only [repS] at post
        split at post
        · rename_i hc
          obtain ⟨c1, c2, c3⟩ := hc
          refine op_rep pins s σ H _ _ v u Q I rx ry ⟨p, j, xs, rfl, rfl, hp, by omega, by omega, by rw [rd.length]; exact c3, fun q hq => ?_⟩
          exact post.lst rel (rd.rep _) q hq
        · exact post.elim
      · simp only [repS] at post
        split at post
        · rename_i hc
          obtain ⟨c1, c2, c3, c4⟩ := hc
          refine op_repZ (z := T.z) I rx ry hp (fun e => c1 ?_) c2 c3 (by rw [rd.length]; exact c4) fun q o hq ho => ?_
          · subst e
            cases rd
            rfl
          · exact post.tup rel (rd.rep _) q o hq ho
        · exact post.elim
    · exact post.elim
  · split at post
    · rename_i p q hs1 hs2
      obtain ⟨k, ds⟩ := p
      obtain ⟨k2, ds2⟩ := q
      obtain ⟨p, xs, rfl, rd, hk⟩ := seqA rel ra.r hs1
      obtain ⟨p2, ys, rfl, rd2, hk2⟩ := seqA rel rb.r hs2
      cases o with
      | add =>
        rcases hk with ⟨rfl, hp⟩ | ⟨rfl, hp, o1, t1, h1⟩
        · rcases hk2 with ⟨rfl, hp2⟩ | ⟨rfl, hp2, _⟩
          · simp only [binS] at post
            split at post
            · rename_i hc
              exact op_cat pins s σ H _ _ v u Q I rx ry ⟨p, p2, xs, ys, rfl, rfl, hp, hp2, by rw [rd.length, rd2.length]; exact hc, fun q hq => post.lst rel (rd.append rd2) q hq⟩
            · exact post.elim
          · exact post.elim
        · rcases hk2 with ⟨rfl, hp2⟩ | ⟨rfl, hp2, o2, t2, h2⟩
          · exact post.elim
          · simp only [binS] at post
            split at post
            · rename_i hc
              refine op_catZ (z := T.z) I rx ry hp hp2 (by rw [rd.length, rd2.length]; exact hc) (fun e => ?_) (fun _ e => ?_) (fun _ _ q o hq ho => post.tup rel (rd.append rd2) q o hq ho)
              · subst e
                cases rd
                have e2 := seqTup rb hs2
                subst e2
                exact post.here rel rb.r
              · subst e
                cases rd2
                have e1 := seqTup ra hs1
                subst e1
                rw [List.append_nil] at post
                exact post.here rel ra.r
            · exact post.elim
      | _ => exact post.elim
    · exact post.elim
end
end Mi

set_option Elab.async false
set_option linter.all false
set_option maxRecDepth 100000
set_option maxHeartbeats 4000000
/-! MiE: comparisons by values. -/
namespace Mi
open PySem PySem.Spec PyProof.Rows L2

/-! ### lexicographic order -/
section
open Ob
theorem lexAt_shift {e r : Nat → Bool} {z : Bool} : ∀ (k i : Nat), lexAt (fun j => e (j + 1)) (fun j => r (j + 1)) z i k = lexAt e r z (i + 1) k
  | 0, _ => rfl
  | k + 1, i => by
    rw [lexAt_succ, lexAt_succ, lexAt_shift k (i + 1)]
theorem lexAt_congr {e e' r r' : Nat → Bool} {z : Bool} : ∀ (k i : Nat), (∀ j, i ≤ j → j < i + k → e j = e' j ∧ r j = r' j) → lexAt e r z i k = lexAt e' r' z i k
  | 0, _, _ => rfl
  | k + 1, i, h => by
    rw [lexAt_succ, lexAt_succ, (h i (Nat.le_refl _) (by omega)).1, (h i (Nat.le_refl _) (by omega)).2, lexAt_congr k (i + 1) fun j h1 h2 => h j (by omega) (by omega)]
def eqJ (xs ys : List D) (j : Nat) : Bool := D.eqv (xs.getD j .non) (ys.getD j .non)
def ltJ (xs ys : List D) (j : Nat) : Bool := (ltD (xs.getD j .non) (ys.getD j .non)).getD false
def leJ (xs ys : List D) (j : Nat) : Bool := (leD (xs.getD j .non) (ys.getD j .non)).getD false
theorem ltDs_lex : ∀ (xs ys : List D) (b : Bool), ltDs xs ys = some b → b = lexAt (eqJ xs ys) (ltJ xs ys) (decide (xs.length < ys.length)) 0 (min xs.length ys.length)
  | [], [], b, h => by simp [ltDs] at h; subst h; rfl
  | [], _ :: _, b, h => by simp [ltDs] at h; subst h; simp [lexAt_zero]
  | _ :: _, [], b, h => by simp [ltDs] at h; subst h; simp [lexAt_zero]
  | x :: xs, y :: ys, b, h => by
    simp only [ltDs] at h
    split at h
    · rename_i c r h1 h2
      have ih := ltDs_lex xs ys r h2
      have e : min (x :: xs).length (y :: ys).length = min xs.length ys.length + 1 := by simp only [List.length_cons]; omega
      rw [e, lexAt_succ, ← lexAt_shift]
      have e1 : eqJ (x :: xs) (y :: ys) 0 = D.eqv x y := rfl
      have e2 : ltJ (x :: xs) (y :: ys) 0 = c := by show (ltD x y).getD false = c; rw [h1]; rfl
      have e3 : decide ((x :: xs).length < (y :: ys).length) = decide (xs.length < ys.length) := by simp
      rw [e1, e2, e3]
      have e4 : (fun j => eqJ (x :: xs) (y :: ys) (j + 1)) = eqJ xs ys := funext fun j => by simp [eqJ]
      have e5 : (fun j => ltJ (x :: xs) (y :: ys) (j + 1)) = ltJ xs ys := funext fun j => by simp [ltJ]
      rw [e4, e5, ← ih]
      exact (Option.some.inj h).symm
    · cases h
theorem leDs_lex : ∀ (xs ys : List D) (b : Bool), leDs xs ys = some b → b = lexAt (eqJ xs ys) (leJ xs ys) (decide (xs.length ≤ ys.length)) 0 (min xs.length ys.length)
  | [], [], b, h => by simp [leDs] at h; subst h; rfl
  | [], _ :: _, b, h => by simp [leDs] at h; subst h; simp [lexAt_zero]
  | _ :: _, [], b, h => by simp [leDs] at h; subst h; simp [lexAt_zero]
  | x :: xs, y :: ys, b, h => by
    simp only [leDs] at h
    split at h
    · rename_i c r h1 h2
      have ih := leDs_lex xs ys r h2
      have e : min (x :: xs).length (y :: ys).length = min xs.length ys.length + 1 := by simp only [List.length_cons]; omega
      rw [e, lexAt_succ, ← lexAt_shift]
      have e1 : eqJ (x :: xs) (y :: ys) 0 = D.eqv x y := rfl
      have e2 : leJ (x :: xs) (y :: ys) 0 = c := by show (leD x y).getD false = c; rw [h1]; rfl
      have e3 : decide ((x :: xs).length ≤ (y :: ys).length) = decide (xs.length ≤ ys.length) := by simp
      rw [e1, e2, e3]
      have e4 : (fun j => eqJ (x :: xs) (y :: ys) (j + 1)) = eqJ xs ys := funext fun j => by simp [eqJ]
      have e5 : (fun j => leJ (x :: xs) (y :: ys) (j + 1)) = leJ xs ys := funext fun j => by simp [leJ]
      rw [e4, e5, ← ih]
      exact (Option.some.inj h).symm
    · cases h
/-- at each place the two are ordered -/
theorem ltDs_at : ∀ (xs ys : List D) (b : Bool), ltDs xs ys = some b → ∀ j, j < xs.length → j < ys.length → (ltD (xs.getD j .non) (ys.getD j .non)) = some (ltJ xs ys j)
  | [], _, _, _, _, h, _ => by simp at h
  | _ :: _, [], _, _, _, _, h => by simp at h
  | x :: xs, y :: ys, b, h, j, h1, h2 => by
    simp only [ltDs] at h
    split at h
    · rename_i c r e1 e2
      cases j with
      | zero => show ltD x y = some ((ltD x y).getD false); rw [e1]; rfl
      | succ j =>
        have := ltDs_at xs ys r e2 j (by simpa using h1) (by simpa using h2)
        simpa [ltJ] using this
    · cases h
theorem leDs_at : ∀ (xs ys : List D) (b : Bool), leDs xs ys = some b → ∀ j, j < xs.length → j < ys.length → (leD (xs.getD j .non) (ys.getD j .non)) = some (leJ xs ys j)
  | [], _, _, _, _, h, _ => by simp at h
  | _ :: _, [], _, _, _, _, h => by simp at h
  | x :: xs, y :: ys, b, h, j, h1, h2 => by
    simp only [leDs] at h
    split at h
    · rename_i c r e1 e2
      cases j with
      | zero => show leD x y = some ((leD x y).getD false); rw [e1]; rfl
      | succ j =>
        have := leDs_at xs ys r e2 j (by simpa using h1) (by simpa using h2)
        simpa [leJ] using this
    · cases h
end

section
variable {X : Cx} {T : Tb} {E : XK} {W : Wd} {S : Sto} {H : Hp} {Q : VK} {pins : List (Addr × Obj)} {σ : L2.St} {s : Shared} {F : Hp}
theorem Rps.getD {K : PySem.W.Frag} : ∀ {vs : List V} {ds : List D} {us : List Value} (j : Nat) (h : j < us.length), Rps K T F vs ds → Vals vs us → ∃ v, Rp K T F v (ds.getD j .non) ∧ RelV v us[j]
  | _, _, _, _, h, .nil, .nil => absurd h (by simp)
  | _, _, _, 0, _, .cons a _, .cons b _ => ⟨_, a, b⟩
  | _, _, _, j + 1, h, .cons _ r, .cons _ t => by
    obtain ⟨v, h1, h2⟩ := Rps.getD j (by simpa using h) r t
    exact ⟨v, by simpa using h1, by simpa using h2⟩
theorem ok_at {ds : List D} (h : ds.all D.ok = true) (j : Nat) : (ds.getD j .non).ok = true := by
  by_cases hj : j < ds.length
  · rw [List.getD_eq_getElem?_getD, List.getElem?_eq_getElem hj]
    exact List.all_eq_true.mp h _ (List.getElem_mem hj)
  · rw [List.getD_eq_getElem?_getD, List.getElem?_eq_none (by omega)]
    rfl
/-- == of two data, at their places -/
theorem eqAt_of (I : Inv X pins σ H s) (ef : Ext F H) {A : Around} {d e : D} {v w : V} {a b : Value} (hd : Rp X.K T F v d) (he : Rp X.K T F w e) (ra : RelV v a) (rb : RelV w b) (ld : d.py.canLay0 = true) (le : e.py.canLay0 = true)
    (hu : A.units + min d.py.depth e.py.depth < cLine) : SeqAt.EqAt A s a b (D.eqv d e) := by
  obtain ⟨as, r1⟩ := Dp.reads I d.py v a (hd.dp ef ld) ra
  obtain ⟨bs, r2⟩ := Dp.reads I e.py w b (he.dp ef le) rb
  exact SeqAt.eqAt_reads _ _ A s a b _ _ r1 r2 ld le hu
theorem lay_tup {ds : List D} (h : (D.tup ds).py.canLay0 = true) : PyData.canLayAll0 (D.pys ds) = true := by simpa [D.py, PyData.canLay0] using h
theorem lay_at : ∀ {ds : List D}, PyData.canLayAll0 (D.pys ds) = true → ∀ j, (ds.getD j .non).py.canLay0 = true
  | [], _, j => by simp [D.py, PyData.canLay0]
  | d :: ds, h, 0 => by
    have h' : d.py.canLay0 = true ∧ PyData.canLayAll0 (D.pys ds) = true := by simpa [D.pys, PyData.canLayAll0] using h
    exact h'.1
  | d :: ds, h, j + 1 => by
    have h' : d.py.canLay0 = true ∧ PyData.canLayAll0 (D.pys ds) = true := by simpa [D.pys, PyData.canLayAll0] using h
    have := lay_at h'.2 j
    simpa using this
theorem depth_at : ∀ (ds : List D) (j : Nat), (ds.getD j .non).py.depth ≤ PyData.depthAll (D.pys ds)
  | [], j => by simp [D.py, PyData.depth]
  | d :: ds, 0 => Nat.le_max_left _ _
  | d :: ds, j + 1 => by
    have := depth_at ds j
    have e : ((d :: ds).getD (j + 1) .non) = ds.getD j .non := by simp
    rw [e]
    exact Nat.le_trans this (Nat.le_max_right _ _)
theorem tup_of (I : Inv X pins σ H s) (ef : Ext F H) {ds : List D} {v : V} {a : Value} (hd : Rp X.K T F v (.tup ds)) (ra : RelV v a) : ∃ p xs its, a = .ref p ∧ Rps X.K T F xs ds ∧ Vals xs its ∧ s.heap.IsTuple p its.toArray := by
  cases hd with
  | tup t h r =>
    cases ra
    obtain ⟨its, r1, p1, _⟩ := I.tuple (show SqT X.K H _ _ from .inl (t.rd (ef _ _ h)))
    exact ⟨_, _, its, rfl, r, r1, p1⟩
/-- < of two data -/
theorem rc_lt (I : Inv X pins σ H s) (ef : Ext F H) : ∀ (n : Nat) (A : Around) (d e : D) (c : Bool) (v w : V) (a b : Value), d.py.depth ≤ n → ltD d e = some c → Rp X.K T F v d → Rp X.K T F w e → RelV v a → RelV w b → d.py.canLay0 = true → e.py.canLay0 = true →
    A.units + n < cLine → Ob.RcOp .Lt A s a b c := by
  intro n
  induction n with
  | zero =>
    intro A d e c v w a b hn hl hd he ra rb ld le hu
    cases d <;> cases e <;> simp only [ltD, Option.some.injEq, reduceCtorEq] at hl
    · cases hd; cases he
      obtain ⟨t, rfl⟩ := ra
      obtain ⟨t', rfl⟩ := rb
      subst hl
      exact Ob.RcOp.lt_int _ _ _ _
    · cases hd; cases he
      obtain ⟨t, rfl⟩ := ra
      obtain ⟨t', rfl⟩ := rb
      subst hl
      exact fun _ _ _ _ h => PyProof.Rows.lt_str h
    · simp [D.py, PyData.depth] at hn
  | succ n ih =>
    intro A d e c v w a b hn hl hd he ra rb ld le hu
    cases d <;> cases e <;> simp only [ltD, Option.some.injEq, reduceCtorEq] at hl
    · cases hd; cases he
      obtain ⟨t, rfl⟩ := ra
      obtain ⟨t', rfl⟩ := rb
      subst hl
      exact Ob.RcOp.lt_int _ _ _ _
    · cases hd; cases he
      obtain ⟨t, rfl⟩ := ra
      obtain ⟨t', rfl⟩ := rb
      subst hl
      exact fun _ _ _ _ h => PyProof.Rows.lt_str h
    · rename_i ds es
      obtain ⟨p, xs, its, rfl, r1, v1, t1⟩ := tup_of I ef hd ra
      obtain ⟨q, ys, its2, rfl, r2, v2, t2⟩ := tup_of I ef he rb
      have hdep : PyData.depthAll (D.pys ds) ≤ n := by
        have : PyData.depthAll (D.pys ds) + 1 ≤ n + 1 := by simpa [D.py, PyData.depth] using hn
        omega
      have l1 := lay_tup ld
      have l2 := lay_tup le
      have n1 : its.length = ds.length := by rw [← v1.length, r1.length]
      have n2 : its2.length = es.length := by rw [← v2.length, r2.length]
      have R := Ob.RcOp.tuples_lt (A := A) (s := s) (e := eqJ ds es) (r := ltJ ds es) t1 t2 (by omega) (fun j h1 h2 => by
        have h1' : j < its.length := by simpa using h1
        have h2' : j < its2.length := by simpa using h2
        obtain ⟨v', q1, q2⟩ := Rps.getD j h1' r1 v1
        obtain ⟨w', q3, q4⟩ := Rps.getD j h2' r2 v2
        have z := eqAt_of (A := A.in1) I ef q1 q3 q2 q4 (lay_at l1 j) (lay_at l2 j) (by
          have := depth_at ds j
          show A.units + 1 + _ < _
          have : min (ds.getD j .non).py.depth (es.getD j .non).py.depth ≤ (ds.getD j .non).py.depth := Nat.min_le_left _ _
          omega)
        simpa [eqJ] using z) (fun j h1 h2 _ => by
        have h1' : j < its.length := by simpa using h1
        have h2' : j < its2.length := by simpa using h2
        obtain ⟨v', q1, q2⟩ := Rps.getD j h1' r1 v1
        obtain ⟨w', q3, q4⟩ := Rps.getD j h2' r2 v2
        have z := ih A.in1 _ _ (ltJ ds es j) v' w' _ _ (Nat.le_trans (depth_at ds j) hdep) (ltDs_at ds es c hl j (by omega) (by omega)) q1 q3 q2 q4 (lay_at l1 j) (lay_at l2 j) (by
          show A.units + 1 + n < _
          omega)
        simpa using z)
      have e1 := ltDs_lex ds es c hl
      simp only [List.size_toArray, n1, n2] at R
      rw [e1]
      exact R
theorem rc_le (I : Inv X pins σ H s) (ef : Ext F H) : ∀ (n : Nat) (A : Around) (d e : D) (c : Bool) (v w : V) (a b : Value), d.py.depth ≤ n → leD d e = some c → Rp X.K T F v d → Rp X.K T F w e → RelV v a → RelV w b → d.py.canLay0 = true → e.py.canLay0 = true →
    A.units + n < cLine → Ob.RcOp .LtE A s a b c := by
  intro n
  induction n with
  | zero =>
    intro A d e c v w a b hn hl hd he ra rb ld le hu
    cases d <;> cases e <;> simp only [leD, Option.some.injEq, reduceCtorEq] at hl
    · cases hd; cases he
      obtain ⟨t, rfl⟩ := ra
      obtain ⟨t', rfl⟩ := rb
      subst hl
      exact Ob.RcOp.le_int _ _ _ _
    · simp [D.py, PyData.depth] at hn
  | succ n ih =>
    intro A d e c v w a b hn hl hd he ra rb ld le hu
    cases d <;> cases e <;> simp only [leD, Option.some.injEq, reduceCtorEq] at hl
    · cases hd; cases he
      obtain ⟨t, rfl⟩ := ra
      obtain ⟨t', rfl⟩ := rb
      subst hl
      exact Ob.RcOp.le_int _ _ _ _
    · rename_i ds es
      obtain ⟨p, xs, its, rfl, r1, v1, t1⟩ := tup_of I ef hd ra
      obtain ⟨q, ys, its2, rfl, r2, v2, t2⟩ := tup_of I ef he rb
      have hdep : PyData.depthAll (D.pys ds) ≤ n := by
        have : PyData.depthAll (D.pys ds) + 1 ≤ n + 1 := by simpa [D.py, PyData.depth] using hn
        omega
      have l1 := lay_tup ld
      have l2 := lay_tup le
      have n1 : its.length = ds.length := by rw [← v1.length, r1.length]
      have n2 : its2.length = es.length := by rw [← v2.length, r2.length]
      have R := Ob.RcOp.tuples_le (A := A) (s := s) (e := eqJ ds es) (r := leJ ds es) t1 t2 (by omega) (fun j h1 h2 => by
        have h1' : j < its.length := by simpa using h1
        have h2' : j < its2.length := by simpa using h2
        obtain ⟨v', q1, q2⟩ := Rps.getD j h1' r1 v1
        obtain ⟨w', q3, q4⟩ := Rps.getD j h2' r2 v2
        have z := eqAt_of (A := A.in1) I ef q1 q3 q2 q4 (lay_at l1 j) (lay_at l2 j) (by
          have := depth_at ds j
          show A.units + 1 + _ < _
          have : min (ds.getD j .non).py.depth (es.getD j .non).py.depth ≤ (ds.getD j .non).py.depth := Nat.min_le_left _ _
          omega)
        simpa [eqJ] using z) (fun j h1 h2 _ => by
        have h1' : j < its.length := by simpa using h1
        have h2' : j < its2.length := by simpa using h2
        obtain ⟨v', q1, q2⟩ := Rps.getD j h1' r1 v1
        obtain ⟨w', q3, q4⟩ := Rps.getD j h2' r2 v2
        have z := ih A.in1 _ _ (leJ ds es j) v' w' _ _ (Nat.le_trans (depth_at ds j) hdep) (leDs_at ds es c hl j (by omega) (by omega)) q1 q3 q2 q4 (lay_at l1 j) (lay_at l2 j) (by
          show A.units + 1 + n < _
          omega)
        simpa using z)
      have e1 := leDs_lex ds es c hl
      simp only [List.size_toArray, n1, n2] at R
      rw [e1]
      exact R
end

/-! ### dicts -/
section
variable {K : PySem.W.Frag} {T : Tb} {F : Hp}
theorem kD_eqv (j k : Key) : D.eqv (kD j) (kD k) = decide (j = k) := by
  cases j with
  | inl a => cases k with
    | inl b =>
      show (a == b) = _
      by_cases h : a = b
      · subst h; simp
      · rw [decide_eq_false (fun e => h (Sum.inl.inj e))]; exact beq_eq_false_iff_ne.mpr h
    | inr b => rfl
  | inr a => cases k with
    | inl b => rfl
    | inr b =>
      show (a == b) = _
      by_cases h : a = b
      · subst h; simp
      · rw [decide_eq_false (fun e => h (Sum.inr.inj e))]; exact beq_eq_false_iff_ne.mpr h
theorem kDs_eqv : ∀ js ks : List Key, PyData.eqvAll (D.pys (js.map kD)) (D.pys (ks.map kD)) = decide (js = ks)
  | [], [] => rfl
  | [], _ :: _ => by simp [D.pys, PyData.eqvAll]
  | _ :: _, [] => by simp [D.pys, PyData.eqvAll]
  | j :: js, k :: ks => by
    show (PyData.eqv (kD j).py (kD k).py && PyData.eqvAll (D.pys (js.map kD)) (D.pys (ks.map kD))) = _
    have h1 : PyData.eqv (kD j).py (kD k).py = decide (j = k) := kD_eqv j k
    rw [h1, kDs_eqv js ks]
    by_cases a : j = k <;> by_cases b : js = ks <;> simp [a, b]
theorem kT_eqv (js ks : List Key) : D.eqv (.tup (js.map kD)) (.tup (ks.map kD)) = decide (js = ks) := kDs_eqv js ks
/-- a key of the first kind -/
theorem keyK {v : V} {d : D} (h : keyB false d = true) (r : Rp K T F v d) : ∃ k : Key, v = kV k ∧ d = kD k := by
  cases r with
  | int i => exact ⟨.inl i, rfl, rfl⟩
  | str x => exact ⟨.inr x, rfl, rfl⟩
  | tup _ _ _ => simp [keyB] at h
  | _ => simp [keyB] at h
theorem keysK : ∀ {vs : List V} {ds : List D}, Rps K T F vs ds → ds.all flatK = true → ∃ ks : List Key, vs = ks.map kV ∧ ds = ks.map kD
  | _, _, .nil, _ => ⟨[], rfl, rfl⟩
  | _, d :: ds, .cons h r, e => by
    rw [List.all_cons, Bool.and_eq_true] at e
    obtain ⟨ks, e1, e2⟩ := keysK r e.2
    cases h with
    | int i => exact ⟨.inl i :: ks, by rw [e1]; rfl, by rw [e2]; rfl⟩
    | str x => exact ⟨.inr x :: ks, by rw [e1]; rfl, by rw [e2]; rfl⟩
    | _ => simp [flatK] at e
/-- of the second -/
theorem keyT {v : V} {d : D} (hz : T.z = false) (h : keyB true d = true) (r : Rp K T F v d) : ∃ (b : Addr) (ks : List Key), v = .ref b ∧ F b = some (.tup (ks.map kV)) ∧ d = .tup (ks.map kD) := by
  cases r with
  | tup t h1 h2 =>
    obtain ⟨ks, e1, e2⟩ := keysK h2 (by simpa [keyB] using h)
    rcases t with ⟨_, rfl⟩ | ⟨e, _⟩
    · subst e1 e2
      exact ⟨_, ks, rfl, h1, rfl⟩
    · rw [hz] at e; cases e
  | _ => simp [keyB] at h
theorem lookK (k : Key) : ∀ {kvs : List (Key × V)} {ps : List (D × D)}, KRp K T F kvs ps → (valV kvs k = none ∧ look (kD k) ps = none) ∨ ∃ v d, valV kvs k = some v ∧ look (kD k) ps = some d ∧ Rp K T F v d
  | _, _, .nil => .inl ⟨rfl, rfl⟩
  | _, _, @KRp.cons _ _ _ j v d kvs ps h r => by
    by_cases e : j = k
    · subst e
      refine .inr ⟨v, d, valV_pos (p := (j, v)) rfl, ?_, h⟩
      simp [look, List.find?_cons, kD_eqv]
    · rw [valV_neg (p := (j, v)) e]
      have : look (kD k) ((kD j, d) :: ps) = look (kD k) ps := by simp [look, List.find?_cons, kD_eqv, e]
      rw [this]
      exact lookK k r
theorem lookT (k : List Key) : ∀ {kvs : List (List Key × V)} {ps : List (D × D)}, KTp K T F kvs ps → (valV kvs k = none ∧ look (.tup (k.map kD)) ps = none) ∨ ∃ v d, valV kvs k = some v ∧ look (.tup (k.map kD)) ps = some d ∧ Rp K T F v d
  | _, _, .nil => .inl ⟨rfl, rfl⟩
  | _, _, @KTp.cons _ _ _ j v d kvs ps h r => by
    by_cases e : j = k
    · subst e
      refine .inr ⟨v, d, valV_pos (p := (j, v)) rfl, ?_, h⟩
      simp [look, List.find?_cons, kT_eqv]
    · rw [valV_neg (p := (j, v)) e]
      have : look (.tup (k.map kD)) ((.tup (j.map kD), d) :: ps) = look (.tup (k.map kD)) ps := by simp [look, List.find?_cons, kT_eqv, e]
      rw [this]
      exact lookT k r
theorem KRp.length : ∀ {kvs : List (Key × V)} {ps : List (D × D)}, KRp K T F kvs ps → kvs.length = ps.length
  | _, _, .nil => rfl
  | _, _, .cons _ r => congrArg (· + 1) (KRp.length r)
theorem KTp.length : ∀ {kvs : List (List Key × V)} {ps : List (D × D)}, KTp K T F kvs ps → kvs.length = ps.length
  | _, _, .nil => rfl
  | _, _, .cons _ r => congrArg (· + 1) (KTp.length r)
theorem anyK (k : Key) : ∀ {kvs : List (Key × V)} {ps : List (D × D)}, KRp K T F kvs ps → (kvs.any fun kv => decide (kv.1 = k)) = ps.any fun p => D.eqv p.1 (kD k)
  | _, _, .nil => rfl
  | _, _, .cons _ r => by rw [List.any_cons, List.any_cons, anyK k r, kD_eqv]
theorem anyT (k : List Key) : ∀ {kvs : List (List Key × V)} {ps : List (D × D)}, KTp K T F kvs ps → (kvs.any fun kv => decide (kv.1 = k)) = ps.any fun p => D.eqv p.1 (.tup (k.map kD))
  | _, _, .nil => rfl
  | _, _, .cons _ r => by rw [List.any_cons, List.any_cons, anyT k r, kT_eqv]
theorem KRp.map {v : V} {d : D} (k : Key) (h : Rp K T F v d) : ∀ {kvs : List (Key × V)} {ps : List (D × D)}, KRp K T F kvs ps →
    KRp K T F (kvs.map fun kv => if kv.1 = k then (kv.1, v) else kv) (ps.map fun p => if D.eqv p.1 (kD k) = true then (p.1, d) else p)
  | _, _, .nil => .nil
  | _, _, @KRp.cons _ _ _ j _ _ kvs ps h' r => by
    rw [List.map_cons, List.map_cons]
    show KRp K T F _ ((if D.eqv (kD j) (kD k) = true then (kD j, d) else _) :: _)
    rw [kD_eqv]
    by_cases e : j = k
    · rw [if_pos e, if_pos (decide_eq_true e)]; exact .cons h (KRp.map k h r)
    · rw [if_neg e, if_neg (by simp [e])]; exact .cons h' (KRp.map k h r)
theorem KTp.map {v : V} {d : D} (k : List Key) (h : Rp K T F v d) : ∀ {kvs : List (List Key × V)} {ps : List (D × D)}, KTp K T F kvs ps →
    KTp K T F (kvs.map fun kv => if kv.1 = k then (kv.1, v) else kv) (ps.map fun p => if D.eqv p.1 (.tup (k.map kD)) = true then (p.1, d) else p)
  | _, _, .nil => .nil
  | _, _, @KTp.cons _ _ _ j _ _ kvs ps h' r => by
    rw [List.map_cons, List.map_cons]
    show KTp K T F _ ((if D.eqv (.tup (j.map kD)) (.tup (k.map kD)) = true then (D.tup (j.map kD), d) else _) :: _)
    rw [kT_eqv]
    by_cases e : j = k
    · rw [if_pos e, if_pos (decide_eq_true e)]; exact .cons h (KTp.map k h r)
    · rw [if_neg e, if_neg (by simp [e])]; exact .cons h' (KTp.map k h r)
theorem KRp.snoc {v : V} {d : D} (k : Key) (h : Rp K T F v d) : ∀ {kvs : List (Key × V)} {ps : List (D × D)}, KRp K T F kvs ps → KRp K T F (kvs ++ [(k, v)]) (ps ++ [(kD k, d)])
  | _, _, .nil => .cons h .nil
  | _, _, .cons h' r => .cons h' (KRp.snoc k h r)
theorem KTp.snoc {v : V} {d : D} (k : List Key) (h : Rp K T F v d) : ∀ {kvs : List (List Key × V)} {ps : List (D × D)}, KTp K T F kvs ps → KTp K T F (kvs ++ [(k, v)]) (ps ++ [(.tup (k.map kD), d)])
  | _, _, .nil => .cons h .nil
  | _, _, .cons h' r => .cons h' (KTp.snoc k h r)
theorem KRp.put {v : V} {d : D} (k : Key) (h : Rp K T F v d) {kvs : List (Key × V)} {ps : List (D × D)} (r : KRp K T F kvs ps) : KRp K T F (putK kvs k v) (put (kD k) d ps) := by
  unfold putK Mi.put
  rw [anyK k r]
  split
  · exact r.map k h
  · exact r.snoc k h
theorem KTp.put {v : V} {d : D} (k : List Key) (h : Rp K T F v d) {kvs : List (List Key × V)} {ps : List (D × D)} (r : KTp K T F kvs ps) : KTp K T F (putK kvs k v) (put (.tup (k.map kD)) d ps) := by
  unfold putK Mi.put
  rw [anyT k r]
  split
  · exact r.map k h
  · exact r.snoc k h
end

section
variable {X : Cx} {T : Tb} {E : XK} {W : Wd} {S : Sto} {H : Hp} {Q : VK} {pins : List (Addr × Obj)} {σ : L2.St} {s : Shared}
/-- what a dict holds at a key -/
theorem dgetA {p : Addr} {u : HO} {t : Bool} {ps : List (D × D)} {x : V} {k : D} {F : Hp} (ef : Ext F H) (hp : H p = some u) (ou : ORp X.K T F (.dic t ps) u) (hk : keyB t k = true) (rk : Rp X.K T F x k) :
    (DGet H p x none ∧ look k ps = none) ∨ ∃ v d, DGet H p x (some v) ∧ look k ps = some d ∧ Rp X.K T F v d := by
  cases ou with
  | dK r =>
    obtain ⟨j, rfl, rfl⟩ := keyK hk rk
    have g := DGet.k (k := j) hp
    rcases lookK j r with ⟨e1, e2⟩ | ⟨v, d, e1, e2, h⟩
    · rw [e1] at g; exact .inl ⟨g, e2⟩
    · rw [e1] at g; exact .inr ⟨v, d, g, e2, h⟩
  | dT z r =>
    obtain ⟨b, j, rfl, hb, rfl⟩ := keyT z hk rk
    have g := DGet.t (k := j) hp (ef _ _ hb)
    rcases lookT j r with ⟨e1, e2⟩ | ⟨v, d, e1, e2, h⟩
    · rw [e1] at g; exact .inl ⟨g, e2⟩
    · rw [e1] at g; exact .inr ⟨v, d, g, e2, h⟩

theorem op_isin {x y : V} {v u : Value} {a b : R} {c : Bool} (hu : X.A.units + 80 < cLine) (I : Inv X pins σ H s) (rx : RelV x v) (ry : RelV y u) (rel : Rel X.K T W S H) (ra : RpA X.K T W a x) (rb : RpA X.K T W b y) (h : isinB S a b = some c) :
    (∀ Q : Value → Shared → Prop, (∀ s', Inv X pins σ H s' → Q (.bool c) s') → wpAny (model X.prog X.w) X.A (compareOp .In v u) Q X.xe s) ∧
    (∀ Q : Value → Shared → Prop, (∀ s', Inv X pins σ H s' → Q (.bool (!c)) s') → wpAny (model X.prog X.w) X.A (compareOp .NotIn v u) Q X.xe s) := by
  unfold isinB at h
  split at h
  · cases h
  · rename_i d hd
    split at h
    · rename_i k ds hs
      split at h
      · rename_i hok
        rw [Bool.and_eq_true] at hok
        have e := Option.some.inj h
        have dd := datA rel ra hd hok.1
        obtain ⟨bs, r1⟩ := Dp.reads I d.py x v dd rx
        have l1 := all_lay hok.2
        have hroom : X.A.units + 1 + min (PyData.depthAll (D.pys ds)) d.py.depth < cLine := by
          have := all_depth hok.2
          have : min (PyData.depthAll (D.pys ds)) d.py.depth ≤ PyData.depthAll (D.pys ds) := Nat.min_le_left _ _
          omega
        have ea : ((D.pys ds).any fun z => PyData.eqv z d.py) = c := by
          rw [pys_map, List.any_map, ← e]; rfl
        obtain ⟨p, xs, rfl, rd, hk⟩ := seqA rel rb.r hs
        rcases hk with ⟨rfl, hp⟩ | ⟨rfl, hp, _⟩
        · obtain ⟨as, r2⟩ := Dp.reads I (.list (D.pys ds)) (.ref p) u (.lst (SqL.of hp) (Rps.dp rel.sub rd l1)) ry
          exact ⟨fun Q q => SeqAt.in_list_reads r2 r1 l1 (D.ok_lay hok.1) hroom (by rw [ea]; exact q _ I), fun Q q => SeqAt.notIn_list_reads r2 r1 l1 (D.ok_lay hok.1) hroom (by rw [ea]; exact q _ I)⟩
        · obtain ⟨as, r2⟩ := Dp.reads I (.tuple (D.pys ds)) (.ref p) u (.tup (.inl hp) (Rps.dp rel.sub rd l1)) ry
          exact ⟨fun Q q => SeqAt.in_tuple_reads r2 r1 l1 (D.ok_lay hok.1) hroom (by rw [ea]; exact q _ I), fun Q q => SeqAt.notIn_tuple_reads r2 r1 l1 (D.ok_lay hok.1) hroom (by rw [ea]; exact q _ I)⟩
      · cases h
    · split at h
      · rename_i t kvs hdic
        split at h
        · rename_i hk
          have e := Option.some.inj h
          obtain ⟨p, o, rfl, hp, ou⟩ := dicA rel rb.r hdic
          cases (show u = Value.ref p from ry)
          have hr : Rp X.K T W.F x d := by
            cases a with
            | d z => have e' : z = d := Option.some.inj hd; subst e'; exact ra
            | loc l =>
              simp only [R.dat] at hd
              split at hd
              · have e' := Option.some.inj hd
                subst e'
                cases t <;> simp [keyB] at hk
              · cases hd
            | fl _ => exact ra.elim
            | fd _ _ => exact ra.elim
          rcases dgetA rel.sub hp ou hk hr with ⟨g, e1⟩ | ⟨v', d', g, e1, _⟩
          · rw [e1] at e
            have e2 : c = false := e.symm
            subst e2
            exact ⟨fun Q q => d_in (by omega) I g rx q, fun Q q => d_notIn (by omega) I g rx q⟩
          · rw [e1] at e
            have e2 : c = true := e.symm
            subst e2
            exact ⟨fun Q q => d_in (by omega) I g rx q, fun Q q => d_notIn (by omega) I g rx q⟩
        · cases h
      · cases h

theorem op_cmp (o : CO) (hu : X.A.units + 80 < cLine) : OpR X (compareOp o.py) (rdO X.K T E (cmpop o)) := by
  intro pins s σ H x y v u Q I rx ry ⟨W, S, a, b, rel, ra, rb, post⟩
  unfold cmpop at post
  cases hc : cmpB o a b S with
  | none => rw [hc] at post; exact post.elim
  | some c =>
    rw [hc] at post
    have q : Q (.bl c) H := Post.here (a := .d (.bl c)) post rel (.bl c)
    cases o with
    | eq =>
      simp only [cmpB] at hc
      split at hc
      · rename_i d e h1 h2
        split at hc
        · rename_i hok
          rw [Bool.and_eq_true] at hok
          have e1 := Option.some.inj hc
          subst e1
          exact op_eqD (by omega) pins s σ H x y v u Q I rx ry ⟨d.py, e.py, datA rel ra h1 hok.1, datA rel rb h2 hok.2, hok.1, hok.2, q⟩
        · cases hc
      · cases hc
    | ne =>
      simp only [cmpB] at hc
      split at hc
      · rename_i d e h1 h2
        split at hc
        · rename_i hok
          rw [Bool.and_eq_true] at hok
          have e1 := Option.some.inj hc
          subst e1
          exact op_neD (by omega) pins s σ H x y v u Q I rx ry ⟨d.py, e.py, datA rel ra h1 hok.1, datA rel rb h2 hok.2, hok.1, hok.2, q⟩
        · cases hc
      · cases hc
    | lt =>
      simp only [cmpB] at hc
      split at hc
      · rename_i d e
        split at hc
        · rename_i hok
          rw [Bool.and_eq_true] at hok
          have R := rc_lt I rel.sub 64 X.A d e c x y v u (D.ok_depth hok.1) hc ra rb rx ry (D.ok_lay hok.1) (D.ok_lay hok.2) (by omega)
          have z : wpAny (model X.prog X.w) X.A (compareOp .Lt v u) (EP X pins σ Q) X.xe s := R X.prog X.w X.xe (EP X pins σ Q) ⟨.bl _, H, I, rfl, q⟩
          exact z
        · cases hc
      · cases hc
    | le =>
      simp only [cmpB] at hc
      split at hc
      · rename_i d e
        split at hc
        · rename_i hok
          rw [Bool.and_eq_true] at hok
          have R := rc_le I rel.sub 64 X.A d e c x y v u (D.ok_depth hok.1) hc ra rb rx ry (D.ok_lay hok.1) (D.ok_lay hok.2) (by omega)
          have z : wpAny (model X.prog X.w) X.A (compareOp .LtE v u) (EP X pins σ Q) X.xe s := R X.prog X.w X.xe (EP X pins σ Q) ⟨.bl _, H, I, rfl, q⟩
          exact z
        · cases hc
      · cases hc
    | gt =>
      simp only [cmpB] at hc
      split at hc
      · rename_i i j
        cases (show Rp X.K T W.F x (.int i) from ra)
        cases (show Rp X.K T W.F y (.int j) from rb)
        have e1 := Option.some.inj hc
        subst e1
        exact op_gt pins s σ H _ _ v u Q I rx ry ⟨i, j, rfl, rfl, q⟩
      · cases hc
    | ge =>
      simp only [cmpB] at hc
      split at hc
      · rename_i i j
        cases (show Rp X.K T W.F x (.int i) from ra)
        cases (show Rp X.K T W.F y (.int j) from rb)
        have e1 := Option.some.inj hc
        subst e1
        exact op_ge pins s σ H _ _ v u Q I rx ry ⟨i, j, rfl, rfl, q⟩
      · cases hc
    | is =>
      simp only [cmpB] at hc
      split at hc
      · cases (show Rp X.K T W.F y .non from rb)
        have e1 : c = decide (x = .non) := by
          split at hc
          · cases (show Rp X.K T W.F x .non from ra)
            exact (Option.some.inj hc).symm
          · rename_i hn
            have e2 := Option.some.inj hc
            subst e2
            refine (decide_eq_false fun e => ?_).symm
            subst e
            cases a with
            | d z => cases (show Rp X.K T W.F .non z from ra); exact hn rfl
            | loc l => obtain ⟨p, e, _⟩ := (show ∃ a, V.non = .ref a ∧ W.μ[l]? = some a from ra); cases e
            | _ => exact ra.elim
        rw [e1] at q
        exact op_isN pins s σ H x _ v u Q I rx ry ⟨rfl, q⟩
      · rename_i k
        cases (show Rp X.K T W.F y (.bl k) from rb)
        split at hc
        · rename_i j
          cases (show Rp X.K T W.F x (.bl j) from ra)
          have e1 := Option.some.inj hc
          subst e1
          refine op_is_bl pins s σ H _ _ v u Q I rx ry ⟨j, k, rfl, rfl, ?_⟩
          have e2 : decide (j = k) = (j == k) := by cases j <;> cases k <;> rfl
          rw [e2]; exact q
        · cases hc
      · cases hc
    | isnot =>
      simp only [cmpB] at hc
      split at hc
      · cases (show Rp X.K T W.F y .non from rb)
        have e1 : c = !decide (x = .non) := by
          split at hc
          · cases (show Rp X.K T W.F x .non from ra)
            exact (Option.some.inj hc).symm
          · rename_i hn
            have e2 := Option.some.inj hc
            subst e2
            rw [decide_eq_false fun e => ?_]
            · rfl
            subst e
            cases a with
            | d z => cases (show Rp X.K T W.F .non z from ra); exact hn rfl
            | loc l => obtain ⟨p, e, _⟩ := (show ∃ a, V.non = .ref a ∧ W.μ[l]? = some a from ra); cases e
            | _ => exact ra.elim
        rw [e1] at q
        exact op_notN pins s σ H x _ v u Q I rx ry ⟨rfl, q⟩
      · rename_i k
        cases (show Rp X.K T W.F y (.bl k) from rb)
        split at hc
        · rename_i j
          cases (show Rp X.K T W.F x (.bl j) from ra)
          have e1 := Option.some.inj hc
          subst e1
          refine op_isnot_bl pins s σ H _ _ v u Q I rx ry ⟨j, k, rfl, rfl, ?_⟩
          have e2 : decide (j = k) = (j == k) := by cases j <;> cases k <;> rfl
          rw [e2]; exact q
        · cases hc
      · cases hc
    | isin =>
      exact (op_isin hu I rx ry rel ra rb hc).1 _ fun s' I' => ⟨.bl c, H, I', rfl, q⟩
    | notin =>
      simp only [cmpB, Option.map_eq_some_iff] at hc
      obtain ⟨c', h1, h2⟩ := hc
      subst h2
      exact (op_isin hu I rx ry rel ra rb h1).2 _ fun s' I' => ⟨.bl (!c'), H, I', rfl, q⟩
end
end Mi

set_option Elab.async false
set_option linter.all false
set_option maxRecDepth 100000
set_option maxHeartbeats 4000000
/-! MiF: built-ins of one and two arguments, isinstance, subscripts, slices, methods, by values. -/
namespace Mi
open PySem PySem.Spec PyProof.Rows L2

def B1.val : B1 → Value
  | .len => .builtin "len"
  | .all => .builtin "all"
  | .any => .builtin "any"
  | .tuple => .type "tuple"
  | .list => .type "list"
  | .int => .type "int"
  | .abs => .builtin "abs"
  | .sum => .builtin "sum"
  | .sorted _ => .builtin "sorted"
  | .min _ => .builtin "min"
  | .max _ => .builtin "max"
def B1.nm : B1 → Str
  | .len => "len"
  | .all => "all"
  | .any => "any"
  | .tuple => "tuple"
  | .list => "list"
  | .int => "int"
  | .abs => "abs"
  | .sum => "sum"
  | .sorted _ => "sorted"
  | .min _ => "min"
  | .max _ => "max"
/-- one argument of any kind -/
def rdB (K : PySem.W.Frag) (T : Tb) (E : XK) (f : R → Sto → Res R) : List V → Hp → VK → Prop := fun xs H Q => ∃ W S r v, xs = [v] ∧ Rel K T W S H ∧ RpR K T W H r v ∧ Post K T E W (f r S) Q
def rdC (K : PySem.W.Frag) (T : Tb) (E : XK) (f : R → R → Sto → Res R) : List V → Hp → VK → Prop := fun xs H Q => ∃ W S a b x y, xs = [x, y] ∧ Rel K T W S H ∧ RpA K T W a x ∧ RpA K T W b y ∧ Post K T E W (f a b S) Q

section
variable {X : Cx} {T : Tb} {E : XK} {W : Wd} {S : Sto} {H : Hp} {Q : VK} {pins : List (Addr × Obj)} {σ : L2.St} {s : Shared}
theorem sq_of {p : Addr} {k : Bool} {xs : List V} (h : (k = true ∧ H p = some (.lst xs)) ∨ (k = false ∧ Rd H p (.tup xs) ∧ ∃ o, TupO T.z o xs ∧ H p = some o)) : SqL X.K H p xs ∨ SqT X.K H p xs := by
  rcases h with ⟨_, h⟩ | ⟨_, h, _⟩
  · exact .inl (SqL.of h)
  · exact .inr (.inl h)
theorem call_len : CallR X (.builtin "len") (rdB X.K T E (b1op .len)) := by
  intro pins s σ H xs us Q I r ⟨W, S, a, v, e, rel, ra, post⟩
  subst e
  simp only [b1op, lenR] at post
  split at post
  · rename_i k ds hs
    obtain ⟨p, ys, rfl, rd, hk⟩ := seqA rel ra hs
    refine call_len_seq pins s σ H _ us Q I r ⟨p, ys, rfl, sq_of hk, ?_⟩
    rw [rd.length]
    exact Post.here (a := .d (.int ds.length)) post rel (.int _)
  · split at post
    · rename_i t kvs hd
      obtain ⟨p, u, rfl, hp, ou⟩ := dicA rel ra hd
      cases ou with
      | dK q =>
        refine call_lenD pins s σ H _ us Q I r ⟨p, _, rfl, hp, ?_⟩
        rw [q.length]
        exact Post.here (a := .d (.int kvs.length)) post rel (.int _)
      | dT z q =>
        refine call_len_dT pins s σ H _ us Q I r ⟨p, _, rfl, hp, ?_⟩
        rw [q.length]
        exact Post.here (a := .d (.int kvs.length)) post rel (.int _)
    · split at post
      · rename_i z _ _
        split at post
        · rename_i hz
          cases (show Rp X.K T W.F v (.str z) from ra)
          exact call_len_str pins s σ H _ us Q I r ⟨z, rfl, hz, Post.here (a := .d (.int z.length)) post rel (.int _)⟩
        · exact post.elim
      · cases (show Rp X.K T W.F v .dct from ra) with
        | dct h => exact call_lenD pins s σ H _ us Q I r ⟨_, _, rfl, rel.sub _ _ h, Post.here (a := .d (.int 0)) post rel (.int _)⟩
      · exact post.elim
theorem call_allany (hc : X.calm = true) {b : B1} (hb : b = .all ∨ b = .any) : CallR X b.val (rdB X.K T E (b1op b)) := by
  intro pins s σ H xs us Q I r ⟨W, S, a, v, e, rel, ra, post⟩
  subst e
  rcases hb with rfl | rfl <;> simp only [b1op] at post <;> cases hs : a.seq S with
  | none => rw [hs] at post; exact post.elim
  | some p =>
    rw [hs] at post
    obtain ⟨k, ds⟩ := p
    cases hb : allBl ds with
    | none => simp only [Option.bind_some, hb, Option.bind_none] at post; exact post.elim
    | some bs =>
      simp only [Option.bind_some, hb] at post
      split at post
      · rename_i hk
        obtain ⟨p, ys, rfl, rd, hk'⟩ := seqA rel ra hs
        have hp : H p = some (.lst ys) := by
          rcases hk' with ⟨_, h⟩ | ⟨e, _⟩
          · exact h
          · rw [hk] at e; cases e
        have e := rd.bls hb
        subst e
        first
          | exact cr_all hc pins s σ H _ us Q I r ⟨p, bs, rfl, SqL.of hp, Post.here (a := .d (.bl (bs.all id))) post rel (.bl _)⟩
          | exact cr_any hc pins s σ H _ us Q I r ⟨p, bs, rfl, SqL.of hp, Post.here (a := .d (.bl (bs.any id))) post rel (.bl _)⟩
      · exact post.elim
theorem call_sum (hc : X.calm = true) : CallR X (.builtin "sum") (rdB X.K T E (b1op .sum)) := by
  intro pins s σ H xs us Q I r ⟨W, S, a, v, e, rel, ra, post⟩
  subst e
  simp only [b1op] at post
  cases hs : a.seq S with
  | none => rw [hs] at post; exact post.elim
  | some p =>
    rw [hs] at post
    obtain ⟨k, ds⟩ := p
    cases hb : allInt ds with
    | none => simp only [Option.bind_some, hb, Option.bind_none] at post; exact post.elim
    | some bs =>
      simp only [Option.bind_some, hb] at post
      split at post
      · rename_i hk
        obtain ⟨p, ys, rfl, rd, hk'⟩ := seqA rel ra hs
        have hp : H p = some (.lst ys) := by
          rcases hk' with ⟨_, h⟩ | ⟨e, _⟩
          · exact h
          · rw [hk] at e; cases e
        have e := rd.allInts hb
        subst e
        exact cr_sum hc pins s σ H _ us Q I r ⟨p, bs, rfl, SqL.of hp, Post.here (a := .d (.int bs.sum)) post rel (.int _)⟩
      · exact post.elim
theorem call_list : CallR X (.type "list") (rdB X.K T E (b1op .list)) := by
  intro pins s σ H xs us Q I r ⟨W, S, a, v, e, rel, ra, post⟩
  subst e
  simp only [b1op] at post
  cases hs : a.seq S with
  | none => rw [hs] at post; exact post.elim
  | some p =>
    rw [hs] at post
    obtain ⟨k, ds⟩ := p
    obtain ⟨p, ys, rfl, rd, hk⟩ := seqA rel ra hs
    exact call_list_of pins s σ H _ us Q I r ⟨p, ys, rfl, sq_of hk, fun q hq => Post.lst (ds := ds) post rel rd q hq⟩
/-- tuple(x) -/
theorem call_tuple : CallR X (.type "tuple") (rdB X.K T E (b1op .tuple)) := by
  intro pins s σ H xs us Q I r ⟨W, S, a, v, e, rel, ra, post⟩
  subst e
  simp only [b1op] at post
  cases hs : a.seq S with
  | none => rw [hs] at post; exact post.elim
  | some p =>
    rw [hs] at post
    obtain ⟨k, ds⟩ := p
    obtain ⟨p, ys, rfl, rd, hk⟩ := seqA rel ra hs
    obtain ⟨u, rfl, rx⟩ := vals1 r
    cases rx
    rcases hk with ⟨rfl, hp⟩ | ⟨rfl, hp, o, ho, hp2⟩
    · obtain ⟨its, r', pl, hz⟩ := I.list (show SqL X.K H p ys from SqL.of hp)
      have hlen := r'.length
      refine PySem.call_tuple_list pl.isList (fun h' kp => ?_) (by simp only [List.size_toArray] <;> omega)
      have I1 : Inv X pins σ H { s with heap := h' } := I.kept (t' := s.toks) kp
      exact EP.tup (t' := s.toks) I1 r' hz (Post.tup (ds := ds) post rel rd)
    · obtain ⟨its, r', pl, hz⟩ := I.tuple (show SqT X.K H p ys from .inl hp)
      refine PySem.call_tuple_same pl ⟨.ref p, H, I, rfl, ?_⟩
      cases a with
      | d y =>
        cases y with
        | tup es =>
          have e1 : (false, es) = (false, ds) := Option.some.inj hs
          cases e1
          exact Post.here (a := .d (.tup ds)) post rel ra
        | lst es => cases (Option.some.inj hs)
        | _ => cases hs
      | loc l =>
        simp only [R.seq] at hs
        split at hs
        · cases (Option.some.inj hs)
        · cases hs
      | fl es => cases (Option.some.inj hs)
      | fd t kvs => cases hs
theorem call_int : CallR X (.type "int") (rdB X.K T E (b1op .int)) := by
  intro pins s σ H xs us Q I r ⟨W, S, a, v, e, rel, ra, post⟩
  subst e
  simp only [b1op] at post
  split at post
  · rename_i i
    cases (show Rp X.K T W.F v (.int i) from ra)
    exact call_int1 pins s σ H _ us Q I r (.inl ⟨i, rfl, Post.here (a := .d (.int i)) post rel (.int _)⟩)
  · exact post.elim
theorem call_absV : CallR X (.builtin "abs") (rdB X.K T E (b1op .abs)) := by
  intro pins s σ H xs us Q I r ⟨W, S, a, v, e, rel, ra, post⟩
  subst e
  simp only [b1op] at post
  split at post
  · rename_i i
    cases (show Rp X.K T W.F v (.int i) from ra)
    exact L2.call_abs pins s σ H _ us Q I r ⟨i, rfl, Post.here (a := .d (.int (if i < 0 then -i else i))) post rel (.int _)⟩
  · exact post.elim
def B2.nm : B2 → Str
  | .min => "min"
  | .max => "max"
def B2.val : B2 → Value
  | .min => .builtin "min"
  | .max => .builtin "max"
theorem call_b2 (hc : X.calm = true) (b : B2) : CallR X b.val (rdC X.K T E (b2op b)) := by
  intro pins s σ H xs us Q I r ⟨W, S, a, b', x, y, e, rel, ra, rb, post⟩
  subst e
  unfold b2op at post
  split at post
  · rename_i i j
    cases (show Rp X.K T W.F x (.int i) from ra)
    cases (show Rp X.K T W.F y (.int j) from rb)
    cases b with
    | min => exact call_min2 hc pins s σ H _ us Q I r ⟨i, j, rfl, Post.here (a := .d (.int (if j < i then j else i))) post rel (.int _)⟩
    | max => exact call_max2 hc pins s σ H _ us Q I r ⟨i, j, rfl, Post.here (a := .d (.int (if j > i then j else i))) post rel (.int _)⟩
  · exact post.elim

/-! ### isinstance -/
/-- the facts of a class whose instances are data -/
structure CF (K : PySem.W.Frag) (C : Addr) : Prop where
  cl : Cls K C
  ha : PySem.W.findIn K (.ref C) "__class__" = some (some (.builtin "object.__class__"))
  hn : PySem.W.specialIn K (.builtin "object.__class__") "__get__" = some (some (.builtin "getset_descriptor.__get__"))
  ht : PySem.W.takesIn K (.builtin "object.__class__") = some true
  hm : PySem.W.mroIn K C (.type "object") = some true
  no : ∀ t ∈ ["NoneType", "bool", "int", "str", "tuple", "list", "dict"], PySem.W.kitOne K (.type t) (.ref C) = some false ∧ PySem.W.kitOne K (.ref C) (.type t) = some false
  yes : PySem.W.kitOne K (.ref C) (.ref C) = some true
def Ty.v (T : Tb) : Ty → V
  | .bool => .ty "bool"
  | .int => .ty "int"
  | .str => .ty "str"
  | .tuple => .ty "tuple"
  | .list => .ty "list"
  | .dict => .ty "dict"
  | .cls n => .ref (T.fa n)
def Ty.u (T : Tb) : Ty → Value
  | .bool => .type "bool"
  | .int => .type "int"
  | .str => .type "str"
  | .tuple => .type "tuple"
  | .list => .type "list"
  | .dict => .type "dict"
  | .cls n => .ref (T.fa n)
theorem Ty.clsV (T : Tb) (t : Ty) : ClsV (t.v T) (t.u T) := by
  cases t <;> first | exact .ty _ | exact .own _
/-- may be asked -/
def Ty.ok (T : Tb) : Ty → Prop
  | .cls n => n ∈ T.cs
  | _ => True
theorem tyTup {K : PySem.W.Frag} {H : Hp} {z : Bool} {o : HO} {xs : List V} {a : Addr} (t : TupO z o xs) (h : H a = some o) : TyX K H (.ref a) (.type "tuple") := by
  rcases t with ⟨_, rfl⟩ | ⟨_, ob, _, rfl⟩
  · exact .base (.tup h)
  · exact .fTuple h
theorem isTy_all (hC : ∀ n ∈ T.cs, CF X.K (T.fa n)) {t0 : Ty} {a : R} {v : V} {b0 : Bool} (rel : Rel X.K T W S H) (ra : RpA X.K T W a v) (h0 : isTy t0 a S = some b0) :
    ∃ ty, TyX X.K H v ty ∧ ∀ (t : Ty) (b : Bool), t.ok T → isTy t a S = some b → PySem.W.kitOne X.K ty (t.u T) = some b := by
  have kb : ∀ {p q : String} {c : Bool}, kitB p q = some c → PySem.W.kitOne X.K (.type p) (.type q) = some c := fun e => kit_ty e
  cases a with
  | d d =>
    have ra : Rp X.K T W.F v d := ra
    cases ra with
    | non =>
      refine ⟨_, .base .non, ?_⟩
      intro t b ht h
      cases t <;> simp only [isTy, Option.some.injEq, reduceCtorEq] at h <;> subst h <;> first | exact kb (by decide +kernel) | exact ((hC _ ht).no _ (by simp)).1
    | bl c =>
      refine ⟨_, .base (.bl c), ?_⟩
      intro t b ht h
      cases t <;> simp only [isTy, Option.some.injEq, reduceCtorEq] at h <;> subst h <;> first | exact kb (by decide +kernel) | exact ((hC _ ht).no _ (by simp)).1
    | int c =>
      refine ⟨_, .base (.int c), ?_⟩
      intro t b ht h
      cases t <;> simp only [isTy, Option.some.injEq, reduceCtorEq] at h <;> subst h <;> first | exact kb (by decide +kernel) | exact ((hC _ ht).no _ (by simp)).1
    | str c =>
      refine ⟨_, .base (.str c), ?_⟩
      intro t b ht h
      cases t <;> simp only [isTy, Option.some.injEq, reduceCtorEq] at h <;> subst h <;> first | exact kb (by decide +kernel) | exact ((hC _ ht).no _ (by simp)).1
    | tup t0 h1 r =>
      refine ⟨_, tyTup t0 (rel.sub _ _ h1), ?_⟩
      intro t b ht h
      cases t <;> simp only [isTy, Option.some.injEq, reduceCtorEq] at h <;> subst h <;> first | exact kb (by decide +kernel) | exact ((hC _ ht).no _ (by simp)).1
    | lst h1 r =>
      refine ⟨_, .base (.lst (rel.sub _ _ h1)), ?_⟩
      intro t b ht h
      cases t <;> simp only [isTy, Option.some.injEq, reduceCtorEq] at h <;> subst h <;> first | exact kb (by decide +kernel) | exact ((hC _ ht).no _ (by simp)).1
    | dct h1 =>
      refine ⟨_, .base (.dK (rel.sub _ _ h1)), ?_⟩
      intro t b ht h
      cases t <;> simp only [isTy, Option.some.injEq, reduceCtorEq] at h <;> subst h <;> first | exact kb (by decide +kernel) | exact ((hC _ ht).no _ (by simp)).1
    | @obj a dx c xs ds m h1 l r =>
      have F := hC c m
      refine ⟨_, .base (.ins (rel.sub _ _ h1) F.cl F.ha F.hn F.ht F.hm), ?_⟩
      intro t b ht h
      cases t <;> simp only [isTy] at h
      case cls n =>
        split at h
        · rename_i e
          subst e
          cases h
          exact F.yes
        · cases h
      all_goals (cases h; exact (F.no _ (by simp)).2)
    | fn n => cases t0 <;> simp [isTy] at h0
    | scr h1 => cases t0 <;> simp [isTy] at h0
  | loc l =>
    obtain ⟨p, rfl, hp⟩ := (show ∃ a, v = .ref a ∧ W.μ[l]? = some a from ra)
    cases hS : S[l]? with
    | none => simp only [isTy, hS] at h0; cases h0
    | some o =>
      obtain ⟨q, u, h1, h2, h3⟩ := rel.at hS
      rw [hp] at h1; cases h1
      cases h3 with
      | lst r =>
        refine ⟨_, .base (.lst h2), ?_⟩
        intro t b ht h
        cases t <;> simp only [isTy, hS, Option.some.injEq, reduceCtorEq] at h <;> subst h <;> exact kb (by decide +kernel)
      | dK r =>
        refine ⟨_, .base (.dK h2), ?_⟩
        intro t b ht h
        cases t <;> simp only [isTy, hS, Option.some.injEq, reduceCtorEq] at h <;> subst h <;> exact kb (by decide +kernel)
      | dT z r =>
        refine ⟨_, .base (.dT h2), ?_⟩
        intro t b ht h
        cases t <;> simp only [isTy, hS, Option.some.injEq, reduceCtorEq] at h <;> subst h <;> exact kb (by decide +kernel)
      | @ins c dx ns xs ds m l r =>
        have F := hC c m
        refine ⟨_, .base (.ins h2 F.cl F.ha F.hn F.ht F.hm), ?_⟩
        intro t b ht h
        cases t <;> simp only [isTy, hS] at h
        case cls n =>
          split at h
          · rename_i e
            subst e
            cases h
            exact F.yes
          · cases h
        all_goals (cases h; exact (F.no _ (by simp)).2)
  | fl es => exact ra.elim
  | fd t kvs => exact ra.elim

theorem isTy_ok (hC : ∀ n ∈ T.cs, CF X.K (T.fa n)) {t : Ty} (ht : t.ok T) {a : R} {v : V} {b : Bool} (rel : Rel X.K T W S H) (ra : RpA X.K T W a v) (h : isTy t a S = some b) :
    ∃ ty, TyX X.K H v ty ∧ PySem.W.kitOne X.K ty (t.u T) = some b := by
  obtain ⟨ty, h1, h2⟩ := isTy_all hC rel ra h
  exact ⟨ty, h1, h2 t b ht h⟩

/-! ### subscripts, slices -/
theorem ix_op (hu : X.A.units + 80 < cLine) : IxR X (rdO X.K T E ixop) := by
  intro value slice pins s σ H x y v u Q I rx ry ⟨W, S, a, b, rel, ra, rb, post⟩ hs
  unfold ixop at post
  split at post
  · rename_i k ds hq
    obtain ⟨p, xs, rfl, rd, hk⟩ := seqA rel ra.r hq
    split at post
    · rename_i i
      cases (show Rp X.K T W.F y (.int i) from rb)
      cases hi : ixD ds i with
      | none => rw [hi] at post; exact post.elim
      | some d =>
        rw [hi] at post
        obtain ⟨j, hj1, hj2⟩ := Option.bind_eq_some_iff.mp (show (ixN ds.length i).bind (fun j => ds[j]?) = some d from hi)
        obtain ⟨v', h1, h2⟩ := rd.get hj2
        have at_ : atI xs i = some v' := by
          show (ixN xs.length i).bind (fun j => xs[j]?) = some v'
          rw [rd.length, hj1]; exact h1
        have q : Q v' H := Post.here (a := .d d) post rel h2
        rcases hk with ⟨_, hp⟩ | ⟨_, hp, _⟩
        · exact ix_list value slice pins s σ H _ _ v u Q I rx ry ⟨p, xs, i, v', rfl, rfl, SqL.of hp, at_, q⟩ hs
        · exact ix_tup value slice pins s σ H _ _ v u Q I rx ry ⟨p, xs, i, v', rfl, rfl, .inl hp, at_, q⟩ hs
    · exact post.elim
  · split at post
    · rename_i t kvs k hq
      split at post
      · rename_i hk
        obtain ⟨p, o, rfl, hp, ou⟩ := dicA rel ra.r hq
        cases (show v = Value.ref p from rx)
        rcases dgetA rel.sub hp ou hk (show Rp X.K T W.F y k from rb) with ⟨g, e1⟩ | ⟨v', d', g, e1, h2⟩
        · rw [e1] at post; exact post.elim
        · rw [e1] at post
          have q : Q v' H := Post.here (a := .d d') post rel h2
          exact tail_any (dict_typeIs I g) PySem.F.slot_dict_getitem.lookup (d_getItem (by omega) I g ry fun w' s' I' r' => ⟨v', H, I', r', q⟩) hs
      · exact post.elim
    · exact post.elim
end
end Mi

set_option Elab.async false
set_option linter.all false
set_option maxRecDepth 100000
set_option maxHeartbeats 4000000
/-! MiG: slices, the whole turned round, methods, stores, by values. -/
namespace Mi
open PySem PySem.Spec PyProof.Rows L2 HT

section
variable {prog : Program} {w : World} {A : Around} {E : Value → Shared → Prop} {s : Shared}
theorem adjust_rev (n : Nat) : Builtin.Slice.sliceAdjust none none (-1) (n : Int) = ((n : Int) - 1, -1) := by
  unfold Builtin.Slice.sliceAdjust
  simp
theorem places_rev (n : Nat) : Builtin.Slice.slicePlaces ((n : Int) - 1) (-1) (-1) = n := by
  unfold Builtin.Slice.slicePlaces
  have h1 : ¬ ((-1 : Int) > 0) := by omega
  simp only [h1, if_false]
  by_cases h : (n : Int) - 1 > -1
  · rw [if_pos h]
    have : -(-1 : Int) = 1 := by omega
    rw [this, Int.ediv_one]
    omega
  · rw [if_neg h]
    omega
theorem sliceApplied_rev {sl : Addr} {t : Tok} {n : Nat} {Q : Int × Int × Nat → Shared → Prop} (hs : s.heap.IsSliceOf sl .none .none (.int (-1) t))
    (h : Q ((n : Int) - 1, -1, n) s) : wpAny (model prog w) A (Builtin.Slice.sliceApplied (.ref sl) (pure (n : Int))) Q E s := by
  obtain ⟨os, hos, hcs, hds⟩ := id hs
  unfold Builtin.Slice.sliceApplied Builtin.Slice.sliceFields
  refine wpAny_bind (wpAny_bind (wpAny_field hos hds (x := .none) rfl (wpAny_bind (wpAny_field hos hds (x := .none) rfl (wpAny_bind (wpAny_field hos hds (x := .int (-1) t) rfl (wpAny_pure ?_)))))))
  refine wpAny_bind (slicePart_int ?_)
  show wpAny _ _ (if ((-1 : Int) == 0) = true then _ else _) _ _ s
  rw [if_neg (by decide)]
  refine wpAny_bind (slicePart_none (wpAny_bind (slicePart_none (wpAny_bind (wpAny_pure ?_)))))
  show wpAny _ _ (match Builtin.Slice.sliceAdjust none none (-1) (n : Int) with | (lo, hi) => pure (lo, (-1 : Int), Builtin.Slice.slicePlaces lo hi (-1))) _ _ s
  rw [adjust_rev n]
  show wpAny _ _ (pure ((n : Int) - 1, (-1 : Int), Builtin.Slice.slicePlaces ((n : Int) - 1) (-1) (-1))) _ _ s
  rw [places_rev]
  exact wpAny_pure h
theorem range_rev : ∀ n : Nat, (List.range n).map (fun m => n - 1 - m) = (List.range n).reverse := fun n => by
  apply List.ext_getElem
  · simp
  · intro i h1 h2
    simp at h1 h2 ⊢
theorem fm_congr {α β : Type} {f g : α → Option β} : ∀ l : List α, (∀ x ∈ l, f x = g x) → l.filterMap f = l.filterMap g
  | [], _ => rfl
  | x :: l, h => by
    rw [List.filterMap_cons, List.filterMap_cons, h x List.mem_cons_self, fm_congr l fun y hy => h y (List.mem_cons_of_mem _ hy)]
theorem pick_rev (xs : Array Value) : ((List.range xs.size).filterMap fun (m : Nat) => xs[(((xs.size : Int) - 1) + (m : Int) * (-1)).toNat]?).toArray = xs.toList.reverse.toArray := by
  have e : (List.range xs.size).filterMap (fun (m : Nat) => xs[(((xs.size : Int) - 1) + (m : Int) * (-1)).toNat]?) = ((List.range xs.size).map fun m => xs.size - 1 - m).filterMap fun j => xs[j]? := by
    rw [List.filterMap_map]
    refine fm_congr _ fun m hm => ?_
    have hm' : m < xs.size := by simpa using hm
    have : (((xs.size : Int) - 1) + (m : Int) * (-1)).toNat = xs.size - 1 - m := by omega
    rw [this]; rfl
  rw [e, range_rev, List.filterMap_reverse, PySem.W.krv_all]
theorem getItem_tuple_rev {t sl : Addr} {tk : Tok} {items : Array Value} {Q : Value → Shared → Prop} (ht : IsTup s.heap t items) (hs : s.heap.IsSliceOf sl .none .none (.int (-1) tk))
    (h : Q (.ref s.heap.objs.size) { s with heap := s.heap.push { cls := .type "tuple", data := .seq items.toList.reverse.toArray } })
    (hsz : items.size ≤ sizeLine) : wpAny (model prog w) A (getItem (.ref t) (.ref sl)) Q E s := by
  have htake : sizeOk (.seq items.toList.reverse.toArray) := by
    show items.toList.reverse.toArray.size ≤ sizeLine
    simpa using hsz
  obtain ⟨os, hos, hcs, hds⟩ := id hs
  have hTs : s.TypeIs (.ref sl) "slice" := ⟨os, hos, hcs⟩
  unfold getItem
  try with_reducible refine wpAny_holding ?_
  first | refine wpAny_bind (wpAny_pure ?_) | skip
  refine wpAny_bind (wpAny_sequenceKey ht.typeIs (by decide) ?_)
  refine wpAny_bind (wpAny_callSpecial?_slot (name := Str.ofString "__getitem__") ht.typeIs PyProof.Rows.slot_tuple_getitem
    (wpAny_call_entry PyProof.Rows.slot_tuple_getitem ht.typeIs entry_tuple_getitem ?_ (args_tuple_getitem _ _)))
  show wpAny _ _ (Builtin.Tuple.tupleItemsOf (.ref t) >>= _) _ _ s
  refine wpAny_bind (tupleItemsOf_ ht ?_)
  refine wpAny_bind (wpAny_typeOf hTs ?_)
  rw [if_pos (by decide)]
  refine wpAny_bind (sliceApplied_rev hs ?_)
  have hno : ¬ ((((items.size : Int) - 1) == 0 && (-1 : Int) == 1 && items.size == items.size) = true) := by
    intro q
    rw [Bool.and_eq_true, Bool.and_eq_true] at q
    exact absurd q.1.2 (by decide)
  show wpAny _ _ (if (((items.size : Int) - 1) == 0 && (-1 : Int) == 1 && items.size == items.size) = true then _ else _) _ _ s
  rw [if_neg hno, pick_rev]
  first
    | exact wpAny_bind (m := Builtin.Tuple.tupleExact _) (wpAny_newObj_type (wpAny_pure ⟨_, rfl, wpAny_pure h⟩) htake)
    | exact wpAny_bind (m := Builtin.Tuple.tupleExact _) (wpAny_newObj_type (wpAny_bind (wpAny_pure (wpAny_pure ⟨_, rfl, wpAny_pure h⟩))) htake)
    | exact wpAny_bind (wpAny_bind (m := Builtin.Tuple.tupleExact _) (wpAny_newObj_type (wpAny_pure (wpAny_pure ⟨_, rfl, wpAny_pure h⟩)) htake))
    | exact wpAny_bind (wpAny_bind (m := Builtin.Tuple.tupleExact _) (wpAny_newObj_type (wpAny_pure ⟨_, rfl, wpAny_pure h⟩) htake))
end

section
variable {X : Cx} {T : Tb} {E : XK} {W : Wd} {S : Sto} {H : Hp} {Q : VK} {pins : List (Addr × Obj)} {σ : L2.St} {s : Shared}
def rdS (K : PySem.W.Frag) (T : Tb) (E : XK) : V → Option Int → Option Int → Hp → VK → Prop := fun x lo hi H Q => ∃ W S a, Rel K T W S H ∧ RpA K T W a x ∧ Post K T E W (slop a lo hi S) Q
theorem Rps.cut {K : PySem.W.Frag} {F : Hp} {vs : List V} {ds : List D} (h : Rps K T F vs ds) (lo hi : Option Int) : Rps K T F (cutV vs lo hi) (cutD ds lo hi) := by
  unfold cutV cutD
  rw [h.length]
  exact (h.drop _).take _
theorem sl_op : SlR X (rdS X.K T E) := by
  intro pins s σ H x v vl vu lo hi sl Q I rx hs pl pu ⟨W, S, a, rel, ra, post⟩
  unfold slop at post
  split at post
  · rename_i ns
    cases (show Rp X.K T W.F x (.scr ns) from ra) with
    | scr h =>
      refine sl_list pins s σ H _ v vl vu lo hi sl Q I rx hs pl pu ⟨_, _, rfl, SqL.ext rel.sub h, fun p hp => ?_⟩
      exact post.lst rel ((Rps.ints ns).cut lo hi) p hp
  · split at post
    · rename_i ds hq
      obtain ⟨p, xs, rfl, rd, hk⟩ := seqA rel ra.r hq
      rcases hk with ⟨_, hp⟩ | ⟨e, _⟩
      · exact sl_list pins s σ H _ v vl vu lo hi sl Q I rx hs pl pu ⟨p, xs, rfl, SqL.of hp, fun q hq => post.lst rel (rd.cut lo hi) q hq⟩
      · cases e
    · rename_i ds hq
      have ea := seqTup ra hq
      subst ea
      obtain ⟨p, xs, rfl, rd, hk⟩ := seqA rel ra.r hq
      rcases hk with ⟨e, _⟩ | ⟨_, hp, _⟩
      · cases e
      · cases rx
        obtain ⟨its, r, ht, hz⟩ := I.tuple (show SqT X.K H p xs from .inl hp)
        have hlen : its.toArray.size = xs.length := by rw [List.size_toArray]; exact r.length.symm
        refine ⟨"tuple", _, PyProof.Rows.slot_tuple_getitem.lookup, ht.typeIs, ?_⟩
        by_cases hw : HT.sIx xs.length 0 lo = 0 ∧ HT.sIx xs.length xs.length hi = xs.length
        · refine getItem_tuple_whole ht hs pl pu (by rw [hlen]; exact hw) ⟨.ref p, H, I, rfl, ?_⟩
          have ec : cutD ds lo hi = ds := by
            unfold cutD
            rw [← rd.length, hw.1, hw.2, List.drop_zero, Nat.sub_zero, rd.length, List.take_length]
          rw [ec] at post
          exact post.here rel ra
        · refine HT.getItem_tuple_cut ht hs pl pu (by rw [hlen]; exact hw) ?_ (by rw [hlen]; exact hz)
          rw [hlen]
          exact EP.tup (t' := s.toks) I ((r.drop (HT.sIx xs.length 0 lo)).take (HT.sIx xs.length xs.length hi - HT.sIx xs.length 0 lo)) (Nat.le_trans (cutV_length xs lo hi) hz) (post.tup rel (rd.cut lo hi))
    · exact post.elim
/-- x[::-1] -/
def rdR (K : PySem.W.Frag) (T : Tb) (E : XK) (te : TE) : TE := fun σ H Q => te σ H fun x H1 => ∃ W S a, Rel K T W S H1 ∧ RpA K T W a x ∧ Post K T E W (revop a S) Q
theorem pe_rev {e : Expr} {te : TE} {k : Nat} {p1 p2 p3 pos : Pos} (he : PE X e te) : PE X (.Subscript e (.Slice none none (some (.UnaryOp .USub (.Constant (.int 1) k p1) p2)) p3) pos) (rdR X.K T E te) := by
  refine ⟨fun pins s σ H Q I h => ?_⟩
  refine Subscript_ (thn (he.run pins s σ H _ I h) fun v s1 ⟨x, H1, I1, r1, q1⟩ => ?_)
  obtain ⟨W, S, a, rel, ra, post⟩ := q1
  have hst : PO X (some (.UnaryOp .USub (.Constant (.int 1) k p1) p2)) (tPart (tUn (rU fun i => .int (-i)) (tC (.int 1)))) := po_some (pe_un un_neg pe_int)
  refine wpAny_Slice (thn (po_none.run pins s1 σ H1 (fun o H2 => o = none ∧ H2 = H1) I1 ⟨rfl, rfl⟩) fun vl s2 ⟨l, H2, I2, pl, el, e2⟩ => ?_)
  subst el e2
  refine thn (po_none.run pins s2 σ H2 (fun o H3 => o = none ∧ H3 = H2) I2 ⟨rfl, rfl⟩) fun vu s3 ⟨u, H3, I3, pu, eu, e3⟩ => ?_
  subst eu e3
  refine thn (hst.run pins s3 σ H3 (fun o H4 => o = some (-1) ∧ H4 = H3) I3 ⟨1, rfl, -1, rfl, rfl, rfl⟩) fun vs s4 ⟨o, H4, I4, ps, eo, e4⟩ => ?_
  subst eo e4
  have I5 : Inv X pins σ H4 { s4 with heap := s4.heap.push { cls := .type "slice", data := .fields #[vl, vu, vs] } } := I4.kept (t' := s4.toks) fun b ob q => Heap.get?_push_of_some _ q
  unfold revop at post
  split at post
  · rename_i ds hq
    obtain ⟨p, xs, rfl, rd, hk⟩ := seqA rel ra.r hq
    rcases hk with ⟨_, hp⟩ | ⟨e, _⟩
    · cases r1
      obtain ⟨its, r, ht, hz⟩ := I5.list (show SqL X.K H4 p xs from SqL.of hp)
      have hlen := r.length
      show wpAny (model X.prog X.w) X.A (subscriptTail e (.Slice none none (some (.UnaryOp .USub (.Constant (.int 1) k p1) p2)) p3) (.ref p) (.ref s4.heap.objs.size)) (EP X pins σ Q) X.xe { s4 with heap := s4.heap.push { cls := .type "slice", data := .fields #[vl, vu, vs] } }
      refine tail_any (ops := [.ref p, .ref s4.heap.objs.size]) ht.isList.typeIs (PySem.slot_list_getitem.lookup) ?_ (by with_unfolding_all rfl)
      refine wpAny_getItem_list_slice ht.isList (Heap.IsSliceOf.new _ vl vu vs) pl pu ps (by decide) ?_ (by rw [List.size_toArray]; omega)
      rw [PySem.W.krv_pick]
      refine ⟨.ref _, _, I5.laid (t' := s4.toks) (o := .lst xs.reverse) (fun b ob q => Heap.get?_push_of_some _ q) (Nat.le_refl _) ?_, rfl, post.lst rel rd.reverse _ (I5.hok.fresh (Nat.le_refl _))⟩
      exact ⟨by rw [List.length_reverse]; exact hz, _, 0, r.reverse, Heap.get?_push_size _ rfl⟩
    · cases e
  · rename_i ds hq
    obtain ⟨p, xs, rfl, rd, hk⟩ := seqA rel ra.r hq
    rcases hk with ⟨e, _⟩ | ⟨_, hp, _⟩
    · cases e
    · cases r1
      obtain ⟨its, r, ht, hz⟩ := I5.tuple (show SqT X.K H4 p xs from .inl hp)
      have hlen := r.length
      show wpAny (model X.prog X.w) X.A (subscriptTail e (.Slice none none (some (.UnaryOp .USub (.Constant (.int 1) k p1) p2)) p3) (.ref p) (.ref s4.heap.objs.size)) (EP X pins σ Q) X.xe { s4 with heap := s4.heap.push { cls := .type "slice", data := .fields #[vl, vu, vs] } }
      refine tail_any (ops := [.ref p, .ref s4.heap.objs.size]) (show Shared.TypeIs _ _ "tuple" from ht.typeIs) PyProof.Rows.slot_tuple_getitem.lookup ?_ (by with_unfolding_all rfl)
      cases pl
      cases pu
      cases ps
      refine getItem_tuple_rev ht (Heap.IsSliceOf.new _ _ _ _) ?_ (by rw [List.size_toArray]; omega)
      exact EP.tup (t' := s4.toks) I5 r.reverse (by rw [List.length_reverse]; exact hz) (post.tup rel rd.reverse)
  · exact post.elim
end
end Mi

set_option Elab.async false
set_option linter.all false
set_option maxRecDepth 100000
set_option maxHeartbeats 1000000
/-! MiU: sorted lists of data of one shape. -/
namespace Mi
open PySem PySem.Spec PyProof.Rows L2

/-! ### the order of a shape -/
structure TO {α : Type} (P : α → Prop) (eqv : α → α → Bool) (lt : α → α → Option Bool) : Prop where
  tot : ∀ d e, P d → P e → ∃ b, lt d e = some b
  eqv : ∀ d e, P d → P e → (eqv d e = true ↔ d = e)
  irr : ∀ d, P d → lt d d = some false
  tri : ∀ d e, P d → P e → lt d e = some false → lt e d = some false → d = e
  tr : ∀ d e f, P d → P e → P f → lt d e = some true → lt e f = some true → lt d f = some true
/-- pointwise -/
def Pw (Ps : Nat → D → Prop) (ds : List D) : Prop := ∀ i d, ds[i]? = some d → Ps i d
theorem Pw.head {Ps : Nat → D → Prop} {d : D} {ds : List D} (h : Pw Ps (d :: ds)) : Ps 0 d := h 0 d rfl
theorem Pw.tail {Ps : Nat → D → Prop} {d : D} {ds : List D} (h : Pw Ps (d :: ds)) : Pw (fun i => Ps (i + 1)) ds := fun i e he => h (i + 1) e (by simpa using he)
def eqvs (a b : List D) : Bool := PyData.eqvAll (D.pys a) (D.pys b)
theorem eqvs_cons (x y : D) (xs ys : List D) : eqvs (x :: xs) (y :: ys) = (D.eqv x y && eqvs xs ys) := rfl
theorem TO.ne {P : D → Prop} (o : TO P D.eqv ltD) {d e : D} (hd : P d) (he : P e) (h : d ≠ e) : D.eqv d e = false := by
  cases q : D.eqv d e with
  | true => exact (h ((o.eqv d e hd he).mp q)).elim
  | false => rfl
theorem TO.same {P : D → Prop} (o : TO P D.eqv ltD) {d : D} (hd : P d) : D.eqv d d = true := (o.eqv d d hd hd).mpr rfl
theorem ltDs_cons {x y : D} {xs ys : List D} {b r : Bool} (h1 : ltD x y = some b) (h2 : ltDs xs ys = some r) : ltDs (x :: xs) (y :: ys) = some (if D.eqv x y = true then r else b) := by
  simp only [ltDs, h1, h2]
theorem toList_ord : ∀ {Ps : Nat → D → Prop}, (∀ i, TO (Ps i) D.eqv ltD) → TO (Pw Ps) eqvs ltDs := by
  intro Ps hP
  have tot : ∀ (d e : List D) {Ps : Nat → D → Prop}, (∀ i, TO (Ps i) D.eqv ltD) → Pw Ps d → Pw Ps e → ∃ b, ltDs d e = some b := by
    intro d
    induction d with
    | nil => intro e Ps _ _ _; cases e <;> exact ⟨_, rfl⟩
    | cons x xs ih =>
      intro e Ps hP hd he
      cases e with
      | nil => exact ⟨_, rfl⟩
      | cons y ys =>
        obtain ⟨b, h1⟩ := (hP 0).tot x y hd.head he.head
        obtain ⟨r, h2⟩ := ih ys (fun i => hP (i + 1)) hd.tail he.tail
        exact ⟨_, ltDs_cons h1 h2⟩
  have ev : ∀ (d e : List D) {Ps : Nat → D → Prop}, (∀ i, TO (Ps i) D.eqv ltD) → Pw Ps d → Pw Ps e → (eqvs d e = true ↔ d = e) := by
    intro d
    induction d with
    | nil => intro e Ps _ _ _; cases e <;> simp [eqvs, D.pys, PyData.eqvAll]
    | cons x xs ih =>
      intro e Ps hP hd he
      cases e with
      | nil => simp [eqvs, D.pys, PyData.eqvAll]
      | cons y ys =>
        rw [eqvs_cons, Bool.and_eq_true, (hP 0).eqv x y hd.head he.head, ih ys (fun i => hP (i + 1)) hd.tail he.tail]
        simp
  have irr : ∀ (d : List D) {Ps : Nat → D → Prop}, (∀ i, TO (Ps i) D.eqv ltD) → Pw Ps d → ltDs d d = some false := by
    intro d
    induction d with
    | nil => intro Ps _ _; rfl
    | cons x xs ih =>
      intro Ps hP hd
      rw [ltDs_cons ((hP 0).irr x hd.head) (ih (fun i => hP (i + 1)) hd.tail), if_pos ((hP 0).same hd.head)]
  have tri : ∀ (d e : List D) {Ps : Nat → D → Prop}, (∀ i, TO (Ps i) D.eqv ltD) → Pw Ps d → Pw Ps e → ltDs d e = some false → ltDs e d = some false → d = e := by
    intro d
    induction d with
    | nil => intro e Ps _ _ _ h _; cases e with
      | nil => rfl
      | cons y ys => cases h
    | cons x xs ih =>
      intro e Ps hP hd he h h'
      cases e with
      | nil => cases h'
      | cons y ys =>
        obtain ⟨b, h1⟩ := (hP 0).tot x y hd.head he.head
        obtain ⟨b', h1'⟩ := (hP 0).tot y x he.head hd.head
        obtain ⟨r, h2⟩ := tot xs ys (fun i => hP (i + 1)) hd.tail he.tail
        obtain ⟨r', h2'⟩ := tot ys xs (fun i => hP (i + 1)) he.tail hd.tail
        rw [ltDs_cons h1 h2] at h
        rw [ltDs_cons h1' h2'] at h'
        by_cases e : x = y
        · subst e
          rw [if_pos ((hP 0).same hd.head)] at h h'
          rw [ih ys (fun i => hP (i + 1)) hd.tail he.tail (by rw [h2]; exact h) (by rw [h2']; exact h')]
        · rw [if_neg (by rw [(hP 0).ne hd.head he.head e]; decide)] at h
          rw [if_neg (by rw [(hP 0).ne he.head hd.head (Ne.symm e)]; decide)] at h'
          exact (e ((hP 0).tri x y hd.head he.head (by rw [h1]; exact h) (by rw [h1']; exact h'))).elim
  have tr : ∀ (d e f : List D) {Ps : Nat → D → Prop}, (∀ i, TO (Ps i) D.eqv ltD) → Pw Ps d → Pw Ps e → Pw Ps f → ltDs d e = some true → ltDs e f = some true → ltDs d f = some true := by
    intro d
    induction d with
    | nil =>
      intro e f Ps hP _ _ _ h h'
      cases f with
      | nil => cases e <;> cases h'
      | cons z zs => rfl
    | cons x xs ih =>
      intro e f Ps hP hd he hf h h'
      cases e with
      | nil => cases h
      | cons y ys =>
        cases f with
        | nil => cases h'
        | cons z zs =>
          obtain ⟨b, h1⟩ := (hP 0).tot x y hd.head he.head
          obtain ⟨b', h1'⟩ := (hP 0).tot y z he.head hf.head
          obtain ⟨b'', h1''⟩ := (hP 0).tot x z hd.head hf.head
          obtain ⟨r, h2⟩ := tot xs ys (fun i => hP (i + 1)) hd.tail he.tail
          obtain ⟨r', h2'⟩ := tot ys zs (fun i => hP (i + 1)) he.tail hf.tail
          obtain ⟨r'', h2''⟩ := tot xs zs (fun i => hP (i + 1)) hd.tail hf.tail
          rw [ltDs_cons h1 h2] at h
          rw [ltDs_cons h1' h2'] at h'
          rw [ltDs_cons h1'' h2'']
          by_cases e1 : x = y
          · subst e1
            rw [if_pos ((hP 0).same hd.head)] at h
            by_cases e2 : x = z
            · subst e2
              rw [if_pos ((hP 0).same hd.head)] at h' ⊢
              rw [← h2'']
              exact ih ys zs (fun i => hP (i + 1)) hd.tail he.tail hf.tail (by rw [h2]; exact h) (by rw [h2']; exact h')
            · rw [if_neg (by rw [(hP 0).ne hd.head hf.head e2]; decide)] at h' ⊢
              rw [← h1'', h1']; exact h'
          · rw [if_neg (by rw [(hP 0).ne hd.head he.head e1]; decide)] at h
            by_cases e2 : y = z
            · subst e2
              rw [if_neg (by rw [(hP 0).ne hd.head hf.head e1]; decide), ← h1'', h1]; exact h
            · rw [if_neg (by rw [(hP 0).ne he.head hf.head e2]; decide)] at h'
              have q := (hP 0).tr x y z hd.head he.head hf.head (by rw [h1]; exact h) (by rw [h1']; exact h')
              have e3 : x ≠ z := by
                rintro rfl
                rw [(hP 0).irr x hd.head] at q
                cases q
              rw [if_neg (by rw [(hP 0).ne hd.head hf.head e3]; decide), ← h1'']
              exact q
  exact ⟨fun d e => tot d e hP, fun d e => ev d e hP, fun d => irr d hP, fun d e => tri d e hP, fun d e f => tr d e f hP⟩
theorem to_tup {Ps : Nat → D → Prop} {P : D → Prop} (h : ∀ i, TO (Ps i) D.eqv ltD) (hP : ∀ d, P d → ∃ ds, d = .tup ds ∧ Pw Ps ds) : TO P D.eqv ltD := by
  have o := toList_ord h
  refine ⟨fun d e hd he => ?_, fun d e hd he => ?_, fun d hd => ?_, fun d e hd he a b => ?_, fun d e f hd he hf a b => ?_⟩
  · obtain ⟨ds, rfl, p⟩ := hP d hd
    obtain ⟨es, rfl, q⟩ := hP e he
    exact o.tot ds es p q
  · obtain ⟨ds, rfl, p⟩ := hP d hd
    obtain ⟨es, rfl, q⟩ := hP e he
    have := o.eqv ds es p q
    constructor
    · intro x; rw [this.mp x]
    · intro x; cases x; exact this.mpr rfl
  · obtain ⟨ds, rfl, p⟩ := hP d hd
    exact o.irr ds p
  · obtain ⟨ds, rfl, p⟩ := hP d hd
    obtain ⟨es, rfl, q⟩ := hP e he
    rw [o.tri ds es p q a b]
  · obtain ⟨ds, rfl, p⟩ := hP d hd
    obtain ⟨es, rfl, q⟩ := hP e he
    obtain ⟨fs, rfl, r⟩ := hP f hf
    exact o.tr ds es fs p q r a b
theorem str_lt_tr : ∀ a b c : List Nat, a < b → b < c → a < c := fun a b c h1 h2 => List.lt_trans h1 h2
theorem sh_ord : ∀ h : Sh, TO (fun d => h.has d = true) D.eqv ltD
  | .i => by
    have sh : ∀ d, Sh.has .i d = true → ∃ i, d = .int i := fun d h => by cases d <;> first | exact ⟨_, rfl⟩ | (simp [Sh.has] at h)
    refine ⟨fun d e hd he => ?_, fun d e hd he => ?_, fun d hd => ?_, fun d e hd he a b => ?_, fun d e f hd he hf a b => ?_⟩
    · obtain ⟨i, rfl⟩ := sh d hd
      obtain ⟨j, rfl⟩ := sh e he
      exact ⟨_, rfl⟩
    · obtain ⟨i, rfl⟩ := sh d hd
      obtain ⟨j, rfl⟩ := sh e he
      simp [D.eqv, D.py, PyData.eqv]
    · obtain ⟨i, rfl⟩ := sh d hd
      simp [ltD]
    · obtain ⟨i, rfl⟩ := sh d hd
      obtain ⟨j, rfl⟩ := sh e he
      simp only [ltD, Option.some.injEq, decide_eq_false_iff_not] at a b
      rw [show i = j by omega]
    · obtain ⟨i, rfl⟩ := sh d hd
      obtain ⟨j, rfl⟩ := sh e he
      obtain ⟨k, rfl⟩ := sh f hf
      simp only [ltD, Option.some.injEq, decide_eq_true_eq] at a b ⊢
      omega
  | .s => by
    have sh : ∀ d, Sh.has .s d = true → ∃ i, d = .str i := fun d h => by cases d <;> first | exact ⟨_, rfl⟩ | (simp [Sh.has] at h)
    refine ⟨fun d e hd he => ?_, fun d e hd he => ?_, fun d hd => ?_, fun d e hd he a b => ?_, fun d e f hd he hf a b => ?_⟩
    · obtain ⟨i, rfl⟩ := sh d hd
      obtain ⟨j, rfl⟩ := sh e he
      exact ⟨_, rfl⟩
    · obtain ⟨i, rfl⟩ := sh d hd
      obtain ⟨j, rfl⟩ := sh e he
      simp [D.eqv, D.py, PyData.eqv]
    · obtain ⟨i, rfl⟩ := sh d hd
      simp only [ltD, Option.some.injEq, decide_eq_false_iff_not]
      exact List.lt_irrefl _
    · obtain ⟨i, rfl⟩ := sh d hd
      obtain ⟨j, rfl⟩ := sh e he
      simp only [ltD, Option.some.injEq, decide_eq_false_iff_not] at a b
      have e1 : i.cps.toList = j.cps.toList := List.le_antisymm (List.not_lt.mp b) (List.not_lt.mp a)
      have e2 : i.cps = j.cps := Array.toList_inj.mp e1
      cases i; cases j; cases e2; rfl
    · obtain ⟨i, rfl⟩ := sh d hd
      obtain ⟨j, rfl⟩ := sh e he
      obtain ⟨k, rfl⟩ := sh f hf
      simp only [ltD, Option.some.injEq, decide_eq_true_eq] at a b ⊢
      exact List.lt_trans a b
  | .many t => to_tup (Ps := fun _ d => t.has d = true) (fun _ => sh_ord t) fun d h => by
    cases d with
    | tup ds => exact ⟨ds, rfl, fun i d hd => List.all_eq_true.mp (show ds.all (Sh.has t) = true by simpa [Sh.has] using h) d (List.mem_of_getElem? hd)⟩
    | _ => simp [Sh.has] at h
  | .two a b => to_tup (Ps := fun i d => match i with
      | 0 => a.has d = true
      | _ => b.has d = true) (fun i => by cases i; exact sh_ord a; exact sh_ord b) fun d h => by
    unfold Sh.has at h
    split at h <;> first | (rename_i e _; cases e; done) | skip
    all_goals first | (cases ‹Sh.two _ _ = _›; done) | skip
    · rename_i x y e
      cases e
      rw [Bool.and_eq_true] at h
      refine ⟨_, rfl, fun i d hd => ?_⟩
      match i, hd with
      | 0, hd => simp at hd; subst hd; exact h.1
      | 1, hd => simp at hd; subst hd; exact h.2
      | i + 2, hd => simp at hd
    · cases h
  | .three a b c => to_tup (Ps := fun i d => match i with
      | 0 => a.has d = true
      | 1 => b.has d = true
      | _ => c.has d = true) (fun i => match i with
      | 0 => sh_ord a
      | 1 => sh_ord b
      | _ + 2 => sh_ord c) fun d h => by
    unfold Sh.has at h
    split at h <;> first | (rename_i e _; cases e; done) | skip
    all_goals first | (cases ‹Sh.three _ _ _ = _›; done) | skip
    · rename_i x y z e
      cases e
      rw [Bool.and_eq_true, Bool.and_eq_true] at h
      refine ⟨_, rfl, fun i d hd => ?_⟩
      match i, hd with
      | 0, hd => simp at hd; subst hd; exact h.1
      | 1, hd => simp at hd; subst hd; exact h.2.1
      | 2, hd => simp at hd; subst hd; exact h.2.2
      | i + 3, hd => simp at hd
    · cases h

/-! ### sorted, and just one such list -/
theorem ltB_of {P : D → Prop} (o : TO P D.eqv ltD) {d e : D} (hd : P d) (he : P e) : ltD d e = some (ltB d e) := by
  obtain ⟨b, h⟩ := o.tot d e hd he
  unfold ltB
  rw [h]; rfl
/-- two rearrangements of one list that both are sorted are one -/
theorem sorted_uniq {P : D → Prop} (o : TO P D.eqv ltD) : ∀ {l m : List D}, (∀ x ∈ l, P x) → l.Perm m → l.Pairwise (fun x y => ltB y x = false) → m.Pairwise (fun x y => ltB y x = false) → l = m
  | [], m, _, p, _, _ => (List.Perm.eq_nil p.symm).symm
  | x :: l, [], _, p, _, _ => absurd p.length_eq (by simp)
  | x :: l, y :: m, hP, p, hl, hm => by
    have hy : P y := hP y (p.mem_iff.mpr List.mem_cons_self)
    have hx : P x := hP x List.mem_cons_self
    have h1 : ltB x y = false := by
      rcases List.mem_cons.mp (p.mem_iff.mp (List.mem_cons_self (a := x) (l := l))) with e | h
      · rw [e]
        have := o.irr y hy
        unfold ltB
        rw [this]; rfl
      · exact (List.pairwise_cons.mp hm).1 x h
    have h2 : ltB y x = false := by
      rcases List.mem_cons.mp (p.mem_iff.mpr (List.mem_cons_self (a := y) (l := m))) with e | h
      · rw [e]
        have := o.irr x hx
        unfold ltB
        rw [this]; rfl
      · exact (List.pairwise_cons.mp hl).1 y h
    have e : x = y := o.tri x y hx hy (by rw [ltB_of o hx hy, h1]) (by rw [ltB_of o hy hx, h2])
    subst e
    rw [sorted_uniq o (fun z hz => hP z (List.mem_cons_of_mem _ hz)) p.cons_inv (List.pairwise_cons.mp hl).2 (List.pairwise_cons.mp hm).2]
theorem insF_perm (x : D) : ∀ l : List D, (sortD.insF x l).Perm (x :: l)
  | [] => List.Perm.refl _
  | y :: l => by
    unfold sortD.insF
    split
    · exact ((insF_perm x l).cons y).trans (List.Perm.swap x y l)
    · exact List.Perm.refl _
theorem sortD_perm : ∀ l : List D, (sortD l).Perm l
  | [] => List.Perm.refl _
  | x :: l => (insF_perm x (sortD l)).trans ((sortD_perm l).cons x)
theorem insF_sorted {P : D → Prop} (o : TO P D.eqv ltD) {x : D} (hx : P x) : ∀ {l : List D}, (∀ z ∈ l, P z) → l.Pairwise (fun x y => ltB y x = false) → (sortD.insF x l).Pairwise (fun x y => ltB y x = false)
  | [], _, _ => List.pairwise_singleton _ _
  | y :: l, hP, h => by
    have hy : P y := hP y List.mem_cons_self
    obtain ⟨h1, h2⟩ := List.pairwise_cons.mp h
    unfold sortD.insF
    split
    · rename_i q
      refine List.pairwise_cons.mpr ⟨fun z hz => ?_, insF_sorted o hx (fun z hz => hP z (List.mem_cons_of_mem _ hz)) h2⟩
      rcases List.mem_cons.mp ((insF_perm x l).mem_iff.mp hz) with rfl | hz
      · cases q2 : ltB z y with
        | false => rfl
        | true =>
          have := o.tr y z y hy hx hy (by rw [ltB_of o hy hx, q]) (by rw [ltB_of o hx hy, q2])
          rw [o.irr y hy] at this
          cases this
      · exact h1 z hz
    · rename_i q
      have q : ltB y x = false := by simpa using q
      refine List.pairwise_cons.mpr ⟨fun z hz => ?_, h⟩
      rcases List.mem_cons.mp hz with rfl | hz
      · exact q
      · have hz' : P z := hP z (List.mem_cons_of_mem _ hz)
        cases q2 : ltB z x with
        | false => rfl
        | true =>
          exfalso
          have h3 := h1 z hz
          cases q3 : ltB x y with
          | true =>
            have := o.tr z x y hz' hx hy (by rw [ltB_of o hz' hx, q2]) (by rw [ltB_of o hx hy, q3])
            rw [ltB_of o hz' hy, h3] at this
            cases this
          | false =>
            have e : x = y := o.tri x y hx hy (by rw [ltB_of o hx hy, q3]) (by rw [ltB_of o hy hx, q])
            subst e
            rw [h3] at q2
            cases q2
theorem sortD_sorted {P : D → Prop} (o : TO P D.eqv ltD) : ∀ {l : List D}, (∀ z ∈ l, P z) → (sortD l).Pairwise (fun x y => ltB y x = false)
  | [], _ => List.Pairwise.nil
  | x :: l, hP => insF_sorted o (hP x List.mem_cons_self) (fun z hz => hP z (List.mem_cons_of_mem _ ((sortD_perm l).mem_iff.mp hz))) (sortD_sorted o fun z hz => hP z (List.mem_cons_of_mem _ hz))

/-! ### data in a heap, alone -/
mutual
inductive Hd (h : Heap) : Value → D → Prop
  | int (i : Int) (t : Tok) : Hd h (.int i t) (.int i)
  | str (x : Str) (t : Tok) : Hd h (.str x t) (.str x)
  | tup {p : Addr} {its : List Value} {ds : List D} : h.IsTuple p its.toArray → HdAll h its ds → Hd h (.ref p) (.tup ds)
inductive HdAll (h : Heap) : List Value → List D → Prop
  | nil : HdAll h [] []
  | cons {v : Value} {vs : List Value} {d : D} {ds : List D} : Hd h v d → HdAll h vs ds → HdAll h (v :: vs) (d :: ds)
end
/-! ints, texts, tuples of such -/
mutual
def D.pl : D → Bool
  | .int _ => true
  | .str _ => true
  | .tup ds => D.pls ds
  | _ => false
def D.pls : List D → Bool
  | [] => true
  | d :: ds => D.pl d && D.pls ds
end
theorem pls_all : ∀ {ds : List D}, (∀ d ∈ ds, D.pl d = true) → D.pls ds = true
  | [], _ => rfl
  | d :: ds, h => by
    show (D.pl d && D.pls ds) = true
    rw [h d List.mem_cons_self, pls_all fun e he => h e (List.mem_cons_of_mem _ he)]; rfl
theorem sh_pl : ∀ (h : Sh) {d : D}, h.has d = true → d.pl = true
  | .i, d, h => by cases d <;> first | rfl | (simp [Sh.has] at h)
  | .s, d, h => by cases d <;> first | rfl | (simp [Sh.has] at h)
  | .many t, d, h => by
    cases d with
    | tup ds => exact pls_all fun e he => sh_pl t (List.all_eq_true.mp (show ds.all (Sh.has t) = true by simpa [Sh.has] using h) e he)
    | _ => simp [Sh.has] at h
  | .two a b, d, h => by
    unfold Sh.has at h
    split at h <;> first | (cases ‹Sh.two _ _ = _›; done) | skip
    · rename_i e
      cases e
      rw [Bool.and_eq_true] at h
      exact pls_all fun e he => by
        rcases List.mem_cons.mp he with rfl | he
        · exact sh_pl a h.1
        · rcases List.mem_cons.mp he with rfl | he
          · exact sh_pl b h.2
          · cases he
    · cases h
  | .three a b c, d, h => by
    unfold Sh.has at h
    split at h <;> first | (cases ‹Sh.three _ _ _ = _›; done) | skip
    · rename_i e
      cases e
      rw [Bool.and_eq_true, Bool.and_eq_true] at h
      exact pls_all fun e he => by
        rcases List.mem_cons.mp he with rfl | he
        · exact sh_pl a h.1
        · rcases List.mem_cons.mp he with rfl | he
          · exact sh_pl b h.2.1
          · rcases List.mem_cons.mp he with rfl | he
            · exact sh_pl c h.2.2
            · cases he
    · cases h
section
variable {X : Cx} {T : Tb} {F H : Hp} {pins : List (Addr × Obj)} {σ : L2.St} {s : Shared}
mutual
theorem Hd.of (I : Inv X pins σ H s) (ef : Ext F H) : ∀ {d : D} {v : V} {u : Value}, Rp X.K T F v d → RelV v u → d.pl = true → Hd s.heap u d
  | .int i, _, _, .int _, ⟨t, e⟩, _ => by subst e; exact .int i t
  | .str x, _, _, .str _, ⟨t, e⟩, _ => by subst e; exact .str x t
  | .tup ds, _, _, h, r, p => by
    obtain ⟨q, xs, its, rfl, r1, v1, t1⟩ := tup_of I ef h r
    exact .tup t1 (HdAll.of I ef r1 v1 p)
theorem HdAll.of (I : Inv X pins σ H s) (ef : Ext F H) : ∀ {ds : List D} {vs : List V} {us : List Value}, Rps X.K T F vs ds → Vals vs us → D.pls ds = true → HdAll s.heap us ds
  | [], _, _, .nil, .nil, _ => .nil
  | d :: ds, _, _, .cons h r, .cons a b, p => by
    have p : (D.pl d && D.pls ds) = true := p
    rw [Bool.and_eq_true] at p
    exact .cons (Hd.of I ef h a p.1) (HdAll.of I ef r b p.2)
end
end
section
variable {h h' : Heap}
theorem IsTuple.inj {p : Addr} {a b : Array Value} (x : h.IsTuple p a) (y : h.IsTuple p b) : a = b := by
  obtain ⟨o, e1, _, n, e2⟩ := x
  obtain ⟨o', e3, _, n', e4⟩ := y
  rw [e1] at e3
  cases e3
  rw [e2] at e4
  cases e4; rfl
mutual
theorem Hd.inj : ∀ {d e : D} {u : Value}, Hd h u d → Hd h u e → d = e
  | _, _, _, .int i t, .int _ _ => rfl
  | _, _, _, .str x t, .str _ _ => rfl
  | _, _, _, .tup t1 a, .tup t2 b => by
    have e := IsTuple.inj t1 t2
    have e2 : _ = _ := congrArg Array.toList e
    simp only at e2
    subst e2
    rw [HdAll.inj a b]
theorem HdAll.inj : ∀ {ds es : List D} {us : List Value}, HdAll h us ds → HdAll h us es → ds = es
  | _, _, _, .nil, .nil => rfl
  | _, _, _, .cons a b, .cons c d => by rw [Hd.inj a c, HdAll.inj b d]
end
mutual
theorem Hd.keep (k : ∀ p its, h.IsTuple p its → h'.IsTuple p its) : ∀ {d : D} {u : Value}, Hd h u d → Hd h' u d
  | _, _, .int i t => .int i t
  | _, _, .str x t => .str x t
  | _, _, .tup t1 a => .tup (k _ _ t1) (HdAll.keep k a)
theorem HdAll.keep (k : ∀ p its, h.IsTuple p its → h'.IsTuple p its) : ∀ {ds : List D} {us : List Value}, HdAll h us ds → HdAll h' us ds
  | _, _, .nil => .nil
  | _, _, .cons a b => .cons (Hd.keep k a) (HdAll.keep k b)
end
mutual
theorem Hd.reads : ∀ {d : D} {u : Value}, Hd h u d → ∃ as, Reads h u d.py as
  | _, _, .int i t => ⟨_, .int i t⟩
  | _, _, .str x t => ⟨_, .str x t⟩
  | _, _, .tup t1 a => by
    obtain ⟨o, ho, hc, n, hd⟩ := t1
    obtain ⟨as, r⟩ := HdAll.reads a
    exact ⟨_, .tuple ho hc hd r⟩
theorem HdAll.reads : ∀ {ds : List D} {us : List Value}, HdAll h us ds → ∃ as, ReadsAll h us (D.pys ds) as
  | _, _, .nil => ⟨_, .nil⟩
  | _, _, .cons a b => by
    obtain ⟨as, r1⟩ := Hd.reads a
    obtain ⟨bs, r2⟩ := HdAll.reads b
    exact ⟨_, .cons r1 r2⟩
end
theorem HdAll.length : ∀ {ds : List D} {us : List Value}, HdAll h us ds → us.length = ds.length
  | _, _, .nil => rfl
  | _, _, .cons _ b => congrArg (· + 1) (HdAll.length b)
theorem HdAll.getD : ∀ {ds : List D} {us : List Value} (j : Nat) (hj : j < us.length), HdAll h us ds → Hd h us[j] (ds.getD j .non)
  | _, _, _, hj, .nil => absurd hj (by simp)
  | _, _, 0, _, .cons a _ => a
  | _, _, j + 1, hj, .cons _ b => HdAll.getD j (by simpa using hj) b
end
section
variable {s : Shared}
theorem Hd.eqAt {A : Around} {d e : D} {a b : Value} (hd : Hd s.heap a d) (he : Hd s.heap b e) (ld : d.py.canLay0 = true) (le : e.py.canLay0 = true) (hu : A.units + min d.py.depth e.py.depth < cLine) : SeqAt.EqAt A s a b (D.eqv d e) := by
  obtain ⟨as, r1⟩ := hd.reads
  obtain ⟨bs, r2⟩ := he.reads
  exact SeqAt.eqAt_reads _ _ A s a b _ _ r1 r2 ld le hu
theorem Hd.rcLt : ∀ (n : Nat) (A : Around) (d e : D) (c : Bool) (a b : Value), d.py.depth ≤ n → ltD d e = some c → Hd s.heap a d → Hd s.heap b e → d.py.canLay0 = true → e.py.canLay0 = true → A.units + n < cLine → Ob.RcOp .Lt A s a b c := by
  intro n
  induction n with
  | zero =>
    intro A d e c a b hn hl hd he ld le hu
    cases hd with
    | int i t => cases he with
      | int j u => simp only [ltD, Option.some.injEq] at hl; subst hl; exact Ob.RcOp.lt_int _ _ _ _
      | _ => cases hl
    | str x t => cases he with
      | str y u => simp only [ltD, Option.some.injEq] at hl; subst hl; exact fun _ _ _ _ h => PyProof.Rows.lt_str h
      | _ => cases hl
    | tup t a => simp [D.py, PyData.depth] at hn
  | succ n ih =>
    intro A d e c a b hn hl hd he ld le hu
    cases hd with
    | int i t => cases he with
      | int j u => simp only [ltD, Option.some.injEq] at hl; subst hl; exact Ob.RcOp.lt_int _ _ _ _
      | _ => cases hl
    | str x t => cases he with
      | str y u => simp only [ltD, Option.some.injEq] at hl; subst hl; exact fun _ _ _ _ h => PyProof.Rows.lt_str h
      | _ => cases hl
    | @tup p its ds t1 q1 =>
      cases he with
      | int j u => cases hl
      | str y u => cases hl
      | @tup p' its2 es t2 q2 =>
        have hdep : PyData.depthAll (D.pys ds) ≤ n := by
          have : PyData.depthAll (D.pys ds) + 1 ≤ n + 1 := by simpa [D.py, PyData.depth] using hn
          omega
        have hl : ltDs ds es = some c := hl
        have l1 := lay_tup ld
        have l2 := lay_tup le
        have n1 := q1.length
        have n2 := q2.length
        have R := Ob.RcOp.tuples_lt (A := A) (s := s) (e := eqJ ds es) (r := ltJ ds es) t1 t2 (by omega) (fun j h1 h2 => by
          have h1' : j < its.length := by simpa using h1
          have h2' : j < its2.length := by simpa using h2
          have z := Hd.eqAt (A := A.in1) (HdAll.getD j h1' q1) (HdAll.getD j h2' q2) (lay_at l1 j) (lay_at l2 j) (by
            have := depth_at ds j
            show A.units + 1 + _ < _
            have : min (ds.getD j .non).py.depth (es.getD j .non).py.depth ≤ (ds.getD j .non).py.depth := Nat.min_le_left _ _
            omega)
          simpa [eqJ] using z) (fun j h1 h2 _ => by
          have h1' : j < its.length := by simpa using h1
          have h2' : j < its2.length := by simpa using h2
          have z := ih A.in1 _ _ (ltJ ds es j) _ _ (Nat.le_trans (depth_at ds j) hdep) (ltDs_at ds es c hl j (by omega) (by omega)) (HdAll.getD j h1' q1) (HdAll.getD j h2' q2) (lay_at l1 j) (lay_at l2 j) (by
            show A.units + 1 + n < _
            omega)
          simpa using z)
        have e1 := ltDs_lex ds es c hl
        simp only [List.size_toArray, n1, n2] at R
        rw [e1]
        exact R
end
end Mi

set_option Elab.async false
set_option linter.all false
set_option maxRecDepth 100000
set_option maxHeartbeats 1000000
/-! MiV: sorted(x). -/
namespace SrtO
open PySem PyProof.Rows Srt
section
variable {prog : Program} {w : World} {A : Around} {E : Value → Shared → Prop} {s : Shared}
/-- the items of a list or a tuple, collected -/
theorem miCollect {l : Addr} {vs : List Value} {o : Obj} {n : Nat} {t : String} {Q : List Value → Shared → Prop} (ht : t = "list" ∨ t = "tuple") (ho : s.heap.get? l = some o) (hc : o.cls = .type t) (hd : o.data = .seq vs.toArray n)
    (h : Q vs { s with heap := (s.heap.push (seqObj "list" #[] 0)).update s.heap.objs.size (Obj.mapSeq (· ++ vs.toArray)) }) (hz : vs.length ≤ sizeLine) : wpAny (model prog w) A (collect (.ref l)) Q E s := by
  unfold collect
  refine wpAny_bind (wpAny_runValue (codeAny_builtin entry_proto_collect' ?_))
  show wpAny _ _ (do again (.builtin "list.__iadd__" ⟨[← newList [], .ref l], []⟩)) _ _ s
  refine wpAny_bind (wpAny_newList (wpAny_pure ⟨Code.quiet_builtin _ (by decide +kernel), codeAny_builtin entry_list_iadd' ?_⟩))
  show wpAny _ _ (Builtin.List.listExtendWith (.ref s.heap.objs.size) (.ref l) (.ref s.heap.objs.size)) _ _ { s with heap := s.heap.push (seqObj "list" #[] 0) }
  unfold Builtin.List.listExtendWith
  have ho' : (s.heap.push (seqObj "list" #[] 0)).get? l = some o := Heap.get?_push_of_some _ ho
  refine wpAny_bind (wpAny_typeOf (T := t) ⟨o, ho', hc⟩ ?_)
  have hh : (Builtin.List.listSameRef (Value.ref s.heap.objs.size) (Value.ref l) || Value.type t == Value.type "list" || Value.type t == Value.type "tuple") = true := by
    rcases ht with rfl | rfl
    · have e1 : (Value.type "list" == Value.type "list") = true := rfl
      rw [e1]; simp
    · have e1 : (Value.type "tuple" == Value.type "tuple") = true := rfl
      rw [e1]; simp
  rw [if_pos hh]
  refine wpAny_bind (listItems_at ho' hd (wpAny_bind (listItems_at (xs := #[]) (n := 0) (Heap.get?_push_size _ rfl) rfl ?_)))
  rw [if_neg (by simp)]
  refine wpAny_bind (listUpdate_at (xs := #[]) (n := 0) (Heap.get?_push_size _ rfl) rfl ?_ (Nat.zero_le _) (by show (#[] ++ vs.toArray).size ≤ sizeLine + 1; simp only [Array.size_append, List.size_toArray, List.length_nil]; omega))
  refine wpAny_pure ?_
  show wpAny (model prog w) A (do
      let oo ← load s.heap.objs.size
      match oo.data with
      | .seq xs _ => pure xs.toList
      | _ => unsupported "internal:collect") Q E { s with heap := (s.heap.push (seqObj "list" #[] 0)).update s.heap.objs.size (Obj.mapSeq (· ++ vs.toArray)) }
  refine wpAny_bind (wpAny_load (get?_update_seq (Heap.get?_push_size _ rfl) _) ?_)
  show wpAny _ _ (pure ((#[] : Array Value) ++ vs.toArray).toList) Q E _
  have ev : ((#[] : Array Value) ++ vs.toArray).toList = vs := by simp
  rw [ev]
  exact wpAny_pure h
/-- sorted of a list or a tuple -/
theorem miSorted {l : Addr} {vs : List Value} {o : Obj} {n : Nat} {t : String} {ltv : Value → Value → Bool} {Q : Value → Shared → Prop} (O : Swo ltv) (ht : t = "list" ∨ t = "tuple") (ho : s.heap.get? l = some o) (hc : o.cls = .type t) (hd : o.data = .seq vs.toArray n) (hz : vs.length ≤ sizeLine)
    (hS : 2 ≤ vs.length → ∀ (h₁ : Heap) (a : Addr), h₁.get? a = some (seqObj "list" vs.toArray 0) → (∀ b u, s.heap.get? b = some u → b ≠ a ∧ h₁.get? b = some u) → SortableO prog w A.in1.in1 { s with heap := h₁ } a vs ltv)
    (h : ∀ out : List Value, Srtd ltv out → Stb ltv out vs → Q (.ref (s.heap.objs.size + 1)) { s with heap := sortedAll s.heap vs out.toArray }) : wpAny (model prog w) A (call (.builtin "sorted") [.ref l]) Q E s := by
  refine Calls.call_function_entry kind_sorted plain_sorted entry_sorted (args_sorted1 _) ?_
  unfold Builtin.«sorted»
  refine wpAny_bind (m := checkCount "sorted" 1 1 _) (wpAny_pure ?_)
  refine wpAny_bind (miCollect ht ho hc hd (wpAny_bind (wpAny_newList ?_ hz)) hz)
  have sz : ((s.heap.push (seqObj "list" #[] 0)).update s.heap.objs.size (Obj.mapSeq (· ++ vs.toArray))).objs.size = s.heap.objs.size + 1 := by rw [Heap.size_update, size_push']
  have hL : (((s.heap.push (seqObj "list" #[] 0)).update s.heap.objs.size (Obj.mapSeq (· ++ vs.toArray))).push (seqObj "list" vs.toArray 0)).get? (s.heap.objs.size + 1) = some (seqObj "list" vs.toArray 0) := by
    rw [← sz]
    exact Heap.get?_push_size _ rfl
  have kp : ∀ b u, s.heap.get? b = some u → b ≠ s.heap.objs.size + 1 ∧ (((s.heap.push (seqObj "list" #[] 0)).update s.heap.objs.size (Obj.mapSeq (· ++ vs.toArray))).push (seqObj "list" vs.toArray 0)).get? b = some u := fun b u q => by
    have lt : b < s.heap.objs.size := Heap.lt_size q
    refine ⟨Nat.ne_of_lt (Nat.lt_succ_of_lt lt), Heap.get?_push_of_some _ ?_⟩
    rw [Heap.get?_update_ne _ _ _ _ (Nat.ne_of_lt lt)]
    exact Heap.get?_push_of_some _ q
  show wpAny _ _ _ _ _ { s with heap := ((s.heap.push (seqObj "list" #[] 0)).update s.heap.objs.size (Obj.mapSeq (· ++ vs.toArray))).push (seqObj "list" vs.toArray 0) }
  rw [sz]
  refine wpAny_bind (wpAny_holding (wpAny_call_entry slot_list_sort ⟨_, hL, rfl⟩ entry_list_sort (list_sort_ord O hL hz (fun h2 => hS h2 _ _ hL kp) fun out hs hb => ⟨_, rfl, ?_⟩) (args_list_sort _)))
  exact wpAny_pure ⟨_, rfl, h out hs hb⟩
end
end SrtO
namespace Mi
open PySem PySem.Spec PyProof.Rows L2
/-! ### the order of the values -/
/-- which of the data a value is -/
noncomputable def ddV (h : Heap) (ds : List D) (v : Value) : D := by
  classical
  exact if q : ∃ d, d ∈ ds ∧ Hd h v d then q.choose else ds.headD .non
theorem ddV_mem {h : Heap} {ds : List D} (hne : ds ≠ []) (v : Value) : ddV h ds v ∈ ds := by
  classical
  unfold ddV
  split
  · rename_i q; exact q.choose_spec.1
  · cases ds with
    | nil => exact (hne rfl).elim
    | cons d ds => exact List.mem_cons_self
theorem ddV_eq {h : Heap} {ds : List D} {v : Value} {d : D} (hd : d ∈ ds) (hv : Hd h v d) : ddV h ds v = d := by
  classical
  unfold ddV
  have q : ∃ d, d ∈ ds ∧ Hd h v d := ⟨d, hd, hv⟩
  rw [dif_pos q]
  exact Hd.inj q.choose_spec.2 hv
theorem swo_dd {P : D → Prop} (o : TO P D.eqv ltD) {ds : List D} (hP : ∀ d ∈ ds, P d) (hne : ds ≠ []) (f : Value → D) (hf : ∀ v, f v ∈ ds) : SrtO.Swo fun v u => ltB (f v) (f u) := by
  refine ⟨fun x y h => ?_, fun x y z h1 h2 => ?_⟩
  · have hx := hP _ (hf x)
    have hy := hP _ (hf y)
    cases q : ltB (f y) (f x) with
    | false => rfl
    | true =>
      have := o.tr _ _ _ hx hy hx (by rw [ltB_of o hx hy, h]) (by rw [ltB_of o hy hx, q])
      rw [o.irr _ hx] at this
      cases this
  · have hx := hP _ (hf x)
    have hy := hP _ (hf y)
    have hz := hP _ (hf z)
    cases q : ltB (f z) (f x) with
    | false => rfl
    | true =>
      exfalso
      cases q2 : ltB (f x) (f y) with
      | true =>
        have := o.tr _ _ _ hz hx hy (by rw [ltB_of o hz hx, q]) (by rw [ltB_of o hx hy, q2])
        rw [ltB_of o hz hy, h2] at this
        cases this
      | false =>
        have e : f x = f y := o.tri _ _ hx hy (by rw [ltB_of o hx hy, q2]) (by rw [ltB_of o hy hx, h1])
        rw [e, h2] at q
        cases q
theorem HdAll.at {h : Heap} : ∀ {vs : List Value} {ds : List D}, HdAll h vs ds → ∀ v ∈ vs, ∃ d ∈ ds, Hd h v d
  | _, _, .nil, v, hv => by cases hv
  | _, _, .cons a b, v, hv => by
    rcases List.mem_cons.mp hv with rfl | hv
    · exact ⟨_, List.mem_cons_self, a⟩
    · obtain ⟨d, h1, h2⟩ := HdAll.at b v hv
      exact ⟨d, List.mem_cons_of_mem _ h1, h2⟩
theorem HdAll.map {h : Heap} {es : List D} : ∀ {vs : List Value} {ds : List D}, HdAll h vs ds → (∀ d ∈ ds, d ∈ es) → vs.map (ddV h es) = ds
  | _, _, .nil, _ => rfl
  | _, _, .cons a b, hs => by rw [List.map_cons, ddV_eq (hs _ List.mem_cons_self) a, HdAll.map b fun d hd => hs d (List.mem_cons_of_mem _ hd)]

section
variable {prog : Program} {w : World} {A : Around} {s : Shared}
/-- no list at a was a tuple -/
theorem hd_keep {a : Addr} {vs : List Value} {h1 h2 : Heap} (ha : h1.get? a = some (PyProof.Rows.seqObj "list" vs.toArray 0)) (k : ∀ b o, b ≠ a → h1.get? b = some o → h2.get? b = some o) : ∀ p its, h1.IsTuple p its → h2.IsTuple p its := by
  rintro p its ⟨o, e1, e2, r⟩
  refine ⟨o, k p o (fun z => ?_) e1, e2, r⟩
  subst z
  rw [ha] at e1
  cases e1
  have : Value.type "list" = Value.type "tuple" := e2
  exact absurd (Value.type.inj this) (by decide)
/-- ints -/
theorem sortI {a : Addr} {vs : List Value} {ds : List D} (h2 : 2 ≤ vs.length) (hv : HdAll s.heap vs ds) (hi : ∀ d ∈ ds, ∃ i, d = .int i) : SrtO.SortableO prog w A s a vs fun v u => ltB (ddV s.heap ds v) (ddV s.heap ds u) := by
  have hI : ∃ ns, IntsAre vs ns := ⟨_, SrtO.ints_iv fun v hm => by
    obtain ⟨d, hd, q⟩ := HdAll.at hv v hm
    obtain ⟨i, rfl⟩ := hi d hd
    cases q
    exact ⟨i, _, rfl⟩⟩
  obtain ⟨ns, hI⟩ := hI
  have e : ∀ v ∈ vs, ∀ u ∈ vs, ltB (ddV s.heap ds v) (ddV s.heap ds u) = SrtO.ltIv v u := fun v hm u hu => by
    obtain ⟨d, hd, q⟩ := HdAll.at hv v hm
    obtain ⟨i, rfl⟩ := hi d hd
    obtain ⟨d', hd', q'⟩ := HdAll.at hv u hu
    obtain ⟨j, rfl⟩ := hi d' hd'
    rw [ddV_eq hd q, ddV_eq hd' q']
    cases q
    cases q'
    rfl
  intro h' keep
  obtain ⟨κ, k1, k2⟩ := SrtO.ints_sortable (prog := prog) (w := w) (A := A) (s := s) (a := a) hI h2 h' keep
  refine ⟨κ, k1, fun p q hp hq => ?_⟩
  have := k2 p q hp hq
  have e2 : SrtO.lt2 (fun v u => ltB (ddV s.heap ds v) (ddV s.heap ds u)) p q = SrtO.lt2 SrtO.ltIv p q := e _ hp _ hq
  rw [e2]
  exact this
/-- texts -/
theorem sortS {a : Addr} {vs : List Value} {ds : List D} (h2 : 2 ≤ vs.length) (hv : HdAll s.heap vs ds) (hi : ∀ d ∈ ds, ∃ i, d = .str i) : SrtO.SortableO prog w A s a vs fun v u => ltB (ddV s.heap ds v) (ddV s.heap ds u) := by
  have sa : ∀ {vs : List Value} {ds : List D}, HdAll s.heap vs ds → (∀ d ∈ ds, ∃ i, d = .str i) → ∃ ss, StrsAre vs ss := by
    intro vs
    induction vs with
    | nil => intro ds h _; exact ⟨[], .nil⟩
    | cons v vs ih =>
      intro ds h hi
      cases h with
      | cons a b =>
        obtain ⟨ss, hs⟩ := ih b fun d hd => hi d (List.mem_cons_of_mem _ hd)
        obtain ⟨i, e⟩ := hi _ List.mem_cons_self
        subst e
        cases a
        exact ⟨i :: ss, .cons _ _ hs⟩
  obtain ⟨ss, hS⟩ := sa hv hi
  intro h' keep
  refine ⟨oneType', fun Q E hq => ?_, fun p q hp hq => ?_⟩
  · match vs, hS, h2 with
    | v1 :: v2 :: rest, hS, _ =>
      rw [keyKind_strs hS]
      exact wpAny_pure hq
    | [], _, h => exact absurd h (by decide)
    | [v], _, h => exact absurd h (by simp)
  · obtain ⟨d, hd, r⟩ := HdAll.at hv _ hp
    obtain ⟨i, rfl⟩ := hi d hd
    obtain ⟨d', hd', r'⟩ := HdAll.at hv _ hq
    obtain ⟨j, rfl⟩ := hi d' hd'
    show wpAny (model prog w) A (keyLt' oneType' p.1 q.1) (fun r s' => s' = _ ∧ r = ltB (ddV s.heap ds p.1) (ddV s.heap ds q.1)) (fun _ _ => False) _
    rw [ddV_eq hd r, ddV_eq hd' r']
    generalize p.1 = u at r
    generalize q.1 = u' at r'
    cases r
    cases r'
    rw [keyLt'_oneType]
    exact oneLt_str ⟨rfl, rfl⟩
end

/-! ### tuples -/
section
variable {prog : Program} {w : World} {A : Around} {s : Shared}
theorem tyInt {h : Heap} {i : Int} {t : Tok} : PySem.W.Looks (model prog w) h (typeOf (.int i t)) (.type "int") := PySem.W.Looks.now
theorem tyStr {h : Heap} {x : Str} {t : Tok} : PySem.W.Looks (model prog w) h (typeOf (.str x t)) (.type "str") := PySem.W.Looks.now
theorem tyTupL {h : Heap} {p : Addr} {its : Array Value} (t : h.IsTuple p its) : PySem.W.Looks (model prog w) h (typeOf (.ref p)) (.type "tuple") := by
  intro A Q E s k q
  obtain ⟨o, ho, hc, _⟩ := t
  exact wpAny_typeOf (T := "tuple") ⟨o, k _ _ ho, hc⟩ q
theorem one_ok {b : Bool} {u v : Value} {x y : D} {c : Bool} (hu : Hd s.heap u x) (hv : Hd s.heap v y) (h : ltD x y = some c) (ok1 : x.ok = true) (ok2 : y.ok = true) (un : A.units + 65 < cLine) (hb : b = true → (∃ i j, x = .int i ∧ y = .int j) ∨ ∃ i j, x = .str i ∧ y = .str j) :
    wpAny (model prog w) A (oneLt' b u v) (fun r s' => s' = s ∧ r = c) (fun _ _ => False) s := by
  cases b with
  | false => exact PySem.W.kat_one u v (Hd.rcLt 64 A x y c u v (D.ok_depth ok1) h hu hv (D.ok_lay ok1) (D.ok_lay ok2) (by omega) prog w _ _ ⟨rfl, rfl⟩)
  | true =>
    rcases hb rfl with ⟨i, j, rfl, rfl⟩ | ⟨i, j, rfl, rfl⟩
    · cases hu; cases hv
      simp only [ltD, Option.some.injEq] at h
      subst h
      exact oneLt_int ⟨rfl, rfl⟩
    · cases hu; cases hv
      simp only [ltD, Option.some.injEq] at h
      subst h
      exact oneLt_str ⟨rfl, rfl⟩
theorem lex_ok {b fin : Bool} : ∀ {us vs : List Value} {ds es : List D} {c : Bool} {i : Nat}, HdAll s.heap us ds → HdAll s.heap vs es → ltDs ds es = some c → ds.all D.ok = true → es.all D.ok = true → A.units + 65 < cLine → fin = decide (us.length < vs.length) →
    ((b && i == 0) = true → ∀ x y, ds.head? = some x → es.head? = some y → (∃ i j, x = .int i ∧ y = .int j) ∨ ∃ i j, x = .str i ∧ y = .str j) → PySem.W.KatLex prog w A b fin (fun r s' => s' = s ∧ r = c) (us.zip vs) i s
  | _, _, _, _, c, i, .nil, .nil, h, _, _, _, hf, _ => by
    have h : some false = some c := h
    cases h
    exact PySem.W.kat_nil ⟨rfl, hf⟩
  | _, _, _, _, c, i, .nil, .cons _ _, h, _, _, _, hf, _ => by
    have h : some true = some c := h
    cases h
    exact PySem.W.kat_nil ⟨rfl, by rw [hf]; simp⟩
  | _, _, _, _, c, i, .cons _ _, .nil, h, _, _, _, hf, _ => by
    have h : some false = some c := h
    cases h
    exact PySem.W.kat_nil ⟨rfl, by rw [hf]; simp⟩
  | _, _, _, _, c, i, @HdAll.cons _ u us x ds a1 a2, @HdAll.cons _ v vs y es b1 b2, h, o1, o2, un, hf, hb => by
    rw [List.all_cons, Bool.and_eq_true] at o1 o2
    simp only [ltDs] at h
    split at h
    case h_2 => cases h
    rename_i k r h1 h2
    have min1 := D.ok_depth o1.1
    have mm : min x.py.depth y.py.depth ≤ x.py.depth := Nat.min_le_left _ _
    rw [List.zip_cons_cons]
    refine PySem.W.kat_cons (Hd.eqAt a1 b1 (D.ok_lay o1.1) (D.ok_lay o2.1) (by omega) prog w _ _ (PySem.W.kat_go (fun e => ?_) (fun e => ?_)))
    · rw [if_pos e] at h
      cases h
      refine PySem.W.kat_yes (lex_ok a2 b2 h2 o1.2 o2.2 un (by rw [hf]; simp) fun z => ?_)
      simp at z
    · rw [if_neg (by rw [e]; decide)] at h
      cases h
      exact PySem.W.kat_no (one_ok a1 b1 h1 o1.1 o2.1 un fun z => hb z x y rfl rfl)
/-- the first item's kind -/
inductive Fk where
  | i | s | t
def Fk.ty : Fk → Value
  | .i => .type "int"
  | .s => .type "str"
  | .t => .type "tuple"
def Fk.of : Fk → D → Prop
  | .i, d => ∃ i, d = .int i
  | .s, d => ∃ i, d = .str i
  | .t, d => ∃ i, d = .tup i
theorem firsts_ok {h : Heap} {k : Fk} : ∀ {vs : List Value} {ds : List D}, HdAll h vs ds → (∀ d ∈ ds, ∃ x xs, d = .tup (x :: xs) ∧ k.of x) → ∃ fs, PySem.W.KatTups h vs fs ∧ fs.length = vs.length ∧ ∀ f ∈ fs, PySem.W.Looks (model prog w) h (typeOf f) k.ty
  | _, _, .nil, _ => ⟨[], PySem.W.KatTups.nil, rfl, fun f hf => by cases hf⟩
  | _, _, .cons a b, hs => by
    obtain ⟨x, xs, rfl, hx⟩ := hs _ List.mem_cons_self
    obtain ⟨fs, k1, k2, k3⟩ := firsts_ok b fun d hd => hs d (List.mem_cons_of_mem _ hd)
    cases a with
    | @tup p its _ t1 a1 =>
      cases a1 with
      | @cons u us _ _ c1 c2 =>
        obtain ⟨o, ho, hc, n, hd⟩ := id t1
        refine ⟨u :: fs, PySem.W.KatTups.cons ho hc hd rfl k1, by rw [List.length_cons, List.length_cons, k2], fun f hf => ?_⟩
        rcases List.mem_cons.mp hf with rfl | hf
        · cases k with
          | i => obtain ⟨i, rfl⟩ := hx; cases c1; exact tyInt
          | s => obtain ⟨i, rfl⟩ := hx; cases c1; exact tyStr
          | t => obtain ⟨i, rfl⟩ := hx; cases c1 with
            | tup t2 _ => exact tyTupL t2
        · exact k3 f hf
theorem sortT {a : Addr} {vs : List Value} {ds : List D} {k : Fk} (un : A.units + 65 < cLine) (h2 : 2 ≤ vs.length) (hv : HdAll s.heap vs ds) (hk : ∀ d ∈ ds, ∃ x xs, d = .tup (x :: xs) ∧ k.of x) (hok : ∀ d ∈ ds, d.ok = true) (ht : ∀ d ∈ ds, ∀ e ∈ ds, ltD d e = some (ltB d e))
    (ha : s.heap.get? a = some (PyProof.Rows.seqObj "list" vs.toArray 0)) : SrtO.SortableO prog w A s a vs fun v u => ltB (ddV s.heap ds v) (ddV s.heap ds u) := by
  intro h' keep
  have kp := hd_keep ha keep
  have hv' := HdAll.keep kp hv
  obtain ⟨fs, f1, f2, f3⟩ := firsts_ok (prog := prog) (w := w) hv' hk
  refine ⟨tuples' (k.ty != Value.type "tuple"), fun Q E hq => ?_, fun p q hp hq => ?_⟩
  · exact PySem.W.kat_kind (T := k.ty) f1 (by omega) f3 (by cases k <;> rfl) hq
  · obtain ⟨d, hd, r⟩ := HdAll.at hv _ hp
    obtain ⟨e, he, r'⟩ := HdAll.at hv _ hq
    show wpAny (model prog w) A (keyLt' _ p.1 q.1) (fun r s' => s' = _ ∧ r = ltB (ddV s.heap ds p.1) (ddV s.heap ds q.1)) (fun _ _ => False) _
    rw [ddV_eq hd r, ddV_eq he r']
    obtain ⟨x, xs, rfl, hx⟩ := hk d hd
    obtain ⟨y, ys, rfl, hy⟩ := hk e he
    have l := ht _ hd _ he
    have o1 := hok _ hd
    have o2 := hok _ he
    generalize p.1 = u at r
    generalize q.1 = u' at r'
    have r := Hd.keep kp r
    have r' := Hd.keep kp r'
    cases r with
    | @tup p1 its _ t1 a1 =>
      cases r' with
      | @tup p2 its2 _ t2 a2 =>
        obtain ⟨o, ho, hc, n, hd1⟩ := t1
        obtain ⟨oo, ho2, hc2, n2, hd2⟩ := t2
        refine PySem.W.kat_lt ho hd1 ho2 hd2 ?_
        refine lex_ok a1 a2 l (ok_items o1) (ok_items o2) un (by simp) fun z x' y' e1 e2 => ?_
        cases e1
        cases e2
        cases k with
        | i => obtain ⟨i, rfl⟩ := hx; obtain ⟨j, rfl⟩ := hy; exact .inl ⟨i, j, rfl, rfl⟩
        | s => obtain ⟨i, rfl⟩ := hx; obtain ⟨j, rfl⟩ := hy; exact .inr ⟨i, j, rfl, rfl⟩
        | t =>
          have : (Fk.t.ty != Value.type "tuple") = false := rfl
          rw [this] at z
          cases z
where
  ok_items {ds : List D} (h : (D.tup ds).ok = true) : ds.all D.ok = true := by
    have h1 := lay_tup (D.ok_lay h)
    have h2 := D.ok_depth h
    have h3 : PyData.depthAll (D.pys ds) + 1 ≤ 64 := by simpa [D.py, PyData.depth] using h2
    clear h h2
    induction ds with
    | nil => rfl
    | cons d ds ih =>
      have q : d.py.canLay0 = true ∧ PyData.canLayAll0 (D.pys ds) = true := by simpa [D.pys, PyData.canLayAll0] using h1
      have q2 : max d.py.depth (PyData.depthAll (D.pys ds)) + 1 ≤ 64 := h3
      have m1 : d.py.depth ≤ max d.py.depth (PyData.depthAll (D.pys ds)) := Nat.le_max_left _ _
      have m2 : PyData.depthAll (D.pys ds) ≤ max d.py.depth (PyData.depthAll (D.pys ds)) := Nat.le_max_right _ _
      rw [List.all_cons, ih q.2 (by omega), Bool.and_true]
      show (d.py.canLay0 && decide (d.py.depth ≤ 64)) = true
      rw [q.1, Bool.true_and]
      exact decide_eq_true (by omega)
end

/-! ### sorted(x) -/
def Sh.kd : Sh → Fk
  | .i => .i
  | .s => .s
  | _ => .t
/-- the kind of the first items of the tuples of a shape -/
def Sh.fk : Sh → Option Fk
  | .i => none
  | .s => none
  | .many t => some t.kd
  | .two a _ => some a.kd
  | .three a _ _ => some a.kd
theorem kd_of {h : Sh} {d : D} (hd : h.has d = true) : h.kd.of d := by
  cases h with
  | i => cases d <;> first | exact ⟨_, rfl⟩ | (simp [Sh.has] at hd)
  | s => cases d <;> first | exact ⟨_, rfl⟩ | (simp [Sh.has] at hd)
  | _ => cases d <;> first | exact ⟨_, rfl⟩ | (simp [Sh.has] at hd)
theorem fk_of {h : Sh} {k : Fk} (hk : h.fk = some k) {d : D} (hd : h.has d = true) (hn : neT d = true) : ∃ x xs, d = .tup (x :: xs) ∧ k.of x := by
  cases d with
  | tup ds =>
    cases ds with
    | nil => cases hn
    | cons x xs =>
      refine ⟨x, xs, rfl, ?_⟩
      cases h with
      | i => cases hk
      | s => cases hk
      | many t =>
        cases hk
        have : (x :: xs).all (Sh.has t) = true := by simpa [Sh.has] using hd
        rw [List.all_cons, Bool.and_eq_true] at this
        exact kd_of this.1
      | two a b =>
        cases hk
        match xs, hd with
        | [y], hd =>
          have : (Sh.has a x && Sh.has b y) = true := by simpa [Sh.has] using hd
          rw [Bool.and_eq_true] at this
          exact kd_of this.1
        | [], hd => simp [Sh.has] at hd
        | _ :: _ :: _, hd => simp [Sh.has] at hd
      | three a b c =>
        cases hk
        match xs, hd with
        | [y, z], hd =>
          have : (Sh.has a x && (Sh.has b y && Sh.has c z)) = true := by simpa [Sh.has] using hd
          rw [Bool.and_eq_true] at this
          exact kd_of this.1
        | [], hd => simp [Sh.has] at hd
        | [_], hd => simp [Sh.has] at hd
        | _ :: _ :: _ :: _, hd => simp [Sh.has] at hd
  | _ => cases h <;> first | (cases hk; done) | (simp [Sh.has] at hd)
section
variable {X : Cx} {T : Tb} {E : XK} {W : Wd} {S : Sto} {H : Hp} {Q : VK} {pins : List (Addr × Obj)} {σ : L2.St} {s : Shared}
/-- a value, as the layer has it -/
def vOf (u : Value) : V := (absV u).getD .non
theorem vOf_rel {x : V} {u : Value} (r : RelV x u) : vOf u = x := by unfold vOf; rw [r.abs]; rfl
theorem rows_at {F : Hp} : ∀ {xs : List V} {ds : List D} {its : List Value}, Rps X.K T F xs ds → Vals xs its → HdAll s.heap its ds → ∀ u ∈ its, RelV (vOf u) u ∧ ∃ d ∈ ds, Hd s.heap u d ∧ Rp X.K T F (vOf u) d
  | _, _, _, .nil, .nil, .nil, u, hu => by cases hu
  | _, _, _, .cons a b, .cons c d, .cons e f, u, hu => by
    rcases List.mem_cons.mp hu with rfl | hu
    · rw [vOf_rel c]
      exact ⟨c, _, List.mem_cons_self, e, a⟩
    · obtain ⟨r, d', h1, h2⟩ := rows_at b d f u hu
      exact ⟨r, d', List.mem_cons_of_mem _ h1, h2⟩
theorem sorted_val {l : Addr} {xs : List V} {ds : List D} {its : List Value} {o : Obj} {n : Nat} {t : String} {h : Sh} (un : X.A.units + 80 < cLine) (I : Inv X pins σ H s) (rel : Rel X.K T W S H) (rx : Rps X.K T W.F xs ds) (rv : Vals xs its)
    (ht : t = "list" ∨ t = "tuple") (ho : s.heap.get? l = some o) (hc : o.cls = .type t) (hd : o.data = .seq its.toArray n) (hz : xs.length ≤ sizeLine) (hs : ∀ d ∈ ds, h.has d = true) (hok : ∀ d ∈ ds, d.ok = true) (hn : ds.length < 2 ∨ ∀ d ∈ ds, neT d = true)
    (post : Post X.K T E W (.ok (.fl (sortD ds)) S) Q) : wpAny (model X.prog X.w) X.A (call (.builtin "sorted") [.ref l]) (EP X pins σ Q) X.xe s := by
  have hA := HdAll.of I rel.sub rx rv (pls_all fun d hd => sh_pl h (hs d hd))
  have to := sh_ord h
  have hlen : its.length = ds.length := hA.length
  have hzi : its.length ≤ sizeLine := by rw [← rv.length]; exact hz
  have rows := rows_at rx rv hA
  have un2 : X.A.in1.in1.units + 65 < cLine := by show X.A.units + 1 + 1 + 65 < cLine; omega
  by_cases hne : ds = []
  · subst hne
    have hi : its = [] := List.length_eq_zero_iff.mp hlen
    subst hi
    refine SrtO.miSorted (ltv := SrtO.ltIv) SrtO.swo_int ht ho hc hd hzi (fun h2 => absurd h2 (by simp)) fun out h1 h2 => ?_
    have e : out = [] := (List.Perm.eq_nil h2.perm)
    subst e
    obtain ⟨ep, he⟩ := PyProof.Rows.sortedAll_at s.heap [] #[]
    refine ⟨.ref (s.heap.objs.size + 1), upd H (s.heap.objs.size + 1) (.lst []), I.laid (t' := s.toks) (fun _ _ => PyProof.Rows.sortedAll_old) (Nat.le_succ _) ⟨Nat.zero_le _, [], ep, .nil, he⟩, rfl, ?_⟩
    exact Post.lst post rel .nil _ (I.hok.fresh (Nat.le_succ _))
  · refine SrtO.miSorted (ltv := fun v u => ltB (ddV s.heap ds v) (ddV s.heap ds u)) (swo_dd to (fun d hd => hs d hd) hne _ fun v => ddV_mem hne v) ht ho hc hd hzi (fun h2 h₁ a ha kk => ?_) fun out h1 h2 => ?_
    · have hA1 : HdAll h₁ its ds := HdAll.keep (fun p it ⟨o, e1, r⟩ => ⟨o, (kk p o e1).2, r⟩) hA
      have same : ∀ v ∈ its, ddV s.heap ds v = ddV h₁ ds v := fun v hv => by
        obtain ⟨d, h3, h4⟩ := HdAll.at hA v hv
        rw [ddV_eq h3 h4, ddV_eq h3 (Hd.keep (fun p it ⟨o, e1, r⟩ => ⟨o, (kk p o e1).2, r⟩) h4)]
      have key : SrtO.SortableO X.prog X.w X.A.in1.in1 { s with heap := h₁ } a its fun v u => ltB (ddV h₁ ds v) (ddV h₁ ds u) := by
        cases hk : h.fk with
        | none =>
          cases h with
          | i => exact sortI (s := { s with heap := h₁ }) h2 hA1 fun d hd => kd_of (hs d hd)
          | s => exact sortS (s := { s with heap := h₁ }) h2 hA1 fun d hd => kd_of (hs d hd)
          | _ => cases hk
        | some k =>
          have hne2 : ∀ d ∈ ds, neT d = true := by
            rcases hn with q | q
            · omega
            · exact q
          exact sortT (s := { s with heap := h₁ }) un2 h2 hA1 (fun d hd => fk_of hk (hs d hd) (hne2 d hd)) hok (fun d hd e he => ltB_of to (hs d hd) (hs e he)) ha
      intro h' keep
      obtain ⟨κ, k1, k2⟩ := key h' keep
      refine ⟨κ, k1, fun p q hp hq => ?_⟩
      have e : SrtO.lt2 (fun v u => ltB (ddV s.heap ds v) (ddV s.heap ds u)) p q = SrtO.lt2 (fun v u => ltB (ddV h₁ ds v) (ddV h₁ ds u)) p q := by
        show ltB (ddV s.heap ds p.1) (ddV s.heap ds q.1) = ltB (ddV h₁ ds p.1) (ddV h₁ ds q.1)
        rw [same _ hp, same _ hq]
      rw [e]
      exact k2 p q hp hq
    · have hin : ∀ u ∈ out, u ∈ its := fun u hu => h2.perm.mem_iff.mp hu
      have hv : Vals (out.map vOf) out := by
        have : ∀ l : List Value, (∀ u ∈ l, u ∈ its) → Vals (l.map vOf) l := fun l => by
          induction l with
          | nil => intro _; exact .nil
          | cons u l ih => intro hl; exact .cons (rows u (hl u List.mem_cons_self)).1 (ih fun v hv => hl v (List.mem_cons_of_mem _ hv))
        exact this out hin
      have hr : Rps X.K T W.F (out.map vOf) (out.map (ddV s.heap ds)) := by
        have : ∀ l : List Value, (∀ u ∈ l, u ∈ its) → Rps X.K T W.F (l.map vOf) (l.map (ddV s.heap ds)) := fun l => by
          induction l with
          | nil => intro _; exact .nil
          | cons u l ih =>
            intro hl
            obtain ⟨_, d, h3, h4, h5⟩ := rows u (hl u List.mem_cons_self)
            refine .cons ?_ (ih fun v hv => hl v (List.mem_cons_of_mem _ hv))
            rw [ddV_eq h3 h4]
            exact h5
        exact this out hin
      have hp : (out.map (ddV s.heap ds)).Perm ds := by
        have q := h2.perm.map (ddV s.heap ds)
        rw [HdAll.map hA fun d hd => hd] at q
        exact q
      have hsrt : (out.map (ddV s.heap ds)).Pairwise (fun x y => ltB y x = false) := List.pairwise_map.mpr h1
      have e : out.map (ddV s.heap ds) = sortD ds := sorted_uniq to (fun x hx => hs x (hp.mem_iff.mp hx)) (hp.trans (sortD_perm ds).symm) hsrt (sortD_sorted to fun z hz => hs z hz)
      rw [e] at hr
      obtain ⟨ep, he⟩ := PyProof.Rows.sortedAll_at s.heap its out.toArray
      have hlz : (out.map vOf).length ≤ sizeLine := by
        rw [List.length_map, h2.perm.length_eq]; exact hzi
      refine ⟨.ref (s.heap.objs.size + 1), upd H (s.heap.objs.size + 1) (.lst (out.map vOf)), I.laid (t' := s.toks) (fun _ _ => PyProof.Rows.sortedAll_old) (Nat.le_succ _) ⟨hlz, out, ep, hv, he⟩, rfl, ?_⟩
      exact Post.lst post rel hr _ (I.hok.fresh (Nat.le_succ _))
theorem call_sorted (un : X.A.units + 80 < cLine) (h : Sh) : CallR X (.builtin "sorted") (rdB X.K T E (b1op (.sorted h))) := by
  intro pins s σ H xs us Q I r hh
  obtain ⟨W, S, a, v, rfl, rel, ra, post⟩ := hh
  obtain ⟨u, rfl, ru⟩ := vals1 r
  cases hseq : a.seq S with
  | none =>
    simp only [b1op, hseq] at post
    exact post.elim
  | some p =>
    obtain ⟨k, ds⟩ := p
    simp only [b1op, hseq, Option.bind_some] at post
    split at post
    case isFalse => exact post.elim
    rename_i hc
    simp only [Bool.and_eq_true, Bool.or_eq_true, decide_eq_true_eq] at hc
    have h1 : ∀ d ∈ ds, h.has d = true := fun d hd => by
      have := List.all_eq_true.mp hc.1 d hd
      rw [Bool.and_eq_true] at this
      exact this.1
    have h2 : ∀ d ∈ ds, d.ok = true := fun d hd => by
      have := List.all_eq_true.mp hc.1 d hd
      rw [Bool.and_eq_true] at this
      exact this.2
    have h3 : ds.length < 2 ∨ ∀ d ∈ ds, neT d = true := hc.2.imp id fun q d hd => List.all_eq_true.mp q d hd
    obtain ⟨q, zs, rfl, rx, ⟨_, hp⟩ | ⟨_, hp, _⟩⟩ := seqA rel ra hseq
    · cases ru
      obtain ⟨its, rv, ⟨o, n, ho, hcl, _, hd⟩, hz⟩ := I.list (SqL.of hp)
      exact sorted_val un I rel rx rv (.inl rfl) ho hcl hd hz h1 h2 h3 post
    · cases ru
      obtain ⟨its, rv, ⟨o, ho, hcl, n, hd⟩, hz⟩ := I.tuple (.inl hp)
      exact sorted_val un I rel rx rv (.inr rfl) ho hcl hd hz h1 h2 h3 post
end
end Mi

set_option Elab.async false
set_option linter.all false
set_option maxRecDepth 100000
set_option maxHeartbeats 1000000
/-! MiW: min(x), max(x) of a list or a tuple; printed by gen_mm.py. -/
namespace MmO
open PySem PyProof.Rows

section
variable {prog : Program} {w : World} {A : Around} {R : Result → Shared → Prop} {it : Addr} {foot wrt : List Addr} {num : Nat} {P : Nat → Value → Prop} {Stt : Nat → Heap → Prop}
theorem loop_min (Wk : Walks prog w A.in1 it foot wrt num P Stt) (better : Nat → Nat → Bool) (old : Heap) (B : Addr)
    (cmp : ∀ t : Shared, (∀ b o, old.get? b = some o → t.heap.get? b = some o) → ∀ i j u v, P i u → P j v → Ob.RcOp .Lt A.in1 t u v (better i j))
    (oldW : ∀ b ∈ wrt, old.get? b = none) (oldB : old.get? B = none) (Bf : B ∉ foot) :
    ∀ (k j : Nat) (t : Shared) (best : Value) (c : Nat), num - (j + 1) = k → j + 1 ≤ num → Stt (j + 1) t.heap → P (argBest better j) best → (∀ b o, old.get? b = some o → t.heap.get? b = some o) →
    t.heap.get? B = some { cls := .type "list", dict := none, data := .seq #[best, best] c, slots := #[] } →
    (∀ v hp tk, P (argBest better (num - 1)) v → (∀ b o, old.get? b = some o → hp.get? b = some o) → R (.ok (.ret v)) { t with heap := hp, toks := tk }) →
    codeAny (model prog w) A (.builtin "min.loop" ⟨[.ref it, .none, .ref B], []⟩) R t := by
  have Bw : B ∉ wrt := fun q => Bf (Wk.sub _ q)
  have nm : (toString "min" ++ toString ".loop" : String) = "min.loop" := by decide
  have neW : ∀ b o, old.get? b = some o → b ∉ wrt := fun b o e q => by rw [oldW b q] at e; cases e
  have neB : ∀ b o, old.get? b = some o → B ≠ b := fun b o e q => by rw [← q, oldB] at e; cases e
  intro k
  induction k with
  | zero =>
    intro j t best c hk hj st hP kp hB fin
    have last : j + 1 = num := by omega
    refine codeAny_builtin F.entry_min_loop ?_
    rw [Around.under_plainId F.plain_min_loop _]
    show wpAny _ A.in1 (seqItems? (.ref B) >>= _) _ _ t
    refine wpAny_bind (wpAny_seqItems hB rfl ?_)
    show wpAny _ A.in1 (tryCatch (pyNext (.ref it)) _ >>= _) _ _ t
    refine wpAny_bind (wpAny_tryCatch (Wk.done t _ _ (last ▸ st) fun hp tk kept => ?_))
    have hB2 := kept B _ Bw hB
    show wpAny _ A.in1 (updateSeq B (fun _ => #[]) >>= _) _ _ _
    refine wpAny_bind ?_
    refine wpAny_updateSeq hB2 rfl (wpAny_bind (wpAny_letGo (wpAny_pure ?_)))
    refine fin best _ tk (by rw [← last]; exact hP) fun b o e => ?_
    exact (Heap.get?_update_other _ _ (neB b o e)).trans (kept b o (neW b o e) (kp b o e))
  | succ k ih =>
    intro j t best c hk hj st hP kp hB fin
    have lt : j + 1 < num := by omega
    refine codeAny_builtin F.entry_min_loop ?_
    rw [Around.under_plainId F.plain_min_loop _]
    show wpAny _ A.in1 (seqItems? (.ref B) >>= _) _ _ t
    refine wpAny_bind (wpAny_seqItems hB rfl ?_)
    show wpAny _ A.in1 (tryCatch (pyNext (.ref it)) _ >>= _) _ _ t
    refine wpAny_bind (wpAny_tryCatch (Wk.item (j + 1) t _ _ lt st fun v hp tk hv st2 kept => ?_))
    have hB2 := kept B _ Bw hB
    have kp2 : ∀ b o, old.get? b = some o → hp.get? b = some o := fun b o e => kept b o (neW b o e) (kp b o e)
    show wpAny _ A.in1 (tryCatch (holding [v, v] (richCompare .Lt v best >>= _)) _ >>= _) _ _ _
    refine wpAny_bind (wpAny_tryCatch (wpAny_holding (wpAny_bind (cmp _ kp2 (j + 1) (argBest better j) v best hv hP prog w _ _ ?_))))
    refine wpAny_bind (wpAny_holding (wpAny_truthy_bool ?_))
    refine wpAny_bind (wpAny_letGo (wpAny_pure ?_))
    cases hb : better (j + 1) (argBest better j) with
    | true =>
      simp only [if_true]
      refine wpAny_bind ?_
      refine wpAny_updateSeq hB2 rfl (wpAny_bind (wpAny_letGo ?_))
      rw [nm]
      refine wpAny_pure ⟨plainId_quiet F.plain_min_loop _, ih (j + 1) _ v _ (by omega) lt (Wk.frame _ _ _ st2 fun b hf o e => ?_) (by simp only [argBest, hb, if_true]; exact hv)
        (fun b o e => (Heap.get?_update_other _ _ (neB b o e)).trans (kp2 b o e)) (Heap.get?_update_self _ hB2 rfl) fun v' hp' tk' q1 q2 => fin v' hp' tk' q1 q2⟩
      exact (Heap.get?_update_other _ _ (fun q : B = b => Bf (by rw [q]; exact hf))).trans e
    | false =>
      simp only [Bool.false_eq_true, if_false]
      refine wpAny_bind (wpAny_letGo ?_)
      rw [nm]
      exact wpAny_pure ⟨plainId_quiet F.plain_min_loop _, ih (j + 1) _ best c (by omega) lt st2 (by simp only [argBest, hb, Bool.false_eq_true, if_false]; exact hP) kp2 hB2 fun v' hp' tk' q1 q2 => fin v' hp' tk' q1 q2⟩
end
section
variable {prog : Program} {w : World} {A : Around} {E : Value → Shared → Prop} {s : Shared}
theorem walk_min {x : Value} {Q : Value → Shared → Prop}
    (h : wpAny (model prog w) A.in1 (pyIter x) (fun iv t => ∃ it foot wrt num P Stt better, iv = .ref it ∧ Walks prog w A.in1 it foot wrt num P Stt ∧ Stt 0 t.heap ∧ (∀ b ∈ foot, b < t.heap.objs.size) ∧ (∀ b ∈ wrt, s.heap.get? b = none) ∧ (∀ b o, s.heap.get? b = some o → t.heap.get? b = some o) ∧ s.heap.objs.size ≤ t.heap.objs.size ∧ 0 < num ∧
      (∀ t : Shared, (∀ b o, s.heap.get? b = some o → t.heap.get? b = some o) → ∀ i j u v, P i u → P j v → Ob.RcOp .Lt A.in1 t u v (better i j)) ∧
      ∀ v hp tk, P (argBest better (num - 1)) v → (∀ b o, s.heap.get? b = some o → hp.get? b = some o) → Q v { t with heap := hp, toks := tk }) E s) :
    wpAny (model prog w) A (call (.builtin "min") [x]) Q E s := by
  have nm : (toString "min" ++ toString ".loop" : String) = "min.loop" := by decide
  refine call_function_tree F.kind_min F.plain_min F.entry_min (F.args_min1 _) ?_
  show wpAny _ A.in1 (Builtin.Builtins.bindParams "min" ["key", "default"] 0 ⟨[], []⟩ >>= _) _ _ s
  refine wpAny_bind (wpAny_of_eq (show Builtin.Builtins.bindParams "min" ["key", "default"] 0 ⟨[], []⟩ = pure [none, none] from rfl) ?_)
  refine wpAny_bind (wpAny_pure ?_)
  refine wpAny_bind (wpAny_mono h (fun iv t q => ?_) fun _ _ e => e)
  obtain ⟨it, foot, wrt, num, P, Stt, better, rfl, Wk, st, hf, hw, kp, sz, pos, cmp, fin⟩ := q
  refine wpAny_bind (wpAny_newObj_type ?_)
  have Bf : t.heap.objs.size ∉ foot := fun hm => Nat.lt_irrefl _ (hf _ hm)
  have Bo : s.heap.get? t.heap.objs.size = none := by
    cases q : s.heap.get? t.heap.objs.size with
    | none => rfl
    | some o => exact absurd (Heap.lt_size q) (Nat.not_lt.mpr sz)
  have neW : ∀ b o, s.heap.get? b = some o → b ∉ wrt := fun b o e q => by rw [hw b q] at e; cases e
  rw [nm]
  refine wpAny_pure ⟨plainId_quiet F.plain_min_loop _, ?_⟩
  have Bw : t.heap.objs.size ∉ wrt := fun q => Bf (Wk.sub _ q)
  have neB : ∀ b o, s.heap.get? b = some o → t.heap.objs.size ≠ b := fun b o e q => by rw [← q, Bo] at e; cases e
  refine codeAny_builtin F.entry_min_loop ?_
  rw [Around.under_plainId F.plain_min_loop _]
  show wpAny _ A.in1 (seqItems? (.ref t.heap.objs.size) >>= _) _ _ _
  refine wpAny_bind (wpAny_seqItems (Heap.get?_push_size _ rfl) rfl ?_)
  show wpAny _ A.in1 (tryCatch (pyNext (.ref it)) _ >>= _) _ _ _
  refine wpAny_bind (wpAny_tryCatch (Wk.item 0 _ _ _ pos (Wk.frame _ _ _ st fun b _ o e => Heap.get?_push_of_some _ e) fun v hp tk hv st2 kept => ?_))
  have hB2 := kept t.heap.objs.size _ Bw (Heap.get?_push_size _ rfl)
  have kp2 : ∀ b o, s.heap.get? b = some o → hp.get? b = some o := fun b o e => kept b o (neW b o e) (Heap.get?_push_of_some _ (kp b o e))
  show wpAny _ A.in1 (updateSeq t.heap.objs.size (fun _ => #[v, v]) >>= _) _ _ _
  refine wpAny_bind ?_
  refine wpAny_updateSeq hB2 rfl ?_
  rw [nm]
  refine wpAny_pure ⟨plainId_quiet F.plain_min_loop _, loop_min Wk better s.heap t.heap.objs.size cmp hw Bo Bf _ 0 _ v _ rfl pos (Wk.frame _ _ _ st2 fun b hm o e => ?_) hv
    (fun b o e => (Heap.get?_update_other _ _ (neB b o e)).trans (kp2 b o e)) (Heap.get?_update_self _ hB2 rfl) fun v' hp' tk' q1 q2 => fin v' hp' tk' q1 q2⟩
  exact (Heap.get?_update_other _ _ (fun q : t.heap.objs.size = b => Bf (by rw [q]; exact hm))).trans e
/-- of a list or a tuple -/
theorem seq_min {l : Addr} {vs : List Value} {better : Nat → Nat → Bool} {Q : Value → Shared → Prop} (hh : A.handled = none) (hl : s.heap.IsList l vs.toArray ∨ s.heap.IsTuple l vs.toArray) (hne : vs ≠ [])
    (cmp : ∀ t : Shared, (∀ b o, s.heap.get? b = some o → t.heap.get? b = some o) → ∀ i j u v, vs[i]? = some u → vs[j]? = some v → Ob.RcOp .Lt A.in1 t u v (better i j))
    (h : ∀ v hp tk, vs[argBest better (vs.length - 1)]? = some v → (∀ b o, s.heap.get? b = some o → hp.get? b = some o) → Q v { s with heap := hp, toks := tk }) : wpAny (model prog w) A (call (.builtin "min") [.ref l]) Q E s := by
  have ll : l < s.heap.objs.size := by
    rcases hl with ⟨_, e, _⟩ | ⟨_, e, _⟩ <;> exact Heap.lt_size e
  have pos : 0 < vs.toArray.size := by
    cases vs with
    | nil => exact (hne rfl).elim
    | cons v vs => simp
  have no : s.heap.get? s.heap.objs.size = none := by
    cases q : s.heap.get? s.heap.objs.size with
    | none => rfl
    | some o => exact absurd (Heap.lt_size q) (Nat.lt_irrefl _)
  have lts : ∀ (o : Obj) b, b ∈ [s.heap.objs.size, l] → b < (s.heap.push o).objs.size := fun o b hb => by
    rw [Heap.size_push]
    rcases List.mem_cons.mp hb with rfl | hb
    · exact Nat.lt_succ_self _
    · rcases List.mem_cons.mp hb with rfl | hb
      · exact Nat.lt_succ_of_lt ll
      · cases hb
  have nos : ∀ b ∈ [s.heap.objs.size], s.heap.get? b = none := fun b hb => by
    rcases List.mem_cons.mp hb with rfl | hb
    · exact no
    · cases hb
  refine walk_min ?_
  rcases hl with hl | hl
  · refine wpAny_pyIter_list hl ?_
    refine ⟨_, _, _, _, _, _, better, rfl, Walks.list (A := A.in1) hh _ l (Nat.ne_of_lt ll) vs.toArray, ⟨⟨_, Heap.get?_push_size _ rfl, rfl, rfl⟩, hl.push _⟩, lts _, nos, fun b o e => Heap.get?_push_of_some _ e, by show _ ≤ (s.heap.push _).objs.size; rw [Heap.size_push]; exact Nat.le_succ _, pos, fun t kp i j u v hu hv => cmp t kp i j u v (by simpa using hu) (by simpa using hv), fun v hp tk hv kp => h v hp tk (by simpa using hv) kp⟩
  · refine wpAny_pyIter_tuple hl ?_
    refine ⟨_, _, _, _, _, _, better, rfl, Walks.tuple (A := A.in1) hh _ l (Nat.ne_of_lt ll) vs.toArray, ⟨⟨_, Heap.get?_push_size _ rfl, rfl, rfl⟩, hl.push _⟩, lts _, nos, fun b o e => Heap.get?_push_of_some _ e, by show _ ≤ (s.heap.push _).objs.size; rw [Heap.size_push]; exact Nat.le_succ _, pos, fun t kp i j u v hu hv => cmp t kp i j u v (by simpa using hu) (by simpa using hv), fun v hp tk hv kp => h v hp tk (by simpa using hv) kp⟩
end

section
variable {prog : Program} {w : World} {A : Around} {R : Result → Shared → Prop} {it : Addr} {foot wrt : List Addr} {num : Nat} {P : Nat → Value → Prop} {Stt : Nat → Heap → Prop}
theorem loop_max (Wk : Walks prog w A.in1 it foot wrt num P Stt) (better : Nat → Nat → Bool) (old : Heap) (B : Addr)
    (cmp : ∀ t : Shared, (∀ b o, old.get? b = some o → t.heap.get? b = some o) → ∀ i j u v, P i u → P j v → Ob.RcOp .Gt A.in1 t u v (better i j))
    (oldW : ∀ b ∈ wrt, old.get? b = none) (oldB : old.get? B = none) (Bf : B ∉ foot) :
    ∀ (k j : Nat) (t : Shared) (best : Value) (c : Nat), num - (j + 1) = k → j + 1 ≤ num → Stt (j + 1) t.heap → P (argBest better j) best → (∀ b o, old.get? b = some o → t.heap.get? b = some o) →
    t.heap.get? B = some { cls := .type "list", dict := none, data := .seq #[best, best] c, slots := #[] } →
    (∀ v hp tk, P (argBest better (num - 1)) v → (∀ b o, old.get? b = some o → hp.get? b = some o) → R (.ok (.ret v)) { t with heap := hp, toks := tk }) →
    codeAny (model prog w) A (.builtin "max.loop" ⟨[.ref it, .none, .ref B], []⟩) R t := by
  have Bw : B ∉ wrt := fun q => Bf (Wk.sub _ q)
  have nm : (toString "max" ++ toString ".loop" : String) = "max.loop" := by decide
  have neW : ∀ b o, old.get? b = some o → b ∉ wrt := fun b o e q => by rw [oldW b q] at e; cases e
  have neB : ∀ b o, old.get? b = some o → B ≠ b := fun b o e q => by rw [← q, oldB] at e; cases e
  intro k
  induction k with
  | zero =>
    intro j t best c hk hj st hP kp hB fin
    have last : j + 1 = num := by omega
    refine codeAny_builtin F.entry_max_loop ?_
    rw [Around.under_plainId F.plain_max_loop _]
    show wpAny _ A.in1 (seqItems? (.ref B) >>= _) _ _ t
    refine wpAny_bind (wpAny_seqItems hB rfl ?_)
    show wpAny _ A.in1 (tryCatch (pyNext (.ref it)) _ >>= _) _ _ t
    refine wpAny_bind (wpAny_tryCatch (Wk.done t _ _ (last ▸ st) fun hp tk kept => ?_))
    have hB2 := kept B _ Bw hB
    show wpAny _ A.in1 (updateSeq B (fun _ => #[]) >>= _) _ _ _
    refine wpAny_bind ?_
    refine wpAny_updateSeq hB2 rfl (wpAny_bind (wpAny_letGo (wpAny_pure ?_)))
    refine fin best _ tk (by rw [← last]; exact hP) fun b o e => ?_
    exact (Heap.get?_update_other _ _ (neB b o e)).trans (kept b o (neW b o e) (kp b o e))
  | succ k ih =>
    intro j t best c hk hj st hP kp hB fin
    have lt : j + 1 < num := by omega
    refine codeAny_builtin F.entry_max_loop ?_
    rw [Around.under_plainId F.plain_max_loop _]
    show wpAny _ A.in1 (seqItems? (.ref B) >>= _) _ _ t
    refine wpAny_bind (wpAny_seqItems hB rfl ?_)
    show wpAny _ A.in1 (tryCatch (pyNext (.ref it)) _ >>= _) _ _ t
    refine wpAny_bind (wpAny_tryCatch (Wk.item (j + 1) t _ _ lt st fun v hp tk hv st2 kept => ?_))
    have hB2 := kept B _ Bw hB
    have kp2 : ∀ b o, old.get? b = some o → hp.get? b = some o := fun b o e => kept b o (neW b o e) (kp b o e)
    show wpAny _ A.in1 (tryCatch (holding [v, v] (richCompare .Gt v best >>= _)) _ >>= _) _ _ _
    refine wpAny_bind (wpAny_tryCatch (wpAny_holding (wpAny_bind (cmp _ kp2 (j + 1) (argBest better j) v best hv hP prog w _ _ ?_))))
    refine wpAny_bind (wpAny_holding (wpAny_truthy_bool ?_))
    refine wpAny_bind (wpAny_letGo (wpAny_pure ?_))
    cases hb : better (j + 1) (argBest better j) with
    | true =>
      simp only [if_true]
      refine wpAny_bind ?_
      refine wpAny_updateSeq hB2 rfl (wpAny_bind (wpAny_letGo ?_))
      rw [nm]
      refine wpAny_pure ⟨plainId_quiet F.plain_max_loop _, ih (j + 1) _ v _ (by omega) lt (Wk.frame _ _ _ st2 fun b hf o e => ?_) (by simp only [argBest, hb, if_true]; exact hv)
        (fun b o e => (Heap.get?_update_other _ _ (neB b o e)).trans (kp2 b o e)) (Heap.get?_update_self _ hB2 rfl) fun v' hp' tk' q1 q2 => fin v' hp' tk' q1 q2⟩
      exact (Heap.get?_update_other _ _ (fun q : B = b => Bf (by rw [q]; exact hf))).trans e
    | false =>
      simp only [Bool.false_eq_true, if_false]
      refine wpAny_bind (wpAny_letGo ?_)
      rw [nm]
      exact wpAny_pure ⟨plainId_quiet F.plain_max_loop _, ih (j + 1) _ best c (by omega) lt st2 (by simp only [argBest, hb, Bool.false_eq_true, if_false]; exact hP) kp2 hB2 fun v' hp' tk' q1 q2 => fin v' hp' tk' q1 q2⟩
end
section
variable {prog : Program} {w : World} {A : Around} {E : Value → Shared → Prop} {s : Shared}
theorem walk_max {x : Value} {Q : Value → Shared → Prop}
    (h : wpAny (model prog w) A.in1 (pyIter x) (fun iv t => ∃ it foot wrt num P Stt better, iv = .ref it ∧ Walks prog w A.in1 it foot wrt num P Stt ∧ Stt 0 t.heap ∧ (∀ b ∈ foot, b < t.heap.objs.size) ∧ (∀ b ∈ wrt, s.heap.get? b = none) ∧ (∀ b o, s.heap.get? b = some o → t.heap.get? b = some o) ∧ s.heap.objs.size ≤ t.heap.objs.size ∧ 0 < num ∧
      (∀ t : Shared, (∀ b o, s.heap.get? b = some o → t.heap.get? b = some o) → ∀ i j u v, P i u → P j v → Ob.RcOp .Gt A.in1 t u v (better i j)) ∧
      ∀ v hp tk, P (argBest better (num - 1)) v → (∀ b o, s.heap.get? b = some o → hp.get? b = some o) → Q v { t with heap := hp, toks := tk }) E s) :
    wpAny (model prog w) A (call (.builtin "max") [x]) Q E s := by
  have nm : (toString "max" ++ toString ".loop" : String) = "max.loop" := by decide
  refine call_function_tree F.kind_max F.plain_max F.entry_max (F.args_max1 _) ?_
  show wpAny _ A.in1 (Builtin.Builtins.bindParams "max" ["key", "default"] 0 ⟨[], []⟩ >>= _) _ _ s
  refine wpAny_bind (wpAny_of_eq (show Builtin.Builtins.bindParams "max" ["key", "default"] 0 ⟨[], []⟩ = pure [none, none] from rfl) ?_)
  refine wpAny_bind (wpAny_pure ?_)
  refine wpAny_bind (wpAny_mono h (fun iv t q => ?_) fun _ _ e => e)
  obtain ⟨it, foot, wrt, num, P, Stt, better, rfl, Wk, st, hf, hw, kp, sz, pos, cmp, fin⟩ := q
  refine wpAny_bind (wpAny_newObj_type ?_)
  have Bf : t.heap.objs.size ∉ foot := fun hm => Nat.lt_irrefl _ (hf _ hm)
  have Bo : s.heap.get? t.heap.objs.size = none := by
    cases q : s.heap.get? t.heap.objs.size with
    | none => rfl
    | some o => exact absurd (Heap.lt_size q) (Nat.not_lt.mpr sz)
  have neW : ∀ b o, s.heap.get? b = some o → b ∉ wrt := fun b o e q => by rw [hw b q] at e; cases e
  rw [nm]
  refine wpAny_pure ⟨plainId_quiet F.plain_max_loop _, ?_⟩
  have Bw : t.heap.objs.size ∉ wrt := fun q => Bf (Wk.sub _ q)
  have neB : ∀ b o, s.heap.get? b = some o → t.heap.objs.size ≠ b := fun b o e q => by rw [← q, Bo] at e; cases e
  refine codeAny_builtin F.entry_max_loop ?_
  rw [Around.under_plainId F.plain_max_loop _]
  show wpAny _ A.in1 (seqItems? (.ref t.heap.objs.size) >>= _) _ _ _
  refine wpAny_bind (wpAny_seqItems (Heap.get?_push_size _ rfl) rfl ?_)
  show wpAny _ A.in1 (tryCatch (pyNext (.ref it)) _ >>= _) _ _ _
  refine wpAny_bind (wpAny_tryCatch (Wk.item 0 _ _ _ pos (Wk.frame _ _ _ st fun b _ o e => Heap.get?_push_of_some _ e) fun v hp tk hv st2 kept => ?_))
  have hB2 := kept t.heap.objs.size _ Bw (Heap.get?_push_size _ rfl)
  have kp2 : ∀ b o, s.heap.get? b = some o → hp.get? b = some o := fun b o e => kept b o (neW b o e) (Heap.get?_push_of_some _ (kp b o e))
  show wpAny _ A.in1 (updateSeq t.heap.objs.size (fun _ => #[v, v]) >>= _) _ _ _
  refine wpAny_bind ?_
  refine wpAny_updateSeq hB2 rfl ?_
  rw [nm]
  refine wpAny_pure ⟨plainId_quiet F.plain_max_loop _, loop_max Wk better s.heap t.heap.objs.size cmp hw Bo Bf _ 0 _ v _ rfl pos (Wk.frame _ _ _ st2 fun b hm o e => ?_) hv
    (fun b o e => (Heap.get?_update_other _ _ (neB b o e)).trans (kp2 b o e)) (Heap.get?_update_self _ hB2 rfl) fun v' hp' tk' q1 q2 => fin v' hp' tk' q1 q2⟩
  exact (Heap.get?_update_other _ _ (fun q : t.heap.objs.size = b => Bf (by rw [q]; exact hm))).trans e
/-- of a list or a tuple -/
theorem seq_max {l : Addr} {vs : List Value} {better : Nat → Nat → Bool} {Q : Value → Shared → Prop} (hh : A.handled = none) (hl : s.heap.IsList l vs.toArray ∨ s.heap.IsTuple l vs.toArray) (hne : vs ≠ [])
    (cmp : ∀ t : Shared, (∀ b o, s.heap.get? b = some o → t.heap.get? b = some o) → ∀ i j u v, vs[i]? = some u → vs[j]? = some v → Ob.RcOp .Gt A.in1 t u v (better i j))
    (h : ∀ v hp tk, vs[argBest better (vs.length - 1)]? = some v → (∀ b o, s.heap.get? b = some o → hp.get? b = some o) → Q v { s with heap := hp, toks := tk }) : wpAny (model prog w) A (call (.builtin "max") [.ref l]) Q E s := by
  have ll : l < s.heap.objs.size := by
    rcases hl with ⟨_, e, _⟩ | ⟨_, e, _⟩ <;> exact Heap.lt_size e
  have pos : 0 < vs.toArray.size := by
    cases vs with
    | nil => exact (hne rfl).elim
    | cons v vs => simp
  have no : s.heap.get? s.heap.objs.size = none := by
    cases q : s.heap.get? s.heap.objs.size with
    | none => rfl
    | some o => exact absurd (Heap.lt_size q) (Nat.lt_irrefl _)
  have lts : ∀ (o : Obj) b, b ∈ [s.heap.objs.size, l] → b < (s.heap.push o).objs.size := fun o b hb => by
    rw [Heap.size_push]
    rcases List.mem_cons.mp hb with rfl | hb
    · exact Nat.lt_succ_self _
    · rcases List.mem_cons.mp hb with rfl | hb
      · exact Nat.lt_succ_of_lt ll
      · cases hb
  have nos : ∀ b ∈ [s.heap.objs.size], s.heap.get? b = none := fun b hb => by
    rcases List.mem_cons.mp hb with rfl | hb
    · exact no
    · cases hb
  refine walk_max ?_
  rcases hl with hl | hl
  · refine wpAny_pyIter_list hl ?_
    refine ⟨_, _, _, _, _, _, better, rfl, Walks.list (A := A.in1) hh _ l (Nat.ne_of_lt ll) vs.toArray, ⟨⟨_, Heap.get?_push_size _ rfl, rfl, rfl⟩, hl.push _⟩, lts _, nos, fun b o e => Heap.get?_push_of_some _ e, by show _ ≤ (s.heap.push _).objs.size; rw [Heap.size_push]; exact Nat.le_succ _, pos, fun t kp i j u v hu hv => cmp t kp i j u v (by simpa using hu) (by simpa using hv), fun v hp tk hv kp => h v hp tk (by simpa using hv) kp⟩
  · refine wpAny_pyIter_tuple hl ?_
    refine ⟨_, _, _, _, _, _, better, rfl, Walks.tuple (A := A.in1) hh _ l (Nat.ne_of_lt ll) vs.toArray, ⟨⟨_, Heap.get?_push_size _ rfl, rfl, rfl⟩, hl.push _⟩, lts _, nos, fun b o e => Heap.get?_push_of_some _ e, by show _ ≤ (s.heap.push _).objs.size; rw [Heap.size_push]; exact Nat.le_succ _, pos, fun t kp i j u v hu hv => cmp t kp i j u v (by simpa using hu) (by simpa using hv), fun v hp tk hv kp => h v hp tk (by simpa using hv) kp⟩
end
end MmO
namespace Mi
open PySem PySem.Spec PyProof.Rows L2
theorem HdAll.get {h : Heap} : ∀ {vs : List Value} {ds : List D}, HdAll h vs ds → ∀ {i : Nat} {v : Value}, vs[i]? = some v → ∃ d, ds[i]? = some d ∧ Hd h v d
  | _, _, .nil, i, v, q => by simp at q
  | _, _, .cons a b, 0, v, q => by
    simp only [List.getElem?_cons_zero, Option.some.injEq] at q
    subst q
    exact ⟨_, rfl, a⟩
  | _, _, .cons a b, i + 1, v, q => by
    simp only [List.getElem?_cons_succ] at q
    obtain ⟨d, h1, h2⟩ := HdAll.get b q
    exact ⟨d, by simpa using h1, h2⟩

theorem best_min (xs : List D) : ∀ k, k < xs.length → ∃ d, xs[argBest (fun i j => ltB (xs.getD i .non) (xs.getD j .non)) k]? = some d ∧ minD (xs.headD .non) (xs.tail.take k) = d := by
  have step : ∀ (m y : D) (r : List D), minD m (r ++ [y]) = (if ltB y (minD m r) = true then y else minD m r) := by
    intro m y r
    induction r generalizing m with
    | nil => rfl
    | cons z r ih => exact ih _
  intro k
  induction k with
  | zero =>
    intro hk
    cases xs with
    | nil => simp at hk
    | cons x xs => exact ⟨x, rfl, by simp [minD]⟩
  | succ k ih =>
    intro hk
    obtain ⟨d, h1, h2⟩ := ih (by omega)
    have h3 : k < xs.tail.length := by rw [List.length_tail]; omega
    have h4 : xs[k + 1]? = some xs.tail[k] := by
      cases xs with
      | nil => simp at hk
      | cons x xs => simp at h3; simp [h3]
    have h5 : xs.tail.take (k + 1) = xs.tail.take k ++ [xs.tail[k]] := (List.take_append_getElem h3).symm
    have gd : ∀ i z, xs[i]? = some z → xs.getD i .non = z := fun i z q => by rw [List.getD_eq_getElem?_getD, q]; rfl
    rw [h5, step, h2]
    simp only [argBest]
    have e1 := gd _ _ h4
    have e2 := gd _ _ h1
    by_cases c : ltB xs.tail[k] d = true
    · refine ⟨xs.tail[k], ?_, ?_⟩
      · rw [if_pos (by rw [e1, e2]; exact c)]; exact h4
      · rw [if_pos c]
    · refine ⟨d, ?_, ?_⟩
      · rw [if_neg (by rw [e1, e2]; exact c)]; exact h1
      · rw [if_neg c]
section
variable {X : Cx} {T : Tb} {E : XK} {W : Wd} {S : Sto} {H : Hp} {Q : VK} {pins : List (Addr × Obj)} {σ : L2.St} {s : Shared}
theorem call_min (un : X.A.units + 80 < cLine) (hc : X.calm = true) (h : Sh) : CallR X (.builtin "min") (rdB X.K T E (b1op (.min h))) := by
  intro pins s σ H xs us Q I r hh
  obtain ⟨W, S, a, v, rfl, rel, ra, post⟩ := hh
  obtain ⟨u, rfl, ru⟩ := vals1 r
  cases hseq : a.seq S with
  | none =>
    simp only [b1op, hseq] at post
    exact post.elim
  | some p =>
    obtain ⟨k, ds⟩ := p
    simp only [b1op, hseq, Option.bind_some] at post
    split at post
    case isFalse => exact post.elim
    rename_i hall
    have h1 : ∀ d ∈ ds, h.has d = true := fun d hd => by
      have := List.all_eq_true.mp hall d hd
      rw [Bool.and_eq_true] at this
      exact this.1
    have h2 : ∀ d ∈ ds, d.ok = true := fun d hd => by
      have := List.all_eq_true.mp hall d hd
      rw [Bool.and_eq_true] at this
      exact this.2
    match ds, h1, h2, hseq, post with
    | [], _, _, _, post => exact post.elim
    | m :: rest, h1, h2, hseq, post =>
    have to := sh_ord h
    suffices key : ∀ (q : Addr) (zs : List V) (its : List Value), Rps X.K T W.F zs (m :: rest) → Vals zs its → (s.heap.IsList q its.toArray ∨ s.heap.IsTuple q its.toArray) → wpAny (model X.prog X.w) X.A (call (.builtin "min") [.ref q]) (EP X pins σ Q) X.xe s by
      obtain ⟨q, zs, rfl, rx, ⟨_, hp⟩ | ⟨_, hp, _⟩⟩ := seqA rel ra hseq
      · cases ru
        obtain ⟨its, rv, hl, _⟩ := I.list (SqL.of hp)
        exact key q zs its rx rv (.inl hl.isList)
      · cases ru
        obtain ⟨its, rv, hl, _⟩ := I.tuple (.inl hp)
        exact key q zs its rx rv (.inr hl)
    intro q zs its rx rv hl
    have hA := HdAll.of I rel.sub rx rv (pls_all fun d hd => sh_pl h (h1 d hd))
    have rows := rows_at rx rv hA
    have hlen : its.length = (m :: rest).length := hA.length
    refine MmO.seq_min (better := fun i j => ltB ((m :: rest).getD i .non) ((m :: rest).getD j .non)) (I.ok.hd hc) hl (fun e => by rw [e] at hlen; cases hlen) (fun t kp i j u v hu hv => ?_) fun v hp tk hv kp => ?_
    · obtain ⟨d, d1, d2⟩ := HdAll.get hA hu
      obtain ⟨e, e1, e2⟩ := HdAll.get hA hv
      have dm : d ∈ m :: rest := List.mem_of_getElem? d1
      have em : e ∈ m :: rest := List.mem_of_getElem? e1
      have gd : ∀ i z, (m :: rest)[i]? = some z → (m :: rest).getD i .non = z := fun i z q => by rw [List.getD_eq_getElem?_getD, q]; rfl
      show Ob.RcOp .Lt X.A.in1 t u v (ltB ((m :: rest).getD i .non) ((m :: rest).getD j .non))
      rw [gd _ _ d1, gd _ _ e1]
      have kt : ∀ p it, s.heap.IsTuple p it → t.heap.IsTuple p it := fun p it ⟨o, e1, r⟩ => ⟨o, kp p o e1, r⟩
      exact Hd.rcLt 64 X.A.in1 d e _ u v (D.ok_depth (h2 d dm)) (ltB_of to (h1 d dm) (h1 e em)) (Hd.keep kt d2) (Hd.keep kt e2) (D.ok_lay (h2 d dm)) (D.ok_lay (h2 e em)) (by show X.A.units + 1 + 64 < cLine; omega)
    · have hk : rest.length < (m :: rest).length := by simp
      obtain ⟨d, d1, d2⟩ := best_min (m :: rest) rest.length hk
      have el : its.length - 1 = rest.length := by rw [hlen]; simp
      rw [el] at hv
      obtain ⟨e, e1, e2⟩ := HdAll.get hA hv
      rw [d1] at e1
      cases e1
      have d2 : minD m rest = d := by simpa using d2
      obtain ⟨rv1, d', _, _, _⟩ := rows v (List.mem_of_getElem? hv)
      obtain ⟨d', _, h4, h5⟩ := (rows v (List.mem_of_getElem? hv)).2
      have := Hd.inj h4 e2
      subst this
      subst d2
      exact ⟨vOf v, H, I.kept kp, rv1, Post.here (a := .d (minD m rest)) post rel h5⟩
end

theorem best_max (xs : List D) : ∀ k, k < xs.length → ∃ d, xs[argBest (fun i j => ltB (xs.getD j .non) (xs.getD i .non)) k]? = some d ∧ maxD (xs.headD .non) (xs.tail.take k) = d := by
  have step : ∀ (m y : D) (r : List D), maxD m (r ++ [y]) = (if ltB (maxD m r) y = true then y else maxD m r) := by
    intro m y r
    induction r generalizing m with
    | nil => rfl
    | cons z r ih => exact ih _
  intro k
  induction k with
  | zero =>
    intro hk
    cases xs with
    | nil => simp at hk
    | cons x xs => exact ⟨x, rfl, by simp [maxD]⟩
  | succ k ih =>
    intro hk
    obtain ⟨d, h1, h2⟩ := ih (by omega)
    have h3 : k < xs.tail.length := by rw [List.length_tail]; omega
    have h4 : xs[k + 1]? = some xs.tail[k] := by
      cases xs with
      | nil => simp at hk
      | cons x xs => simp at h3; simp [h3]
    have h5 : xs.tail.take (k + 1) = xs.tail.take k ++ [xs.tail[k]] := (List.take_append_getElem h3).symm
    have gd : ∀ i z, xs[i]? = some z → xs.getD i .non = z := fun i z q => by rw [List.getD_eq_getElem?_getD, q]; rfl
    rw [h5, step, h2]
    simp only [argBest]
    have e1 := gd _ _ h4
    have e2 := gd _ _ h1
    by_cases c : ltB d xs.tail[k] = true
    · refine ⟨xs.tail[k], ?_, ?_⟩
      · rw [if_pos (by rw [e1, e2]; exact c)]; exact h4
      · rw [if_pos c]
    · refine ⟨d, ?_, ?_⟩
      · rw [if_neg (by rw [e1, e2]; exact c)]; exact h1
      · rw [if_neg c]
section
variable {X : Cx} {T : Tb} {E : XK} {W : Wd} {S : Sto} {H : Hp} {Q : VK} {pins : List (Addr × Obj)} {σ : L2.St} {s : Shared}
theorem call_max (un : X.A.units + 80 < cLine) (hc : X.calm = true) (h : Sh) (hi : h = .i) : CallR X (.builtin "max") (rdB X.K T E (b1op (.max h))) := by
  intro pins s σ H xs us Q I r hh
  obtain ⟨W, S, a, v, rfl, rel, ra, post⟩ := hh
  obtain ⟨u, rfl, ru⟩ := vals1 r
  cases hseq : a.seq S with
  | none =>
    simp only [b1op, hseq] at post
    exact post.elim
  | some p =>
    obtain ⟨k, ds⟩ := p
    simp only [b1op, hseq, Option.bind_some] at post
    split at post
    case isFalse => exact post.elim
    rename_i hall
    have h1 : ∀ d ∈ ds, h.has d = true := fun d hd => by
      have := List.all_eq_true.mp hall d hd
      rw [Bool.and_eq_true] at this
      exact this.1
    have h2 : ∀ d ∈ ds, d.ok = true := fun d hd => by
      have := List.all_eq_true.mp hall d hd
      rw [Bool.and_eq_true] at this
      exact this.2
    match ds, h1, h2, hseq, post with
    | [], _, _, _, post => exact post.elim
    | m :: rest, h1, h2, hseq, post =>
    have to := sh_ord h
    suffices key : ∀ (q : Addr) (zs : List V) (its : List Value), Rps X.K T W.F zs (m :: rest) → Vals zs its → (s.heap.IsList q its.toArray ∨ s.heap.IsTuple q its.toArray) → wpAny (model X.prog X.w) X.A (call (.builtin "max") [.ref q]) (EP X pins σ Q) X.xe s by
      obtain ⟨q, zs, rfl, rx, ⟨_, hp⟩ | ⟨_, hp, _⟩⟩ := seqA rel ra hseq
      · cases ru
        obtain ⟨its, rv, hl, _⟩ := I.list (SqL.of hp)
        exact key q zs its rx rv (.inl hl.isList)
      · cases ru
        obtain ⟨its, rv, hl, _⟩ := I.tuple (.inl hp)
        exact key q zs its rx rv (.inr hl)
    intro q zs its rx rv hl
    have hA := HdAll.of I rel.sub rx rv (pls_all fun d hd => sh_pl h (h1 d hd))
    have rows := rows_at rx rv hA
    have hlen : its.length = (m :: rest).length := hA.length
    refine MmO.seq_max (better := fun i j => ltB ((m :: rest).getD j .non) ((m :: rest).getD i .non)) (I.ok.hd hc) hl (fun e => by rw [e] at hlen; cases hlen) (fun t kp i j u v hu hv => ?_) fun v hp tk hv kp => ?_
    · obtain ⟨d, d1, d2⟩ := HdAll.get hA hu
      obtain ⟨e, e1, e2⟩ := HdAll.get hA hv
      have dm : d ∈ m :: rest := List.mem_of_getElem? d1
      have em : e ∈ m :: rest := List.mem_of_getElem? e1
      have gd : ∀ i z, (m :: rest)[i]? = some z → (m :: rest).getD i .non = z := fun i z q => by rw [List.getD_eq_getElem?_getD, q]; rfl
      show Ob.RcOp .Gt X.A.in1 t u v (ltB ((m :: rest).getD j .non) ((m :: rest).getD i .non))
      rw [gd _ _ d1, gd _ _ e1]
      have dh := h1 d dm
      have eh := h1 e em
      subst hi
      obtain ⟨i1, rfl⟩ := kd_of dh
      obtain ⟨i2, rfl⟩ := kd_of eh
      cases d2
      cases e2
      exact Ob.RcOp.gt_int _ _ _ _
    · have hk : rest.length < (m :: rest).length := by simp
      obtain ⟨d, d1, d2⟩ := best_max (m :: rest) rest.length hk
      have el : its.length - 1 = rest.length := by rw [hlen]; simp
      rw [el] at hv
      obtain ⟨e, e1, e2⟩ := HdAll.get hA hv
      rw [d1] at e1
      cases e1
      have d2 : maxD m rest = d := by simpa using d2
      obtain ⟨rv1, d', _, _, _⟩ := rows v (List.mem_of_getElem? hv)
      obtain ⟨d', _, h4, h5⟩ := (rows v (List.mem_of_getElem? hv)).2
      have := Hd.inj h4 e2
      subst this
      subst d2
      exact ⟨vOf v, H, I.kept kp, rv1, Post.here (a := .d (maxD m rest)) post rel h5⟩
end
end Mi

set_option Elab.async false
set_option linter.all false
set_option maxRecDepth 100000
set_option maxHeartbeats 400000
/-! MiH: results of any kind, slots, the readings of expressions, targets, what is walked. -/
namespace Mi
open PySem PySem.Spec PyProof.Rows L2

/-! ### results of any kind -/
def PostG {α β : Type} (K : PySem.W.Frag) (T : Tb) (E : XK) (P : Wd → Hp → α → β → Prop) (W : Wd) (r : Res α) (Q : β → Hp → Prop) : Prop :=
  match r with
  | .ok a S => ∀ F H v, Ext W.F F → Rel K T (W.wF F) S H → P (W.wF F) H a v → Q v H
  | .exc x S => ∀ F H c d, Ext W.F F → Rel K T (W.wF F) S H → XRp K T F H x c d → E c d H
  | .bad => False
/-- equal -/
def pEq {α : Type} : Wd → Hp → α → α → Prop := fun _ _ a b => a = b
section
variable {K : PySem.W.Frag} {T : Tb} {E : XK} {W : Wd} {S : Sto} {H : Hp} {α β γ δ' : Type}
theorem postR {r : Res R} {Q : VK} : PostG K T E (fun W H => RpR K T W H) W r Q = Post K T E W r Q := by cases r <;> rfl
theorem PostG.mono {P : Wd → Hp → α → β → Prop} {r : Res α} {Q : β → Hp → Prop} {F : Hp} (e : Ext W.F F) (h : PostG K T E P W r Q) : PostG K T E P (W.wF F) r Q := by
  cases r with
  | ok a S => exact fun F' H v e' rel rp => h F' H v (e.trans e') rel rp
  | exc x S => exact fun F' H c d e' rel rp => h F' H c d (e.trans e') rel rp
  | bad => exact h
theorem PostG.bind {P : Wd → Hp → α → β → Prop} {P' : Wd → Hp → γ → δ' → Prop} {r : Res α} {k : α → Sto → Res γ} {Q : δ' → Hp → Prop} (h : PostG K T E P' W (r.andThen k) Q) :
    PostG K T E P W r (fun v H => ∃ a S F, Ext W.F F ∧ Rel K T (W.wF F) S H ∧ P (W.wF F) H a v ∧ PostG K T E P' (W.wF F) (k a S) Q) := by
  cases r with
  | ok a S => exact fun F H v e rel p => ⟨a, S, F, e, rel, p, h.mono e⟩
  | exc x S => exact h
  | bad => exact h
/-- what is known to be there -/
theorem PostG.ok {P : Wd → Hp → α → β → Prop} {r : Res α} {Q : β → Hp → Prop} {a : α} (e : r = .ok a S) (h : ∀ F H v, Ext W.F F → Rel K T (W.wF F) S H → P (W.wF F) H a v → Q v H) : PostG K T E P W r Q := by
  subst e; exact h
theorem PostG.imp {P : Wd → Hp → α → β → Prop} {r : Res α} {Q Q' : β → Hp → Prop} (h : PostG K T E P W r Q) (hQ : ∀ v H, Q v H → Q' v H) : PostG K T E P W r Q' := by
  cases r with
  | ok a S => exact fun F H v e rel p => hQ _ _ (h F H v e rel p)
  | exc x S => exact h
  | bad => exact h
end
theorem andThen_inv {α β : Type} {r : Res α} {k : α → Sto → Res β} {z : β} {S' : Sto} (h : r.andThen k = .ok z S') : ∃ a S, r = .ok a S ∧ k a S = .ok z S' := by
  cases r with
  | ok a S => exact ⟨a, S, rfl, h⟩
  | exc x S => cases h
  | bad => cases h
theorem noExc_inv {α : Type} {r : Res α} {z : α} {S' : Sto} (h : r.noExc = .ok z S') : r = .ok z S' := by
  cases r with
  | ok a S => exact h
  | exc x S => cases h
  | bad => cases h
theorem toA_inv {r a : R} {S S' : Sto} (h : toA r S = .ok a S') : S' = S := by
  unfold toA at h
  split at h
  · cases h; rfl
  · cases h; rfl
  · cases h

/-! ### slots -/
structure Slots (K : PySem.W.Frag) (T : Tb) (W : Wd) (σ : L2.St) (δ : Env) : Prop where
  len : δ.length = σ.length
  at_ : ∀ i r, δ.get i = some r → ∃ v, σ[i]? = some (some v) ∧ RpA K T W r v
/-- more is known, more places are there -/
structure Wd.Le (W W' : Wd) : Prop where
  F : Ext W.F W'.F
  μ : ∀ (l : Nat) (a : Addr), W.μ[l]? = some a → W'.μ[l]? = some a
theorem Wd.Le.refl (W : Wd) : W.Le W := ⟨Ext.refl _, fun _ _ h => h⟩
theorem Wd.Le.trans {W W' W'' : Wd} (a : W.Le W') (b : W'.Le W'') : W.Le W'' := ⟨a.F.trans b.F, fun l p h => b.μ l p (a.μ l p h)⟩
theorem Wd.Le.wF {W : Wd} {F : Hp} (e : Ext W.F F) : W.Le (W.wF F) := ⟨e, fun _ _ h => h⟩
theorem get_set_self {δ : Env} {i : Nat} {r : R} (h : i < δ.length) (x : Option R) : Env.get (δ.set i x) i = x := by
  unfold Env.get
  rw [List.getElem?_set_self h]; cases x <;> rfl
theorem get_set_ne {δ : Env} {i j : Nat} (h : i ≠ j) (x : Option R) : Env.get (δ.set i x) j = Env.get δ j := by
  unfold Env.get
  rw [List.getElem?_set_ne h]
section
variable {K : PySem.W.Frag} {T : Tb} {W W' : Wd} {σ : L2.St} {δ : Env}
theorem RpA.le (e : W.Le W') : ∀ {r : R} {v : V}, RpA K T W r v → RpA K T W' r v
  | .d _, _, h => Rp.ext e.F h
  | .loc l, _, ⟨a, h1, h2⟩ => ⟨a, h1, e.μ _ _ h2⟩
  | .fl _, _, h => h.elim
  | .fd _ _, _, h => h.elim
theorem Slots.le (s : Slots K T W σ δ) (e : W.Le W') : Slots K T W' σ δ := ⟨s.len, fun i r h => let ⟨v, h1, h2⟩ := s.at_ i r h; ⟨v, h1, h2.le e⟩⟩
theorem Slots.ext {F : Hp} (s : Slots K T W σ δ) (e : Ext W.F F) : Slots K T (W.wF F) σ δ := s.le (Wd.Le.wF e)
theorem Slots.set (s : Slots K T W σ δ) (i : Nat) {r : R} {v : V} (h : RpA K T W r v) : Slots K T W (σ.set i (some v)) (δ.set i (some r)) := by
  refine ⟨by rw [List.length_set, List.length_set]; exact s.len, fun j q hq => ?_⟩
  by_cases e : i = j
  · subst e
    by_cases hl : i < δ.length
    · rw [get_set_self hl (r := r)] at hq
      cases hq
      exact ⟨v, List.getElem?_set_self (by rw [← s.len]; exact hl), h⟩
    · rw [List.set_eq_of_length_le (Nat.le_of_not_lt hl)] at hq
      unfold Env.get at hq
      rw [List.getElem?_eq_none (Nat.le_of_not_lt hl)] at hq
      cases hq
  · rw [get_set_ne e] at hq
    obtain ⟨w, h1, h2⟩ := s.at_ j q hq
    exact ⟨w, by rw [List.getElem?_set_ne e]; exact h1, h2⟩
theorem Slots.off (s : Slots K T W σ δ) (i : Nat) : Slots K T W (σ.set i none) (δ.set i none) := by
  refine ⟨by rw [List.length_set, List.length_set]; exact s.len, fun j q hq => ?_⟩
  by_cases e : i = j
  · subst e
    by_cases hl : i < δ.length
    · rw [get_set_self hl (r := .d .non)] at hq; cases hq
    · rw [List.set_eq_of_length_le (Nat.le_of_not_lt hl)] at hq
      unfold Env.get at hq
      rw [List.getElem?_eq_none (Nat.le_of_not_lt hl)] at hq
      cases hq
  · rw [get_set_ne e] at hq
    obtain ⟨w, h1, h2⟩ := s.at_ j q hq
    exact ⟨w, by rw [List.getElem?_set_ne e]; exact h1, h2⟩
theorem Slots.wipe (s : Slots K T W σ δ) : ∀ vs : List Nat, Slots K T W (L2.wipe σ vs) (wipeE δ vs)
  | [] => s
  | v :: vs => (Slots.wipe s vs).off v
theorem Slots.start {rs : List R} {vs : List V} (h : RpAs K T W rs vs) (n : Nat) : Slots K T W (vs.map some ++ List.replicate n none) (rs.map some ++ List.replicate n none) := by
  refine ⟨by simp [Paired.length h], fun i r hr => ?_⟩
  unfold Env.get at hr
  have hl := Paired.length h
  by_cases hi : i < rs.length
  · rw [List.getElem?_append_left (by simpa using hi), List.getElem?_map] at hr
    cases e : rs[i]? with
    | none => rw [e] at hr; cases hr
    | some q =>
      rw [e] at hr
      cases hr
      obtain ⟨v, h1, h2⟩ := pget h e
      exact ⟨v, by rw [List.getElem?_append_left (by rw [List.length_map, ← hl]; exact hi), List.getElem?_map, h1]; rfl, h2⟩
  · rw [List.getElem?_append_right (by simpa using Nat.le_of_not_lt hi)] at hr
    rw [List.getElem?_replicate] at hr
    split at hr <;> cases hr
where
  pget {rs : List R} {vs : List V} {i : Nat} {q : R} (h : RpAs K T W rs vs) (e : rs[i]? = some q) : ∃ v, vs[i]? = some v ∧ RpA K T W q v := by
    induction h generalizing i with
    | nil => simp at e
    | cons r t ih =>
      cases i with
      | zero => simp at e; subst e; exact ⟨_, rfl, r⟩
      | succ i =>
        obtain ⟨v, h1, h2⟩ := ih (i := i) (by simpa using e)
        exact ⟨v, by simpa using h1, h2⟩
end

/-! ### relocking -/
section
variable {K : PySem.W.Frag} {T : Tb} {F L : Hp} {μ : List Addr} {S : Sto} {H : Hp} {D : Addr} {o o' : HO}
theorem Rel.relock (r : Rel K T ⟨F, upd L D o, μ⟩ S H) : Rel K T ⟨F, upd L D o', μ⟩ S (upd H D o') := by
  have hF : F D = none := r.disj D o upd_same
  have hm : D ∉ μ := fun h => by
    have q : upd L D o D = none := r.mL D h
    rw [upd_same] at q; cases q
  refine ⟨fun a u e => ?_, fun a u e => ?_, fun a u e => ?_, r.mF, fun a h => ?_, r.nd, r.len, fun l a x h1 h2 => ?_⟩
  · have e : F a = some u := e
    have q : a ≠ D := fun q => by
      rw [q, hF] at e; cases e
    rw [upd_ne q]; exact r.sub a u e
  · have e : upd L D o' a = some u := e
    by_cases q : a = D
    · subst q; rw [upd_same] at e ⊢; exact e
    · rw [upd_ne q] at e ⊢; exact r.lsub a u (by show upd L D o a = some u; rw [upd_ne q]; exact e)
  · have e : upd L D o' a = some u := e
    by_cases q : a = D
    · subst q; exact hF
    · rw [upd_ne q] at e; exact r.disj a u (by show upd L D o a = some u; rw [upd_ne q]; exact e)
  · show upd L D o' a = none
    have := r.mL a h
    have this : upd L D o a = none := this
    by_cases q : a = D
    · subst q; exact absurd h hm
    · rw [upd_ne q] at this ⊢; exact this
  · obtain ⟨u, h3, h4⟩ := r.obj l a x h1 h2
    have q : a ≠ D := fun q => by subst q; exact hm (List.mem_of_getElem? h1)
    exact ⟨u, by rw [upd_ne q]; exact h3, h4⟩
theorem Rel.unlock (r : Rel K T ⟨F, upd L D o, μ⟩ S H) (hL : L D = none) : Rel K T ⟨F, L, μ⟩ S H ∧ New ⟨F, L, μ⟩ D ∧ H D = some o := by
  have hF : F D = none := r.disj D o upd_same
  have hm : D ∉ μ := fun h => by
    have q : upd L D o D = none := r.mL D h
    rw [upd_same] at q; cases q
  have hd : H D = some o := r.lsub D o upd_same
  refine ⟨⟨r.sub, fun a u e => ?_, fun a u e => ?_, r.mF, fun a h => ?_, r.nd, r.len, r.obj⟩, ⟨hF, hL, hm⟩, hd⟩
  · have e : L a = some u := e
    exact r.lsub a u (by show upd L D o a = some u; rw [upd_ne (fun q => by subst q; rw [hL] at e; cases e)]; exact e)
  · have e : L a = some u := e
    exact r.disj a u (by show upd L D o a = some u; rw [upd_ne (fun q => by subst q; rw [hL] at e; cases e)]; exact e)
  · show L a = none
    have this : upd L D o a = none := r.mL a h
    rw [upd_ne (fun q => by subst q; exact hm h)] at this
    exact this
end

/-! ### the readings -/
section
variable (K : PySem.W.Frag) (T : Tb) (E : XK) (Φ : Phi)
def rdE (e : Mi.E) : TE := fun σ H Q => ∃ W S δ, Rel K T W S H ∧ Slots K T W σ δ ∧ Post K T E W (ev T.z T.cl Φ e δ S) Q
def rdT (e : Mi.E) : TT := fun σ H Q => ∃ W S δ, Rel K T W S H ∧ Slots K T W σ δ ∧ PostG K T E pEq W ((ev T.z T.cl Φ e δ S).andThen toB) Q
/-- a written list of data; of arguments -/
def rdD (es : Es) : TA := fun σ H Q => ∃ W S δ, Rel K T W S H ∧ Slots K T W σ δ ∧ PostG K T E (fun W _ ds vs => Rps K T W.F vs ds) W (evs T.z T.cl Φ es δ S) Q
def rdA (es : Es) : TA := fun σ H Q => ∃ W S δ, Rel K T W S H ∧ Slots K T W σ δ ∧ PostG K T E (fun W _ rs vs => RpAs K T W rs vs) W (eva T.z T.cl Φ es δ S) Q
end
section
variable {K : PySem.W.Frag} {T : Tb} {E : XK} {Φ : Phi} {W : Wd} {S : Sto} {σ : L2.St} {δ : Env} {H : Hp} {γ δ' : Type} {P' : Wd → Hp → γ → δ' → Prop} {Q : δ' → Hp → Prop} {e : Mi.E}
theorem rdE.imp {Q Q' : VK} (h : rdE K T E Φ e σ H Q) (hQ : ∀ v H, Q v H → Q' v H) : rdE K T E Φ e σ H Q' := by
  obtain ⟨W, S, δ, rel, sl, p⟩ := h
  rw [← postR] at p
  exact ⟨W, S, δ, rel, sl, by rw [← postR]; exact p.imp hQ⟩
/-- an expression, whatever it gives -/
theorem stepR {k : R → Sto → Res γ} (rel : Rel K T W S H) (sl : Slots K T W σ δ) (h : PostG K T E P' W ((ev T.z T.cl Φ e δ S).andThen k) Q) :
    rdE K T E Φ e σ H fun v H1 => ∃ r S' F, Ext W.F F ∧ Rel K T (W.wF F) S' H1 ∧ Slots K T (W.wF F) σ δ ∧ RpR K T (W.wF F) H1 r v ∧ PostG K T E P' (W.wF F) (k r S') Q := by
  refine ⟨W, S, δ, rel, sl, ?_⟩
  rw [← postR]
  refine (PostG.bind h).imp fun v H1 ⟨a, S', F, e, r, p, q⟩ => ⟨a, S', F, e, r, sl.ext e, p, q⟩
/-- .. as an argument -/
theorem stepA {k : R → Sto → Res γ} (rel : Rel K T W S H) (sl : Slots K T W σ δ) (h : PostG K T E P' W ((ev T.z T.cl Φ e δ S).andThen fun x S => (toA x S).andThen k) Q) :
    rdE K T E Φ e σ H fun v H1 => ∃ a S' F, Ext W.F F ∧ Rel K T (W.wF F) S' H1 ∧ Slots K T (W.wF F) σ δ ∧ RpA K T (W.wF F) a v ∧ PostG K T E P' (W.wF F) (k a S') Q := by
  refine (stepR rel sl h).imp fun v H1 ⟨r, S', F, e, rel', sl', rp, q⟩ => ?_
  cases ha : toA r S' with
  | ok a S'' =>
    obtain ⟨rfl, F', e', rel'', rp'⟩ := toA_ok rel' rp ha
    rw [ha] at q
    exact ⟨a, S'', F', e.trans e', rel'', sl'.ext e', rp', PostG.mono (W := W.wF F) e' q⟩
  | exc x S'' =>
    exfalso
    unfold toA at ha
    split at ha <;> cases ha
  | bad => rw [ha] at q; exact q.elim
/-- .. as a bool -/
theorem stepB {k : Bool → Sto → Res γ} (rel : Rel K T W S H) (sl : Slots K T W σ δ) (h : PostG K T E P' W ((ev T.z T.cl Φ e δ S).andThen fun x S => (toB x S).andThen k) Q) :
    rdE K T E Φ e σ H fun v H1 => ∃ b S' F, Ext W.F F ∧ Rel K T (W.wF F) S' H1 ∧ Slots K T (W.wF F) σ δ ∧ v = .bl b ∧ PostG K T E P' (W.wF F) (k b S') Q := by
  refine (stepR rel sl h).imp fun v H1 ⟨r, S', F, e, rel', sl', rp, q⟩ => ?_
  cases r with
  | d x =>
    cases x with
    | bl b =>
      have rp : Rp K T F v (.bl b) := rp
      cases rp
      exact ⟨b, S', F, e, rel', sl', rfl, q⟩
    | _ => exact q.elim
  | _ => exact q.elim
/-- .. as data -/
theorem stepD {k : D → Sto → Res γ} (rel : Rel K T W S H) (sl : Slots K T W σ δ) (h : PostG K T E P' W ((ev T.z T.cl Φ e δ S).andThen fun x S => (toD x S).andThen k) Q) :
    rdE K T E Φ e σ H fun v H1 => ∃ a S' F, Ext W.F F ∧ Rel K T (W.wF F) S' H1 ∧ Slots K T (W.wF F) σ δ ∧ Rp K T F v a ∧ PostG K T E P' (W.wF F) (k a S') Q := by
  have h' : PostG K T E P' W ((ev T.z T.cl Φ e δ S).andThen fun x S => (toA x S).andThen fun y S => match y with
      | .d x => k x S
      | _ => .bad) Q := by
    have e : (fun x S => (toD x S).andThen k) = fun x S => (toA x S).andThen fun y S => (match y with
      | .d x => k x S
      | _ => .bad : Res γ) := by
      funext x S
      unfold toD toA
      cases x.frz <;> rfl
    rw [e] at h; exact h
  refine (stepA rel sl h').imp fun v H1 ⟨r, S', F, e, rel', sl', rp, q⟩ => ?_
  cases r with
  | d x => exact ⟨x, S', F, e, rel', sl', rp, q⟩
  | _ => exact q.elim
/-- the test -/
theorem rdT.imp {Q Q' : Bool → Hp → Prop} (h : rdT K T E Φ e σ H Q) (hQ : ∀ v H, Q v H → Q' v H) : rdT K T E Φ e σ H Q' := by
  obtain ⟨W, S, δ, rel, sl, p⟩ := h
  exact ⟨W, S, δ, rel, sl, p.imp hQ⟩
theorem stepT {k : Bool → Sto → Res γ} (rel : Rel K T W S H) (sl : Slots K T W σ δ) (h : PostG K T E P' W ((ev T.z T.cl Φ e δ S).andThen fun x S => (toB x S).andThen k) Q) :
    rdT K T E Φ e σ H fun b H1 => ∃ S' F, Ext W.F F ∧ Rel K T (W.wF F) S' H1 ∧ Slots K T (W.wF F) σ δ ∧ PostG K T E P' (W.wF F) (k b S') Q := by
  refine ⟨W, S, δ, rel, sl, ?_⟩
  have h' : PostG K T E P' W (((ev T.z T.cl Φ e δ S).andThen toB).andThen k) Q := by
    cases hh : ev T.z T.cl Φ e δ S <;> rw [hh] at h <;> exact h
  refine (PostG.bind h').imp fun v H1 ⟨a, S', F, e, r, p, q⟩ => ?_
  cases p
  exact ⟨S', F, e, r, sl.ext e, q⟩
/-- a test by its value -/
theorem rdT_of {Q : Bool → Hp → Prop} (h : rdT K T E Φ e σ H Q) : tB (rdE K T E Φ e) σ H Q := by
  obtain ⟨W, S, δ, rel, sl, p⟩ := h
  have p' : PostG K T E pEq W ((ev T.z T.cl Φ e δ S).andThen fun x S => (toB x S).andThen fun b S => .ok b S) Q := by
    cases hh : ev T.z T.cl Φ e δ S with
    | ok a S' =>
      rw [hh] at p
      have p : PostG K T E pEq W (toB a S') Q := p
      show PostG K T E pEq W ((toB a S').andThen _) Q
      revert p
      cases toB a S' <;> exact fun p => p
    | exc x S' => rw [hh] at p; exact p
    | bad => rw [hh] at p; exact p
  refine (stepB rel sl p').imp fun v H1 ⟨b, S', F, e, rel', sl', hv, q⟩ => ?_
  exact ⟨b, hv, q F H1 b (Ext.refl _) rel' rfl⟩
end

/-! ### targets -/
def Tg.ins : Tg → List Nat
  | .nm i => [i]
  | .two a b => a.ins ++ b.ins
  | .three a b c => a.ins ++ (b.ins ++ c.ins)
  | .four a b c d => a.ins ++ (b.ins ++ (c.ins ++ d.ins))
def Tg.rd (K : PySem.W.Frag) : Tg → TG
  | .nm i => gName i
  | .two a b => gTup K 2 (gCons (a.rd K) (gCons (b.rd K) gNil))
  | .three a b c => gTup K 3 (gCons (a.rd K) (gCons (b.rd K) (gCons (c.rd K) gNil)))
  | .four a b c d => gTup K 4 (gCons (a.rd K) (gCons (b.rd K) (gCons (c.rd K) (gCons (d.rd K) gNil))))
theorem wipe_set {σ : L2.St} {i : Nat} {x : Option V} : ∀ {vs : List Nat}, i ∈ vs → wipe (σ.set i x) vs = wipe σ vs
  | [], h => by cases h
  | v :: vs, h => by
    unfold wipe
    by_cases e : i = v
    · subst e
      by_cases h' : i ∈ vs
      · rw [wipe_set h']
      · rw [wipe_set_ne h']
        rw [List.set_set]
    · rw [wipe_set (List.mem_of_ne_of_mem e h)]
where
  wipe_set_ne {σ : L2.St} {i : Nat} {x : Option V} : ∀ {vs : List Nat}, i ∉ vs → wipe (σ.set i x) vs = (wipe σ vs).set i x
    | [], _ => rfl
    | v :: vs, h => by
      unfold wipe
      rw [wipe_set_ne fun q => h (List.mem_cons_of_mem _ q)]
      exact List.set_comm _ _ (fun q => h (by rw [q]; exact List.mem_cons_self))
section
variable {K : PySem.W.Frag} {T : Tb} {W : Wd}
theorem tup_inv {F : Hp} {v : V} {ds : List D} (h : Rp K T F v (.tup ds)) : ∃ a xs, v = .ref a ∧ Rd F a (.tup xs) ∧ Rps K T F xs ds := by
  cases h with
  | tup h0 h1 h2 => exact ⟨_, _, rfl, h0.rd h1, h2⟩
theorem Rd.ext {F F' : Hp} {a : Addr} {u : HO} (e : Ext F F') (h : Rd F a u) : Rd F' a u := by
  rcases h with h | ⟨o, h⟩
  · exact .inl (e _ _ h)
  · exact .inr ⟨o, e _ _ h⟩
theorem set_two {a b : Tg} {x : D} {δ δ' : Env} (h : (Tg.two a b).set x δ = some δ') : ∃ y z δ1, x = .tup [y, z] ∧ a.set y δ = some δ1 ∧ b.set z δ1 = some δ' := by
  simp only [Tg.set] at h
  cases e : x.two with
  | none => rw [e] at h; cases h
  | some p =>
    rw [e] at h
    obtain ⟨δ1, e1, e2⟩ := Option.bind_eq_some_iff.mp h
    exact ⟨p.1, p.2, δ1, D.two_inv e, e1, e2⟩
theorem set_three {a b c : Tg} {x : D} {δ δ' : Env} (h : (Tg.three a b c).set x δ = some δ') : ∃ y z u δ1 δ2, x = .tup [y, z, u] ∧ a.set y δ = some δ1 ∧ b.set z δ1 = some δ2 ∧ c.set u δ2 = some δ' := by
  simp only [Tg.set] at h
  cases e : x.three with
  | none => rw [e] at h; cases h
  | some p =>
    rw [e] at h
    obtain ⟨δ2, e3, e4⟩ := Option.bind_eq_some_iff.mp h
    obtain ⟨δ1, e1, e2⟩ := Option.bind_eq_some_iff.mp e3
    exact ⟨p.1, p.2.1, p.2.2, δ1, δ2, D.three_inv e, e1, e2, e4⟩
theorem set_four {a b c d : Tg} {x : D} {δ δ' : Env} (h : (Tg.four a b c d).set x δ = some δ') : ∃ y z u v δ1 δ2 δ3, x = .tup [y, z, u, v] ∧ a.set y δ = some δ1 ∧ b.set z δ1 = some δ2 ∧ c.set u δ2 = some δ3 ∧ d.set v δ3 = some δ' := by
  simp only [Tg.set] at h
  cases e : x.four with
  | none => rw [e] at h; cases h
  | some p =>
    rw [e] at h
    obtain ⟨δ3, e5, e6⟩ := Option.bind_eq_some_iff.mp h
    obtain ⟨δ2, e3, e4⟩ := Option.bind_eq_some_iff.mp e5
    obtain ⟨δ1, e1, e2⟩ := Option.bind_eq_some_iff.mp e3
    exact ⟨p.1, p.2.1, p.2.2.1, p.2.2.2, δ1, δ2, δ3, D.four_inv e, e1, e2, e4, e6⟩
theorem Rps.uncons {F : Hp} {xs : List V} {d : D} {ds : List D} (h : Rps K T F xs (d :: ds)) : ∃ x ys, xs = x :: ys ∧ Rp K T F x d ∧ Rps K T F ys ds := by
  cases h with
  | cons a b => exact ⟨_, _, rfl, a, b⟩
theorem Rps.nil_inv {F : Hp} {xs : List V} (h : Rps K T F xs []) : xs = [] := by
  cases h; rfl
theorem Tg.sound {H : Hp} (eF : Ext W.F H) (tg : Tg) : ∀ {x : D} {v : V} {σ : L2.St} {δ δ' : Env} {Q : L2.St → Hp → Prop}, Rp K T W.F v x → Slots K T W σ δ → tg.set x δ = some δ' →
    (∀ σ', Slots K T W σ' δ' → (∀ vs, (∀ i ∈ tg.ins, i ∈ vs) → wipe σ' vs = wipe σ vs) → Q σ' H) → tg.rd K v σ H Q := by
  induction tg with
  | nm i =>
    intro x v σ δ δ' Q rv sl e h
    simp only [Tg.set, Option.some.injEq] at e
    subst e
    exact h _ (sl.set i (r := .d x) rv) fun vs hv => wipe_set (hv i (by simp [Tg.ins]))
  | two a b iha ihb =>
    intro x v σ δ δ' Q rv sl e h
    obtain ⟨y, z, δ1, rfl, e1, e2⟩ := set_two e
    obtain ⟨p, xs, rfl, hp, rx⟩ := tup_inv rv
    obtain ⟨x1, r1, rfl, h1, rx⟩ := rx.uncons
    obtain ⟨x2, r2, rfl, h2, rx⟩ := rx.uncons
    cases rx.nil_inv
    refine ⟨p, _, rfl, .inl (Rd.ext eF hp), rfl, _, _, rfl, iha h1 sl e1 fun σ1 s1 w1 => ⟨_, _, rfl, ihb h2 s1 e2 fun σ2 s2 w2 => ⟨rfl, h σ2 s2 fun vs hv => ?_⟩⟩⟩
    rw [w2 vs fun i hi => hv i (by simp [Tg.ins, hi]), w1 vs fun i hi => hv i (by simp [Tg.ins, hi])]
  | three a b c iha ihb ihc =>
    intro x v σ δ δ' Q rv sl e h
    obtain ⟨y, z, u, δ1, δ2, rfl, e1, e2, e3⟩ := set_three e
    obtain ⟨p, xs, rfl, hp, rx⟩ := tup_inv rv
    obtain ⟨x1, r1, rfl, h1, rx⟩ := rx.uncons
    obtain ⟨x2, r2, rfl, h2, rx⟩ := rx.uncons
    obtain ⟨x3, r3, rfl, h3, rx⟩ := rx.uncons
    cases rx.nil_inv
    refine ⟨p, _, rfl, .inl (Rd.ext eF hp), rfl, _, _, rfl, iha h1 sl e1 fun σ1 s1 w1 => ⟨_, _, rfl, ihb h2 s1 e2 fun σ2 s2 w2 => ⟨_, _, rfl, ihc h3 s2 e3 fun σ3 s3 w3 => ⟨rfl, h σ3 s3 fun vs hv => ?_⟩⟩⟩⟩
    rw [w3 vs fun i hi => hv i (by simp [Tg.ins, hi]), w2 vs fun i hi => hv i (by simp [Tg.ins, hi]), w1 vs fun i hi => hv i (by simp [Tg.ins, hi])]
  | four a b c d iha ihb ihc ihd =>
    intro x v σ δ δ' Q rv sl e h
    obtain ⟨y, z, u, v', δ1, δ2, δ3, rfl, e1, e2, e3, e4⟩ := set_four e
    obtain ⟨p, xs, rfl, hp, rx⟩ := tup_inv rv
    obtain ⟨x1, r1, rfl, h1, rx⟩ := rx.uncons
    obtain ⟨x2, r2, rfl, h2, rx⟩ := rx.uncons
    obtain ⟨x3, r3, rfl, h3, rx⟩ := rx.uncons
    obtain ⟨x4, r4, rfl, h4, rx⟩ := rx.uncons
    cases rx.nil_inv
    refine ⟨p, _, rfl, .inl (Rd.ext eF hp), rfl, _, _, rfl, iha h1 sl e1 fun σ1 s1 w1 => ⟨_, _, rfl, ihb h2 s1 e2 fun σ2 s2 w2 => ⟨_, _, rfl, ihc h3 s2 e3 fun σ3 s3 w3 => ⟨_, _, rfl, ihd h4 s3 e4 fun σ4 s4 w4 => ⟨rfl, h σ4 s4 fun vs hv => ?_⟩⟩⟩⟩⟩
    rw [w4 vs fun i hi => hv i (by simp [Tg.ins, hi]), w3 vs fun i hi => hv i (by simp [Tg.ins, hi]), w2 vs fun i hi => hv i (by simp [Tg.ins, hi]), w1 vs fun i hi => hv i (by simp [Tg.ins, hi])]
end
end Mi

set_option Elab.async false
set_option linter.all false
set_option maxRecDepth 100000
set_option maxHeartbeats 400000
/-! MiI: what is walked; comprehensions by their evaluation. -/
namespace Mi
open PySem PySem.Spec PyProof.Rows L2

abbrev NoX : XK := fun _ _ _ => False

/-! ### known results -/
section
variable {K : PySem.W.Frag} {T : Tb} {E : XK} {Φ : Phi} {W : Wd} {S Z : Sto} {σ : L2.St} {δ : Env} {H : Hp} {γ : Type} {z : γ} {e : Mi.E}
theorem eqR {k : R → Sto → Res γ} (rel : Rel K T W S H) (sl : Slots K T W σ δ) (h : (ev T.z T.cl Φ e δ S).andThen k = .ok z Z) :
    rdE K T E Φ e σ H fun v H1 => ∃ r S' F, Ext W.F F ∧ Rel K T (W.wF F) S' H1 ∧ Slots K T (W.wF F) σ δ ∧ RpR K T (W.wF F) H1 r v ∧ k r S' = .ok z Z := by
  obtain ⟨r, S', e1, e2⟩ := andThen_inv h
  refine ⟨W, S, δ, rel, sl, ?_⟩
  rw [← postR]
  exact PostG.ok e1 fun F H1 v ex rel' rp => ⟨r, S', F, ex, rel', sl.ext ex, rp, e2⟩
theorem eqA {k : R → Sto → Res γ} (rel : Rel K T W S H) (sl : Slots K T W σ δ) (h : (ev T.z T.cl Φ e δ S).andThen (fun x S => (toA x S).andThen k) = .ok z Z) :
    rdE K T E Φ e σ H fun v H1 => ∃ a S' F, Ext W.F F ∧ Rel K T (W.wF F) S' H1 ∧ Slots K T (W.wF F) σ δ ∧ RpA K T (W.wF F) a v ∧ k a S' = .ok z Z := by
  refine (eqR rel sl h).imp fun v H1 ⟨r, S', F, ex, rel', sl', rp, q⟩ => ?_
  obtain ⟨a, S'', e1, e2⟩ := andThen_inv q
  obtain ⟨rfl, F', e', rel'', rp'⟩ := toA_ok rel' rp e1
  exact ⟨a, S'', F', ex.trans e', rel'', sl'.ext (W := W.wF F) e', rp', e2⟩
theorem toD_inv {r : R} {x : D} {S S' : Sto} (h : toD r S = .ok x S') : toA r S = .ok (.d x) S' := by
  unfold toD at h
  unfold toA
  split at h
  · rename_i y hy; rw [hy]; cases h; rfl
  · cases h
theorem eqD {k : D → Sto → Res γ} (rel : Rel K T W S H) (sl : Slots K T W σ δ) (h : (ev T.z T.cl Φ e δ S).andThen (fun x S => (toD x S).andThen k) = .ok z Z) :
    rdE K T E Φ e σ H fun v H1 => ∃ a S' F, Ext W.F F ∧ Rel K T (W.wF F) S' H1 ∧ Slots K T (W.wF F) σ δ ∧ Rp K T F v a ∧ k a S' = .ok z Z := by
  refine (eqR rel sl h).imp fun v H1 ⟨r, S', F, ex, rel', sl', rp, q⟩ => ?_
  obtain ⟨a, S'', e1, e2⟩ := andThen_inv q
  obtain ⟨rfl, F', e', rel'', rp'⟩ := toA_ok rel' rp (toD_inv e1)
  exact ⟨a, S'', F', ex.trans e', rel'', sl'.ext (W := W.wF F) e', rp', e2⟩
theorem eqT {k : Bool → Sto → Res γ} (rel : Rel K T W S H) (sl : Slots K T W σ δ) (h : (ev T.z T.cl Φ e δ S).andThen (fun x S => (toB x S).andThen k) = .ok z Z) :
    rdT K T E Φ e σ H fun b H1 => ∃ S' F, Ext W.F F ∧ Rel K T (W.wF F) S' H1 ∧ Slots K T (W.wF F) σ δ ∧ k b S' = .ok z Z := by
  obtain ⟨r, S1, e1, e2⟩ := andThen_inv h
  obtain ⟨b, S2, e3, e4⟩ := andThen_inv e2
  have e5 : (ev T.z T.cl Φ e δ S).andThen toB = .ok b S2 := by rw [e1]; exact e3
  exact ⟨W, S, δ, rel, sl, PostG.ok e5 fun F H1 v ex rel' rp => by cases rp; exact ⟨S2, F, ex, rel', sl.ext ex, e4⟩⟩
end

/-! ### what is walked -/
structure SrcG (K : PySem.W.Frag) (T : Tb) (W0 : Wd) (s : Src) (J : L2.It) (tg : Tg) : Prop where
  go : ∀ (W : Wd) (S : Sto) (H : Hp) (i : Nat) (x : D) (σ : L2.St) (δ δ' : Env), W0.Le W → Rel K T W S H → Slots K T W σ δ → s.here S = true → s.at? S i = some x → tg.set x δ = some δ' →
    J.go i H ∧ ∀ v H', J.yld i H v H' → ∀ Q : L2.St → Hp → Prop, (∀ σ', Rel K T W S H' → Slots K T W σ' δ' → (∀ vs, (∀ i ∈ tg.ins, i ∈ vs) → wipe σ' vs = wipe σ vs) → Q σ' H') → tg.rd K v σ H' Q
  stop : ∀ (W : Wd) (S : Sto) (H : Hp) (i : Nat), W0.Le W → Rel K T W S H → s.here S = true → s.at? S i = none → J.stop i H
section
variable {K : PySem.W.Frag} {T : Tb} {W : Wd} {tg : Tg}
theorem SrcG.le {W' : Wd} {s : Src} {J : L2.It} (h : SrcG K T W s J tg) (e : W.Le W') : SrcG K T W' s J tg :=
  ⟨fun W1 S H i x σ δ δ' l => h.go W1 S H i x σ δ δ' (e.trans l), fun W1 S H i l => h.stop W1 S H i (e.trans l)⟩
/-- a tuple -/
theorem src_tup {p : Addr} {xs : List V} {ds : List D} (hp : Rd W.F p (.tup xs)) (rx : Rps K T W.F xs ds) : SrcG K T W (.fix ds) (Itt K p) tg := by
  have at_ : ∀ {W' : Wd} {S : Sto} {H : Hp}, W.Le W' → Rel K T W' S H → SqT K H p xs := fun l r => .inl (Rd.ext (l.F.trans r.sub) hp)
  refine ⟨fun W' S H i x σ δ δ' l rel sl _ hx hs => ?_, fun W' S H i l rel _ hx => ?_⟩
  · obtain ⟨v, hv, rv⟩ := rx.get (show ds[i]? = some x from hx)
    refine ⟨⟨xs, v, at_ l rel, hv⟩, fun v' H' hy Q q => ?_⟩
    obtain ⟨rfl, hy⟩ := hy
    have e := hy xs (at_ l rel)
    rw [hv] at e
    cases e
    exact Tg.sound rel.sub tg (rv.ext l.F) sl hs fun σ' s' w' => q σ' rel s' w'
  · refine ⟨xs, at_ l rel, ?_⟩
    have e : ds[i]? = none := hx
    rw [rx.length]
    exact List.getElem?_eq_none_iff.mp e
/-- a list that stays -/
theorem src_lst {p : Addr} {xs : List V} {ds : List D} (hp : W.F p = some (.lst xs)) (rx : Rps K T W.F xs ds) : SrcG K T W (.fix ds) (Itl K p) tg := by
  have at_ : ∀ {W' : Wd} {S : Sto} {H : Hp}, W.Le W' → Rel K T W' S H → SqL K H p xs := fun l r => SqL.of (r.sub _ _ (l.F _ _ hp))
  refine ⟨fun W' S H i x σ δ δ' l rel sl _ hx hs => ?_, fun W' S H i l rel _ hx => ?_⟩
  · obtain ⟨v, hv, rv⟩ := rx.get (show ds[i]? = some x from hx)
    refine ⟨⟨xs, v, at_ l rel, hv⟩, fun v' H' hy Q q => ?_⟩
    obtain ⟨rfl, hy⟩ := hy
    have e := hy xs (at_ l rel)
    rw [hv] at e
    cases e
    exact Tg.sound rel.sub tg (rv.ext l.F) sl hs fun σ' s' w' => q σ' rel s' w'
  · refine ⟨xs, at_ l rel, ?_⟩
    have e : ds[i]? = none := hx
    rw [rx.length]
    exact List.getElem?_eq_none_iff.mp e
theorem stoL_inv {S : Sto} {l : Nat} {ds : List D} (h : stoL S l = some ds) : S[l]? = some (.lst ds) := by
  unfold stoL at h
  split at h
  · rename_i es e; cases h; exact e
  · cases h
theorem Dyn.here {k : Dyn} {S : Sto} (h : (Src.dyn k).here S = true) : ∃ ds, k.items S = some ds := Option.isSome_iff_exists.mp h
theorem Dyn.at {k : Dyn} {S : Sto} {ds : List D} (h : k.items S = some ds) (i : Nat) : (Src.dyn k).at? S i = ds[i]? := by
  show (k.items S).bind _ = _
  rw [h]; rfl
theorem lst_at {l : Nat} {p : Addr} (hp : W.μ[l]? = some p) {W' : Wd} {S : Sto} {H : Hp} {ds : List D} (le : W.Le W') (rel : Rel K T W' S H) (h : stoL S l = some ds) : ∃ xs, H p = some (.lst xs) ∧ Rps K T W'.F xs ds := by
  obtain ⟨a, u, h1, h2, h3⟩ := rel.at (stoL_inv h)
  rw [le.μ _ _ hp] at h1
  cases h1
  cases h3 with
  | lst r => exact ⟨_, h2, r⟩
/-- the list at a place -/
theorem src_at {p : Addr} {l : Nat} (hp : W.μ[l]? = some p) : SrcG K T W (.dyn (.lst l)) (Itl K p) tg := by
  refine ⟨fun W' S H i x σ δ δ' le rel sl hh hx hs => ?_, fun W' S H i le rel hh hx => ?_⟩
  · obtain ⟨ds, e⟩ := Dyn.here hh
    obtain ⟨xs, h1, h2⟩ := lst_at hp le rel e
    rw [Dyn.at e] at hx
    obtain ⟨v, hv, rv⟩ := h2.get hx
    refine ⟨⟨xs, v, SqL.of h1, hv⟩, fun v' H' hy Q q => ?_⟩
    obtain ⟨rfl, hy⟩ := hy
    have e := hy xs (SqL.of h1)
    rw [hv] at e
    cases e
    exact Tg.sound rel.sub tg rv sl hs fun σ' s' w' => q σ' rel s' w'
  · obtain ⟨ds, e⟩ := Dyn.here hh
    obtain ⟨xs, h1, h2⟩ := lst_at hp le rel e
    rw [Dyn.at e] at hx
    refine ⟨xs, SqL.of h1, ?_⟩
    rw [h2.length]
    exact List.getElem?_eq_none_iff.mp hx
theorem rngD_get {lo : Int} {n i : Nat} {x : D} (h : (rngD lo n)[i]? = some x) : i < n ∧ x = .int (lo + (i : Nat)) := by
  unfold rngD at h
  rw [List.getElem?_map] at h
  by_cases hi : i < n
  · rw [List.getElem?_range hi] at h
    cases h
    exact ⟨hi, rfl⟩
  · rw [List.getElem?_eq_none (by simp; omega)] at h
    cases h
theorem rngD_length (lo : Int) (n : Nat) : (rngD lo n).length = n := by simp [rngD]
theorem src_rng {lo : Int} {n : Nat} : SrcG K T W (.fix (rngD lo n)) (Itr lo n) tg := by
  refine ⟨fun W' S H i x σ δ δ' l rel sl _ hx hs => ?_, fun W' S H i l rel _ hx => ?_⟩
  · obtain ⟨hi, rfl⟩ := rngD_get (show (rngD lo n)[i]? = some x from hx)
    refine ⟨hi, fun v' H' hy Q q => ?_⟩
    obtain ⟨rfl, rfl⟩ := hy
    exact Tg.sound rel.sub tg (.int _) sl hs fun σ' s' w' => q σ' rel s' w'
  · have e := List.getElem?_eq_none_iff.mp (show (rngD lo n)[i]? = none from hx)
    rw [rngD_length] at e
    exact e
end

/-! ### pairs -/
section
variable {K : PySem.W.Frag} {T : Tb} {W : Wd}
/-- a new pair goes to two targets -/
theorem pairSound {S : Sto} {H : Hp} {a b : Tg} {p : Addr} {x y : V} {d e : D} {σ : L2.St} {δ δ' : Env} {Q : L2.St → Hp → Prop} (rel : Rel K T W S H) (hp : H p = none) (hx : Rp K T W.F x d) (hy : Rp K T W.F y e) (sl : Slots K T W σ δ)
    (hs : (Tg.two a b).set (.tup [d, e]) δ = some δ') (q : ∀ σ', Rel K T W S (upd H p (.tup [x, y])) → Slots K T W σ' δ' → (∀ vs, (∀ i ∈ (Tg.two a b).ins, i ∈ vs) → wipe σ' vs = wipe σ vs) → Q σ' (upd H p (.tup [x, y]))) :
    (Tg.two a b).rd K (.ref p) σ (upd H p (.tup [x, y])) Q := by
  obtain ⟨d', e', δ1, he, e1, e2⟩ := set_two hs
  cases he
  have rel' := rel.junk (o := .tup [x, y]) hp
  refine ⟨p, _, rfl, SqT.of upd_same, rfl, x, [y], rfl, Tg.sound rel'.sub a hx sl e1 fun σ1 s1 w1 => ⟨y, [], rfl, Tg.sound rel'.sub b hy s1 e2 fun σ2 s2 w2 => ⟨rfl, q σ2 rel' s2 fun vs hv => ?_⟩⟩⟩
  rw [w2 vs fun i hi => hv i (by simp [Tg.ins, hi]), w1 vs fun i hi => hv i (by simp [Tg.ins, hi])]
theorem enumD_get {ds : List D} {i : Nat} {x : D} (h : (enumD ds)[i]? = some x) : ∃ y, ds[i]? = some y ∧ x = .tup [.int (i : Nat), y] := by
  unfold enumD at h
  rw [List.getElem?_map] at h
  cases e : ((List.range ds.length).zip ds)[i]? with
  | none => rw [e] at h; cases h
  | some p =>
    rw [e] at h
    cases h
    obtain ⟨h1, h2⟩ := List.getElem?_zip_eq_some.mp e
    have hi : i < ds.length := (List.getElem?_eq_some_iff.mp h2).1
    rw [List.getElem?_range hi] at h1
    cases h1
    exact ⟨p.2, h2, by simp⟩
theorem enumD_none {ds : List D} {i : Nat} (h : (enumD ds)[i]? = none) : ds.length ≤ i := by
  have := List.getElem?_eq_none_iff.mp h
  unfold enumD at this
  simpa using this
theorem zipD_get {xs ys : List D} {i : Nat} {x : D} (h : (zipD xs ys)[i]? = some x) : ∃ a b, xs[i]? = some a ∧ ys[i]? = some b ∧ x = .tup [a, b] := by
  unfold zipD at h
  rw [List.getElem?_map] at h
  cases e : (xs.zip ys)[i]? with
  | none => rw [e] at h; cases h
  | some p =>
    rw [e] at h
    cases h
    obtain ⟨h1, h2⟩ := List.getElem?_zip_eq_some.mp e
    exact ⟨p.1, p.2, h1, h2, rfl⟩
theorem zipD_none {xs ys : List D} {i : Nat} (h : (zipD xs ys)[i]? = none) : xs.length ≤ i ∨ ys.length ≤ i := by
  have := List.getElem?_eq_none_iff.mp h
  unfold zipD at this
  simp at this
  omega
end
/-! ### what is left of a walk -/
def Rest {α : Type} (s : Src) (f : D → α → Sto → Res α) (z : α) (Z : Sto) (i m : Nat) (a : α) (S : Sto) : Prop := match s with
  | .fix ds => m = ds.length - i ∧ walkD f (ds.drop i) a S = .ok z Z
  | .dyn k => walkN (.dyn k) f m i a S = .ok z Z
section
variable {α : Type} {s : Src} {f : D → α → Sto → Res α} {z : α} {Z : Sto}
theorem Rest.start {a : α} {S : Sto} (h : walk s f a S = .ok z Z) : ∃ m, Rest s f z Z 0 m a S := by
  cases s with
  | fix ds => exact ⟨ds.length, by simp [Rest, walk] at *; exact h⟩
  | dyn k => exact ⟨_, h⟩
theorem Rest.step {i m : Nat} {a : α} {S : Sto} (h : Rest s f z Z i m a S) : s.here S = true ∧ ((s.at? S i = none ∧ a = z ∧ S = Z) ∨
    ∃ x a' S' m', s.at? S i = some x ∧ f x a S = .ok a' S' ∧ m' < m ∧ Rest s f z Z (i + 1) m' a' S') := by
  cases s with
  | fix ds =>
    obtain ⟨hm, h⟩ := h
    refine ⟨rfl, ?_⟩
    by_cases hi : i < ds.length
    · rw [List.drop_eq_getElem_cons hi] at h
      obtain ⟨a', S', e1, e2⟩ := andThen_inv (show (f ds[i] a S).andThen _ = _ from h)
      exact .inr ⟨ds[i], a', S', m - 1, List.getElem?_eq_getElem hi, e1, by omega, by omega, e2⟩
    · rw [List.drop_eq_nil_of_le (Nat.le_of_not_lt hi)] at h
      have h : (Res.ok a S : Res α) = .ok z Z := h
      cases h
      exact .inl ⟨List.getElem?_eq_none (Nat.le_of_not_lt hi), rfl, rfl⟩
  | dyn k =>
    cases m with
    | zero =>
      simp only [Rest, walkN] at h
      split at h
      · rename_i q
        cases h
        exact ⟨q.1, .inl ⟨q.2, rfl, rfl⟩⟩
      · cases h
    | succ m =>
      simp only [Rest, walkN] at h
      split at h
      · rename_i q
        refine ⟨q, ?_⟩
        split at h
        · rename_i x hx
          obtain ⟨a', S', e1, e2⟩ := andThen_inv h
          exact .inr ⟨x, a', S', m, hx, e1, Nat.lt_succ_self _, e2⟩
        · rename_i hx
          cases h
          exact .inl ⟨hx, rfl, rfl⟩
      · cases h
theorem Rest.mono {g : α → Nat} (hf : ∀ x a S a' S', f x a S = .ok a' S' → g a ≤ g a') : ∀ (m i : Nat) (a : α) (S : Sto), Rest s f z Z i m a S → g a ≤ g z := by
  intro m
  induction m using Nat.strongRecOn with
  | ind m ih =>
    intro i a S h
    rcases h.step with ⟨_, ⟨_, rfl, _⟩ | ⟨x, a', S', m', _, e1, e2, e3⟩⟩
    · exact Nat.le_refl _
    · exact Nat.le_trans (hf _ _ _ _ _ e1) (ih m' e2 _ _ _ e3)
theorem walk_mono {g : α → Nat} (hf : ∀ x a S a' S', f x a S = .ok a' S' → g a ≤ g a') {a : α} {S : Sto} (h : walk s f a S = .ok z Z) : g a ≤ g z := by
  obtain ⟨m, r⟩ := Rest.start h
  exact r.mono hf
end

/-! ### comprehensions -/
section
variable (K : PySem.W.Frag) (T : Tb) (E : XK) (Φ : Phi)
def rdI (it : Mi.It) (tg : Tg) : TI := fun σ H Q => ∃ W S δ, Rel K T W S H ∧ Slots K T W σ δ ∧ PostG K T E (fun W _ src J => SrcG K T W src J tg) W (evI T.z T.cl Φ it δ S) Q
end
section
variable {K : PySem.W.Frag} {T : Tb} {E : XK} {Φ : Phi} {W : Wd} {S Z : Sto} {σ : L2.St} {δ : Env} {H : Hp}
theorem rdI.imp {it : Mi.It} {tg : Tg} {Q Q' : L2.It → Hp → Prop} (h : rdI K T E Φ it tg σ H Q) (hQ : ∀ v H, Q v H → Q' v H) : rdI K T E Φ it tg σ H Q' := by
  obtain ⟨W, S, δ, rel, sl, p⟩ := h
  exact ⟨W, S, δ, rel, sl, p.imp hQ⟩
theorem noExc_post {α γ δ' : Type} {P' : Wd → Hp → γ → δ' → Prop} {Q : δ' → Hp → Prop} {r : Res α} {k : α → Sto → Res γ} (h : PostG K T E P' W (r.noExc.andThen k) Q) : ∃ a S, r = .ok a S ∧ PostG K T E P' W (k a S) Q := by
  cases r with
  | ok a S => exact ⟨a, S, rfl, h⟩
  | exc x S => exact h.elim
  | bad => exact h.elim
def fLc (z : Bool) (cl : Cl) (Φ : Phi) (own : List Nat) (elt : Mi.E) (tg : Tg) (c : Mi.E) (δ : Env) : D → List D → Sto → Res (List D) := fun x acc S => match tg.set x (wipeE δ own) with
  | none => .bad
  | some δ' => (ev z cl Φ c δ' S).andThen fun k S => (toB k S).andThen fun k S => if k = true then (ev z cl Φ elt δ' S).andThen fun y S => (toD y S).andThen fun y S => .ok (acc ++ [y]) S else .ok acc S
theorem fLc_mono {own : List Nat} {elt : Mi.E} {tg : Tg} {c : Mi.E} (x : D) (a : List D) (S : Sto) (a' : List D) (S' : Sto) (h : fLc T.z T.cl Φ own elt tg c δ x a S = .ok a' S') : a.length ≤ a'.length := by
  unfold fLc at h
  split at h
  · cases h
  · obtain ⟨r, S1, e1, h⟩ := andThen_inv h
    obtain ⟨b, S2, e2, h⟩ := andThen_inv h
    split at h
    · obtain ⟨r, S3, e3, h⟩ := andThen_inv h
      obtain ⟨y, S4, e4, h⟩ := andThen_inv h
      cases h
      simp
    · cases h; exact Nat.le_refl _
/-- the accumulated list within a comprehension's block -/
def Acc (K : PySem.W.Frag) (T : Tb) (W : Wd) (D : Addr) (acc : List Mi.D) (S : Sto) (H : Hp) : Prop :=
  ∃ F xs, Ext W.F F ∧ Rel K T ⟨F, upd W.L D (.lst xs), W.μ⟩ S H ∧ Rps K T F xs acc
theorem Acc.start {D : Addr} (rel : Rel K T W S H) (hD : H D = none) : Acc K T W D [] S (upd H D (.lst [])) :=
  ⟨W.F, [], Ext.refl _, (rel.junk hD).lock (rel.fresh hD) upd_same, .nil⟩
theorem wipe_sub {σ : L2.St} (vs : List Nat) : ∀ us : List Nat, (∀ i ∈ us, i ∈ vs) → wipe (wipe σ us) vs = wipe σ vs
  | [], _ => rfl
  | u :: us, h => by
    show wipe ((wipe σ us).set u none) vs = _
    rw [wipe_set (h u List.mem_cons_self)]
    exact wipe_sub vs us fun i hi => h i (List.mem_cons_of_mem _ hi)
/-- a turn that appends -/
theorem lcTurn {W1 : Wd} {own : List Nat} {elt c : Mi.E} {tg : Tg} {src : Src} {J : L2.It} {D : Addr} {acc acc' : List Mi.D} {S' S'' : Sto} {i : Nat} {x : Mi.D} {Nx : Hp → Prop} (ho : ∀ i ∈ tg.ins, i ∈ own) (sg : SrcG K T W1 src J tg) (le : W1.Le W)
    (sl : Slots K T W σ δ) (a : Acc K T W D acc S' H) (hh : src.here S' = true) (hx : src.at? S' i = some x) (hf : fLc T.z T.cl Φ own elt tg c δ x acc S' = .ok acc' S'') (hl : acc'.length ≤ sizeLine) (hN : ∀ H', Acc K T W D acc' S'' H' → Nx H') :
    J.go i H ∧ ∀ v H', J.yld i H v H' → tg.rd K v (wipe σ own) H' fun σ2 H2 => wipe σ2 own = wipe σ own ∧ rdT K T NoX Φ c σ2 H2 fun b H3 =>
      if b = true then rdE K T NoX Φ elt σ2 H3 fun y H4 => ∃ zs, H4 D = some (.lst zs) ∧ zs.length < sizeLine ∧ Nx (upd H4 D (.lst (zs ++ [y]))) else Nx H3 := by
  obtain ⟨F, xs, xF, rl, rx⟩ := a
  have le2 : W.Le ⟨F, upd W.L D (.lst xs), W.μ⟩ := ⟨xF, fun _ _ h => h⟩
  unfold fLc at hf
  split at hf
  · cases hf
  rename_i δ' hset
  obtain ⟨g1, g2⟩ := sg.go _ _ _ _ _ (wipe σ own) _ _ (le.trans le2) rl ((sl.le le2).wipe own) hh hx hset
  refine ⟨g1, fun v H' hy => g2 v H' hy _ fun σ' rl' sl' w' => ⟨?_, ?_⟩⟩
  · rw [w' own ho]
    exact wipe_sub own own fun i h => h
  · refine (eqT rl' sl' hf).imp fun b H3 ⟨S3, F3, e3, r3, s3, hf⟩ => ?_
    cases b with
    | false =>
      have hf : (Res.ok acc S3 : Res (List Mi.D)) = .ok acc' S'' := hf
      cases hf
      exact hN _ ⟨F3, xs, xF.trans e3, r3, rx.ext e3⟩
    | true =>
      refine (eqD r3 s3 hf).imp fun y H4 ⟨a, S4, F4, e4, r4, s4, ry, hf⟩ => ?_
      have hf : (Res.ok (acc ++ [a]) S4 : Res (List Mi.D)) = .ok acc' S'' := hf
      cases hf
      refine ⟨xs, r4.lsub D _ upd_same, ?_, hN _ ⟨F4, xs ++ [y], (xF.trans e3).trans e4, r4.relock, ((rx.ext e3).ext e4).append (.cons ry .nil)⟩⟩
      rw [List.length_append, List.length_singleton] at hl
      rw [rx.length]
      omega
theorem tLc_of {own : List Nat} {elt c : Mi.E} {tg : Tg} {it : Mi.It} {Q : VK} (ho : ∀ i ∈ tg.ins, i ∈ own) (h : rdE K T E Φ (.lc1 own elt tg it c) σ H Q) :
    tLc (rdI K T E Φ it tg) (tg.rd K) (rdT K T NoX Φ c) (rdE K T NoX Φ elt) own σ H Q := by
  obtain ⟨W, S, δ, rel, sl, p⟩ := h
  rw [← postR] at p
  refine ⟨W, S, δ, rel, sl, (PostG.bind p).imp fun J H1 ⟨src, S1, F1, x1, rel1, sg, p1⟩ => ?_⟩
  intro D hD
  obtain ⟨ds, S2, hw, p2⟩ := noExc_post p1
  split at p2
  case isFalse => exact p2.elim
  rename_i hlen
  have hw : walk src (fLc T.z T.cl Φ own elt tg c δ) [] S1 = .ok ds S2 := hw
  have hLD : W.L D = none := (rel1.fresh hD).l
  refine ⟨fun i m H => ∃ S' acc, Acc K T (W.wF F1) D acc S' H ∧ Rest src (fLc T.z T.cl Φ own elt tg c δ) ds S2 i m acc S', ?_, fun i m H ⟨S', acc, ac, rs⟩ => ?_⟩
  · obtain ⟨m, r⟩ := Rest.start hw
    exact ⟨m, S1, [], Acc.start rel1 hD, r⟩
  · rcases rs.step with ⟨hh, ⟨hn, rfl, rfl⟩ | ⟨x, acc', S'', m', hx, hf, hm, rs'⟩⟩
    · obtain ⟨F, xs, xF, rl, rx⟩ := ac
      obtain ⟨rl', nw, hd⟩ := rl.unlock hLD
      exact .inl ⟨sg.stop ⟨F, upd W.L D (.lst xs), W.μ⟩ _ _ _ ⟨xF, fun _ _ h => h⟩ rl hh hn, p2 F H (.ref D) xF rl' ⟨D, xs, rfl, hd, rx, nw⟩⟩
    · have hl := rs'.mono (g := List.length) fLc_mono
      obtain ⟨g1, g2⟩ := lcTurn (Nx := fun H' => ∃ m', m' < m ∧ ∃ S' acc, Acc K T (W.wF F1) D acc S' H' ∧ Rest src (fLc T.z T.cl Φ own elt tg c δ) ds S2 (i + 1) m' acc S') ho sg (Wd.Le.refl _) (sl.ext x1) ac hh hx hf (Nat.le_trans hl hlen)
        fun H' a => ⟨m', hm, S'', acc', a, rs'⟩
      exact .inr ⟨g1, _, fun H' h => h, g2⟩
theorem eqI {γ : Type} {z : γ} {it : Mi.It} {tg : Tg} {k : Src → Sto → Res γ} (rel : Rel K T W S H) (sl : Slots K T W σ δ) (h : (evI T.z T.cl Φ it δ S).andThen k = .ok z Z) :
    rdI K T E Φ it tg σ H fun J H1 => ∃ src S' F, Ext W.F F ∧ Rel K T (W.wF F) S' H1 ∧ Slots K T (W.wF F) σ δ ∧ SrcG K T (W.wF F) src J tg ∧ k src S' = .ok z Z := by
  obtain ⟨r, S', e1, e2⟩ := andThen_inv h
  exact ⟨W, S, δ, rel, sl, PostG.ok e1 fun F H1 v ex rel' rp => ⟨r, S', F, ex, rel', sl.ext ex, rp, e2⟩⟩
def fLc2 (z : Bool) (cl : Cl) (Φ : Phi) (own own2 : List Nat) (elt : Mi.E) (tg : Tg) (c : Mi.E) (tg2 : Tg) (it2 : Mi.It) (c2 : Mi.E) (δ : Env) : D → List D → Sto → Res (List D) := fun x acc S => match tg.set x (wipeE δ own) with
  | none => .bad
  | some δ' => (ev z cl Φ c δ' S).andThen fun k S => (toB k S).andThen fun k S => if k = true then (evI z cl Φ it2 δ' S).andThen fun src2 S => walk src2 (fLc z cl Φ own2 elt tg2 c2 δ') acc S else .ok acc S
theorem fLc2_mono {own own2 : List Nat} {elt : Mi.E} {tg : Tg} {c : Mi.E} {tg2 : Tg} {it2 : Mi.It} {c2 : Mi.E} (x : D) (a : List D) (S : Sto) (a' : List D) (S' : Sto) (h : fLc2 T.z T.cl Φ own own2 elt tg c tg2 it2 c2 δ x a S = .ok a' S') :
    a.length ≤ a'.length := by
  unfold fLc2 at h
  split at h
  · cases h
  · obtain ⟨r, S1, e1, h⟩ := andThen_inv h
    obtain ⟨b, S2, e2, h⟩ := andThen_inv h
    split at h
    · obtain ⟨r, S3, e3, h⟩ := andThen_inv h
      exact walk_mono (g := List.length) fLc_mono h
    · cases h; exact Nat.le_refl _
theorem tLc2_of {own own2 : List Nat} {elt c c2 : Mi.E} {tg tg2 : Tg} {it it2 : Mi.It} {Q : VK} (ho : ∀ i ∈ tg.ins, i ∈ own) (ho2 : ∀ i ∈ tg2.ins, i ∈ own2) (h : rdE K T E Φ (.lc2 own own2 elt tg it c tg2 it2 c2) σ H Q) :
    tLc2 (rdI K T E Φ it tg) (tg.rd K) (rdT K T NoX Φ c) (rdI K T NoX Φ it2 tg2) (tg2.rd K) (rdT K T NoX Φ c2) (rdE K T NoX Φ elt) own own2 σ H Q := by
  obtain ⟨W, S, δ, rel, sl, p⟩ := h
  rw [← postR] at p
  refine ⟨W, S, δ, rel, sl, (PostG.bind p).imp fun J H1 ⟨src, S1, F1, x1, rel1, sg, p1⟩ => ?_⟩
  intro D hD
  obtain ⟨ds, S2, hw, p2⟩ := noExc_post p1
  split at p2
  case isFalse => exact p2.elim
  rename_i hlen
  have hw : walk src (fLc2 T.z T.cl Φ own own2 elt tg c tg2 it2 c2 δ) [] S1 = .ok ds S2 := hw
  have hLD : W.L D = none := (rel1.fresh hD).l
  refine ⟨fun i m H => ∃ S' acc, Acc K T (W.wF F1) D acc S' H ∧ Rest src (fLc2 T.z T.cl Φ own own2 elt tg c tg2 it2 c2 δ) ds S2 i m acc S', ?_, fun i m H ⟨S', acc, ac, rs⟩ => ?_⟩
  · obtain ⟨m, r⟩ := Rest.start hw
    exact ⟨m, S1, [], Acc.start rel1 hD, r⟩
  · rcases rs.step with ⟨hh, ⟨hn, rfl, rfl⟩ | ⟨x, acc', S'', m', hx, hf, hm, rs'⟩⟩
    · obtain ⟨F, xs, xF, rl, rx⟩ := ac
      obtain ⟨rl', nw, hd⟩ := rl.unlock hLD
      exact .inl ⟨sg.stop ⟨F, upd W.L D (.lst xs), W.μ⟩ _ _ _ ⟨xF, fun _ _ h => h⟩ rl hh hn, p2 F H (.ref D) xF rl' ⟨D, xs, rfl, hd, rx, nw⟩⟩
    · have hl := rs'.mono (g := List.length) fLc2_mono
      obtain ⟨F, xs, xF, rl, rx⟩ := ac
      have le2 : (W.wF F1).Le ⟨F, upd W.L D (.lst xs), W.μ⟩ := ⟨xF, fun _ _ h => h⟩
      unfold fLc2 at hf
      split at hf
      · cases hf
      rename_i δ' hset
      obtain ⟨g1, g2⟩ := sg.go _ _ _ _ _ (wipe σ own) _ _ le2 rl (((sl.ext x1).le le2).wipe own) hh hx hset
      refine .inr ⟨g1, fun H' => ∃ m', m' < m ∧ ∃ S' acc, Acc K T (W.wF F1) D acc S' H' ∧ Rest src (fLc2 T.z T.cl Φ own own2 elt tg c tg2 it2 c2 δ) ds S2 (i + 1) m' acc S', fun H' h => h, fun v H' hy => g2 v H' hy _ fun σ' rl' sl' w' => ⟨?_, ?_⟩⟩
      · rw [w' own ho]
        exact wipe_sub own own fun i h => h
      · refine (eqT rl' sl' hf).imp fun b H3 ⟨S3, F3, e3, r3, s3, hf⟩ => ?_
        cases b with
        | false =>
          have hf : (Res.ok acc S3 : Res (List Mi.D)) = .ok acc' S'' := hf
          cases hf
          exact ⟨m', hm, _, _, ⟨F3, xs, xF.trans e3, r3, rx.ext e3⟩, rs'⟩
        | true =>
          refine (eqI r3 s3 hf).imp fun J1 H4 ⟨src2, S4, F4, e4, r4, s4, sg2, hf⟩ => ?_
          refine ⟨fun j k H => ∃ S' acc, Acc K T ⟨F4, W.L, W.μ⟩ D acc S' H ∧ Rest src2 (fLc T.z T.cl Φ own2 elt tg2 c2 δ') acc' S'' j k acc S', ?_, fun j k H ⟨S5, acc5, ac5, rs5⟩ => ?_⟩
          · obtain ⟨m, r⟩ := Rest.start hf
            exact ⟨m, S4, acc, ⟨F4, xs, Ext.refl _, r4, (rx.ext e3).ext e4⟩, r⟩
          · rcases rs5.step with ⟨hh5, ⟨hn, rfl, rfl⟩ | ⟨x5, acc6, S6, k', hx5, hf5, hk, rs6⟩⟩
            · obtain ⟨F5, xs5, xF5, rl5, rx5⟩ := ac5
              exact .inl ⟨sg2.stop ⟨F5, upd W.L D (.lst xs5), W.μ⟩ _ _ _ ⟨xF5, fun _ _ h => h⟩ rl5 hh5 hn, m', hm, _, _, ⟨F5, xs5, ((xF.trans e3).trans e4).trans xF5, rl5, rx5⟩, rs'⟩
            · have hl5 := rs6.mono (g := List.length) fLc_mono
              have s4' : Slots K T ⟨F4, W.L, W.μ⟩ σ' δ' := s4.le ⟨Ext.refl _, fun _ _ h => h⟩
              obtain ⟨g3, g4⟩ := lcTurn (W := ⟨F4, W.L, W.μ⟩) (W1 := ⟨F4, upd W.L D (.lst xs), W.μ⟩) (Nx := fun H' => ∃ k', k' < k ∧ ∃ S' acc, Acc K T ⟨F4, W.L, W.μ⟩ D acc S' H' ∧ Rest src2 (fLc T.z T.cl Φ own2 elt tg2 c2 δ') acc' S'' (j + 1) k' acc S')
                ho2 sg2 ⟨Ext.refl _, fun _ _ h => h⟩ s4' ac5 hh5 hx5 hf5 (Nat.le_trans hl5 (Nat.le_trans hl hlen)) fun H' a => ⟨k', hk, S6, acc6, a, rs6⟩
              exact .inr ⟨g3, _, fun H' h => h, g4⟩
/-! ### dicts -/
def fDc (z : Bool) (cl : Cl) (Φ : Phi) (own : List Nat) (t : Bool) (kE vE : Mi.E) (tg : Tg) (c : Mi.E) (δ : Env) : D → List (D × D) → Sto → Res (List (D × D)) := fun x acc S => match tg.set x (wipeE δ own) with
  | none => .bad
  | some δ' => (ev z cl Φ c δ' S).andThen fun k S => (toB k S).andThen fun k S => if k = true then (ev z cl Φ kE δ' S).andThen fun a S => (toD a S).andThen fun a S => (ev z cl Φ vE δ' S).andThen fun y S => (toD y S).andThen fun y S =>
    if (keyB t a && !(z && t)) = true then .ok (put a y acc) S else .bad else .ok acc S
theorem put_length (k v : D) (kvs : List (D × D)) : kvs.length ≤ (put k v kvs).length := by
  unfold put
  split
  · rw [List.length_map]; exact Nat.le_refl _
  · rw [List.length_append]; exact Nat.le_add_right _ _
theorem fDc_mono {own : List Nat} {t : Bool} {kE vE : Mi.E} {tg : Tg} {c : Mi.E} (x : D) (a : List (D × D)) (S : Sto) (a' : List (D × D)) (S' : Sto) (h : fDc T.z T.cl Φ own t kE vE tg c δ x a S = .ok a' S') : a.length ≤ a'.length := by
  unfold fDc at h
  split at h
  · cases h
  · obtain ⟨r, S1, e1, h⟩ := andThen_inv h
    obtain ⟨b, S2, e2, h⟩ := andThen_inv h
    split at h
    · obtain ⟨r, S3, e3, h⟩ := andThen_inv h
      obtain ⟨y, S4, e4, h⟩ := andThen_inv h
      obtain ⟨r, S5, e5, h⟩ := andThen_inv h
      obtain ⟨y', S6, e6, h⟩ := andThen_inv h
      split at h
      · cases h; exact put_length _ _ _
      · cases h
    · cases h; exact Nat.le_refl _
theorem tDc_of {own : List Nat} {kE vE c : Mi.E} {tg : Tg} {it : Mi.It} {Q : VK} (ho : ∀ i ∈ tg.ins, i ∈ own) (h : rdE K T E Φ (.dc1 own false kE vE tg it c) σ H Q) :
    tDc (rdI K T E Φ it tg) (tg.rd K) (rdT K T NoX Φ c) (rdE K T NoX Φ kE) (rdE K T NoX Φ vE) own σ H Q := by
  obtain ⟨W, S, δ, rel, sl, p⟩ := h
  rw [← postR] at p
  refine ⟨W, S, δ, rel, sl, (PostG.bind p).imp fun J H1 ⟨src, S1, F1, x1, rel1, sg, p1⟩ => ?_⟩
  intro D hD
  obtain ⟨ds, S2, hw, p2⟩ := noExc_post p1
  split at p2
  case isFalse => exact p2.elim
  rename_i hlen
  have hw : walk src (fDc T.z T.cl Φ own false kE vE tg c δ) [] S1 = .ok ds S2 := hw
  have hLD : W.L D = none := (rel1.fresh hD).l
  refine ⟨fun i m H => ∃ S' acc F kvs, Ext F1 F ∧ Rel K T ⟨F, upd W.L D (.dK kvs), W.μ⟩ S' H ∧ KRp K T F kvs acc ∧ Rest src (fDc T.z T.cl Φ own false kE vE tg c δ) ds S2 i m acc S', ?_, fun i m H ⟨S', acc, F, kvs, xF, rl, rx, rs⟩ => ?_⟩
  · obtain ⟨m, r⟩ := Rest.start hw
    exact ⟨m, S1, [], F1, [], Ext.refl _, (rel1.junk hD).lock (rel1.fresh hD) upd_same, .nil, r⟩
  · rcases rs.step with ⟨hh, ⟨hn, rfl, rfl⟩ | ⟨x, acc', S'', m', hx, hf, hm, rs'⟩⟩
    · obtain ⟨rl', nw, hd⟩ := rl.unlock hLD
      exact .inl ⟨sg.stop ⟨F, upd W.L D (.dK kvs), W.μ⟩ _ _ _ ⟨xF, fun _ _ h => h⟩ rl hh hn, p2 F H (.ref D) xF rl' ⟨D, _, rfl, hd, .dK rx, nw⟩⟩
    · have le2 : (W.wF F1).Le ⟨F, upd W.L D (.dK kvs), W.μ⟩ := ⟨xF, fun _ _ h => h⟩
      have hl0 := rs.mono (g := List.length) fDc_mono
      unfold fDc at hf
      split at hf
      · cases hf
      rename_i δ' hset
      obtain ⟨g1, g2⟩ := sg.go _ _ _ _ _ (wipe σ own) _ _ le2 rl (((sl.ext x1).le le2).wipe own) hh hx hset
      refine .inr ⟨g1, fun H' => ∃ m', m' < m ∧ ∃ S' acc F kvs, Ext F1 F ∧ Rel K T ⟨F, upd W.L D (.dK kvs), W.μ⟩ S' H' ∧ KRp K T F kvs acc ∧ Rest src (fDc T.z T.cl Φ own false kE vE tg c δ) ds S2 (i + 1) m' acc S', fun H' h => h,
        fun v H' hy => g2 v H' hy _ fun σ' rl' sl' w' => ⟨?_, ?_⟩⟩
      · rw [w' own ho]
        exact wipe_sub own own fun i h => h
      · refine (eqT rl' sl' hf).imp fun b H3 ⟨S3, F3, e3, r3, s3, hf⟩ => ?_
        cases b with
        | false =>
          have hf : (Res.ok acc S3 : Res (List (Mi.D × Mi.D))) = .ok acc' S'' := hf
          cases hf
          exact ⟨m', hm, _, _, F3, kvs, xF.trans e3, r3, rx.ext e3, rs'⟩
        | true =>
          refine (eqD r3 s3 hf).imp fun y H4 ⟨a, S4, F4, e4, r4, s4, ry, hf⟩ => (eqD r4 s4 hf).imp fun y2 H5 ⟨a2, S5, F5, e5, r5, s5, ry2, hf⟩ => ?_
          split at hf
          case isFalse => cases hf
          rename_i hk
          rw [Bool.and_eq_true] at hk
          cases hf
          obtain ⟨k, rfl, rfl⟩ := keyK hk.1 ry
          refine ⟨kvs, k, rfl, r5.lsub D _ upd_same, ?_, m', hm, _, _, F5, putK kvs k y2, ((xF.trans e3).trans e4).trans e5, r5.relock, (((rx.ext e3).ext e4).ext e5).put k ry2, rs'⟩
          rw [rx.length]
          exact Nat.lt_of_le_of_lt hl0 hlen
end
end Mi

set_option Elab.async false
set_option linter.all false
set_option maxRecDepth 100000
set_option maxHeartbeats 1000000
/-! MiJ: enumerate of a tuple; what is walked, as rules. -/
namespace PySem
open Sem (wp)
open AutoSeq1 (wpAny_loadPart')
theorem miEnumNew (t : Addr) (items : Array Value) (n : Nat) (dct : Option Addr) (sl : Array (Option Value)) :
    Meets (Builtin.«enumerate.__new__» ⟨[.type "enumerate", .ref t], []⟩) (fun _ Rr st => st.heap.get? t = some { cls := .type "tuple", dict := dct, data := .seq items n, slots := sl } ∧
      Rr (.ok (.ret (.ref (st.heap.push { cls := .type "tuple_iterator", data := .fields #[.ref t, .int 0 0] }).objs.size)))
        { st with heap := (st.heap.push { cls := .type "tuple_iterator", data := .fields #[.ref t, .int 0 0] }).push { cls := .type "enumerate", data := .fields #[.none, .bool false, .ref st.heap.objs.size, rawInt 0, .none, .none] } }) :=
  .of_wp fun prg wld Ar Rr st hst => by
    obtain ⟨hp, gn, dr, tk, os⟩ := st
    obtain ⟨hl, hst⟩ := hst
    have hsubE := sub_enumerate
    have hTu : Heap.IsTuple (Shared.heap ⟨hp, gn, dr, tk, os⟩) t items := ⟨_, hl, rfl, n, rfl⟩
    wp_walk using wpAny_loadPart' hl
    refine wpAny_stack_any fun stk => wpAny_pure ?_
    split
    · rename_i cc _ _ _ _ _
      cases (cc == Value.type "enumerate")
      · wp_walk using wpAny_loadPart' hl, wpAny_pyIter_tuple hTu
        exact ⟨_, rfl, hst⟩
      · wp_walk using wpAny_loadPart' hl, wpAny_pyIter_tuple hTu
        exact ⟨_, rfl, hst⟩
    · wp_walk using wpAny_loadPart' hl, wpAny_pyIter_tuple hTu
      exact ⟨_, rfl, hst⟩
section
variable {prog : Program} {w : World} {A : Around} {E : Value → Shared → Prop} {s : Shared}
theorem miEnumCall {t : Addr} {items : Array Value} {Q : Value → Shared → Prop} (hT : s.heap.IsTuple t items)
    (h : ∀ h', IsEnum h' (s.heap.objs.size + 1) s.heap.objs.size 0 .none → h'.IsTupleIter s.heap.objs.size t 0 →
      (∀ b o, s.heap.get? b = some o → h'.get? b = some o) → Q (.ref (s.heap.objs.size + 1)) { s with heap := h' }) : wpAny (model prog w) A (call (.type "enumerate") [.ref t]) Q E s := by
  obtain ⟨⟨cc, dct, dt, sl⟩, hl, hc, n, hd⟩ := hT
  have hc : cc = .type "tuple" := hc
  have hd : dt = .seq items n := hd
  cases hc
  cases hd
  refine callType_new F.called_enumerate (by decide) (F.typeCall_enumerate_1 _) (F.newCall_enumerate_1 _) (fun ob => F.args_object_init_2 ob _) F.entry_enumerate_new (miEnumNew t items n dct sl) ⟨hl, ?_⟩
  have sz : (s.heap.push { cls := .type "tuple_iterator", data := .fields #[.ref t, .int 0 0] }).objs.size = s.heap.objs.size + 1 := Heap.size_push ..
  show _ ∧ _
  rw [sz]
  have en : IsEnum ((s.heap.push { cls := .type "tuple_iterator", data := .fields #[.ref t, .int 0 0] }).push { cls := .type "enumerate", data := .fields #[.none, .bool false, .ref s.heap.objs.size, rawInt 0, .none, .none] })
      (s.heap.objs.size + 1) s.heap.objs.size 0 .none := by
    have q := Heap.get?_push_size (s.heap.push { cls := .type "tuple_iterator", data := .fields #[.ref t, .int 0 0] }) (o := { cls := .type "enumerate", data := .fields #[.none, .bool false, .ref s.heap.objs.size, rawInt 0, .none, .none] }) rfl
    rw [sz] at q
    exact q
  exact ⟨⟨_, en, rfl⟩, h _ en ⟨_, Heap.get?_push_of_some _ (Heap.get?_push_size _ rfl), rfl, rfl⟩ fun b o q => Heap.get?_push_of_some _ (Heap.get?_push_of_some _ q)⟩
end
theorem miDrawsTup {prog : Program} {w : World} {A : Around} (hh : A.handled = none) (it t : Addr) (hne : t ≠ it) (items : Array Value) :
    Draws prog w A it [it, t] items.size (fun i v => items[i]? = some v) (fun i h => h.IsTupleIter it t i ∧ h.IsTuple t items) where
  live := fun _ _ st => let ⟨o, ho, _⟩ := st.1; ⟨o, ho⟩
  frame := fun _ _ _ st hk => ⟨st.1.at fun o e => hk it (by simp) o e, st.2.at fun o e => hk t (by simp) o e⟩
  item := fun i st Qq Ee hi pr hQ => by
    refine RZ.nextOf_tuple_item pr.1 pr.2 (x := items[i]) (by simp [hi]) fun h' hit' hs' => ?_
    exact hQ _ h' st.toks (by simp [hi]) ⟨hit', pr.2.at fun o e => (hs'.2 t hne).trans e⟩ hs'
  done := fun st Qq Ee pr hE => RZ.nextOf_tuple_end hh pr.1 pr.2 (by simp) hE
end PySem
namespace Mi
open PySem PySem.Spec PyProof.Rows L2

/-- the tuple at a as it stands at each turn, each item in a new pair -/
def IteT (K : PySem.W.Frag) (a : Addr) : L2.It :=
  ⟨fun i H => ∃ (xs : List V) (x : V), SqT K H a xs ∧ xs[i]? = some x, fun i H v H' => ∃ p x, v = .ref p ∧ H p = none ∧ H' = upd H p (.tup [.int (i : Nat), x]) ∧ ∀ xs, SqT K H a xs → xs[i]? = some x,
    fun i H => ∃ xs : List V, SqT K H a xs ∧ xs.length ≤ i⟩
theorem turnEnumT {P : Program} {w : World} {K : PySem.W.Frag} {elts : List Expr} {kk : Nat} {tpos : Pos} (a e it : Addr) :
    Turn P w K (.Tuple elts kk tpos) (IteT K a) [e, it] e (fun i h => (∃ old, IsEnum h e it ((i : Nat) : Int) old) ∧ h.IsTupleIter it a i ∧ e ≠ it ∧ a ≠ it ∧ e ≠ a) where
  mem := by simp
  obj := fun i h st b hb => by
    obtain ⟨⟨old, he⟩, ⟨o, ho, hc, hd⟩, _⟩ := st
    rcases (show b = e ∨ b = it by simpa using hb) with rfl | rfl
    · exact ⟨_, he, fun v q => nomatch q⟩
    · refine ⟨o, ho, fun v q => ?_⟩
      rw [hd] at q
      cases q
  keep := fun i h h' st k => let ⟨⟨old, he⟩, hi, r⟩ := st; ⟨⟨old, k e (by simp) _ he⟩, hi.at fun o q => k it (by simp) o q, r⟩
  item := by
    intro X hP hw hK hc i pins s σ H E I hf st hg
    subst hP hw hK
    obtain ⟨⟨old, he⟩, hit, hne, hai, hea⟩ := st
    obtain ⟨xs, x, hq, hx⟩ := hg
    obtain ⟨its, rv, p, hz⟩ := I.tuple hq
    obtain ⟨u, hu, ru⟩ := rv.get hx
    have el : e < s.heap.objs.size := Heap.lt_size he
    have il : it < s.heap.objs.size := by
      obtain ⟨_, q, _⟩ := hit
      exact Heap.lt_size q
    have hlt : i < its.toArray.size := by
      have := (List.getElem?_eq_some_iff.mp hu).1
      simpa using this
    refine wpAny_pyNext_enum_itemD (miDrawsTup (A := X.A.in1) (I.ok.hd hc) it a hai its.toArray) he ⟨hit, p⟩ hlt hne (by simp [hne, hea]) fun y h' tk hy ho hst hT hsz hk => ?_
    have hy : y = u := by
      have : its[i]? = some y := by simpa using hy
      rw [hu] at this
      cases this; rfl
    subst hy
    refine ⟨_, rfl, wpAny_letOwnedTupleGo_enum (s := { s with heap := h', toks := tk + 1 }) ho fun h'' he' sb => ?_⟩
    have hT2 : h''.get? s.heap.objs.size = some { cls := .type "tuple", data := .seq #[.int i tk, y] } := (sb.2 _ (Nat.ne_of_gt el)).trans hT
    have new : ObjOk X.prog X.w (upd H s.heap.objs.size (.tup [.int (i : Nat), x])) h'' s.heap.objs.size (.tup [.int (i : Nat), x]) :=
      ⟨by show 2 ≤ sizeLine; decide, [.int i tk, y], .cons ⟨_, rfl⟩ (.cons ru .nil), ⟨_, hT2, rfl, _, rfl⟩⟩
    have I1 : Inv X pins σ (upd H s.heap.objs.size (.tup [.int (i : Nat), x])) { s with heap := h'', toks := tk + 1 } :=
      I.turnedNew (ch := [e, it]) (fun b ob hb q => (sb.2 b (fun z => hb (by simp [z]))).trans (hk b ob (fun z => hb (by simp [z])) (fun z => hb (by simp [z])) q)) hf (Nat.le_refl _) new
    refine ⟨.ref s.heap.objs.size, _, I1, rfl, ⟨_, x, rfl, I.hok.fresh (Nat.le_refl _), rfl, fun ys hy => by rw [I.tuple_inj hy hq]; exact hx⟩, ⟨⟨y, ?_⟩, hst.1.at fun o q => (sb.2 it (Ne.symm hne)).trans q, hne, hai, hea⟩, fun b hb => ?_⟩
    · rw [show ((i + 1 : Nat) : Int) = (i : Int) + 1 by omega]
      exact he'
    · have hb' : b < s.heap.objs.size := by
        rcases (show b = e ∨ b = it by simpa using hb) with rfl | rfl
        · exact el
        · exact il
      rw [upd_ne (Nat.ne_of_lt hb')]
      exact (hf b hb).1
  done := by
    intro X hP hw hK hc i pins s σ H E I hf st hg
    subst hP hw hK
    obtain ⟨⟨old, he⟩, hit, hne, hai, hea⟩ := st
    obtain ⟨xs, hq, hx⟩ := hg
    obtain ⟨its, rv, p, hz⟩ := I.tuple hq
    obtain ⟨f0, f1, f2, f3, f4, f5⟩ := hf it (by simp)
    have hT : s.TypeIs (.ref e) "enumerate" := ⟨_, he, rfl⟩
    unfold pyNext
    refine wpAny_bind (wpAny_attempt (wpAny_callSpecial?_slot (name := Str.ofString "__next__") hT F.slot_enumerate_next (wpAny_call_entry F.slot_enumerate_next hT F.entry_enumerate_next ?_ (F.args_enumerate_next_1 _))))
    show wpAny _ _ (field (.ref e) 2 >>= _) _ _ _
    refine wpAny_bind (wpAny_field he rfl (x := .ref it) rfl ?_)
    have hn : its.toArray[i]? = none := by
      have := rv.length
      simp
      omega
    refine wpAny_bind (RZ.nextOf_tuple_end (I.ok.hd hc) hit p hn fun h' x hx' ⟨o, ho, hc'⟩ => ?_)
    refine wpAny_bind (wpAny_isInstance (T := "StopIteration") (b := true) ⟨o, ho, hc'⟩ isSubtype_stop ?_)
    exact wpAny_pure ⟨rfl, I.turned (t' := s.toks) (fun b o hb q => hx' b o hb q) f0 f1 f3 f4 f5⟩
  self := fun A i s Q E st h => let ⟨⟨_, he⟩, _⟩ := st; wpAny_pyIter_enum he h
def iEnumA (K : PySem.W.Frag) (ta : TA) : TI := fun σ H R => ta σ H fun vs H1 => ∃ a xs, vs = [.ref a] ∧ ((SqL K H1 a xs ∧ R (Ite K a) H1) ∨ (SqT K H1 a xs ∧ R (IteT K a) H1))
theorem piEnumA {X : Cx} {e : Expr} {ta : TA} {p pos tpos : Pos} {elts : List Expr} {kk : Nat} (hg : Gl X "enumerate") (hm : X.mg "enumerate" = none) (ha : PA X [e] ta) (hs : starEach [e] X.env = [(false, eval e X.env)]) :
    PI X (.Tuple elts kk tpos) (.Call (.Name "enumerate" p) [e] [] pos) (iEnumA X.K ta) := by
  refine ⟨fun pins st σ H Rr I h => ?_⟩
  refine Call_ (ld_blt I hg hm boot_enumerate (PyProof.Rows.callWith_type1 (thn (ha.run pos pins st σ H _ I h) fun us s1 ⟨vs, H1, I1, r1, q1⟩ => ?_) hs rfl))
  obtain ⟨a, xs, rfl, q⟩ := q1
  cases r1 with
  | cons r rr =>
    cases rr
    cases r
    have fin : ∀ {h' : Heap} {J : L2.It} {tn : Nat → Heap → Prop}, (∀ b o, s1.heap.get? b = some o → h'.get? b = some o) → Turn X.prog X.w X.K (.Tuple elts kk tpos) J [s1.heap.objs.size + 1, s1.heap.objs.size] (s1.heap.objs.size + 1) tn → tn 0 h' → Rr J H1 →
        PIE X pins σ (.Tuple elts kk tpos) Rr (.ref (s1.heap.objs.size + 1)) { s1 with heap := h' } := fun {h' J tn} hk tu t0 hR => by
      have I2 : Inv X pins σ H1 { s1 with heap := h' } := I1.kept (t' := s1.toks) hk
      refine ⟨_, _, tn, J, H1, rfl, I2, tu, t0, fun b hb => ?_, hR⟩
      have hle : s1.heap.objs.size ≤ b := by
        rcases (show b = s1.heap.objs.size + 1 ∨ b = s1.heap.objs.size by simpa using hb) with rfl | rfl
        · exact Nat.le_succ _
        · exact Nat.le_refl _
      exact I1.fpOk hle (I1.hok.fresh hle)
    rcases q with ⟨hq, q⟩ | ⟨hq, q⟩
    · obtain ⟨its, rv, pl, hz⟩ := I1.list hq
      refine call_enumerate_list pl.isList fun h' he hit hsz hk => wpAny_pyIter_enum he ?_
      exact fin hk (turn_enum a _ _) ⟨⟨.none, he⟩, hit, Nat.succ_ne_self _⟩ q
    · obtain ⟨its, rv, pl, hz⟩ := I1.tuple hq
      have hal : a < s1.heap.objs.size := by
        obtain ⟨o, ho, _⟩ := pl
        exact Heap.lt_size ho
      refine miEnumCall pl fun h' he hit hk => wpAny_pyIter_enum he ?_
      exact fin hk (turnEnumT a _ _) ⟨⟨.none, he⟩, hit, Nat.succ_ne_self _, Nat.ne_of_lt hal, Nat.ne_of_gt (Nat.lt_succ_of_lt hal)⟩ q
/-- a list or a tuple, walked -/
theorem piSeq {X : Cx} {tg l : Expr} {tl : TE} (hl : PE X l tl) : PI X tg l (fun σ H Rr => tl σ H fun x H1 => ∃ a xs, x = .ref a ∧ ((SqL X.K H1 a xs ∧ Rr (Itl X.K a) H1) ∨ (SqT X.K H1 a xs ∧ Rr (Itt X.K a) H1))) := by
  refine ⟨fun pins st σ H Rr I h => ?_⟩
  refine thn (hl.run pins st σ H _ I h) fun v s1 ⟨x, H1, I1, r1, a, xs, ex, q⟩ => ?_
  subst ex
  cases r1
  have fin : ∀ {o : Obj} {J : L2.It} {tn : Nat → Heap → Prop}, Turn X.prog X.w X.K tg J [s1.heap.objs.size] s1.heap.objs.size tn → tn 0 (s1.heap.push o) → Rr J H1 → PIE X pins σ tg Rr (.ref s1.heap.objs.size) { s1 with heap := s1.heap.push o } := fun {o J tn} tu t0 hR => by
    refine ⟨_, _, tn, J, H1, rfl, I1.kept (t' := s1.toks) fun b u e => Heap.get?_push_of_some _ e, tu, t0, fun b hb => ?_, hR⟩
    cases (show b = s1.heap.objs.size by simpa using hb)
    exact I1.fpOk (Nat.le_refl _) (I1.hok.fresh (Nat.le_refl _))
  rcases q with ⟨hq, q⟩ | ⟨hq, q⟩
  · obtain ⟨its, rv, pl, hz⟩ := I1.list hq
    exact wpAny_pyIter_list pl.isList (fin (turn_list a _) ⟨_, Heap.get?_push_size _ rfl, rfl, rfl⟩ q)
  · obtain ⟨its, rv, pl, hz⟩ := I1.tuple hq
    exact wpAny_pyIter_tuple (show s1.heap.IsTuple a its.toArray from pl) (fin (turn_tuple a _) ⟨_, Heap.get?_push_size _ rfl, rfl, rfl⟩ q)
end Mi

set_option Elab.async false
set_option linter.all false
set_option maxRecDepth 100000
set_option maxHeartbeats 1000000
/-! MiK: methods, stores, fields, isinstance, displays, calls: rules on readings. -/
namespace Mi
open PySem PySem.Spec PyProof.Rows L2

theorem peImp {X : Cx} {e : Expr} {t t' : TE} (h : PE X e t) (i : ∀ σ H Q, t' σ H Q → t σ H Q) : PE X e t' := ⟨fun pins st σ H Q I q => h.run pins st σ H Q I (i σ H Q q)⟩
theorem ptImp {X : Cx} {e : Expr} {t t' : TT} (h : PT X e t) (i : ∀ σ H Q, t' σ H Q → t σ H Q) : PT X e t' := ⟨fun pins st σ H Q I q => h.run pins st σ H Q I (i σ H Q q)⟩
theorem paImp {X : Cx} {es : List Expr} {t t' : TA} (h : PA X es t) (i : ∀ σ H Q, t' σ H Q → t σ H Q) : PA X es t' := ⟨fun pos pins st σ H Q I q => h.run pos pins st σ H Q I (i σ H Q q)⟩
theorem psImp {X : Cx} {st : Stmt} {t t' : TS} (h : PS X st t) (i : ∀ D σ H, t' D σ H → t D σ H) : PS X st t' := ⟨fun pins s1 σ H D I q => h.run pins s1 σ H D I (i D σ H q)⟩
theorem pssImp {X : Cx} {st : List Stmt} {t t' : TS} (h : PSs X st t) (i : ∀ D σ H, t' D σ H → t D σ H) : PSs X st t' := ⟨fun pins s1 σ H D I q => h.run pins s1 σ H D I (i D σ H q)⟩
theorem piImp {X : Cx} {tg e : Expr} {t t' : TI} (h : PI X tg e t) (i : ∀ σ H R, t' σ H R → t σ H R) : PI X tg e t' := ⟨fun pins s1 σ H R I q => h.run pins s1 σ H R I (i σ H R q)⟩

/-! ### what stands in the text -/
def noStar : Expr → Bool
  | .Starred _ _ => false
  | _ => true
theorem star_cons {x : Expr} (h : noStar x = true) (xs : List Expr) (env : PySem.Env) : starEach (x :: xs) env = (false, eval x env) :: starEach xs env := by
  cases x <;> first | rfl | (cases h)
theorem back_plain {pos : Pos} {env : PySem.Env} : ∀ {xs : List Expr}, xs.all noStar = true → (backTo pos (starEach xs env)).any (·.1) = false
  | [], _ => rfl
  | x :: xs, h => by
    rw [List.all_cons, Bool.and_eq_true] at h
    rw [star_cons h.1]
    show (false || (backTo pos (starEach xs env)).any (·.1)) = false
    rw [back_plain h.2]; rfl
/-- its test is its value's truth -/
def plainT : Expr → Bool
  | .UnaryOp .Not _ _ => false
  | .BoolOp _ _ _ => false
  | .IfExp _ _ _ _ => false
  | .Compare _ _ _ _ => false
  | _ => true
theorem plainT_is {x : Expr} (h : plainT x = true) (env : PySem.Env) (whole : Sem Value) : isTrue x env whole = (do let v ← whole; standAt x.pos; holding [v] (truthy v)) := by
  cases x with
  | UnaryOp op y p => cases op <;> first | rfl | (cases h)
  | _ => first | rfl | (cases h)
def noSlice : Expr → Bool
  | .Slice _ _ _ _ => false
  | _ => true
theorem noSlice_ix {x : Expr} (h : noSlice x = true) : PlainIx x := fun o i => by
  cases x <;> first | rfl | (cases h)
def noSet : Expr → Bool
  | .Set _ _ _ => false
  | _ => true
theorem noSet_folded {x : Expr} (h : noSet x = true) (env : PySem.Env) (v : Value) : foldedSetIterable x env v = pure v := by
  cases x <;> first | rfl | (cases h)
theorem noSet_mark {x : Expr} (h : noSet x = true) (o : CmpOp) : behindInMarks o x = false := by
  cases x <;> first | rfl | (cases h)
def noCall : Expr → Bool
  | .Call _ _ _ _ => false
  | _ => true
theorem noCall_base {x : Expr} (h : noCall x = true) (f : Str) (env : PySem.Env) : attributeBase x f env (eval x env) = eval x env := by
  cases x <;> first | rfl | (cases h)
def noComp : Expr → Bool
  | .ListComp _ _ _ _ => false
  | .SetComp _ _ _ _ => false
  | .DictComp _ _ _ _ _ => false
  | _ => true
theorem noComp_sw {x : Expr} (h : noComp x = true) (tg : Option Expr) (l : Nat) (env : PySem.Env) : swapsWith x tg l env = pure false := by
  cases x <;> first | rfl | (cases h)

section
variable {X : Cx} {T : Tb} {E : XK} {W : Wd} {S : Sto} {H : Hp} {Q : VK} {pins : List (Addr × Obj)} {σ : L2.St} {s : Shared}

/-! ### a tuple that is written -/
theorem peTup {es : List Expr} {k : Nat} {pos : Pos} {t : TA} (z : Bool) (h : PA X es t) : PE X (.Tuple es k pos) (fun σ H Q => t σ H fun xs H1 => xs.length ≤ sizeLine ∧ ∀ p o, H1 p = none → TupO z o xs → Q (.ref p) (upd H1 p o)) := by
  refine ⟨fun pins st σ H Q I q => ?_⟩
  exact wpAny_Tuple_spliced (thn (h.run pos pins st σ H _ I q) fun us s1 ⟨xs, H1, I1, r, lz, q1⟩ => ⟨by rw [← r.length]; exact lz, EP.tup (t' := s1.toks) I1 r lz q1⟩)

/-! ### methods -/
theorem seqO {a : R} {x : V} {k : Bool} {ds : List D} (rel : Rel X.K T W S H) (ra : RpA X.K T W a x) (h : a.seq S = some (k, ds)) :
    ∃ p xs, x = .ref p ∧ Rps X.K T W.F xs ds ∧ ((k = true ∧ H p = some (.lst xs)) ∨ (k = false ∧ Rd H p (.tup xs) ∧ ∃ o, TupO T.z o xs ∧ H p = some o)) := seqA rel (RpA.r ra) h
/-- the type of a receiver -/
def RK.ty : RK → String
  | .lst => "list"
  | .tup => "tuple"
  | .dic => "dict"
/-- what a call of a method leans on -/
structure MOn (H : Hp) (p : Addr) (k : RK) : Prop where
  ok : (k = .lst ∧ ∃ xs, H p = some (.lst xs)) ∨ (k = .tup ∧ ∃ ob xs, H p = some (.frz ob (.tup xs)) ∧ ob.dict = none) ∨ (k = .dic ∧ ((∃ kvs, H p = some (.dK kvs)) ∨ ∃ kvs, H p = some (.dT kvs)))
theorem MOn.is {p : Addr} {k : RK} (m : MOn H p k) (I : Inv X pins σ H s) : s.TypeIs (.ref p) k.ty ∧ ∀ a, Value.ref p = .ref a → ∃ ob, s.heap.get? a = some ob ∧ ob.dict = none := by
  rcases m.ok with ⟨rfl, xs, h⟩ | ⟨rfl, ob, xs, h, hd⟩ | ⟨rfl, h⟩
  · exact tyV_is (x := .ref p) I rfl (.inl ⟨rfl, xs, SqL.of h⟩)
  · obtain ⟨h1, h2⟩ := I.hok p _ h
    obtain ⟨_, its, _, ⟨o', h3, h4, _⟩⟩ := h2
    rw [h1] at h3
    cases h3
    exact ⟨⟨ob, h1, h4⟩, fun a e => by cases e; exact ⟨ob, h1, hd⟩⟩
  · exact tyV_is (x := .ref p) I rfl (.inr (.inr (.inl ⟨rfl, h⟩)))
theorem kind_on {a : R} {x : V} {k : RK} (hz : k = .tup → T.z = true) (rel : Rel X.K T W S H) (ra : RpA X.K T W a x) (h : a.kind S = some k) : ∃ p, x = .ref p ∧ MOn H p k := by
  unfold R.kind at h
  split at h
  · rename_i ds e
    cases h
    obtain ⟨p, xs, rfl, _, ⟨_, hp⟩ | ⟨q, _⟩⟩ := seqO rel ra e
    · exact ⟨p, rfl, ⟨.inl ⟨rfl, xs, hp⟩⟩⟩
    · cases q
  · rename_i ds e
    cases h
    obtain ⟨p, xs, rfl, _, ⟨q, _⟩ | ⟨_, _, o, to, hp⟩⟩ := seqO rel ra e
    · cases q
    · rcases to with ⟨z, _⟩ | ⟨_, ob, hd, rfl⟩
      · rw [hz rfl] at z; cases z
      · exact ⟨p, rfl, ⟨.inr (.inl ⟨rfl, ob, xs, hp, hd⟩)⟩⟩
  · split at h
    · rename_i t e
      cases h
      obtain ⟨t, kvs⟩ := t
      obtain ⟨p, u, rfl, hp, ou⟩ := dicA rel (RpA.r ra) e
      refine ⟨p, rfl, ⟨.inr (.inr ⟨rfl, ?_⟩)⟩⟩
      cases ou with
      | dK r => exact .inl ⟨_, hp⟩
      | dT z r => exact .inr ⟨_, hp⟩
    · cases h
/-- the method's facts -/
structure MF (k : RK) (nm : Str) (id : String) : Prop where
  pa : PlainAttrs k.ty
  sl : Slot k.ty nm id
  ty : typeOf (.builtin id) = pure (.type "method_descriptor")
theorem mfApp : MF .lst "append" "list.append" := ⟨F.plainAttrs_list, F.slot_list_append, F.type_list_append⟩
theorem mfExt : MF .lst "extend" "list.extend" := ⟨F.plainAttrs_list, F.slot_list_extend, F.type_list_extend⟩
theorem mfPop : MF .lst "pop" "list.pop" := ⟨F.plainAttrs_list, F.slot_list_pop, F.type_list_pop⟩
theorem mfIdx : MF .lst "index" "list.index" := ⟨F.plainAttrs_list, F.slot_list_index, F.type_list_index⟩
theorem mfIdxT : MF .tup "index" "tuple.index" := ⟨F.plainAttrs_tuple, F.slot_tuple_index, F.type_tuple_index⟩
/-- a method of one argument -/
theorem peMeth1 {o e : Expr} {to te : TE} {nm : Str} {apos cpos : Pos} (ho : PE X o to) (he : PE X e te) (hb : noCall o = true) (hl : (apos.endLine == cpos.line) = true) (hs : noStar e = true) :
    PE X (.Call (.Attribute o nm apos) [e] [] cpos) (fun σ H Q => to σ H fun x H1 => ∃ p k id, x = .ref p ∧ MOn H1 p k ∧ MF k nm id ∧ te σ H1 fun y H2 =>
      ∀ pins s v, Inv X pins σ H2 s → RelV y v → wpAny (model X.prog X.w) X.A (call (.builtin id) [.ref p, v]) (EP X pins σ Q) X.xe s) := by
  refine ⟨fun pins st σ H Q I h => ?_⟩
  have h1 : backTo cpos (starEach [e] X.env) = [(false, eval e X.env)] := by rw [star_cons hs]; rfl
  refine wpAny_Call_method1_late (noCall_base hb _ _) hl h1 (thn (ho.run pins st σ H _ I h) fun v s1 ⟨x, H1, I1, r1, p, k, id, ex, mo, mf, q⟩ => ?_)
  subst ex
  cases r1
  obtain ⟨t1, t2⟩ := mo.is I1
  refine ⟨_, id, mf.pa, mf.sl, mf.ty, t1, t2, ?_⟩
  exact Calls.callWith_builtin rfl (Calls.evalArgs_plain (Calls.spliced_cons (thn (he.run pins s1 σ H1 _ I1 q) fun u s2 ⟨y, H2, I2, r2, q2⟩ => Calls.spliced_nil (q2 pins s2 u I2 r2))))
theorem peMeth0 {o : Expr} {to : TE} {nm : Str} {apos cpos : Pos} (ho : PE X o to) (hb : noCall o = true) (hl : (apos.endLine == cpos.line) = true) :
    PE X (.Call (.Attribute o nm apos) [] [] cpos) (fun σ H Q => to σ H fun x H1 => ∃ p k id, x = .ref p ∧ MOn H1 p k ∧ MF k nm id ∧
      ∀ pins s, Inv X pins σ H1 s → wpAny (model X.prog X.w) X.A (call (.builtin id) [.ref p]) (EP X pins σ Q) X.xe s) := by
  refine ⟨fun pins st σ H Q I h => ?_⟩
  refine wpAny_Call_method0_late (noCall_base hb _ _) hl (thn (ho.run pins st σ H _ I h) fun v s1 ⟨x, H1, I1, r1, p, k, id, ex, mo, mf, q⟩ => ?_)
  subst ex
  cases r1
  obtain ⟨t1, t2⟩ := mo.is I1
  refine ⟨_, id, mf.pa, mf.sl, mf.ty, t1, t2, ?_⟩
  exact Calls.callWith_builtin rfl (PySem.evalArgs_none (q pins s1 I1))
/-- the first place, by the index function -/
theorem indexO_at {x : D} {ds : List D} {j : Nat} (h : indexO x ds = some j) : ∃ d, ds[j]? = some d ∧ D.eqv d x = true ∧ ∀ m d', m < j → ds[m]? = some d' → D.eqv d' x = false := by
  unfold indexO at h
  obtain ⟨hj, h1, h2⟩ := List.findIdx?_eq_some_iff_getElem.mp h
  refine ⟨ds[j], List.getElem?_eq_getElem hj, h1, fun m d' hm hd => ?_⟩
  obtain ⟨hml, e⟩ := List.getElem?_eq_some_iff.mp hd
  subst e
  simpa using h2 m hm
theorem pys_get {ds : List D} {j : Nat} {d : D} (h : ds[j]? = some d) : (D.pys ds)[j]? = some d.py := by
  rw [pys_map, List.getElem?_map, h]; rfl
theorem pys_getI {ds : List D} {j : Nat} {z : PyData} (h : (D.pys ds)[j]? = some z) : ∃ d, ds[j]? = some d ∧ z = d.py := by
  rw [pys_map, List.getElem?_map] at h
  cases e : ds[j]? with
  | none => rw [e] at h; cases h
  | some d => rw [e] at h; cases h; exact ⟨d, rfl, rfl⟩
theorem callIndexL (hu : X.A.units + 80 < cLine) {p : Addr} {y : V} {v : Value} {xs : List V} {ds : List D} {x : D} {j : Nat} (I : Inv X pins σ H s) (ry : RelV y v) (rel : Rel X.K T W S H) (hp : H p = some (.lst xs)) (rx : Rps X.K T W.F xs ds) (rd : Rp X.K T W.F y x)
    (ok : x.ok = true) (okl : (D.lst ds).ok = true) (hj : indexO x ds = some j) (q : Q (.int (j : Nat)) H) : wpAny (model X.prog X.w) X.A (call (.builtin "list.index") [.ref p, v]) (EP X pins σ Q) X.xe s := by
  have lay : PyData.canLayAll0 (D.pys ds) = true := by
    have := D.ok_lay okl
    simpa [D.py, PyData.canLay0] using this
  obtain ⟨d, h1, h2, h3⟩ := indexO_at hj
  exact mt_indexD (by omega) pins s σ H (.ref p) [y] (.ref p) [v] Q I rfl (.cons ry .nil) ⟨p, y, x.py, D.pys ds, j, d.py, rfl, rfl, .lst (SqL.of hp) (Rps.dp rel.sub rx lay), Rp.dp rel.sub rd (D.ok_lay ok), okl, ok, pys_get h1, h2,
    fun m z hm hz => by obtain ⟨d', e1, rfl⟩ := pys_getI hz; exact h3 m d' hm e1, q⟩
theorem callIndexT (hu : X.A.units + 80 < cLine) {p : Addr} {y : V} {v : Value} {xs : List V} {ds : List D} {x : D} {j : Nat} (I : Inv X pins σ H s) (ry : RelV y v) (rel : Rel X.K T W S H) (hp : Rd H p (.tup xs)) (rx : Rps X.K T W.F xs ds) (rd : Rp X.K T W.F y x)
    (ok : x.ok = true) (okl : (D.tup ds).ok = true) (hj : indexO x ds = some j) (q : Q (.int (j : Nat)) H) : wpAny (model X.prog X.w) X.A (call (.builtin "tuple.index") [.ref p, v]) (EP X pins σ Q) X.xe s := by
  have lay : PyData.canLayAll0 (D.pys ds) = true := by
    have := D.ok_lay okl
    simpa [D.py, PyData.canLay0] using this
  obtain ⟨d0, h1, h2, h3⟩ := indexO_at hj
  obtain ⟨bs, r1⟩ := Dp.reads I x.py y v (Rp.dp rel.sub rd (D.ok_lay ok)) ry
  obtain ⟨its, rv, ⟨⟨cls, dd, data, sls⟩, ho, hc, n, hdt⟩, hlen⟩ := I.tuple (.inl hp)
  simp only at hc hdt
  subst hc hdt
  obtain ⟨as, h4⟩ := Dp.readsAll I (D.pys ds) _ its (Rps.dp rel.sub rx lay) rv
  have hn : its.length = (D.pys ds).length := SeqAt.ReadsAll.length (D.pys ds) its as h4
  have hmap : its.map (SeqAt.readOf s.heap) = D.pys ds := SeqAt.readsAll_map (D.pys ds) its as lay h4
  have hroom : X.A.units + 1 + min (PyData.depthAll (D.pys ds)) x.py.depth < cLine := room_in_shaped (d := x.py) ok (by omega)
  have hjd := (List.getElem?_eq_some_iff.mp (pys_get h1)).1
  have hj' : j < its.toArray.size := by simp; omega
  have get_ : ∀ (m : Nat) (hm : m < its.toArray.size) (z : PyData), (D.pys ds)[m]? = some z → SeqAt.readOf s.heap its.toArray[m] = z := fun m hm z hz => by
    have hml : m < its.length := by simpa using hm
    rw [← hmap, List.getElem?_map, List.getElem?_eq_getElem hml] at hz
    have e1 := Option.some.inj hz
    simpa using e1
  refine call_meets PySem.F.slot_tuple_index ⟨_, ho, rfl⟩ PySem.F.entry_tuple_index (PySem.F.args_tuple_index_2 _ _) (TI.tuple_indexAt p its.toArray n dd sls v (fun u => PyData.eqv (SeqAt.readOf s.heap u) x.py) j hj' ?_ ?_)
    ⟨ho, SeqAt.items_eqAt (vs := its.toArray) (show ReadsAll s.heap its.toArray.toList (D.pys ds) as from h4) r1 lay (D.ok_lay ok) hroom, ⟨.int (j : Nat), H, I.tok _, ⟨_, rfl⟩, q⟩⟩
  · show PyData.eqv (SeqAt.readOf s.heap its.toArray[j]) x.py = true
    rw [get_ j hj' _ (pys_get h1)]
    exact h2
  · intro m hm hmj
    have hmd : m < (D.pys ds).length := by simp at hm; omega
    obtain ⟨d', e1, e2⟩ := pys_getI (List.getElem?_eq_getElem hmd)
    show PyData.eqv (SeqAt.readOf s.heap its.toArray[m]) x.py = false
    rw [get_ m hm _ (pys_get e1)]
    exact h3 m d' hmj e1
end
end Mi

set_option Elab.async false
set_option linter.all false
set_option maxRecDepth 100000
set_option maxHeartbeats 1000000
/-! MiL: what methods, stores, fields, isinstance and calls give. -/
namespace Mi
open PySem PySem.Spec PyProof.Rows L2
def M0.nm : M0 → Str
  | .pop => "pop"
def M1.nm : M1 → Str
  | .append => "append"
  | .extend => "extend"
  | .pop => "pop"
  | .index => "index"
  | .count => "count"
  | .remove => "remove"
def M1.id : M1 → RK → String
  | .append, _ => "list.append"
  | .extend, _ => "list.extend"
  | .pop, _ => "list.pop"
  | .index, .tup => "tuple.index"
  | .index, _ => "list.index"
  | .count, _ => "list.count"
  | .remove, _ => "list.remove"
theorem m1mf {z : Bool} {m : M1} {k : RK} (h : m1ok z m k = true) : MF k m.nm (m.id k) := by
  cases m <;> cases k <;> first | exact mfApp | exact mfExt | exact mfPop | exact mfIdx | exact mfIdxT | (cases h)
theorem m1z {z : Bool} {m : M1} {k : RK} (h : m1ok z m k = true) : k = .tup → z = true := by
  rintro rfl
  cases m <;> first | exact h | (cases h)
section
variable {X : Cx} {T : Tb} {E : XK} {Φ : Phi} {W : Wd} {S : Sto} {H : Hp} {Q : VK} {pins : List (Addr × Obj)} {σ : L2.St} {s : Shared}
theorem fits63 {n : Nat} {i : Int} {j : Nat} (h : ixN n i = some j) (hn : n ≤ sizeLine) : -(2 ^ 63) ≤ i ∧ i < 2 ^ 63 := by
  obtain ⟨_, _, h1, h2⟩ := ixN_seq h
  have := sizeLine_eq
  constructor <;> omega
/-- the heap behind a store at a place -/
theorem placed {l : Nat} {p : Addr} {u : HO} {x : O} (rel : Rel X.K T W S H) (hp : W.μ[l]? = some p) (x0 : ORp X.K T W.F x u) : Rel X.K T W (S.set l x) (upd H p u) := rel.write hp x0
theorem locA {l : Nat} {x : V} {ds : List D} (rel : Rel X.K T W S H) (ra : RpA X.K T W (.loc l) x) (h : stoL S l = some ds) : ∃ p xs, x = .ref p ∧ W.μ[l]? = some p ∧ H p = some (.lst xs) ∧ Rps X.K T W.F xs ds := by
  obtain ⟨p, rfl, hp⟩ := ra
  obtain ⟨xs, h1, h2⟩ := lst_at hp (Wd.Le.refl _) rel h
  exact ⟨p, xs, rfl, hp, h1, h2⟩
/-- one argument -/
theorem m1_run (hu : X.A.units + 80 < cLine) {m : M1} {k : RK} {a b : R} {x y : V} {v : Value} {p : Addr} (hk : m1ok T.z m k = true) (ex : x = .ref p) (I : Inv X pins σ H s) (ry : RelV y v) (rel : Rel X.K T W S H) (ra : RpA X.K T W a x) (rb : RpA X.K T W b y)
    (post : Post X.K T E W (m1op T.z k m a b S) Q) : wpAny (model X.prog X.w) X.A (call (.builtin (m.id k)) [.ref p, v]) (EP X pins σ Q) X.xe s := by
  cases m with
  | append =>
    cases a with
    | loc l =>
      simp only [m1op] at post
      split at post
      · rename_i ds y' e1 
        split at post
        · rename_i hlen
          obtain ⟨q, xs, eq, hq, hx, rx⟩ := locA rel ra e1
          rw [ex] at eq; cases eq
          subst ex
          refine mt_append pins s σ H (.ref p) [y] (.ref p) [v] Q I rfl (.cons ry .nil) ⟨p, xs, y, rfl, rfl, hx, by rw [rx.length]; exact hlen, ?_⟩
          exact post.here (placed rel hq (.lst (rx.append (.cons rb .nil)))) Rp.non
        · exact post.elim
      · exact post.elim
    | _ => exact post.elim
  | extend =>
    cases a with
    | loc l =>
      simp only [m1op] at post
      split at post
      · rename_i ds es e1
        split at post
        · rename_i hlen
          obtain ⟨q, xs, eq, hq, hx, rx⟩ := locA rel ra e1
          rw [ex] at eq; cases eq
          subst ex
          have rb : Rp X.K T W.F y (.lst es) := rb
          cases rb with
          | lst h1 h2 =>
            refine mt_extend pins s σ H (.ref p) [.ref _] (.ref p) [v] Q I rfl (.cons ry .nil) ⟨p, _, xs, _, rfl, rfl, hx, rel.sub _ _ h1, by rw [rx.length, h2.length]; exact hlen, ?_⟩
            exact post.here (placed rel hq (.lst (rx.append h2))) Rp.non
        · exact post.elim
      · exact post.elim
    | _ => exact post.elim
  | pop =>
    cases a with
    | loc l =>
      simp only [m1op] at post
      split at post
      · rename_i ds i e1
        split at post
        · rename_i j hj
          split at post
          · rename_i d hd
            obtain ⟨q, xs, eq, hq, hx, rx⟩ := locA rel ra e1
            rw [ex] at eq; cases eq
            subst ex
            obtain ⟨w, hw, rw'⟩ := rx.get hd
            have rb : Rp X.K T W.F y (.int i) := rb
            cases rb
            rw [← rx.length] at hj
            have hz := (I.lstM hx).1
            obtain ⟨b1, b2⟩ := fits63 hj hz
            refine mt_popAt pins s σ H (.ref p) [.int i] (.ref p) [v] Q I rfl (.cons ry .nil) ⟨p, xs, i, j, w, rfl, rfl, hx, b1, b2, (ixN_seq hj).1, hw, ?_⟩
            exact post.here (placed rel hq (.lst (rx.eraseIdx j))) rw'
          · exact post.elim
        · exact post.elim
      · exact post.elim
    | _ => exact post.elim
  | index =>
    simp only [m1op] at post
    split at post
    · rename_i ds y' e1
      split at post
      · rename_i hok
        rw [Bool.and_eq_true] at hok
        obtain ⟨q, xs, eq, rx, ⟨_, hx⟩ | ⟨z, _⟩⟩ := seqO rel ra e1
        · rw [ex] at eq; cases eq
          cases hj : indexO y' ds with
          | none => rw [hj] at post; exact post.elim
          | some j =>
            rw [hj] at post
            exact callIndexL hu I ry rel hx rx rb hok.1 hok.2 hj (post.here rel (Rp.int _))
        · cases z
      · exact post.elim
    · rename_i ds y' e1
      split at post
      · rename_i hok
        rw [Bool.and_eq_true, Bool.and_eq_true] at hok
        obtain ⟨q, xs, eq, rx, ⟨z, _⟩ | ⟨_, hx, _⟩⟩ := seqO rel ra e1
        · cases z
        · rw [ex] at eq; cases eq
          cases hj : indexO y' ds with
          | none => rw [hj] at post; exact post.elim
          | some j =>
            rw [hj] at post
            exact callIndexT hu I ry rel hx rx rb hok.1 hok.2.2 hj (post.here rel (Rp.int _))
      · exact post.elim
    · exact post.elim
  | count => cases k <;> cases hk
  | remove => cases k <;> cases hk
theorem sdM1 (hu : X.A.units + 80 < cLine) {m : M1} {o e : Expr} {eo ee : Mi.E} {apos cpos : Pos} (ho : PE X o (rdE X.K T E Φ eo)) (he : PE X e (rdE X.K T E Φ ee)) (hb : noCall o = true) (hl : (apos.endLine == cpos.line) = true) (hs : noStar e = true) :
    PE X (.Call (.Attribute o m.nm apos) [e] [] cpos) (rdE X.K T E Φ (.m1 m eo ee)) := by
  refine peImp (peMeth1 ho he hb hl hs) fun σ H Q h => ?_
  obtain ⟨W, S, δ, rel, sl, post⟩ := h
  rw [← postR] at post
  refine (stepA rel sl post).imp fun x H1 ⟨a, S1, F1, e1, rel1, sl1, ra, q⟩ => ?_
  split at q
  case h_2 => exact q.elim
  rename_i k hk
  split at q
  case isFalse => exact q.elim
  rename_i ok
  obtain ⟨p, ex, mo⟩ := kind_on (m1z ok) rel1 ra hk
  refine ⟨p, k, m.id k, ex, mo, m1mf ok, (stepA rel1 sl1 q).imp fun y H2 ⟨b, S2, F2, e2, rel2, sl2, rb, q2⟩ => ?_⟩
  intro pins s v I ry
  rw [postR] at q2
  exact m1_run hu ok ex I ry rel2 (ra.ext (W := W.wF F1) e2) rb q2
theorem sdM0 {m : M0} {o : Expr} {eo : Mi.E} {apos cpos : Pos} (ho : PE X o (rdE X.K T E Φ eo)) (hb : noCall o = true) (hl : (apos.endLine == cpos.line) = true) :
    PE X (.Call (.Attribute o m.nm apos) [] [] cpos) (rdE X.K T E Φ (.m0 m eo)) := by
  refine peImp (peMeth0 ho hb hl) fun σ H Q h => ?_
  obtain ⟨W, S, δ, rel, sl, post⟩ := h
  rw [← postR] at post
  refine (stepA rel sl post).imp fun x H1 ⟨a, S1, F1, e1, rel1, sl1, ra, q⟩ => ?_
  split at q
  case h_2 => exact q.elim
  rename_i k hk
  split at q
  case isFalse => exact q.elim
  rename_i ok
  cases m with
  | pop =>
    cases k with
    | lst =>
      obtain ⟨p, ex, mo⟩ := kind_on (by intro z; cases z) rel1 ra hk
      refine ⟨p, .lst, "list.pop", ex, mo, mfPop, fun pins s I => ?_⟩
      rw [postR] at q
      cases a with
      | loc l =>
        simp only [m0op] at q
        split at q
        · rename_i ds e2
          split at q
          · rename_i d hd
            obtain ⟨q', xs, eq, hq, hx, rx⟩ := locA rel1 ra e2
            rw [ex] at eq; cases eq
            have hd' : ds[ds.length - 1]? = some d := by rw [← List.getLast?_eq_getElem?]; exact hd
            obtain ⟨w, hw, rw'⟩ := rx.get hd'
            rw [← rx.length] at hw
            refine mt_pop pins s σ H1 (.ref p) [] (.ref p) [] Q I rfl .nil ⟨p, xs, w, rfl, rfl, hx, hw, ?_⟩
            exact q.here (placed rel1 hq (.lst rx.dropLast)) rw'
          · exact q.elim
        · exact q.elim
      | _ => exact q.elim
    | _ => cases ok

/-! ### stores -/
def rdSet (K : PySem.W.Frag) (T : Tb) (E : XK) : TSet := fun o i v H Q => ∃ W S a b c, Rel K T W S H ∧ RpA K T W a o ∧ RpA K T W b i ∧ RpA K T W c v ∧ PostG K T E (fun _ _ (_ _ : Unit) => True) W (setop a b c S) (fun _ H => Q H)
theorem setU {r : Res Unit} {Q : Hp → Prop} {S' : Sto} {H' : Hp} (e : r = .ok () S') (post : PostG X.K T E (fun _ _ (_ _ : Unit) => True) W r (fun _ H => Q H)) (rel : Rel X.K T W S' H') : Q H' := by
  subst e
  exact post W.F H' () (Ext.refl _) rel trivial
theorem set_op (hu : X.A.units + 80 < cLine) : PSet X (rdSet X.K T E) := by
  intro pins s σ H o i v ov iv u Q I ro ri rv h
  obtain ⟨W, S, a, b, c, rel, ra, rb, rc, post⟩ := h
  unfold setop at post
  split at post
  · rename_i l
    split at post
    · rename_i ds y e1
      split at post
      · rename_i k
        split at post
        · rename_i j hj
          obtain ⟨p, xs, rfl, hq, hx, rx⟩ := locA rel ra (show stoL S l = some ds by unfold stoL; rw [e1])
          have rb : Rp X.K T W.F i (.int k) := rb
          cases rb
          rw [← rx.length] at hj
          exact set_list pins s σ H (.ref p) (.int k) v ov iv u Q I ro ri rv ⟨p, xs, k, j, rfl, rfl, hx, hj, setU rfl post (placed rel hq (.lst (rx.set j rc)))⟩
        · exact post.elim
      · exact post.elim
    · rename_i t kvs y e1
      split at post
      · rename_i k
        split at post
        · rename_i hk
          obtain ⟨p, rfl, hq⟩ := ra
          obtain ⟨p', w, h1, h2, h3⟩ := rel.at e1
          rw [hq] at h1; cases h1
          have rb : Rp X.K T W.F i k := rb
          cases h3 with
          | dK r =>
            obtain ⟨kk, rfl, rfl⟩ := keyK hk.1 rb
            exact set_dict (by omega) pins s σ H (.ref p) (kV kk) v ov iv u Q I ro ri rv ⟨p, _, rfl, DPut.k h2 (by rw [r.length]; exact hk.2), setU rfl post (placed rel hq (.dK (r.put kk rc)))⟩
          | dT z r =>
            obtain ⟨q, ks, rfl, hb, rfl⟩ := keyT z hk.1 rb
            exact set_dict (by omega) pins s σ H (.ref p) (.ref q) v ov iv u Q I ro ri rv ⟨p, _, rfl, DPut.t h2 (rel.sub _ _ hb) (by rw [r.length]; exact hk.2), setU rfl post (placed rel hq (.dT z (r.put ks rc)))⟩
        · exact post.elim
      · exact post.elim
    · exact post.elim
  · exact post.elim

/-! ### fields -/
theorem lookup_rps {F : Hp} {f : Str} {y : D} : ∀ {ns : List Str} {xs : List V} {ds : List D}, Rps X.K T F xs ds → (ns.zip ds).lookup f = some y → ∃ v, (ns.zip xs).lookup f = some v ∧ Rp X.K T F v y
  | [], _, _, _, h => by simp at h
  | _ :: _, _, _, .nil, h => by simp at h
  | n :: ns, x :: xs, d :: ds, .cons r rs, h => by
    rw [List.zip_cons_cons, List.lookup_cons] at h ⊢
    cases e : f == n with
    | true => rw [e] at h; cases h; exact ⟨x, rfl, r⟩
    | false => rw [e] at h; exact lookup_rps rs h
/-- the fields of class n may be asked -/
structure FieldOk (K : PySem.W.Frag) (C : Addr) (f : Str) : Prop where
  cl : Cls K C
  no : NoAttr K C f
theorem sdFld {o : Expr} {eo : Mi.E} {f : Str} {n : Nat} {pos : Pos} (ho : PE X o (rdE X.K T E Φ eo)) (hb : noCall o = true) (fo : FieldOk X.K (T.fa n) f) : PE X (.Attribute o f pos) (rdE X.K T E Φ (.fld eo n f)) := by
  refine peImp (pe_fld ho (noCall_base hb _ _)) fun σ H Q h => ?_
  obtain ⟨W, S, δ, rel, sl, post⟩ := h
  rw [← postR] at post
  refine (stepA rel sl post).imp fun x H1 ⟨a, S1, F1, e1, rel1, sl1, ra, q⟩ => ?_
  rw [postR] at q
  unfold fldop at q
  split at q
  · rename_i c fs
    split at q
    · rename_i hc
      subst hc
      have ra : Rp X.K T F1 x (.obj c fs) := ra
      cases ra with
      | @obj p dx _ xs _ m h1 hl rx =>
        cases hy : (((T.cl c).zip fs).lookup f) with
        | none => rw [hy] at q; exact q.elim
        | some y =>
          rw [hy] at q
          obtain ⟨v, hv, rv⟩ := lookup_rps rx hy
          exact ⟨p, _, dx, _, v, rfl, rel1.sub _ _ h1, fo.cl, fo.no, hv, q.here rel1 rv⟩
    · exact q.elim
  · rename_i l
    split at q
    · rename_i c fs e2
      split at q
      · rename_i hc
        subst hc
        obtain ⟨p, rfl, hp⟩ := ra
        obtain ⟨p', w, h1, h2, h3⟩ := rel1.at e2
        rw [hp] at h1; cases h1
        cases h3 with
        | @ins _ dx ns xs ds m hl rx =>
          cases hy : ((ns.zip ds).lookup f) with
          | none => rw [hy] at q; exact q.elim
          | some y =>
            rw [hy] at q
            obtain ⟨v, hv, rv⟩ := lookup_rps rx hy
            exact ⟨p, _, dx, _, v, rfl, h2, fo.cl, fo.no, hv, q.here rel1 rv⟩
      · exact q.elim
    · exact q.elim
  · exact q.elim
end
end Mi

set_option Elab.async false
set_option linter.all false
set_option maxRecDepth 100000
set_option maxHeartbeats 1000000
/-! MiM: expressions, case by case. -/
namespace Mi
open PySem PySem.Spec PyProof.Rows L2
/-- a callee's promise -/
def rdF (K : PySem.W.Frag) (T : Tb) (E : XK) (φ : List R → Sto → Res R) : List V → Hp → VK → Prop := fun xs H Q => ∃ W S rs, Rel K T W S H ∧ RpAs K T W rs xs ∧ Post K T E W (φ rs S) Q
/-- in whatever context that is like X -/
def CalleeOk (X : Cx) (T : Tb) (a : Addr) (φ : List R → Sto → Res R) : Prop :=
  ∀ (Y : Cx) (E : XK), Y.prog = X.prog → Y.w = X.w → Y.K = X.K → Y.mg = X.mg → Y.base = X.base → Y.A = X.A → Passes (L2.CX Y.prog Y.w) Y E → CallR Y (.ref a) (rdF Y.K T E φ)
def Es.len : Es → Nat
  | .nil => 0
  | .cons _ es => es.len + 1
section
variable {z : Bool} {cl : Cl} {Φ : Phi} {δ : Env}
theorem evs_length : ∀ {es : Es} {S S' : Sto} {ds : List D}, evs z cl Φ es δ S = .ok ds S' → ds.length = es.len
  | .nil, S, S', ds, h => by
    simp only [evs] at h
    cases h; rfl
  | .cons e es, S, S', ds, h => by
    simp only [evs] at h
    obtain ⟨_, _, _, h⟩ := andThen_inv h
    obtain ⟨_, _, _, h⟩ := andThen_inv h
    obtain ⟨_, _, e3, h⟩ := andThen_inv h
    cases h
    show _ + 1 = _ + 1
    rw [evs_length e3]
end
section
variable {X : Cx} {T : Tb} {E : XK} {Φ : Phi} {W : Wd} {S : Sto} {H : Hp} {Q : VK} {σ : L2.St} {a b c : Mi.E} {x y w : Expr} {pos : Pos}
abbrev Sd (X : Cx) (T : Tb) (E : XK) (Φ : Phi) (e : Mi.E) (x : Expr) : Prop := PE X x (rdE X.K T E Φ e)
abbrev St' (X : Cx) (T : Tb) (E : XK) (Φ : Phi) (e : Mi.E) (x : Expr) : Prop := PT X x (rdT X.K T E Φ e)

/-! ### names, constants -/
theorem cVar {i : Nat} {n : Str} (hN : X.N[i]? = some n) (hv : Vis X.env.scope n) (h1 : (n == ("__debug__" : Str)) = false) (h2 : (n == ("__classdict__" : Str)) = false) : Sd X T E Φ (.var i) (.Name n pos) := by
  refine peImp (pe_var hN hv h1 h2) fun σ H Q ⟨W, S, δ, rel, sl, post⟩ => ?_
  simp only [ev] at post
  cases e : δ.get i with
  | none => rw [e] at post; exact post.elim
  | some r =>
    rw [e] at post
    obtain ⟨v, hv, rv⟩ := sl.at_ i r e
    exact ⟨v, hv, post.here rel (RpA.r rv)⟩
theorem cLit {d : D} {v : V} (h : PE X x (tC v)) (hd : ∀ F, Rp X.K T F v d) : Sd X T E Φ (.lit d) x := by
  refine peImp h fun σ H Q ⟨W, S, δ, rel, sl, post⟩ => ?_
  exact post.here rel (hd _)
theorem cGlb {n : Str} {d : D} {v : V} {u : Value} (hg : Gl X n) (hm : X.mg n = some u) (r : RelV v u) (hd : ∀ F, Rp X.K T F v d) (h1 : (n == ("__debug__" : Str)) = false) : Sd X T E Φ (.glb n d) (.Name n pos) := by
  refine peImp (pe_glob hg hm r h1) fun σ H Q ⟨W, S, δ, rel, sl, post⟩ => ?_
  exact post.here rel (hd _)

/-! ### operations -/
theorem cBin {o : BO} (ha : Sd X T E Φ a x) (hb : Sd X T E Φ b y) : Sd X T E Φ (.bin o a b) (.BinOp x o.py y pos) := by
  refine peImp (pe_op (op_bin (E := E) (T := T) o) ha hb) fun σ H Q ⟨W, S, δ, rel, sl, post⟩ => ?_
  rw [← postR] at post
  refine (stepA rel sl post).imp fun v H1 ⟨p, S1, F1, e1, rel1, sl1, rp, q⟩ => (stepA rel1 sl1 q).imp fun u H2 ⟨r, S2, F2, e2, rel2, sl2, rr, q2⟩ => ?_
  rw [postR] at q2
  exact ⟨_, S2, p, r, rel2, rp.ext (W := W.wF F1) e2, rr, q2⟩
theorem cNeg (ha : Sd X T E Φ a x) : Sd X T E Φ (.neg a) (.UnaryOp .USub x pos) := by
  refine peImp (pe_un un_neg ha) fun σ H Q ⟨W, S, δ, rel, sl, post⟩ => ?_
  rw [← postR] at post
  refine (stepR rel sl post).imp fun v H1 ⟨r, S1, F1, e1, rel1, sl1, rp, q⟩ => ?_
  rw [postR] at q
  split at q
  · rename_i i
    have rp : Rp X.K T F1 v (.int i) := rp
    cases rp
    exact ⟨i, rfl, q.here rel1 (Rp.int _)⟩
  · exact q.elim
theorem cNot (ha : Sd X T E Φ a x) : Sd X T E Φ (.not a) (.UnaryOp .Not x pos) := by
  refine peImp (pe_not ha) fun σ H Q ⟨W, S, δ, rel, sl, post⟩ => ?_
  rw [← postR] at post
  refine (stepB rel sl post).imp fun v H1 ⟨k, S1, F1, e1, rel1, sl1, hv, q⟩ => ⟨k, hv, ?_⟩
  rw [postR] at q
  exact q.here rel1 (Rp.bl _)
theorem cCmp (hu : X.A.units + 80 < cLine) {o : CO} (ha : Sd X T E Φ a x) (hb : Sd X T E Φ b y) (hm : noSet y = true) : Sd X T E Φ (.cmp o a b) (.Compare x [o.py] [y] pos) := by
  refine peImp (pe_cmpR (op_cmp (E := E) (T := T) o hu) ha hb (noSet_mark hm _)) fun σ H Q ⟨W, S, δ, rel, sl, post⟩ => ?_
  rw [← postR] at post
  refine (stepA rel sl post).imp fun v H1 ⟨p, S1, F1, e1, rel1, sl1, rp, q⟩ => (stepA rel1 sl1 q).imp fun u H2 ⟨r, S2, F2, e2, rel2, sl2, rr, q2⟩ => ?_
  rw [postR] at q2
  exact ⟨_, S2, p, r, rel2, rp.ext (W := W.wF F1) e2, rr, q2⟩
theorem cmp_bl {o : CO} {p q r : R} {S S' : Sto} (h : cmpop o p q S = .ok r S') : S' = S ∧ ∃ k, r = .d (.bl k) := by
  unfold cmpop at h
  cases e : cmpB o p q S with
  | none => rw [e] at h; cases h
  | some k => rw [e] at h; cases h; exact ⟨rfl, k, rfl⟩
theorem chn_red {o o' : CO} {σ : L2.St} {H : Hp} {Q : VK} (h : rdE X.K T E Φ (.chn o o' a b c) σ H Q) : tChain (rdO X.K T E (cmpop o)) (rdO X.K T E (cmpop o')) (rdE X.K T E Φ a) (rdE X.K T E Φ b) (rdE X.K T E Φ c) σ H Q := by
  obtain ⟨W, S, δ, rel, sl, post⟩ := h
  rw [← postR] at post
  refine (stepA rel sl post).imp fun v H1 ⟨p, S1, F1, e1, rel1, sl1, rp, q⟩ => (stepA rel1 sl1 q).imp fun u H2 ⟨r, S2, F2, e2, rel2, sl2, rr, q2⟩ => ?_
  refine ⟨_, S2, p, r, rel2, rp.ext (W := W.wF F1) e2, rr, ?_⟩
  rw [← postR]
  refine (PostG.bind q2).imp fun t H3 ⟨kr, S3, F3, e3, rel3, rp3, q3⟩ => ?_
  cases kr with
  | d kd =>
    cases kd with
    | bl k =>
      have rp3 : Rp X.K T F3 t (.bl k) := rp3
      cases rp3
      refine ⟨k, rfl, ?_⟩
      cases k with
      | true =>
        refine (stepA rel3 (sl2.ext (W := (W.wF F1).wF F2) e3) q3).imp fun w H4 ⟨r4, S4, F4, e4, rel4, sl4, rr4, q4⟩ => ?_
        rw [postR] at q4
        exact ⟨_, S4, r, r4, rel4, (rr.ext (W := (W.wF F1).wF F2) e3).ext (W := ((W.wF F1).wF F2).wF F3) e4, rr4, q4⟩
      | false =>
        have q3 : PostG X.K T E (fun W H => RpR X.K T W H) _ (.ok (.d (.bl false)) S3) Q := q3
        rw [postR] at q3
        exact q3.here rel3 (Rp.bl _)
    | _ => exact q3.elim
  | _ => exact q3.elim
theorem cChn (hu : X.A.units + 80 < cLine) {o o' : CO} (ha : Sd X T E Φ a x) (hb : Sd X T E Φ b y) (hc : Sd X T E Φ c w) (hm : noSet w = true) : Sd X T E Φ (.chn o o' a b c) (.Compare x [o.py, o'.py] [y, w] pos) :=
  peImp (pe_chain (op_cmp (E := E) (T := T) o hu) (op_cmp (E := E) (T := T) o' hu) ha hb hc (noSet_mark hm _)) fun σ H Q h => chn_red h
theorem cAnd {r : List Expr} (ha : Sd X T E Φ a x) (hb : Sd X T E Φ b (.BoolOp .And (y :: r) pos)) : Sd X T E Φ (.and a b) (.BoolOp .And (x :: y :: r) pos) := by
  refine peImp (pe_and ha hb) fun σ H Q ⟨W, S, δ, rel, sl, post⟩ => ?_
  rw [← postR] at post
  refine (stepB rel sl post).imp fun v H1 ⟨k, S1, F1, e1, rel1, sl1, hv, q⟩ => ⟨k, hv, ?_⟩
  rw [postR] at q
  cases k with
  | true => exact ⟨_, S1, δ, rel1, sl1, q⟩
  | false => exact q.here rel1 (Rp.bl _)
theorem cOr {r : List Expr} (ha : Sd X T E Φ a x) (hb : Sd X T E Φ b (.BoolOp .Or (y :: r) pos)) : Sd X T E Φ (.or a b) (.BoolOp .Or (x :: y :: r) pos) := by
  refine peImp (pe_or ha hb) fun σ H Q ⟨W, S, δ, rel, sl, post⟩ => ?_
  rw [← postR] at post
  refine (stepB rel sl post).imp fun v H1 ⟨k, S1, F1, e1, rel1, sl1, hv, q⟩ => ⟨k, hv, ?_⟩
  rw [postR] at q
  cases k with
  | true => exact q.here rel1 (Rp.bl _)
  | false => exact ⟨_, S1, δ, rel1, sl1, q⟩
theorem cIte (hc : St' X T E Φ c w) (ha : Sd X T E Φ a x) (hb : Sd X T E Φ b y) : Sd X T E Φ (.ite c a b) (.IfExp w x y pos) := by
  refine peImp (pe_ifExp hc ha hb) fun σ H Q ⟨W, S, δ, rel, sl, post⟩ => ?_
  rw [← postR] at post
  refine (stepT rel sl post).imp fun k H1 ⟨S1, F1, e1, rel1, sl1, q⟩ => ?_
  rw [postR] at q
  cases k with
  | true => exact ⟨_, S1, δ, rel1, sl1, q⟩
  | false => exact ⟨_, S1, δ, rel1, sl1, q⟩

/-! ### tests -/
theorem toB_ok {α : Type} {r : Res R} {k : Bool → Sto → Res α} : (r.andThen toB).andThen k = r.andThen fun x S => (toB x S).andThen k := by
  cases r <;> rfl
theorem tVal (ha : Sd X T E Φ a x) (hp : plainT x = true) : St' X T E Φ a x := ptImp (pt_val ha (plainT_is hp _)) fun σ H Q h => rdT_of h
theorem tNotV (ha : St' X T E Φ a x) : St' X T E Φ (.not a) (.UnaryOp .Not x pos) := by
  refine ptImp (pt_not ha) fun σ H Q ⟨W, S, δ, rel, sl, post⟩ => ?_
  have post : PostG X.K T E pEq W (((ev T.z T.cl Φ a δ S).andThen fun x S => (toB x S).andThen fun b S => .ok (.d (.bl (!b))) S).andThen toB) Q := post
  have post' : PostG X.K T E pEq W ((ev T.z T.cl Φ a δ S).andThen fun x S => (toB x S).andThen fun b S => .ok (!b) S) Q := by
    cases h : ev T.z T.cl Φ a δ S with
    | ok r S1 =>
      rw [h] at post
      show PostG X.K T E pEq W ((toB r S1).andThen _) Q
      have post : PostG X.K T E pEq W (((toB r S1).andThen fun b S => .ok (.d (.bl (!b))) S).andThen toB) Q := post
      revert post
      cases toB r S1 <;> exact fun h => h
    | exc e S1 => rw [h] at post; exact post
    | bad => rw [h] at post; exact post
  exact (stepT rel sl post').imp fun k H1 ⟨S1, F1, e1, rel1, sl1, q⟩ => q _ H1 _ (Ext.refl _) rel1 rfl
theorem tCmpV (hu : X.A.units + 80 < cLine) {o : CO} (ha : Sd X T E Φ a x) (hb : Sd X T E Φ b y) (hm : noSet y = true) : St' X T E Φ (.cmp o a b) (.Compare x [o.py] [y] pos) := by
  refine ptImp (pt_cmpR (op_cmp (E := E) (T := T) o hu) ha hb (noSet_mark hm _)) fun σ H Q h => ?_
  obtain ⟨W, S, δ, rel, sl, post⟩ := rdT_of h
  rw [← postR] at post
  refine (stepA rel sl post).imp fun v H1 ⟨p, S1, F1, e1, rel1, sl1, rp, q⟩ => (stepA rel1 sl1 q).imp fun u H2 ⟨r, S2, F2, e2, rel2, sl2, rr, q2⟩ => ?_
  rw [postR] at q2
  exact ⟨_, S2, p, r, rel2, rp.ext (W := W.wF F1) e2, rr, q2⟩
theorem tChnV (hu : X.A.units + 80 < cLine) {o o' : CO} (ha : Sd X T E Φ a x) (hb : Sd X T E Φ b y) (hc : Sd X T E Φ c w) (hm : noSet w = true) : St' X T E Φ (.chn o o' a b c) (.Compare x [o.py, o'.py] [y, w] pos) :=
  ptImp (pt_chain (op_cmp (E := E) (T := T) o hu) (op_cmp (E := E) (T := T) o' hu) ha hb hc (noSet_mark hm _)) fun σ H Q h => chn_red (rdT_of h)
/-- a test whatever its whole is -/
abbrev Sw (X : Cx) (T : Tb) (E : XK) (Φ : Phi) (e : Mi.E) (x : Expr) : Prop := PW X x (rdT X.K T E Φ e)
theorem pwImp {x : Expr} {t t' : TT} (h : PW X x t) (i : ∀ σ H Q, t' σ H Q → t σ H Q) : PW X x t' := ⟨fun wh pins st σ H Q I q => h.run wh pins st σ H Q I (i σ H Q q)⟩
theorem and_red {σ : L2.St} {H : Hp} {Q : Bool → Hp → Prop} (h : rdT X.K T E Φ (.and a b) σ H Q) : tAnd (rdT X.K T E Φ a) (rdT X.K T E Φ b) σ H Q := by
  obtain ⟨W, S, δ, rel, sl, post⟩ := h
  have post' : PostG X.K T E pEq W ((ev T.z T.cl Φ a δ S).andThen fun x S => (toB x S).andThen fun k S => if k = true then (ev T.z T.cl Φ b δ S).andThen toB else .ok false S) Q := by
    have post : PostG X.K T E pEq W (((ev T.z T.cl Φ a δ S).andThen fun x S => (toB x S).andThen fun k S => if k = true then ev T.z T.cl Φ b δ S else .ok (.d (.bl false)) S).andThen toB) Q := post
    cases h : ev T.z T.cl Φ a δ S with
    | ok r S1 =>
      rw [h] at post
      show PostG X.K T E pEq W ((toB r S1).andThen _) Q
      have post : PostG X.K T E pEq W (((toB r S1).andThen fun k S => if k = true then ev T.z T.cl Φ b δ S else .ok (.d (.bl false)) S).andThen toB) Q := post
      revert post
      cases toB r S1 with
      | ok k S2 => cases k <;> exact fun h => h
      | exc e S2 => exact fun h => h
      | bad => exact fun h => h
    | exc e S1 => rw [h] at post; exact post
    | bad => rw [h] at post; exact post
  refine (stepT rel sl post').imp fun k H1 ⟨S1, F1, e1, rel1, sl1, q⟩ => ?_
  cases k with
  | true => exact ⟨_, S1, δ, rel1, sl1, q⟩
  | false => exact q _ H1 _ (Ext.refl _) rel1 rfl
theorem or_red {σ : L2.St} {H : Hp} {Q : Bool → Hp → Prop} (h : rdT X.K T E Φ (.or a b) σ H Q) : tOr (rdT X.K T E Φ a) (rdT X.K T E Φ b) σ H Q := by
  obtain ⟨W, S, δ, rel, sl, post⟩ := h
  have post' : PostG X.K T E pEq W ((ev T.z T.cl Φ a δ S).andThen fun x S => (toB x S).andThen fun k S => if k = true then .ok true S else (ev T.z T.cl Φ b δ S).andThen toB) Q := by
    have post : PostG X.K T E pEq W (((ev T.z T.cl Φ a δ S).andThen fun x S => (toB x S).andThen fun k S => if k = true then .ok (.d (.bl true)) S else ev T.z T.cl Φ b δ S).andThen toB) Q := post
    cases h : ev T.z T.cl Φ a δ S with
    | ok r S1 =>
      rw [h] at post
      show PostG X.K T E pEq W ((toB r S1).andThen _) Q
      have post : PostG X.K T E pEq W (((toB r S1).andThen fun k S => if k = true then .ok (.d (.bl true)) S else ev T.z T.cl Φ b δ S).andThen toB) Q := post
      revert post
      cases toB r S1 with
      | ok k S2 => cases k <;> exact fun h => h
      | exc e S2 => exact fun h => h
      | bad => exact fun h => h
    | exc e S1 => rw [h] at post; exact post
    | bad => rw [h] at post; exact post
  refine (stepT rel sl post').imp fun k H1 ⟨S1, F1, e1, rel1, sl1, q⟩ => ?_
  cases k with
  | true => exact q _ H1 _ (Ext.refl _) rel1 rfl
  | false => exact ⟨_, S1, δ, rel1, sl1, q⟩
theorem wAnd {r : List Expr} (ha : St' X T E Φ a x) (hb : Sw X T E Φ b (.BoolOp .And (y :: r) pos)) : Sw X T E Φ (.and a b) (.BoolOp .And (x :: y :: r) pos) := pwImp (pw_and ha hb) fun σ H Q h => and_red h
theorem wOr {r : List Expr} (ha : St' X T E Φ a x) (hb : Sw X T E Φ b (.BoolOp .Or (y :: r) pos)) : Sw X T E Φ (.or a b) (.BoolOp .Or (x :: y :: r) pos) := pwImp (pw_or ha hb) fun σ H Q h => or_red h

/-! ### displays, arguments -/
abbrev Sds (X : Cx) (T : Tb) (E : XK) (Φ : Phi) (es : Es) (xs : List Expr) : Prop := PA X xs (rdD X.K T E Φ es)
abbrev Sas (X : Cx) (T : Tb) (E : XK) (Φ : Phi) (es : Es) (xs : List Expr) : Prop := PA X xs (rdA X.K T E Φ es)
theorem cDs0 : Sds X T E Φ .nil [] := by
  refine paImp pa_nil fun σ H Q ⟨W, S, δ, rel, sl, post⟩ => ?_
  have post : PostG X.K T E (fun W _ ds vs => Rps X.K T W.F vs ds) W (.ok [] S) Q := post
  exact post W.F H [] (Ext.refl _) rel .nil
theorem cDs {es : Es} {xs : List Expr} (h : Sd X T E Φ a x) (hs : Sds X T E Φ es xs) (hn : noStar x = true) : Sds X T E Φ (.cons a es) (x :: xs) := by
  refine paImp (pa_cons h hs (star_cons hn _ _)) fun σ H Q ⟨W, S, δ, rel, sl, post⟩ => ?_
  refine (stepD rel sl post).imp fun v H1 ⟨d, S1, F1, e1, rel1, sl1, rp, q⟩ => ⟨_, S1, δ, rel1, sl1, (PostG.bind q).imp fun vs H2 ⟨ds, S2, F2, e2, rel2, rps, q2⟩ => ?_⟩
  exact q2 F2 H2 (v :: vs) (Ext.refl _) rel2 (.cons (rp.ext e2) rps)
theorem cAs0 : Sas X T E Φ .nil [] := by
  refine paImp pa_nil fun σ H Q ⟨W, S, δ, rel, sl, post⟩ => ?_
  have post : PostG X.K T E (fun W _ ds vs => RpAs X.K T W ds vs) W (.ok [] S) Q := post
  exact post W.F H [] (Ext.refl _) rel .nil
theorem cAs {es : Es} {xs : List Expr} (h : Sd X T E Φ a x) (hs : Sas X T E Φ es xs) (hn : noStar x = true) : Sas X T E Φ (.cons a es) (x :: xs) := by
  refine paImp (pa_cons h hs (star_cons hn _ _)) fun σ H Q ⟨W, S, δ, rel, sl, post⟩ => ?_
  refine (stepA rel sl post).imp fun v H1 ⟨d, S1, F1, e1, rel1, sl1, rp, q⟩ => ⟨_, S1, δ, rel1, sl1, (PostG.bind q).imp fun vs H2 ⟨ds, S2, F2, e2, rel2, rps, q2⟩ => ?_⟩
  exact q2 F2 H2 (v :: vs) (Ext.refl _) rel2 (.cons (rp.ext (W := W.wF F1) e2) rps)
/-- the display's items, how many they are -/
theorem ds_len {es : Es} {σ : L2.St} {H : Hp} {γ δ' : Type} {P' : Wd → Hp → γ → δ' → Prop} {Q : δ' → Hp → Prop} {k : List D → Sto → Res γ} {δ : Env} (rel : Rel X.K T W S H) (sl : Slots X.K T W σ δ) (h : PostG X.K T E P' W ((evs T.z T.cl Φ es δ S).andThen k) Q) :
    rdD X.K T E Φ es σ H fun vs H1 => ∃ ds S' F, Ext W.F F ∧ Rel X.K T (W.wF F) S' H1 ∧ Rps X.K T F vs ds ∧ vs.length = es.len ∧ PostG X.K T E P' (W.wF F) (k ds S') Q := by
  refine ⟨W, S, δ, rel, sl, ?_⟩
  cases e : evs T.z T.cl Φ es δ S with
  | ok ds S1 =>
    rw [e] at h
    exact fun F H1 vs ex rel1 rp => ⟨ds, S1, F, ex, rel1, rp, by rw [rp.length, evs_length e], h.mono ex⟩
  | exc y S1 => rw [e] at h; exact h
  | bad => rw [e] at h; exact h
theorem cTup {es : Es} {xs : List Expr} {k : Nat} (hs : Sds X T E Φ es xs) (hl : es.len ≤ sizeLine) : Sd X T E Φ (.tup es) (.Tuple xs k pos) := by
  refine peImp (peTup T.z hs) fun σ H Q ⟨W, S, δ, rel, sl, post⟩ => ?_
  rw [← postR] at post
  obtain ⟨W', S', δ', r1, r2, p⟩ := ds_len rel sl post
  refine ⟨W', S', δ', r1, r2, p.imp fun vs H1 ⟨ds, S1, F1, e1, rel1, rp, hn, q⟩ => ⟨by rw [hn]; exact hl, ?_⟩⟩
  rw [postR] at q
  exact Post.tup q rel1 rp
theorem cLst {es : Es} {xs : List Expr} (hs : Sds X T E Φ es xs) (hl : es.len ≤ sizeLine) : Sd X T E Φ (.lst es) (.List xs pos) := by
  refine peImp (pe_lst hs) fun σ H Q ⟨W, S, δ, rel, sl, post⟩ => ?_
  rw [← postR] at post
  obtain ⟨W', S', δ', r1, r2, p⟩ := ds_len rel sl post
  refine ⟨W', S', δ', r1, r2, p.imp fun vs H1 ⟨ds, S1, F1, e1, rel1, rp, hn, q⟩ => ⟨by rw [hn]; exact hl, ?_⟩⟩
  rw [postR] at q
  exact Post.lst q rel1 rp
theorem cDic0 {t : Bool} : Sd X T E Φ (.dic0 t) (.Dict [] [] pos) := by
  cases t with
  | false =>
    refine peImp pe_dnewK fun σ H Q ⟨W, S, δ, rel, sl, post⟩ => ?_
    have post : Post X.K T E W (if (T.z && false) = true then .bad else .ok (.fd false []) S) Q := post
    rw [Bool.and_false] at post
    exact Post.dic post rel (.dK .nil)
  | true =>
    refine peImp pe_dnewT fun σ H Q ⟨W, S, δ, rel, sl, post⟩ => ?_
    have post : Post X.K T E W (if (T.z && true) = true then .bad else .ok (.fd true []) S) Q := post
    rw [Bool.and_true] at post
    split at post
    · exact post.elim
    · rename_i hz
      exact Post.dic post rel (.dT (by simpa using hz) .nil)

/-! ### calls -/
theorem cCall {es : Es} {xs : List Expr} {n : Nat} {f : Str} {p : Pos} (hg : Gl X f) (hm : X.mg f = some (.ref (T.fa n))) (hk : PySem.W.keepIn X.K (.ref (T.fa n)) = true) (hd : (f == ("__debug__" : Str)) = false) (hc : CalleeOk X T (T.fa n) (Φ n)) (hp : Passes (L2.CX X.prog X.w) X E)
    (hs : Sas X T E Φ es xs) (hn : xs.all noStar = true) (hl : es.len = xs.length) : Sd X T E Φ (.call n es) (.Call (.Name f p) xs [] pos) := by
  have hcc := hc X E rfl rfl rfl rfl rfl rfl hp
  refine ⟨fun pins st σ H Q I ⟨W, S, δ, rel, sl, post⟩ => ?_⟩
  rw [← postR] at post
  refine wpAny_Call_Name_kw (ld_glob I hg hm ?_ hd)
  have ha : rdA X.K T E Φ es σ H (fun vs H1 => rdF X.K T E (Φ n) vs H1 Q) := by
    refine ⟨W, S, δ, rel, sl, (PostG.bind post).imp fun vs H1 ⟨rs, S1, F1, e1, rel1, rp, q⟩ => ?_⟩
    rw [postR] at q
    exact ⟨_, S1, rs, rel1, rp, q⟩
  cases xs with
  | nil =>
    refine PySem.W.callWith_K0 I.kIn hk ?_
    have hrun := hs.run pos pins st σ H _ I ha
    cases es with
    | nil =>
      have q : PostG X.K T E (fun W _ ds vs => RpAs X.K T W ds vs) W (.ok [] S) (fun vs H1 => rdF X.K T E (Φ n) vs H1 Q) := by
        refine (PostG.bind (r := (.ok [] S : Res (List R))) post).imp fun vs H1 ⟨rs, S1, F1, e1, rel1, rp, q⟩ => ?_
        rw [postR] at q
        exact ⟨_, S1, rs, rel1, rp, q⟩
      exact hcc pins st σ H [] [] Q I .nil (q W.F H [] (Ext.refl _) rel .nil)
    | cons e es' =>
      cases hl
  | cons x0 xs' =>
    rw [List.all_cons, Bool.and_eq_true] at hn
    refine PySem.W.callWith_K (h₀ := X.base) I.ok.mod.kin hk (thn (hs.run pos pins st σ H _ I ha) fun us s1 ⟨vs, H1, I1, r, q⟩ => ⟨I1.kIn, ?_⟩) (star_cons hn.1 _ _) (back_plain hn.2)
    exact hcc pins s1 σ H1 vs us Q I1 r q
end
end Mi

set_option Elab.async false
set_option linter.all false
set_option maxRecDepth 100000
set_option maxHeartbeats 1000000
/-! MiN: built-ins, subscripts, comprehensions, what is walked: case by case. -/
namespace Mi
open PySem PySem.Spec PyProof.Rows L2
section
variable {X : Cx} {T : Tb} {E : XK} {Φ : Phi} {W : Wd} {S : Sto} {H : Hp} {Q : VK} {σ : L2.St} {a b c : Mi.E} {x y w : Expr} {pos p p2 : Pos}
/-! ### built-ins -/
def B1.fine : B1 → Bool
  | .max .i => true
  | .max _ => false
  | _ => true
theorem b1_call (un : X.A.units + 80 < cLine) (hc : X.calm = true) {o : B1} (h : o.fine = true) : CallR X o.val (rdB X.K T E (b1op o)) := by
  cases o with
  | len => exact call_len
  | all => exact call_allany hc (.inl rfl)
  | any => exact call_allany hc (.inr rfl)
  | tuple => exact call_tuple
  | list => exact call_list
  | int => exact call_int
  | abs => exact call_absV
  | sum => exact call_sum hc
  | sorted sh => exact call_sorted un sh
  | min sh => exact call_min un hc sh
  | max sh =>
    cases sh with
    | i => exact call_max un hc .i rfl
    | _ => cases h
theorem b1_boot : ∀ {o : B1}, o.fine = true → bootBuiltins o.nm = some o.val
  | .len, _ => boot_len
  | .all, _ => boot_all
  | .any, _ => boot_any
  | .tuple, _ => boot_tuple
  | .list, _ => boot_list
  | .int, _ => boot_int
  | .abs, _ => boot_abs
  | .sum, _ => boot_sum
  | .sorted _, _ => boot_sorted
  | .min _, _ => boot_min
  | .max _, _ => boot_max
/-- a known callable of one argument -/
theorem peCall1 {f : Str} {v : Value} {r : List V → Hp → VK → Prop} {tx : TE} (hv : (∃ id, v = .builtin id) ∨ ∃ t, v = .type t) (hc : CallR X v r) (hg : Gl X f) (hm : X.mg f = none) (hb : bootBuiltins f = some v) (hn : f ≠ "__name__") (hd : (f == ("__debug__" : Str)) = false) (hs : noStar x = true)
    (hx : PE X x tx) : PE X (.Call (.Name f p) [x] [] pos) (fun σ H Q => tx σ H fun u H1 => r [u] H1 Q) := by
  have pa : PA X [x] (tCons tx tNil) := pa_cons hx pa_nil (star_cons hs _ _)
  rcases hv with ⟨id, rfl⟩ | ⟨t, rfl⟩
  · exact peImp (pe_callB hc hg hm hb pa hn hd (star_cons hs _ _) rfl) fun σ H Q h => h
  · exact peImp (pe_callTy hc hg hm hb pa hn hd (star_cons hs _ _) rfl) fun σ H Q h => h
theorem cB1 (un : X.A.units + 80 < cLine) {o : B1} {f : Str} (ho : o.fine = true) (hf : f = o.nm) (hc : X.calm = true) (hg : Gl X f) (hm : X.mg f = none) (hn : f ≠ "__name__") (hd : (f == ("__debug__" : Str)) = false) (hs : noStar x = true) (hx : Sd X T E Φ a x) :
    Sd X T E Φ (.b1 o a) (.Call (.Name f p) [x] [] pos) := by
  have hv : (∃ id, o.val = .builtin id) ∨ ∃ t, o.val = .type t := by
    cases o <;> first | exact .inl ⟨_, rfl⟩ | exact .inr ⟨_, rfl⟩
  refine peImp (peCall1 hv (b1_call (E := E) (T := T) un hc ho) hg hm (by rw [hf]; exact b1_boot ho) hn hd hs hx) fun σ H Q ⟨W, S, δ, rel, sl, post⟩ => ?_
  rw [← postR] at post
  refine (stepR rel sl post).imp fun v H1 ⟨r, S1, F1, e1, rel1, sl1, rp, q⟩ => ?_
  rw [postR] at q
  exact ⟨_, S1, r, v, rfl, rel1, rp, q⟩
theorem b2_boot : ∀ {o : B2}, bootBuiltins o.nm = some o.val
  | .min => boot_min
  | .max => boot_max
theorem cB2 {o : B2} {f : Str} (hf : f = o.nm) (hc : X.calm = true) (hg : Gl X f) (hm : X.mg f = none) (hn : f ≠ "__name__") (hd : (f == ("__debug__" : Str)) = false) (hs : noStar x = true) (hs2 : noStar y = true) (hx : Sd X T E Φ a x) (hy : Sd X T E Φ b y) :
    Sd X T E Φ (.b2 o a b) (.Call (.Name f p) [x, y] [] pos) := by
  have pa : PA X [x, y] (tCons (rdE X.K T E Φ a) (tCons (rdE X.K T E Φ b) tNil)) := pa_cons hx (pa_cons hy pa_nil (star_cons hs2 _ _)) (star_cons hs _ _)
  have hpl : (backTo pos (starEach [y] X.env)).any (·.1) = false := back_plain (by simp [hs2])
  have h0 : PE X (.Call (.Name f p) [x, y] [] pos) (tCB (rdC X.K T E (b2op o)) (tCons (rdE X.K T E Φ a) (tCons (rdE X.K T E Φ b) tNil))) := by
    cases o with
    | min => exact pe_callB (call_b2 (E := E) (T := T) hc .min) hg hm (by rw [hf]; exact boot_min) pa hn hd (star_cons hs _ _) hpl
    | max => exact pe_callB (call_b2 (E := E) (T := T) hc .max) hg hm (by rw [hf]; exact boot_max) pa hn hd (star_cons hs _ _) hpl
  refine peImp h0 fun σ H Q ⟨W, S, δ, rel, sl, post⟩ => ?_
  rw [← postR] at post
  refine (stepA rel sl post).imp fun v H1 ⟨r, S1, F1, e1, rel1, sl1, rp, q⟩ => (stepA rel1 sl1 q).imp fun u H2 ⟨r2, S2, F2, e2, rel2, sl2, rp2, q2⟩ => ?_
  rw [postR] at q2
  exact ⟨_, S2, r, r2, v, u, rfl, rel2, rp.ext (W := W.wF F1) e2, rp2, q2⟩

/-! ### ranges -/
/-- two bounds -/
def rdRg (K : PySem.W.Frag) (T : Tb) (E : XK) (Φ : Phi) (a b : Mi.E) : L2.St → Hp → (Int → Int → Hp → Prop) → Prop := fun σ H Q => ∃ W S δ, Rel K T W S H ∧ Slots K T W σ δ ∧
  PostG K T E (fun _ _ (p : Int × Int) q => p = q) W ((ev T.z T.cl Φ a δ S).andThen fun x S => (ev T.z T.cl Φ b δ S).andThen fun y S => twoI x y S) (fun p H => Q p.1 p.2 H)
theorem int_inv {r : R} {i : Int} (h : r.int = some i) : r = .d (.int i) := by
  unfold R.int at h
  split at h
  · cases h; rfl
  · cases h
theorem twoI_inv {W : Wd} {E : XK} {r1 r2 : R} {S : Sto} {Q : Int × Int → Hp → Prop} (h : PostG X.K T E (fun _ _ (p : Int × Int) q => p = q) W (twoI r1 r2 S) Q) : ∃ i j, r1 = .d (.int i) ∧ r2 = .d (.int j) ∧ PostG X.K T E (fun _ _ (p : Int × Int) q => p = q) W (.ok (i, j) S) Q := by
  unfold twoI at h
  split at h
  · rename_i i j e1 e2
    exact ⟨i, j, int_inv e1, int_inv e2, h⟩
  · exact h.elim
theorem rg_step {σ : L2.St} {H : Hp} {Q : Int → Int → Hp → Prop} (h : rdRg X.K T E Φ a b σ H Q) : rdE X.K T E Φ a σ H fun v H1 => rdE X.K T E Φ b σ H1 fun u H2 => ∃ i j, v = .int i ∧ u = .int j ∧ Q i j H2 := by
  obtain ⟨W, S, δ, rel, sl, post⟩ := h
  refine (stepR rel sl post).imp fun v H1 ⟨r, S1, F1, e1, rel1, sl1, rp, q⟩ => (stepR rel1 sl1 q).imp fun u H2 ⟨r2, S2, F2, e2, rel2, sl2, rp2, q2⟩ => ?_
  obtain ⟨i, j, rfl, rfl, q2⟩ := twoI_inv q2
  have rp : Rp X.K T F1 v (.int i) := rp
  have rp2 : Rp X.K T F2 u (.int j) := rp2
  cases rp
  cases rp2
  exact ⟨i, j, rfl, rfl, q2 F2 H2 (i, j) (Ext.refl _) rel2 rfl⟩
theorem rg_one {i0 : Int} {σ : L2.St} {H : Hp} {Q : Int → Int → Hp → Prop} (h : rdRg X.K T E Φ (.lit (.int i0)) b σ H Q) : rdE X.K T E Φ b σ H fun u H2 => ∃ j, u = .int j ∧ Q i0 j H2 := by
  obtain ⟨W, S, δ, rel, sl, post⟩ := h
  have post : PostG X.K T E (fun _ _ (p : Int × Int) q => p = q) W ((ev T.z T.cl Φ b δ S).andThen fun y S => twoI (.d (.int i0)) y S) (fun p H => Q p.1 p.2 H) := post
  refine (stepR rel sl post).imp fun u H2 ⟨r2, S2, F2, e2, rel2, sl2, rp2, q2⟩ => ?_
  obtain ⟨i, j, e, rfl, q2⟩ := twoI_inv q2
  cases e
  have rp2 : Rp X.K T F2 u (.int j) := rp2
  cases rp2
  exact ⟨j, rfl, q2 F2 H2 (i0, j) (Ext.refl _) rel2 rfl⟩
theorem rg2 {f : Str} (hf : f = "range") (hg : Gl X f) (hm : X.mg f = none) (hs : noStar x = true) (hs2 : noStar y = true) (hx : Sd X T E Φ a x) (hy : Sd X T E Φ b y) : PRg X (.Call (.Name f p) [x, y] [] pos) (rdRg X.K T E Φ a b) := by
  subst hf
  exact fun pins st σ H Q I h => prg_2 hg hm hx hy (star_cons hs _ _) (star_cons hs2 _ _) (back_plain (by simp [hs2])) pins st σ H Q I (rg_step h)
theorem rg1 {f : Str} (hf : f = "range") (hg : Gl X f) (hm : X.mg f = none) (hs2 : noStar y = true) (hy : Sd X T E Φ b y) : PRg X (.Call (.Name f p) [y] [] pos) (rdRg X.K T E Φ (.lit (.int 0)) b) := by
  subst hf
  exact fun pins st σ H Q I h => prg_1 hg hm hy (star_cons hs2 _ _) pins st σ H Q I (rg_one h)
theorem small62_ok {i : Int} (h : small62 i = true) : -(2 ^ 62) ≤ i ∧ i < 2 ^ 62 := of_decide_eq_true h
theorem rgV_eq {F : Hp} (i j : Int) : Rps X.K T F (rgV i j) (rngD i (j - i).toNat) := by
  unfold rgV rngD
  have : ∀ l : List Nat, Rps X.K T F (l.map fun k => V.int (i + (k : Nat))) (l.map fun k => D.int (i + (k : Nat))) := fun l => by
    induction l with
    | nil => exact .nil
    | cons k l ih => exact .cons (.int _) ih
  exact this _
/-- what a range's evaluation leaves -/
theorem rgs_ok {σ : L2.St} {H : Hp} {Q : VK} {g : List D → R} {δ : Env} (rel : Rel X.K T W S H) (sl : Slots X.K T W σ δ) (post : Post X.K T E W ((ev T.z T.cl Φ a δ S).andThen fun x S => (ev T.z T.cl Φ b δ S).andThen fun y S => (rngS x y S).andThen fun ds S => if ds.length ≤ lim then .ok (g ds) S else .bad) Q) :
    rdRg X.K T E Φ a b σ H fun i j H1 => RgOk i j ∧ ∃ S' F, Ext W.F F ∧ Rel X.K T (W.wF F) S' H1 ∧ Post X.K T E (W.wF F) (.ok (g (rngD i (j - i).toNat)) S') Q := by
  refine ⟨W, S, δ, rel, sl, ?_⟩
  rw [← postR] at post
  have e : ((ev T.z T.cl Φ a δ S).andThen fun x S => (ev T.z T.cl Φ b δ S).andThen fun y S => (rngS x y S).andThen fun ds S => (if ds.length ≤ lim then .ok (g ds) S else .bad : Res R)) =
      (((ev T.z T.cl Φ a δ S).andThen fun x S => (ev T.z T.cl Φ b δ S).andThen fun y S => twoI x y S).andThen fun p S => if (small62 p.1 && small62 p.2) = true then (if (rngD p.1 (p.2 - p.1).toNat).length ≤ lim then .ok (g (rngD p.1 (p.2 - p.1).toNat)) S else .bad) else .bad) := by
    cases ev T.z T.cl Φ a δ S with
    | ok r S1 =>
      show ((ev T.z T.cl Φ b δ S1).andThen _) = (((ev T.z T.cl Φ b δ S1).andThen _).andThen _)
      cases ev T.z T.cl Φ b δ S1 with
      | ok r2 S2 =>
        show ((twoI r r2 S2).andThen _).andThen _ = (twoI r r2 S2).andThen _
        cases twoI r r2 S2 with
        | ok p S3 =>
          show Res.andThen (if _ then _ else _) _ = (if _ then _ else _)
          split <;> rfl
        | exc _ _ => rfl
        | bad => rfl
      | exc _ _ => rfl
      | bad => rfl
    | exc _ _ => rfl
    | bad => rfl
  rw [e] at post
  refine (PostG.bind post).imp fun p H1 ⟨q, S1, F1, e1, rel1, hp, q1⟩ => ?_
  have hp : q = p := hp
  subst hp
  split at q1
  case isFalse => exact q1.elim
  rename_i hb
  rw [Bool.and_eq_true] at hb
  split at q1
  case isFalse => exact q1.elim
  rename_i hl
  rw [postR] at q1
  obtain ⟨b1, b2⟩ := small62_ok hb.1
  obtain ⟨b3, b4⟩ := small62_ok hb.2
  refine ⟨⟨b1, b2, b3, b4, ?_⟩, S1, F1, e1, rel1, q1⟩
  rw [rngD_length] at hl
  have := sizeLine_eq
  have hl : _ ≤ sizeLine := hl
  omega
theorem cLrng {f : Str} (hf : f = "list") (hc : X.calm = true) (hg : Gl X f) (hm : X.mg f = none) (hs : noStar x = true) (hr : PRg X x (rdRg X.K T E Φ a b)) : Sd X T E Φ (.lrng a b) (.Call (.Name f p) [x] [] pos) := by
  subst hf
  refine peImp (pe_listRg hc hg hm hr (star_cons hs _ _)) fun σ H Q ⟨W, S, δ, rel, sl, post⟩ => ?_
  obtain ⟨W', S', δ', r1, r2, p⟩ := rgs_ok (g := fun ds => .fl ds) rel sl post
  refine ⟨W', S', δ', r1, r2, p.imp fun ij H1 ⟨ok, S1, F1, e1, rel1, q⟩ => ⟨ok, Post.lst q rel1 (rgV_eq _ _)⟩⟩
theorem peTupRg {e : Expr} {te : L2.St → Hp → (Int → Int → Hp → Prop) → Prop} (z : Bool) (hc : X.calm = true) (hg : Gl X "tuple") (hm : X.mg "tuple" = none) (he : PRg X e te) (hs : noStar e = true) :
    PE X (.Call (.Name "tuple" p) [e] [] pos) (fun σ H Q => te σ H fun i j H1 => RgOk i j ∧ ∀ q o, H1 q = none → TupO z o (rgV i j) → Q (.ref q) (upd H1 q o)) := by
  refine ⟨fun pins st σ H Q I h => ?_⟩
  refine Call_ (ld_blt I hg hm boot_tuple (PyProof.Rows.callWith_type1 (args_cons (thn (he pins st σ H _ I h) fun r s1 ⟨ra, i, j, t, u, v, H1, ex, hr, I1, ok, q⟩ => args_nil ?_) (star_cons hs _ _)) (star_cons hs _ _)))
  subst ex
  obtain ⟨b1, b2, b3, b4, b5⟩ := ok
  refine call_tuple_range (n := (j - i).toNat) (I1.ok.hd hc) hr (small_one b1 b2 b3 b4) (rangeSize_nat i j) b5 fun h' tk acc hk hi => ?_
  have I2 : Inv X pins σ H1 { s1 with heap := h', toks := tk } := I1.kept hk
  have fin := EP.tup (us := acc.toList) (t' := tk) (z := z) (Q := Q) I2 (vals_rg hi) (by rw [rgV_length, sizeLine_eq]; omega) q
  have ea : acc.toList.toArray = acc := by simp
  rw [ea] at fin
  exact fin
theorem cTrng {f : Str} (hf : f = "tuple") (hc : X.calm = true) (hg : Gl X f) (hm : X.mg f = none) (hs : noStar x = true) (hr : PRg X x (rdRg X.K T E Φ a b)) : Sd X T E Φ (.trng a b) (.Call (.Name f p) [x] [] pos) := by
  subst hf
  refine peImp (peTupRg T.z hc hg hm hr hs) fun σ H Q ⟨W, S, δ, rel, sl, post⟩ => ?_
  obtain ⟨W', S', δ', r1, r2, p⟩ := rgs_ok (g := fun ds => .d (.tup ds)) rel sl post
  refine ⟨W', S', δ', r1, r2, p.imp fun ij H1 ⟨ok, S1, F1, e1, rel1, q⟩ => ⟨ok, Post.tup q rel1 (rgV_eq _ _)⟩⟩

/-! ### isinstance -/
def Ty.nm : Ty → Str
  | .bool => "bool"
  | .int => "int"
  | .str => "str"
  | .tuple => "tuple"
  | .list => "list"
  | .dict => "dict"
  | .cls _ => ""
/-- the class's name gives the class -/
def PTy (X : Cx) (T : Tb) (t : Ty) (x : Expr) : Prop := PE X x (tC (t.v T))
theorem pty_blt {t : Ty} {f : Str} (hf : f = t.nm) (hn : ∀ n, t ≠ .cls n) (hg : Gl X f) (hm : X.mg f = none) : PTy X T t (.Name f pos) := by
  subst hf
  cases t with
  | bool => exact pe_bltn hg hm boot_bool rfl
  | int => exact pe_bltn hg hm boot_int rfl
  | str => exact pe_bltn hg hm boot_str rfl
  | tuple => exact pe_bltn hg hm boot_tuple rfl
  | list => exact pe_bltn hg hm boot_list rfl
  | dict => exact pe_bltn hg hm boot_dict rfl
  | cls n => exact (hn n rfl).elim
theorem pty_cls {n : Nat} {f : Str} (hg : Gl X f) (hm : X.mg f = some (.ref (T.fa n))) (hd : (f == ("__debug__" : Str)) = false) : PTy X T (.cls n) (.Name f pos) := pe_glob hg hm rfl hd
theorem cIsi {t : Ty} {f : Str} (hf : f = "isinstance") (hC : ∀ n ∈ T.cs, CF X.K (T.fa n)) (ht : t.ok T) (hg : Gl X f) (hm : X.mg f = none) (hs : noStar x = true) (hs2 : noStar y = true) (hx : Sd X T E Φ a x) (hy : PTy X T t y) :
    Sd X T E Φ (.isi a t) (.Call (.Name f p) [x, y] [] pos) := by
  subst hf
  refine peImp (pe_callB call_isi hg hm boot_isinstance (pa_cons hx (pa_cons hy pa_nil (star_cons hs2 _ _)) (star_cons hs _ _)) (by decide) (by decide) (star_cons hs _ _) (back_plain (by simp [hs2]))) fun σ H Q ⟨W, S, δ, rel, sl, post⟩ => ?_
  rw [← postR] at post
  refine (stepA rel sl post).imp fun v H1 ⟨r, S1, F1, e1, rel1, sl1, rp, q⟩ => ?_
  rw [postR] at q
  cases hb : isTy t r S1 with
  | none => rw [hb] at q; exact q.elim
  | some k =>
    rw [hb] at q
    obtain ⟨ty, h1, h2⟩ := isTy_ok hC ht rel1 rp hb
    exact ⟨v, t.v T, ty, t.u T, k, rfl, Ty.clsV T t, h1, h2, q.here rel1 (Rp.bl _)⟩
theorem cIsi2 {t u : Ty} {f : Str} {k : Nat} {y2 : Expr} (hf : f = "isinstance") (hC : ∀ n ∈ T.cs, CF X.K (T.fa n)) (ht : t.ok T) (hu : u.ok T) (hg : Gl X f) (hm : X.mg f = none) (hs : noStar x = true) (hs2 : noStar y = true) (hs3 : noStar y2 = true) (hx : Sd X T E Φ a x) (hy : PTy X T t y)
    (hy2 : PTy X T u y2) : Sd X T E Φ (.isi2 a t u) (.Call (.Name f p) [x, .Tuple [y, y2] k p2] [] pos) := by
  subst hf
  have ht2 : PE X (.Tuple [y, y2] k p2) (tTup (tCons (tC (t.v T)) (tCons (tC (u.v T)) tNil))) := pe_tup (pa_cons hy (pa_cons hy2 pa_nil (star_cons hs3 _ _)) (star_cons hs2 _ _))
  refine peImp (pe_callB call_isiT hg hm boot_isinstance (pa_cons hx (pa_cons ht2 pa_nil rfl) (star_cons hs _ _)) (by decide) (by decide) (star_cons hs _ _) rfl) fun σ H Q ⟨W, S, δ, rel, sl, post⟩ => ?_
  rw [← postR] at post
  refine (stepA rel sl post).imp fun v H1 ⟨r, S1, F1, e1, rel1, sl1, rp, q⟩ => ?_
  rw [postR] at q
  cases hb : isTy t r S1 with
  | none => rw [hb] at q; exact q.elim
  | some i =>
    cases hb2 : isTy u r S1 with
    | none => rw [hb, hb2] at q; exact q.elim
    | some j =>
      rw [hb, hb2] at q
      refine ⟨by show 2 ≤ sizeLine; decide, fun tp hp => ?_⟩
      have rel2 := rel1.junk (o := .tup [t.v T, u.v T]) hp
      obtain ⟨ty, h1, h2⟩ := isTy_all hC rel2 rp hb
      refine ⟨v, tp, [t.v T, u.v T], ty, [t.u T, u.u T], i || j, rfl, upd_same, .cons (Ty.clsV T t) (.cons (Ty.clsV T u) .nil), h1, ?_, q.here rel2 (Rp.bl _)⟩
      refine kitAny_cons (h2 t i ht hb) (fun hi => ?_) (fun hi => by rw [hi]; rfl)
      rw [hi, Bool.false_or]
      exact kitAny_cons (h2 u j hu hb2) (fun hj => by rw [hj]; exact kitAny_nil) (fun hj => hj)
end
end Mi

set_option Elab.async false
set_option linter.all false
set_option maxRecDepth 100000
set_option maxHeartbeats 1000000
/-! MiO: subscripts, slices, what is walked, comprehensions. -/
namespace Mi
open PySem PySem.Spec PyProof.Rows L2
section
variable {X : Cx} {T : Tb} {E : XK} {Φ : Phi} {W : Wd} {S : Sto} {H : Hp} {Q : VK} {σ : L2.St} {a b c : Mi.E} {x y w : Expr} {pos p p2 p3 : Pos}
theorem cIx (hu : X.A.units + 80 < cLine) (ha : Sd X T E Φ a x) (hb : Sd X T E Φ b y) (hy : noSlice y = true) : Sd X T E Φ (.ix a b) (.Subscript x y pos) := by
  refine peImp (pe_ix (ix_op (E := E) (T := T) hu) ha hb (noSlice_ix hy)) fun σ H Q ⟨W, S, δ, rel, sl, post⟩ => ?_
  rw [← postR] at post
  refine (stepA rel sl post).imp fun v H1 ⟨r, S1, F1, e1, rel1, sl1, rp, q⟩ => (stepA rel1 sl1 q).imp fun u H2 ⟨r2, S2, F2, e2, rel2, sl2, rp2, q2⟩ => ?_
  rw [postR] at q2
  exact ⟨_, S2, r, r2, rel2, rp.ext (W := W.wF F1) e2, rp2, q2⟩
/-- a part of a slice -/
def rdP (K : PySem.W.Frag) (T : Tb) (E : XK) (Φ : Phi) (e : Mi.E) : L2.TO := fun σ H Q => ∃ W S δ, Rel K T W S H ∧ Slots K T W σ δ ∧ PostG K T E pEq W ((ev T.z T.cl Φ e δ S).andThen toP) Q
theorem cPn : PO X none (rdP X.K T E Φ (.lit .non)) := ⟨fun pins st σ H Q I ⟨W, S, δ, rel, sl, post⟩ => by
  have post : PostG X.K T E pEq W (.ok none S) Q := post
  exact po_none.run pins st σ H Q I (post W.F H none (Ext.refl _) rel rfl)⟩
theorem cPs (ha : Sd X T E Φ a x) : PO X (some x) (rdP X.K T E Φ a) := ⟨fun pins st σ H Q I ⟨W, S, δ, rel, sl, post⟩ => by
  rw [evalPart_some]
  refine thn (ha.run pins st σ H _ I (stepR rel sl post)) fun u s1 ⟨v, H1, I1, r1, r, S1, F1, e1, rel1, sl1, rp, q⟩ => ?_
  unfold toP at q
  split at q
  · have rp : Rp X.K T F1 v .non := rp
    cases rp
    cases r1
    exact ⟨none, H1, I1, .none, q F1 H1 none (Ext.refl _) rel1 rfl⟩
  · rename_i i
    have rp : Rp X.K T F1 v (.int i) := rp
    cases rp
    obtain ⟨t, rfl⟩ := r1
    exact ⟨some i, H1, I1, .int i t, q F1 H1 (some i) (Ext.refl _) rel1 rfl⟩
  · exact q.elim⟩
theorem stepP {γ δ' : Type} {P' : Wd → Hp → γ → δ' → Prop} {Q : δ' → Hp → Prop} {δ : Env} {k : Option Int → Sto → Res γ} (rel : Rel X.K T W S H) (sl : Slots X.K T W σ δ) (h : PostG X.K T E P' W ((ev T.z T.cl Φ a δ S).andThen fun x S => (toP x S).andThen k) Q) :
    rdP X.K T E Φ a σ H fun o H1 => ∃ S' F, Ext W.F F ∧ Rel X.K T (W.wF F) S' H1 ∧ Slots X.K T (W.wF F) σ δ ∧ PostG X.K T E P' (W.wF F) (k o S') Q := by
  refine ⟨W, S, δ, rel, sl, ?_⟩
  have h' : PostG X.K T E P' W (((ev T.z T.cl Φ a δ S).andThen toP).andThen k) Q := by
    cases hh : ev T.z T.cl Φ a δ S <;> rw [hh] at h <;> exact h
  refine (PostG.bind h').imp fun v H1 ⟨o, S', F, e, r, p, q⟩ => ?_
  cases p
  exact ⟨S', F, e, r, sl.ext e, q⟩
theorem cSl {lo hi : Option Expr} (ha : Sd X T E Φ a x) (hl : PO X lo (rdP X.K T E Φ b)) (hh : PO X hi (rdP X.K T E Φ c)) : Sd X T E Φ (.sl a b c) (.Subscript x (.Slice lo hi none p2) pos) := by
  refine peImp (pe_slice (sl_op (E := E) (T := T)) ha hl hh) fun σ H Q ⟨W, S, δ, rel, sl, post⟩ => ?_
  rw [← postR] at post
  refine (stepA rel sl post).imp fun v H1 ⟨r, S1, F1, e1, rel1, sl1, rp, q⟩ => ?_
  obtain ⟨W2, S2, δ2, r2, s2, q2⟩ := stepP rel1 sl1 q
  refine ⟨W2, S2, δ2, r2, s2, q2.imp fun o H2 ⟨S3, F3, e3, rel3, sl3, q3⟩ => ?_⟩
  obtain ⟨W4, S4, δ4, r4, s4, q4⟩ := stepP rel3 sl3 q3
  refine ⟨W4, S4, δ4, r4, s4, q4.imp fun o2 H3 ⟨S5, F5, e5, rel5, sl5, q5⟩ => ?_⟩
  rw [postR] at q5
  exact ⟨_, S5, r, rel5, (rp.ext (W := W.wF F1) e3).ext (W := (W.wF F1).wF F3) e5, q5⟩
theorem cRev {k : Nat} {p4 : Pos} (ha : Sd X T E Φ a x) : Sd X T E Φ (.rev a) (.Subscript x (.Slice none none (some (.UnaryOp .USub (.Constant (.int 1) k p) p2)) p3) pos) := by
  refine peImp (pe_rev (T := T) (E := E) ha) fun σ H Q ⟨W, S, δ, rel, sl, post⟩ => ?_
  rw [← postR] at post
  refine (stepA rel sl post).imp fun v H1 ⟨r, S1, F1, e1, rel1, sl1, rp, q⟩ => ?_
  rw [postR] at q
  exact ⟨_, S1, r, rel1, rp, q⟩

/-! ### what is walked -/
theorem postI {it : Mi.It} {tg : Tg} {src : Src} {J : L2.It} {Rr : L2.It → Hp → Prop} (q : PostG X.K T E (fun W _ src J => SrcG X.K T W src J tg) W (.ok src S) Rr) (rel : Rel X.K T W S H) (h : SrcG X.K T W src J tg) : Rr J H := q W.F H J (Ext.refl _) rel h
theorem tupV {F : Hp} {v : V} {ds : List D} (h : Rp X.K T F v (.tup ds)) : ∃ q xs, v = .ref q ∧ Rd F q (.tup xs) ∧ Rps X.K T F xs ds := tup_inv h
theorem cSeq {tg : Tg} {tgx : Expr} (ha : Sd X T E Φ a x) : PI X tgx x (rdI X.K T E Φ (.seq a) tg) := by
  refine piImp (piSeq ha) fun σ H Rr ⟨W, S, δ, rel, sl, post⟩ => ?_
  refine (stepA rel sl post).imp fun v H1 ⟨r, S1, F1, e1, rel1, sl1, rp, q⟩ => ?_
  unfold srcOf at q
  split at q
  · obtain ⟨q1, xs, rfl, hp, rx⟩ := tupV rp
    exact ⟨q1, xs, rfl, .inr ⟨.inl (Rd.ext rel1.sub hp), postI (it := .seq a) q rel1 (src_tup hp rx)⟩⟩
  · rename_i ds
    have rp : Rp X.K T F1 v (.lst ds) := rp
    cases rp with
    | lst h1 rx => exact ⟨_, _, rfl, .inl ⟨SqL.of (rel1.sub _ _ h1), postI (it := .seq a) q rel1 (src_lst h1 rx)⟩⟩
  · exact rp.elim
  · rename_i l
    split at q
    · rename_i ds e
      obtain ⟨q1, xs, rfl, hq, hx, rx⟩ := locA rel1 rp (show stoL S1 l = some ds by unfold stoL; rw [e])
      exact ⟨q1, xs, rfl, .inl ⟨SqL.of hx, postI (it := .seq a) q rel1 (src_at hq)⟩⟩
    · exact q.elim
  · exact q.elim
theorem rngI {tg : Tg} {σ : L2.St} {H : Hp} {Rr : L2.It → Hp → Prop} {δ : Env} (rel : Rel X.K T W S H) (sl : Slots X.K T W σ δ) (post : PostG X.K T E (fun W _ src J => SrcG X.K T W src J tg) W (evI T.z T.cl Φ (.rng a b) δ S) Rr) :
    rdRg X.K T E Φ a b σ H fun i j H1 => (-(2 ^ 62) ≤ i ∧ i < 2 ^ 62 ∧ -(2 ^ 62) ≤ j ∧ j < 2 ^ 62) ∧ Rr (Itr i (j - i).toNat) H1 := by
  refine ⟨W, S, δ, rel, sl, ?_⟩
  have e : evI T.z T.cl Φ (.rng a b) δ S = (((ev T.z T.cl Φ a δ S).andThen fun x S => (ev T.z T.cl Φ b δ S).andThen fun y S => twoI x y S).andThen fun p S => if (small62 p.1 && small62 p.2) = true then .ok (.fix (rngD p.1 (p.2 - p.1).toNat)) S else .bad) := by
    show ((ev T.z T.cl Φ a δ S).andThen fun x S => (ev T.z T.cl Φ b δ S).andThen fun y S => (rngS x y S).andThen fun ds S => .ok (Src.fix ds) S) = _
    cases ev T.z T.cl Φ a δ S with
    | ok r S1 =>
      show ((ev T.z T.cl Φ b δ S1).andThen _) = (((ev T.z T.cl Φ b δ S1).andThen _).andThen _)
      cases ev T.z T.cl Φ b δ S1 with
      | ok r2 S2 =>
        show ((twoI r r2 S2).andThen _).andThen _ = (twoI r r2 S2).andThen _
        cases twoI r r2 S2 with
        | ok p S3 =>
          show Res.andThen (if _ then _ else _) _ = (if _ then _ else _)
          split <;> rfl
        | exc _ _ => rfl
        | bad => rfl
      | exc _ _ => rfl
      | bad => rfl
    | exc _ _ => rfl
    | bad => rfl
  rw [e] at post
  refine (PostG.bind post).imp fun p H1 ⟨q, S1, F1, e1, rel1, hp, q1⟩ => ?_
  have hp : q = p := hp
  subst hp
  split at q1
  case isFalse => exact q1.elim
  rename_i hb
  rw [Bool.and_eq_true] at hb
  obtain ⟨b1, b2⟩ := small62_ok hb.1
  obtain ⟨b3, b4⟩ := small62_ok hb.2
  exact ⟨⟨b1, b2, b3, b4⟩, postI (it := .rng a b) q1 rel1 src_rng⟩
theorem cRng2 {tg : Tg} {tgx : Expr} {f : Str} (hf : f = "range") (hg : Gl X f) (hm : X.mg f = none) (hs : noStar x = true) (hs2 : noStar y = true) (hx : Sd X T E Φ a x) (hy : Sd X T E Φ b y) :
    PI X tgx (.Call (.Name f p) [x, y] [] pos) (rdI X.K T E Φ (.rng a b) tg) := by
  subst hf
  have pa : PA X [x, y] (tCons (rdE X.K T E Φ a) (tCons (rdE X.K T E Φ b) tNil)) := pa_cons hx (pa_cons hy pa_nil (star_cons hs2 _ _)) (star_cons hs _ _)
  refine piImp (pi_range2 hg hm pa (by rw [star_cons hs, star_cons hs2]; rfl) (by rw [star_cons hs2]; rfl)) fun σ H Rr ⟨W, S, δ, rel, sl, post⟩ => ?_
  refine (rg_step (rngI rel sl post)).imp fun v H1 h => h.imp fun u H2 ⟨i, j, e1, e2, ok, q⟩ => ?_
  subst e1 e2
  exact ⟨i, j, rfl, ok, q⟩
theorem cRng1 {tg : Tg} {tgx : Expr} {f : Str} (hf : f = "range") (hg : Gl X f) (hm : X.mg f = none) (hs2 : noStar y = true) (hy : Sd X T E Φ b y) :
    PI X tgx (.Call (.Name f p) [y] [] pos) (rdI X.K T E Φ (.rng (.lit (.int 0)) b) tg) := by
  subst hf
  have pa : PA X [y] (tCons (rdE X.K T E Φ b) tNil) := pa_cons hy pa_nil (star_cons hs2 _ _)
  refine piImp (pi_range1 hg hm pa (by rw [star_cons hs2]; rfl)) fun σ H Rr ⟨W, S, δ, rel, sl, post⟩ => ?_
  refine (rg_one (rngI rel sl post)).imp fun u H2 ⟨j, e2, ok, q⟩ => ?_
  subst e2
  rw [Int.sub_zero] at q
  exact ⟨j, rfl, ok.2.2.1, ok.2.2.2, q⟩

/-! ### pairs -/
section
variable {K : PySem.W.Frag} {a b : Tg}
theorem srcEnumT {p : Addr} {xs : List V} {ds : List D} (hp : Rd W.F p (.tup xs)) (rx : Rps K T W.F xs ds) : SrcG K T W (.fix (enumD ds)) (IteT K p) (.two a b) := by
  have at_ : ∀ {W' : Wd} {S : Sto} {H : Hp}, W.Le W' → Rel K T W' S H → SqT K H p xs := fun l r => .inl (Rd.ext (l.F.trans r.sub) hp)
  refine ⟨fun W' S H i x σ δ δ' l rel sl _ hx hs => ?_, fun W' S H i l rel _ hx => ⟨xs, at_ l rel, by rw [rx.length]; exact enumD_none hx⟩⟩
  obtain ⟨y, hy, rfl⟩ := enumD_get (show (enumD ds)[i]? = some x from hx)
  obtain ⟨v, hv, rv⟩ := rx.get hy
  refine ⟨⟨xs, v, at_ l rel, hv⟩, fun v' H' ⟨q, u, e1, e2, e3, e4⟩ Q qq => ?_⟩
  subst e1 e3
  have e := e4 xs (at_ l rel)
  rw [hv] at e
  cases e
  exact pairSound rel e2 (.int _) (rv.ext l.F) sl hs qq
theorem srcEnumL {p : Addr} {xs : List V} {ds : List D} (hp : W.F p = some (.lst xs)) (rx : Rps K T W.F xs ds) : SrcG K T W (.fix (enumD ds)) (Ite K p) (.two a b) := by
  have at_ : ∀ {W' : Wd} {S : Sto} {H : Hp}, W.Le W' → Rel K T W' S H → SqL K H p xs := fun l r => SqL.of (r.sub _ _ (l.F _ _ hp))
  refine ⟨fun W' S H i x σ δ δ' l rel sl _ hx hs => ?_, fun W' S H i l rel _ hx => ⟨xs, at_ l rel, by rw [rx.length]; exact enumD_none hx⟩⟩
  obtain ⟨y, hy, rfl⟩ := enumD_get (show (enumD ds)[i]? = some x from hx)
  obtain ⟨v, hv, rv⟩ := rx.get hy
  refine ⟨⟨xs, v, at_ l rel, hv⟩, fun v' H' ⟨q, u, e1, e2, e3, e4⟩ Q qq => ?_⟩
  subst e1 e3
  have e := e4 xs (at_ l rel)
  rw [hv] at e
  cases e
  exact pairSound rel e2 (.int _) (rv.ext l.F) sl hs qq
theorem en_items {l : Nat} {S : Sto} {es : List D} (h : (Dyn.en l).items S = some es) : ∃ ds, stoL S l = some ds ∧ es = enumD ds := by
  have h : (stoL S l).map enumD = some es := h
  cases e : stoL S l with
  | none => rw [e] at h; cases h
  | some ds => rw [e] at h; cases h; exact ⟨ds, rfl, rfl⟩
theorem srcEnumP {p : Addr} {l : Nat} (hp : W.μ[l]? = some p) : SrcG K T W (.dyn (.en l)) (Ite K p) (.two a b) := by
  refine ⟨fun W' S H i x σ δ δ' le rel sl hh hx hs => ?_, fun W' S H i le rel hh hx => ?_⟩
  · obtain ⟨es, e⟩ := Dyn.here hh
    rw [Dyn.at e] at hx
    obtain ⟨ds, e', rfl⟩ := en_items e
    obtain ⟨xs, h1, h2⟩ := lst_at hp le rel e'
    obtain ⟨y, hy, rfl⟩ := enumD_get hx
    obtain ⟨v, hv, rv⟩ := h2.get hy
    refine ⟨⟨xs, v, SqL.of h1, hv⟩, fun v' H' ⟨q, u, e1, e2, e3, e4⟩ Q qq => ?_⟩
    subst e1 e3
    have e := e4 xs (SqL.of h1)
    rw [hv] at e
    cases e
    exact pairSound rel e2 (.int _) rv sl hs qq
  · obtain ⟨es, e⟩ := Dyn.here hh
    rw [Dyn.at e] at hx
    obtain ⟨ds, e', rfl⟩ := en_items e
    obtain ⟨xs, h1, h2⟩ := lst_at hp le rel e'
    exact ⟨xs, SqL.of h1, by rw [h2.length]; exact enumD_none hx⟩
theorem srcZipT {p p' : Addr} {xs ys : List V} {ds es : List D} (hp : Rd W.F p (.tup xs)) (rx : Rps K T W.F xs ds) (hp' : Rd W.F p' (.tup ys)) (ry : Rps K T W.F ys es) : SrcG K T W (.fix (zipD ds es)) (RZ.ItzT K p p') (.two a b) := by
  have at_ : ∀ {W' : Wd} {S : Sto} {H : Hp} {q : Addr} {zs : List V}, W.Le W' → Rel K T W' S H → Rd W.F q (.tup zs) → SqT K H q zs := fun l r h => .inl (Rd.ext (l.F.trans r.sub) h)
  refine ⟨fun W' S H i x σ δ δ' l rel sl _ hx hs => ?_, fun W' S H i l rel _ hx => ⟨xs, ys, at_ l rel hp, at_ l rel hp', by rw [rx.length, ry.length]; exact zipD_none hx⟩⟩
  obtain ⟨d, e, hd, he, rfl⟩ := zipD_get (show (zipD ds es)[i]? = some x from hx)
  obtain ⟨v, hv, rv⟩ := rx.get hd
  obtain ⟨u, hu, ru⟩ := ry.get he
  refine ⟨⟨xs, ys, v, u, at_ l rel hp, at_ l rel hp', hv, hu⟩, fun v' H' ⟨q, v2, u2, e1, e2, e3, e4, e5⟩ Q qq => ?_⟩
  subst e1 e3
  have e6 := e4 xs (at_ l rel hp)
  have e7 := e5 ys (at_ l rel hp')
  rw [hv] at e6
  rw [hu] at e7
  cases e6
  cases e7
  exact pairSound rel e2 (rv.ext l.F) (ru.ext l.F) sl hs qq
theorem srcZipL {p p' : Addr} {xs ys : List V} {ds es : List D} (hp : W.F p = some (.lst xs)) (rx : Rps K T W.F xs ds) (hp' : W.F p' = some (.lst ys)) (ry : Rps K T W.F ys es) : SrcG K T W (.fix (zipD ds es)) (Itz K p p') (.two a b) := by
  have at_ : ∀ {W' : Wd} {S : Sto} {H : Hp} {q : Addr} {zs : List V}, W.Le W' → Rel K T W' S H → W.F q = some (.lst zs) → SqL K H q zs := fun l r h => SqL.of (r.sub _ _ (l.F _ _ h))
  refine ⟨fun W' S H i x σ δ δ' l rel sl _ hx hs => ?_, fun W' S H i l rel _ hx => ⟨xs, ys, at_ l rel hp, at_ l rel hp', by rw [rx.length, ry.length]; exact zipD_none hx⟩⟩
  obtain ⟨d, e, hd, he, rfl⟩ := zipD_get (show (zipD ds es)[i]? = some x from hx)
  obtain ⟨v, hv, rv⟩ := rx.get hd
  obtain ⟨u, hu, ru⟩ := ry.get he
  refine ⟨⟨xs, ys, v, u, at_ l rel hp, at_ l rel hp', hv, hu⟩, fun v' H' ⟨q, v2, u2, e1, e2, e3, e4, e5⟩ Q qq => ?_⟩
  subst e1 e3
  have e6 := e4 xs (at_ l rel hp)
  have e7 := e5 ys (at_ l rel hp')
  rw [hv] at e6
  rw [hu] at e7
  cases e6
  cases e7
  exact pairSound rel e2 (rv.ext l.F) (ru.ext l.F) sl hs qq
/-- what stands under a value, in any later world -/
theorem seq_later {W' : Wd} {r : R} {v : V} {S S' : Sto} {H' : Hp} {k k' : Bool} {ds ds' : List D} (ra : RpA K T W r v) (h : r.seq S = some (k, ds)) (le : W.Le W') (rel : Rel K T W' S' H') (h' : r.seq S' = some (k', ds')) : k' = k := by
  cases r with
  | d x =>
    have e : (R.d x).seq S' = (R.d x).seq S := by cases x <;> rfl
    rw [e, h] at h'
    cases h'; rfl
  | fl es => exact ra.elim
  | fd t kvs => exact ra.elim
  | loc l =>
    simp only [R.seq] at h h'
    split at h <;> split at h' <;> first | (cases h'; cases h; rfl) | (cases h'; done) | (cases h; done)
end
theorem zp_items {r r2 : R} {S : Sto} {es : List D} (h : (Dyn.zp r r2).items S = some es) : ∃ k ds ds2, r.seq S = some (k, ds) ∧ r2.seq S = some (k, ds2) ∧ es = zipD ds ds2 := by
  have h : ((r.seq S).bind fun a => (r2.seq S).bind fun b => if (a.1 == b.1) = true then some (zipD a.2 b.2) else none) = some es := h
  cases e : r.seq S with
  | none => rw [e] at h; cases h
  | some p =>
    cases e2 : r2.seq S with
    | none => rw [e, e2] at h; cases h
    | some p2 =>
      rw [e, e2] at h
      have h : (if (p.1 == p2.1) = true then some (zipD p.2 p2.2) else none) = some es := h
      split at h
      · rename_i hk
        cases h
        have hk : p.1 = p2.1 := by simpa using hk
        exact ⟨p.1, p.2, p2.2, rfl, by rw [hk], rfl⟩
      · cases h
/-- two sequences side by side, of which one may change -/
theorem srcZipA {ta tb : Tg} {r r2 : R} {v v2 : V} {es : List D} (rel0 : Rel X.K T W S H) (ra : RpA X.K T W r v) (rb : RpA X.K T W r2 v2) (h : (Dyn.zp r r2).items S = some es) :
    ∃ p p', v = .ref p ∧ v2 = .ref p' ∧ ∃ xs ys, (SqL X.K H p xs ∧ SqL X.K H p' ys ∧ SrcG X.K T W (.dyn (.zp r r2)) (Itz X.K p p') (.two ta tb)) ∨ (SqT X.K H p xs ∧ SqT X.K H p' ys ∧ SrcG X.K T W (.dyn (.zp r r2)) (RZ.ItzT X.K p p') (.two ta tb)) := by
  obtain ⟨k, ds, ds2, h1, h2, _⟩ := zp_items h
  obtain ⟨p, xs, rfl, rx, hk⟩ := seqO rel0 ra h1
  obtain ⟨p', ys, rfl, ry, hk2⟩ := seqO rel0 rb h2
  refine ⟨p, p', rfl, rfl, xs, ys, ?_⟩
  have later : ∀ {W' : Wd} {S' : Sto} {H' : Hp} {es' : List D}, W.Le W' → Rel X.K T W' S' H' → (Dyn.zp r r2).items S' = some es' → ∃ xs ys ds ds2, es' = zipD ds ds2 ∧ Rps X.K T W'.F xs ds ∧ Rps X.K T W'.F ys ds2 ∧
      ((k = true ∧ SqL X.K H' p xs ∧ SqL X.K H' p' ys) ∨ (k = false ∧ SqT X.K H' p xs ∧ SqT X.K H' p' ys)) := by
    intro W' S' H' es' le rel' hi
    obtain ⟨k', d1, d2, e1, e2, e3⟩ := zp_items hi
    have ek := seq_later ra h1 le rel' e1
    subst ek
    obtain ⟨q1, x1, e4, rx1, hk1⟩ := seqO rel' (ra.le le) e1
    obtain ⟨q2, x2, e5, rx2, hk3⟩ := seqO rel' (rb.le le) e2
    cases e4
    cases e5
    refine ⟨x1, x2, d1, d2, e3, rx1, rx2, ?_⟩
    rcases hk1 with ⟨a1, a2⟩ | ⟨a1, a2, _⟩
    · rcases hk3 with ⟨b1, b2⟩ | ⟨b1, _⟩
      · exact .inl ⟨a1, SqL.of a2, SqL.of b2⟩
      · rw [a1] at b1; cases b1
    · rcases hk3 with ⟨b1, _⟩ | ⟨b1, b2, _⟩
      · rw [a1] at b1; cases b1
      · exact .inr ⟨a1, .inl a2, .inl b2⟩
  rcases hk with ⟨hk, a2⟩ | ⟨hk, a2, _⟩
  · rcases hk2 with ⟨_, b2⟩ | ⟨q, _⟩
    case inr => rw [hk] at q; cases q
    refine .inl ⟨SqL.of a2, SqL.of b2, ⟨fun W' S' H' i x σ δ δ' l rel sl hh hx hs => ?_, fun W' S' H' i l rel hh hx => ?_⟩⟩
    · obtain ⟨es', e⟩ := Dyn.here hh
      rw [Dyn.at e] at hx
      obtain ⟨x1, x2, d1, d2, rfl, rx1, rx2, ⟨_, q1, q2⟩ | ⟨q, _⟩⟩ := later l rel e
      case inr => rw [hk] at q; cases q
      obtain ⟨d, e', hd, he, rfl⟩ := zipD_get hx
      obtain ⟨v, hv, rv⟩ := rx1.get hd
      obtain ⟨u, hu, ru⟩ := rx2.get he
      refine ⟨⟨x1, x2, v, u, q1, q2, hv, hu⟩, fun v' H'' ⟨q, v3, u3, e1, e2, e3, e4, e5⟩ Q qq => ?_⟩
      subst e1 e3
      have e6 := e4 x1 q1
      have e7 := e5 x2 q2
      rw [hv] at e6
      rw [hu] at e7
      cases e6
      cases e7
      exact pairSound rel e2 rv ru sl hs qq
    · obtain ⟨es', e⟩ := Dyn.here hh
      rw [Dyn.at e] at hx
      obtain ⟨x1, x2, d1, d2, rfl, rx1, rx2, ⟨_, q1, q2⟩ | ⟨q, _⟩⟩ := later l rel e
      case inr => rw [hk] at q; cases q
      exact ⟨x1, x2, q1, q2, by rw [rx1.length, rx2.length]; exact zipD_none hx⟩
  · rcases hk2 with ⟨q, _⟩ | ⟨_, b2, _⟩
    case inl => rw [hk] at q; cases q
    refine .inr ⟨.inl a2, .inl b2, ⟨fun W' S' H' i x σ δ δ' l rel sl hh hx hs => ?_, fun W' S' H' i l rel hh hx => ?_⟩⟩
    · obtain ⟨es', e⟩ := Dyn.here hh
      rw [Dyn.at e] at hx
      obtain ⟨x1, x2, d1, d2, rfl, rx1, rx2, ⟨q, _⟩ | ⟨_, q1, q2⟩⟩ := later l rel e
      case inl => rw [hk] at q; cases q
      obtain ⟨d, e', hd, he, rfl⟩ := zipD_get hx
      obtain ⟨v, hv, rv⟩ := rx1.get hd
      obtain ⟨u, hu, ru⟩ := rx2.get he
      refine ⟨⟨x1, x2, v, u, q1, q2, hv, hu⟩, fun v' H'' ⟨q, v3, u3, e1, e2, e3, e4, e5⟩ Q qq => ?_⟩
      subst e1 e3
      have e6 := e4 x1 q1
      have e7 := e5 x2 q2
      rw [hv] at e6
      rw [hu] at e7
      cases e6
      cases e7
      exact pairSound rel e2 rv ru sl hs qq
    · obtain ⟨es', e⟩ := Dyn.here hh
      rw [Dyn.at e] at hx
      obtain ⟨x1, x2, d1, d2, rfl, rx1, rx2, ⟨q, _⟩ | ⟨_, q1, q2⟩⟩ := later l rel e
      case inl => rw [hk] at q; cases q
      exact ⟨x1, x2, q1, q2, by rw [rx1.length, rx2.length]; exact zipD_none hx⟩
theorem cEnum {ta tb : Tg} {elts : List Expr} {kk : Nat} {tpos : Pos} {f : Str} (hf : f = "enumerate") (hg : Gl X f) (hm : X.mg f = none) (hs : noStar x = true) (hx : Sd X T E Φ a x) :
    PI X (.Tuple elts kk tpos) (.Call (.Name f p) [x] [] pos) (rdI X.K T E Φ (.enum a) (.two ta tb)) := by
  subst hf
  refine piImp (piEnumA hg hm (pa_cons hx pa_nil (star_cons hs _ _)) (by rw [star_cons hs]; rfl)) fun σ H Rr ⟨W, S, δ, rel, sl, post⟩ => ?_
  refine (stepA rel sl post).imp fun v H1 ⟨r, S1, F1, e1, rel1, sl1, rp, q⟩ => ?_
  split at q
  · obtain ⟨q1, xs, rfl, hp, rx⟩ := tupV rp
    exact ⟨q1, xs, rfl, .inr ⟨.inl (Rd.ext rel1.sub hp), postI (it := .enum a) q rel1 (srcEnumT hp rx)⟩⟩
  · rename_i ds
    have rp : Rp X.K T F1 v (.lst ds) := rp
    cases rp with
    | lst h1 rx => exact ⟨_, _, rfl, .inl ⟨SqL.of (rel1.sub _ _ h1), postI (it := .enum a) q rel1 (srcEnumL h1 rx)⟩⟩
  · rename_i l
    split at q
    · rename_i hs
      obtain ⟨ds, e⟩ := Option.isSome_iff_exists.mp hs
      obtain ⟨q1, xs, rfl, hq, hx, rx⟩ := locA rel1 rp e
      exact ⟨q1, xs, rfl, .inl ⟨SqL.of hx, postI (it := .enum a) q rel1 (srcEnumP hq)⟩⟩
    · exact q.elim
  · exact q.elim
theorem cZip {ta tb : Tg} {elts : List Expr} {kk : Nat} {tpos : Pos} {f : Str} (hf : f = "zip") (hg : Gl X f) (hm : X.mg f = none) (hs : noStar x = true) (hs2 : noStar y = true) (hx : Sd X T E Φ a x) (hy : Sd X T E Φ b y) :
    PI X (.Tuple elts kk tpos) (.Call (.Name f p) [x, y] [] pos) (rdI X.K T E Φ (.zip a b) (.two ta tb)) := by
  subst hf
  have pa : PA X [x, y] (tCons (rdE X.K T E Φ a) (tCons (rdE X.K T E Φ b) tNil)) := pa_cons hx (pa_cons hy pa_nil (star_cons hs2 _ _)) (star_cons hs _ _)
  refine piImp (RZ.pi_zipA hg hm pa (star_cons hs _ _) (back_plain (by simp [hs2]))) fun σ H Rr ⟨W, S, δ, rel, sl, post⟩ => ?_
  refine (stepA rel sl post).imp fun v H1 ⟨r, S1, F1, e1, rel1, sl1, rp, q⟩ => (stepA rel1 sl1 q).imp fun u H2 ⟨r2, S2, F2, e2, rel2, sl2, rp2, q2⟩ => ?_
  have rp : RpA X.K T ((W.wF F1).wF F2) r v := rp.ext (W := W.wF F1) e2
  unfold zipop at q2
  split at q2
  · obtain ⟨q1, xs, rfl, hp, rx⟩ := tupV rp
    obtain ⟨q3, ys, rfl, hp2, ry⟩ := tupV rp2
    exact ⟨q1, q3, xs, ys, rfl, .inr ⟨.inl (Rd.ext rel2.sub hp), .inl (Rd.ext rel2.sub hp2), postI (it := .zip a b) q2 rel2 (srcZipT hp rx hp2 ry)⟩⟩
  · cases (show Rp X.K T F2 v (.lst _) from rp) with
    | lst h1 rx =>
      cases (show Rp X.K T F2 u (.lst _) from rp2) with
      | lst h2 ry => exact ⟨_, _, _, _, rfl, .inl ⟨SqL.of (rel2.sub _ _ h1), SqL.of (rel2.sub _ _ h2), postI (it := .zip a b) q2 rel2 (srcZipL h1 rx h2 ry)⟩⟩
  · split at q2
    · rename_i hz
      obtain ⟨es, e⟩ := Option.isSome_iff_exists.mp hz
      obtain ⟨q1, q3, rfl, rfl, xs, ys, ⟨h1, h2, h3⟩ | ⟨h1, h2, h3⟩⟩ := srcZipA (ta := ta) (tb := tb) rel2 rp rp2 e
      · exact ⟨q1, q3, xs, ys, rfl, .inl ⟨h1, h2, postI (it := .zip a b) q2 rel2 h3⟩⟩
      · exact ⟨q1, q3, xs, ys, rfl, .inr ⟨h1, h2, postI (it := .zip a b) q2 rel2 h3⟩⟩
    · exact q2.elim
end
end Mi

set_option Elab.async false
set_option linter.all false
set_option maxRecDepth 100000
set_option maxHeartbeats 1000000
/-! MiP: the checker of expressions, and that what it lets is so. -/
namespace Mi
open PySem PySem.Spec PyProof.Rows L2

structure Ck where
  z : Bool
  cl : Cl
  cs : List Nat
  fns : List (Str × Nat)
  cst : List (Str × D)
  cls : List (Str × Nat)
  fs : List Nat
  bl : List Str
  N : List Str
def D.same : D → D → Bool
  | .int i, .int j => decide (i = j)
  | .str i, .str j => decide (i = j)
  | .bl i, .bl j => i == j
  | .non, .non => true
  | .fn i, .fn j => decide (i = j)
  | _, _ => false
theorem D.same_eq {a b : D} (h : D.same a b = true) : a = b := by
  unfold D.same at h
  split at h <;> first | (rw [of_decide_eq_true h]) | (rw [beq_iff_eq.mp h]) | rfl | (cases h)

def visB (sc : Scope) (x : Str) : Bool := match sc.names.lookup x with
  | some .local => true
  | some .cell => true
  | some .free => true
  | _ => false
theorem visB_ok {sc : Scope} {x : Str} (h : visB sc x = true) : Vis sc x := by
  unfold visB at h
  unfold Vis
  split at h <;> simp_all
def locB (sc : Scope) (x : Str) : Bool := match sc.names.lookup x with
  | some .local => true
  | some .cell => true
  | _ => false
theorem locB_ok {sc : Scope} {x : Str} (h : locB sc x = true) : L2.Loc sc x := by
  unfold locB at h
  unfold L2.Loc
  split at h <;> simp_all
def glB (sc : Scope) (x : Str) : Bool := match sc.names.lookup x with
  | some .globalImplicit => true
  | _ => false
theorem glB_ok {sc : Scope} {x : Str} (h : glB sc x = true) : sc.names.lookup x = some .globalImplicit := by
  unfold glB at h
  split at h <;> simp_all
/-- a built-in's name -/
def blB (C : Ck) (sc : Scope) (x nm : Str) : Bool := decide (x = nm) && (glB sc x && (C.bl.contains x && (!(x == ("__debug__" : Str)) && decide (x ≠ "__name__"))))
def noDb (x : Str) : Bool := !(x == ("__debug__" : Str)) && !(x == ("__classdict__" : Str))
def tailB (op : PySem.BoolOp) (y : Expr) (r : List Expr) (p : Pos) : Expr := match r with
  | [] => y
  | _ => .BoolOp op (y :: r) p
def isZero : E → Bool
  | .lit (.int 0) => true
  | _ => false
def isNon : E → Bool
  | .lit .non => true
  | _ => false
def isYes : E → Bool
  | .lit (.bl true) => true
  | _ => false
def tgC (N : List Str) (sc : Scope) : Tg → Expr → Bool
  | .nm i => fun x => match x with
    | .Name y _ => decide (N[i]? = some y) && locB sc y
    | _ => false
  | .two a b => fun x => match x with
    | .Tuple [x, y] _ _ => (tgC N sc a x && tgC N sc b y) && (noStar x && noStar y)
    | _ => false
  | .three a b c => fun x => match x with
    | .Tuple [x, y, z] _ _ => (tgC N sc a x && (tgC N sc b y && tgC N sc c z)) && (noStar x && (noStar y && noStar z))
    | _ => false
  | .four a b c d => fun x => match x with
    | .Tuple [x, y, z, u] _ _ => (tgC N sc a x && (tgC N sc b y && (tgC N sc c z && tgC N sc d u))) && (noStar x && (noStar y && (noStar z && noStar u)))
    | _ => false
def isTwo : Tg → Bool
  | .two _ _ => true
  | _ => false
def ownN (N : List Str) (own : List Nat) : List (Str × Nat) := own.map fun i => (N.getD i Str.empty, i)
def tyC (C : Ck) (sc : Scope) (t : Ty) (x : Expr) : Bool := match t, x with
  | .cls n, .Name f _ => glB sc f && (noDb f && (C.cls.any fun q => decide (q.1 = f) && decide (q.2 = n)))
  | t, .Name f _ => blB C sc f t.nm
  | _, _ => false
/-- may stand as a test -/
def okT : E → Expr → Bool
  | .and a b => fun x => match x with
    | .BoolOp .And (x :: y :: r) p => okT a x && okT b (tailB .And y r p)
    | _ => false
  | .or a b => fun x => match x with
    | .BoolOp .Or (x :: y :: r) p => okT a x && okT b (tailB .Or y r p)
    | _ => false
  | .not a => fun x => match x with
    | .UnaryOp .Not x _ => okT a x
    | _ => false
  | .cmp _ _ _ => fun _ => true
  | .chn _ _ _ _ _ => fun _ => true
  | _ => fun x => plainT x
def allIn (a b : List Nat) : Bool := a.all fun i => b.contains i

section
variable (C : Ck)
mutual
def chkE : E → Scope → Expr → Bool
  | .var i => fun sc x => match x with
    | .Name y _ => decide (C.N[i]? = some y) && (visB sc y && noDb y)
    | _ => false
  | .lit d => fun _ x => match d, x with
    | .int i, .Constant (.int j) _ _ => decide (i = j)
    | .bl b, .Constant (.bool c) _ _ => b == c
    | .non, .Constant .none _ _ => true
    | .str s, .Constant (.str t) _ _ => decide (s = t)
    | _, _ => false
  | .glb y d => fun sc x => match x with
    | .Name w _ => decide (w = y) && (glB sc y && (noDb y && (C.cst.any fun q => decide (q.1 = y) && D.same q.2 d)))
    | _ => false
  | .tup es => fun sc x => match x with
    | .Tuple xs _ _ => chkD es sc xs && decide (xs.length ≤ 1000)
    | _ => false
  | .lst es => fun sc x => match x with
    | .List xs _ => chkD es sc xs && decide (xs.length ≤ 1000)
    | _ => false
  | .dic0 _ => fun _ x => match x with
    | .Dict [] [] _ => true
    | _ => false
  | .bin o a b => fun sc x => match x with
    | .BinOp x op y _ => decide (op = o.py) && (chkE a sc x && chkE b sc y)
    | _ => false
  | .neg a => fun sc x => match x with
    | .UnaryOp .USub x _ => chkE a sc x
    | _ => false
  | .not a => fun sc x => match x with
    | .UnaryOp .Not x _ => chkE a sc x
    | _ => false
  | .cmp o a b => fun sc x => match x with
    | .Compare x [op] [y] _ => decide (op = o.py) && (noSet y && (chkE a sc x && chkE b sc y))
    | _ => false
  | .chn o o' a b c => fun sc x => match x with
    | .Compare x [op, op'] [y, w] _ => (decide (op = o.py) && decide (op' = o'.py)) && (noSet w && (chkE a sc x && (chkE b sc y && chkE c sc w)))
    | _ => false
  | .and a b => fun sc x => match x with
    | .BoolOp .And (x :: y :: r) p => chkE a sc x && chkE b sc (tailB .And y r p)
    | _ => false
  | .or a b => fun sc x => match x with
    | .BoolOp .Or (x :: y :: r) p => chkE a sc x && chkE b sc (tailB .Or y r p)
    | _ => false
  | .ite c a b => fun sc x => match x with
    | .IfExp w x y _ => (chkE c sc w && okT c w) && (chkE a sc x && chkE b sc y)
    | _ => false
  | .call n es => fun sc x => match x with
    | .Call (.Name f _) xs [] _ => (glB sc f && (noDb f && (C.fns.any fun q => decide (q.1 = f) && decide (q.2 = n)))) && (C.fs.contains n && (xs.all noStar && (chkA es sc xs)))
    | _ => false
  | .dyn _ _ => fun _ _ => false
  | .b1 b a => fun sc x => match x with
    | .Call (.Name f _) [x] [] _ => (b.fine && blB C sc f b.nm) && (noStar x && chkE a sc x)
    | _ => false
  | .b2 b a c => fun sc x => match x with
    | .Call (.Name f _) [x, y] [] _ => blB C sc f b.nm && ((noStar x && noStar y) && (chkE a sc x && chkE c sc y))
    | _ => false
  | .lrng a b => fun sc x => match x with
    | .Call (.Name f _) [.Call (.Name g _) [y] [] _] [] _ => (blB C sc f "list" && blB C sc g "range") && (isZero a && (noStar y && chkE b sc y))
    | .Call (.Name f _) [.Call (.Name g _) [x, y] [] _] [] _ => (blB C sc f "list" && blB C sc g "range") && ((noStar x && noStar y) && (chkE a sc x && chkE b sc y))
    | _ => false
  | .trng a b => fun sc x => match x with
    | .Call (.Name f _) [.Call (.Name g _) [y] [] _] [] _ => (blB C sc f "tuple" && blB C sc g "range") && (isZero a && (noStar y && chkE b sc y))
    | .Call (.Name f _) [.Call (.Name g _) [x, y] [] _] [] _ => (blB C sc f "tuple" && blB C sc g "range") && ((noStar x && noStar y) && (chkE a sc x && chkE b sc y))
    | _ => false
  | .isi a t => fun sc x => match x with
    | .Call (.Name f _) [x, y] [] _ => blB C sc f "isinstance" && ((noStar x && noStar y) && (chkE a sc x && tyC C sc t y))
    | _ => false
  | .isi2 a t u => fun sc x => match x with
    | .Call (.Name f _) [x, .Tuple [y, w] _ _] [] _ => blB C sc f "isinstance" && ((noStar x && (noStar y && noStar w)) && (chkE a sc x && (tyC C sc t y && tyC C sc u w)))
    | _ => false
  | .m0 m o => fun sc x => match x with
    | .Call (.Attribute x f ap) [] [] cp => decide (f = m.nm) && (noCall x && ((ap.endLine == cp.line) && chkE o sc x))
    | _ => false
  | .m1 m o a => fun sc x => match x with
    | .Call (.Attribute x f ap) [y] [] cp => decide (f = m.nm) && (noCall x && ((ap.endLine == cp.line) && (noStar y && (chkE o sc x && chkE a sc y))))
    | _ => false
  | .m2 _ _ _ _ => fun _ _ => false
  | .ix a i => fun sc x => match x with
    | .Subscript x y _ => noSlice y && (chkE a sc x && chkE i sc y)
    | _ => false
  | .sl a lo hi => fun sc x => match x with
    | .Subscript x (.Slice l h none _) _ => chkE a sc x && ((match l with
      | none => isNon lo
      | some l => chkE lo sc l) && (match h with
      | none => isNon hi
      | some h => chkE hi sc h))
    | _ => false
  | .rev a => fun sc x => match x with
    | .Subscript x (.Slice none none (some (.UnaryOp .USub (.Constant (.int 1) _ _) _)) _) _ => chkE a sc x
    | _ => false
  | .fld a n f => fun sc x => match x with
    | .Attribute x g _ => decide (g = f) && (noCall x && ((C.cs.contains n && (C.cl n).contains f) && chkE a sc x))
    | _ => false
  | .lc1 own elt tg it c => fun sc x => match x with
    | .ListComp y [⟨tx, ix, ifs, 0⟩] scope _ => (blkC C.N sc scope (ownN C.N own) && (allIn tg.ins own && (noSet ix && tgC C.N scope tg tx))) && (chkI it (isTwo tg) sc tx ix && (chkE elt (relS scope sc) y && (match ifs with
      | [] => isYes c
      | [w] => okT c w && chkE c (relS scope sc) w
      | _ => false)))
    | _ => false
  | .lc2 own own2 elt tg it c tg2 it2 c2 => fun sc x => match x with
    | .ListComp y [⟨tx, ix, ifs, 0⟩, ⟨tx2, ix2, ifs2, 0⟩] scope _ => ((blkC C.N sc scope (ownN C.N own) && (allIn tg.ins own && (noSet ix && tgC C.N scope tg tx))) && (allIn own2 own && (allIn tg2.ins own2 && (noSet ix2 && tgC C.N scope tg2 tx2)))) &&
      ((chkI it (isTwo tg) sc tx ix && (chkI it2 (isTwo tg2) (relS scope sc) tx2 ix2 && chkE elt (relS scope sc) y)) && ((match ifs with
      | [] => isYes c
      | [w] => okT c w && chkE c (relS scope sc) w
      | _ => false) && (match ifs2 with
      | [] => isYes c2
      | [w] => okT c2 w && chkE c2 (relS scope sc) w
      | _ => false)))
    | _ => false
  | .dc1 own t k v tg it c => fun sc x => match x with
    | .DictComp y u [⟨tx, ix, ifs, 0⟩] scope _ => (!t && (blkC C.N sc scope (ownN C.N own) && (allIn tg.ins own && (noSet ix && tgC C.N scope tg tx)))) && (chkI it (isTwo tg) sc tx ix && ((chkE k (relS scope sc) y && chkE v (relS scope sc) u) && (match ifs with
      | [] => isYes c
      | [w] => okT c w && chkE c (relS scope sc) w
      | _ => false)))
    | _ => false
def chkD : Es → Scope → List Expr → Bool
  | .nil => fun _ xs => match xs with
    | [] => true
    | _ => false
  | .cons e es => fun sc xs => match xs with
    | x :: xs => noStar x && (chkE e sc x && chkD es sc xs)
    | _ => false
def chkA : Es → Scope → List Expr → Bool
  | .nil => fun _ xs => match xs with
    | [] => true
    | _ => false
  | .cons e es => fun sc xs => match xs with
    | x :: xs => noStar x && (chkE e sc x && chkA es sc xs)
    | _ => false
def chkI : Mi.It → Bool → Scope → Expr → Expr → Bool
  | .seq e => fun _ sc _ x => noSet x && chkE e sc x
  | .rng a b => fun _ sc _ x => match x with
    | .Call (.Name f _) [y] [] _ => blB C sc f "range" && (isZero a && (noStar y && chkE b sc y))
    | .Call (.Name f _) [x, y] [] _ => blB C sc f "range" && ((noStar x && noStar y) && (chkE a sc x && chkE b sc y))
    | _ => false
  | .enum e => fun two sc tx x => match tx, x with
    | .Tuple _ _ _, .Call (.Name f _) [x] [] _ => (two && blB C sc f "enumerate") && (noStar x && chkE e sc x)
    | _, _ => false
  | .zip a b => fun two sc tx x => match tx, x with
    | .Tuple _ _ _, .Call (.Name f _) [x, y] [] _ => (two && blB C sc f "zip") && ((noStar x && noStar y) && (chkE a sc x && chkE b sc y))
    | _, _ => false
end
end

/-- what a context must have -/
structure Good (C : Ck) (T : Tb) (Φ : Phi) (E : XK) (X : Cx) (sc : Scope) : Prop where
  hz : T.z = C.z
  hcl : T.cl = C.cl
  hcs : T.cs = C.cs
  hN : X.N = C.N
  hs : X.env.scope = sc
  nd : X.N.Nodup
  calm : X.calm = true
  un : X.A.units + 80 < cLine
  bl : ∀ x ∈ C.bl, X.mg x = none
  fns : ∀ q ∈ C.fns, X.mg q.1 = some (.ref (T.fa q.2)) ∧ PySem.W.keepIn X.K (.ref (T.fa q.2)) = true
  cst : ∀ q ∈ C.cst, ∃ v u, X.mg q.1 = some u ∧ RelV v u ∧ ∀ F, Rp X.K T F v q.2
  cls : ∀ q ∈ C.cls, X.mg q.1 = some (.ref (T.fa q.2)) ∧ q.2 ∈ C.cs
  cf : ∀ n ∈ C.cs, CF X.K (T.fa n)
  fo : ∀ n ∈ C.cs, ∀ f ∈ C.cl n, FieldOk X.K (T.fa n) f
  call : ∀ n ∈ C.fs, CalleeOk X T (T.fa n) (Φ n)
  pa : Passes (L2.CX X.prog X.w) X E
/-- a block within -/
theorem Good.blk {C : Ck} {T : Tb} {Φ : Phi} {E : XK} {X : Cx} {sc scope : Scope} (g : Good C T Φ E X sc) (s : Shared) (H : Hp) (Ca : Addr) (cl : List (Str × Addr)) (fp : List Addr) : Good C T Φ NoX (X.blk s H scope (compEnvC scope cl Ca X.env) fp) (relS scope sc) := by
  refine ⟨g.hz, g.hcl, g.hcs, g.hN, ?_, g.nd, g.calm, g.un, g.bl, g.fns, g.cst, g.cls, g.cf, g.fo, fun n hn Y E' h1 h2 h3 h4 h5 h6 hp => g.call n hn Y E' h1 h2 h3 h4 h5 h6 hp, ?_⟩
  · rw [← g.hs]; rfl
  · rintro pins σ H' st e s' I ⟨a, B, H2, cls, d, _, _, _, _, _, _, _, q⟩
    exact q.elim
section
variable {C : Ck} {T : Tb} {Φ : Phi} {E : XK} {X : Cx} {sc : Scope}
theorem Good.gl (g : Good C T Φ E X sc) {x : Str} (h : glB sc x = true) : Gl X x := by
  show X.env.scope.names.lookup x = _
  rw [g.hs]; exact glB_ok h
theorem Good.blt (g : Good C T Φ E X sc) {x nm : Str} (h : blB C sc x nm = true) : x = nm ∧ Gl X x ∧ X.mg x = none ∧ (x == ("__debug__" : Str)) = false ∧ x ≠ "__name__" := by
  unfold blB at h
  simp only [Bool.and_eq_true, decide_eq_true_eq, Bool.not_eq_true'] at h
  exact ⟨h.1, g.gl h.2.1, g.bl x (List.contains_iff_mem.mp h.2.2.1), h.2.2.2.1, h.2.2.2.2⟩
theorem noDb_ok {x : Str} (h : noDb x = true) : (x == ("__debug__" : Str)) = false ∧ (x == ("__classdict__" : Str)) = false := by
  unfold noDb at h
  simpa only [Bool.and_eq_true, Bool.not_eq_true'] using h
theorem any_mem {α : Type} {l : List (Str × α)} {p : Str × α → Bool} (h : l.any p = true) : ∃ q ∈ l, p q = true := List.any_eq_true.mp h

/-! ### targets -/
theorem assign_cons {x : Expr} (h : noStar x = true) (xs : List Expr) (env : PySem.Env) : assignEach (x :: xs) env = (false, assign x env) :: assignEach xs env := by
  cases x <;> first | rfl | (cases h)
theorem tg_ok (hc : X.calm = true) (nd : X.N.Nodup) (hN : X.N = C.N) {scw : Scope} (hw : ∀ y, locB scw y = true → L2.Loc X.env.scope y ∧ (X.fn y = true ∨ X.env.scope.names.lookup y = some .local)) (tg : Tg) : ∀ {x : Expr}, tgC C.N scw tg x = true → PG X x (tg.rd X.K) := by
  induction tg with
  | nm i =>
    intro x h
    unfold tgC at h
    split at h
    · rw [Bool.and_eq_true] at h
      obtain ⟨l, f⟩ := hw _ h.2
      exact pg_name nd (by rw [hN]; exact of_decide_eq_true h.1) l f
    · cases h
  | two a b iha ihb =>
    intro x h
    unfold tgC at h
    split at h
    · simp only [Bool.and_eq_true] at h
      obtain ⟨⟨h1, h2⟩, h3, h4⟩ := h
      exact pg_tup hc (pgs_cons (iha h1) (pgs_cons (ihb h2) pgs_nil (by rw [assign_cons h4]; rfl)) (by rw [assign_cons h3]; rfl)) (by rw [assign_cons h3, assign_cons h4]; rfl) (by rw [assign_cons h3, assign_cons h4]; rfl)
    · cases h
  | three a b c iha ihb ihc =>
    intro x h
    unfold tgC at h
    split at h
    · simp only [Bool.and_eq_true] at h
      obtain ⟨⟨h1, h2, h5⟩, h3, h4, h6⟩ := h
      exact pg_tup hc (pgs_cons (iha h1) (pgs_cons (ihb h2) (pgs_cons (ihc h5) pgs_nil (by rw [assign_cons h6]; rfl)) (by rw [assign_cons h4]; rfl)) (by rw [assign_cons h3]; rfl)) (by rw [assign_cons h3, assign_cons h4, assign_cons h6]; rfl)
        (by rw [assign_cons h3, assign_cons h4, assign_cons h6]; rfl)
    · cases h
  | four a b c d iha ihb ihc ihd =>
    intro x h
    unfold tgC at h
    split at h
    · simp only [Bool.and_eq_true] at h
      obtain ⟨⟨h1, h2, h5, h7⟩, h3, h4, h6, h8⟩ := h
      exact pg_tup hc (pgs_cons (iha h1) (pgs_cons (ihb h2) (pgs_cons (ihc h5) (pgs_cons (ihd h7) pgs_nil (by rw [assign_cons h8]; rfl)) (by rw [assign_cons h6]; rfl)) (by rw [assign_cons h4]; rfl)) (by rw [assign_cons h3]; rfl))
        (by rw [assign_cons h3, assign_cons h4, assign_cons h6, assign_cons h8]; rfl) (by rw [assign_cons h3, assign_cons h4, assign_cons h6, assign_cons h8]; rfl)
    · cases h
/-- in a block, its own names -/
theorem blk_names {scope : Scope} {s : Shared} {H : Hp} {Ca : Addr} {cl : List (Str × Addr)} {fp : List Addr} (y : Str) (h : locB scope y = true) :
    L2.Loc (X.blk s H scope (compEnvC scope cl Ca X.env) fp).env.scope y ∧ ((X.blk s H scope (compEnvC scope cl Ca X.env) fp).fn y = true ∨ (X.blk s H scope (compEnvC scope cl Ca X.env) fp).env.scope.names.lookup y = some .local) := by
  rcases locB_ok h with h | h
  · have q : (relS scope X.env.scope).names.lookup y = some .local := lookup_relS_keep (by decide) h
    exact ⟨.inl q, .inr q⟩
  · have q : (relS scope X.env.scope).names.lookup y = some .cell := lookup_relS_keep (by decide) h
    exact ⟨.inr q, .inl (by show (scope.names.lookup y == some .cell) = true; rw [h]; rfl)⟩
theorem allIn_ok {a b : List Nat} (h : allIn a b = true) : ∀ i ∈ a, i ∈ b := fun i hi => List.contains_iff_mem.mp (List.all_eq_true.mp h i hi)
theorem ownN_snd (N : List Str) (own : List Nat) : (ownN N own).map (·.2) = own := by
  unfold ownN
  rw [List.map_map]
  exact List.map_id own
end
end Mi

set_option Elab.async false
set_option linter.all false
set_option maxRecDepth 100000
set_option maxHeartbeats 2000000
/-! MiQ: what the checker lets is so. -/
namespace Mi
open PySem PySem.Spec PyProof.Rows L2
section
variable {C : Ck} {T : Tb} {Φ : Phi} {E : XK} {X : Cx} {sc : Scope}
theorem isZero_eq {e : Mi.E} (h : isZero e = true) : e = .lit (.int 0) := by
  unfold isZero at h
  split at h
  · rfl
  · cases h
theorem isNon_eq {e : Mi.E} (h : isNon e = true) : e = .lit .non := by
  unfold isNon at h
  split at h
  · rfl
  · cases h
theorem isYes_eq {e : Mi.E} (h : isYes e = true) : e = .lit (.bl true) := by
  unfold isYes at h
  split at h
  · rfl
  · cases h
theorem isTwo_eq {t : Tg} (h : isTwo t = true) : ∃ a b, t = .two a b := by
  unfold isTwo at h
  split at h
  · exact ⟨_, _, rfl⟩
  · cases h
theorem tyC_ok (g : Good C T Φ E X sc) {t : Ty} {x : Expr} (h : tyC C sc t x = true) : PTy X T t x ∧ t.ok T := by
  unfold tyC at h
  split at h
  · simp only [Bool.and_eq_true] at h
    obtain ⟨h1, h2, h3⟩ := h
    obtain ⟨q, hq, e⟩ := any_mem h3
    simp only [Bool.and_eq_true, decide_eq_true_eq] at e
    obtain ⟨rfl, rfl⟩ := e
    obtain ⟨m1, m2⟩ := g.cls q hq
    exact ⟨pty_cls (g.gl h1) m1 (noDb_ok h2).1, by show _ ∈ T.cs; rw [g.hcs]; exact m2⟩
  · rename_i hn
    obtain ⟨e, hg, hm, _⟩ := g.blt h
    have hn' : ∀ n, t ≠ .cls n := fun n e' => by subst e'; exact hn n rfl
    refine ⟨pty_blt e hn' hg hm, ?_⟩
    cases t <;> first | trivial | (exact (hn' _ rfl).elim)
  · cases h
/-- PT, given what is known of the parts -/
theorem ifs_ok {X : Cx} {ifs : List Expr} {c : Mi.E} (h : (ifs = [] ∧ isYes c = true) ∨ ∃ w, ifs = [w] ∧ PT X w (rdT X.K T E Φ c)) : PTs X ifs (rdT X.K T E Φ c) := by
  rcases h with ⟨rfl, hy⟩ | ⟨w, rfl, hw⟩
  · rw [isYes_eq hy]
    refine ⟨fun pins st σ H Q I ⟨W, S, δ, rel, sl, post⟩ => pts_nil.run pins st σ H Q I ?_⟩
    have post : PostG X.K T E pEq W (.ok true S) Q := post
    exact post W.F H true (Ext.refl _) rel rfl
  · exact pts_one hw
theorem or_one {y : Expr} {op : PySem.BoolOp} {r : List Expr} {p : Pos} {t : TE} (h : PE X (tailB op y r p) t) : PE X (.BoolOp op (y :: r) p) t := by
  cases r with
  | nil => exact pe_one h
  | cons z r => exact h
end
/-- what is said of an expression: as a value, as a test, as the rest of an and, an or -/
structure OkE (C : Ck) (T : Tb) (Φ : Phi) (e : Mi.E) : Prop where
  val : ∀ {E : XK} {X : Cx} {sc : Scope} {x : Expr}, Good C T Φ E X sc → chkE C e sc x = true → Sd X T E Φ e x
  tst : ∀ {E : XK} {X : Cx} {sc : Scope} {x : Expr}, Good C T Φ E X sc → chkE C e sc x = true → okT e x = true → PT X x (rdT X.K T E Φ e)
  rest : ∀ {E : XK} {X : Cx} {sc : Scope} {op : PySem.BoolOp} {y z : Expr} {r : List Expr} {p : Pos}, Good C T Φ E X sc → chkE C e sc (.BoolOp op (y :: z :: r) p) = true → okT e (.BoolOp op (y :: z :: r) p) = true → PW X (.BoolOp op (y :: z :: r) p) (rdT X.K T E Φ e)
def OkEs (C : Ck) (T : Tb) (Φ : Phi) (es : Es) : Prop := (∀ {E : XK} {X : Cx} {sc : Scope} {xs : List Expr}, Good C T Φ E X sc → chkD C es sc xs = true → Sds X T E Φ es xs ∧ es.len = xs.length) ∧
  ∀ {E : XK} {X : Cx} {sc : Scope} {xs : List Expr}, Good C T Φ E X sc → chkA C es sc xs = true → Sas X T E Φ es xs ∧ es.len = xs.length
def OkI (C : Ck) (T : Tb) (Φ : Phi) (it : Mi.It) : Prop := ∀ {E : XK} {X : Cx} {sc : Scope} {x tx : Expr} {tg : Tg}, Good C T Φ E X sc → chkI C it (isTwo tg) sc tx x = true → PI X tx x (rdI X.K T E Φ it tg)
section
variable {C : Ck} {T : Tb} {Φ : Phi}
theorem mkE {e : Mi.E} (hp : ∀ x, okT e x = plainT x) (hw : ∀ sc op y z r p, chkE C e sc (.BoolOp op (y :: z :: r) p) = false) (h : ∀ {E : XK} {X : Cx} {sc : Scope} {x : Expr}, Good C T Φ E X sc → chkE C e sc x = true → Sd X T E Φ e x) : OkE C T Φ e :=
  ⟨h, fun g k q => tVal (h g k) (by rw [← hp]; exact q), fun g k _ => by rw [hw] at k; cases k⟩
theorem ok_var {i : Nat} : OkE C T Φ (.var i) := by
  have hE : ∀ {E : XK} {X : Cx} {sc : Scope} {x : Expr}, Good C T Φ E X sc → chkE C (.var i) sc x = true → Sd X T E Φ (.var i) x := by
    intro E X sc x g h
    unfold chkE at h
    split at h
    · simp only [Bool.and_eq_true, decide_eq_true_eq] at h
      obtain ⟨h1, h2, h3⟩ := h
      exact cVar (by rw [g.hN]; exact h1) (by rw [g.hs]; exact visB_ok h2) (noDb_ok h3).1 (noDb_ok h3).2
    · cases h
  exact mkE (fun x => rfl) (fun sc op y z r p => rfl) hE
theorem ok_lit {d : D} : OkE C T Φ (.lit d) := by
  have hE : ∀ {E : XK} {X : Cx} {sc : Scope} {x : Expr}, Good C T Φ E X sc → chkE C (.lit d) sc x = true → Sd X T E Φ (.lit d) x := by
    intro E X sc x g h
    unfold chkE at h
    split at h
    · rw [of_decide_eq_true h]; exact cLit pe_int fun F => .int _
    · rw [beq_iff_eq.mp h]; exact cLit pe_bl fun F => .bl _
    · exact cLit pe_non fun F => .non
    · rw [of_decide_eq_true h]; exact cLit pe_str fun F => .str _
    · cases h
  exact mkE (fun x => rfl) (fun sc op y z r p => by cases d <;> rfl) hE
theorem ok_glb {y : Str} {d : D} : OkE C T Φ (.glb y d) := by
  have hE : ∀ {E : XK} {X : Cx} {sc : Scope} {x : Expr}, Good C T Φ E X sc → chkE C (.glb y d) sc x = true → Sd X T E Φ (.glb y d) x := by
    intro E X sc x g h
    unfold chkE at h
    split at h
    · simp only [Bool.and_eq_true, decide_eq_true_eq] at h
      obtain ⟨rfl, h1, h2, h3⟩ := h
      obtain ⟨q, hq, e⟩ := any_mem h3
      simp only [Bool.and_eq_true, decide_eq_true_eq] at e
      obtain ⟨rfl, e2⟩ := e
      obtain ⟨v, u, m1, m2, m3⟩ := g.cst q hq
      exact cGlb (g.gl h1) m1 m2 (fun F => by rw [← D.same_eq e2]; exact m3 F) (noDb_ok h2).1
    · cases h
  exact mkE (fun x => rfl) (fun sc op y z r p => rfl) hE
theorem ok_tup {es : Es} (h_es : OkEs C T Φ es) : OkE C T Φ (.tup es) := by
  have hE : ∀ {E : XK} {X : Cx} {sc : Scope} {x : Expr}, Good C T Φ E X sc → chkE C (.tup es) sc x = true → Sd X T E Φ (.tup es) x := by
    intro E X sc x g h
    unfold chkE at h
    split at h
    · simp only [Bool.and_eq_true, decide_eq_true_eq] at h
      obtain ⟨h1, h2⟩ := h_es.1 g h.1
      exact cTup h1 (by rw [h2, sizeLine_eq]; omega)
    · cases h
  exact mkE (fun x => rfl) (fun sc op y z r p => rfl) hE
theorem ok_lst {es : Es} (h_es : OkEs C T Φ es) : OkE C T Φ (.lst es) := by
  have hE : ∀ {E : XK} {X : Cx} {sc : Scope} {x : Expr}, Good C T Φ E X sc → chkE C (.lst es) sc x = true → Sd X T E Φ (.lst es) x := by
    intro E X sc x g h
    unfold chkE at h
    split at h
    · simp only [Bool.and_eq_true, decide_eq_true_eq] at h
      obtain ⟨h1, h2⟩ := h_es.1 g h.1
      exact cLst h1 (by rw [h2, sizeLine_eq]; omega)
    · cases h
  exact mkE (fun x => rfl) (fun sc op y z r p => rfl) hE
theorem ok_dic0 {t : Bool} : OkE C T Φ (.dic0 t) := by
  have hE : ∀ {E : XK} {X : Cx} {sc : Scope} {x : Expr}, Good C T Φ E X sc → chkE C (.dic0 t) sc x = true → Sd X T E Φ (.dic0 t) x := by
    intro E X sc x g h
    unfold chkE at h
    split at h
    · exact cDic0
    · cases h
  exact mkE (fun x => rfl) (fun sc op y z r p => rfl) hE
theorem ok_bin {o : BO} {a b : Mi.E} (h_a : OkE C T Φ a) (h_b : OkE C T Φ b) : OkE C T Φ (.bin o a b) := by
  have hE : ∀ {E : XK} {X : Cx} {sc : Scope} {x : Expr}, Good C T Φ E X sc → chkE C (.bin o a b) sc x = true → Sd X T E Φ (.bin o a b) x := by
    intro E X sc x g h
    unfold chkE at h
    split at h
    · simp only [Bool.and_eq_true, decide_eq_true_eq] at h
      obtain ⟨rfl, h1, h2⟩ := h
      exact cBin (h_a.val g h1) (h_b.val g h2)
    · cases h
  exact mkE (fun x => rfl) (fun sc op y z r p => rfl) hE
theorem ok_neg {a : Mi.E} (h_a : OkE C T Φ a) : OkE C T Φ (.neg a) := by
  have hE : ∀ {E : XK} {X : Cx} {sc : Scope} {x : Expr}, Good C T Φ E X sc → chkE C (.neg a) sc x = true → Sd X T E Φ (.neg a) x := by
    intro E X sc x g h
    unfold chkE at h
    split at h
    · exact cNeg (h_a.val g h)
    · cases h
  exact mkE (fun x => rfl) (fun sc op y z r p => rfl) hE
theorem ok_not {a : Mi.E} (h_a : OkE C T Φ a) : OkE C T Φ (.not a) := by
  have hE : ∀ {E : XK} {X : Cx} {sc : Scope} {x : Expr}, Good C T Φ E X sc → chkE C (.not a) sc x = true → Sd X T E Φ (.not a) x := by
    intro E X sc x g h
    unfold chkE at h
    split at h
    · exact cNot (h_a.val g h)
    · cases h
  refine ⟨hE, fun {E X sc x} g h k => ?_, fun g h _ => by cases (show false = true from h)⟩
  unfold chkE at h
  split at h
  · exact tNotV (h_a.tst g h k)
  · cases h
theorem ok_cmp {o : CO} {a b : Mi.E} (h_a : OkE C T Φ a) (h_b : OkE C T Φ b) : OkE C T Φ (.cmp o a b) := by
  have hE : ∀ {E : XK} {X : Cx} {sc : Scope} {x : Expr}, Good C T Φ E X sc → chkE C (.cmp o a b) sc x = true → Sd X T E Φ (.cmp o a b) x := by
    intro E X sc x g h
    unfold chkE at h
    split at h
    · simp only [Bool.and_eq_true, decide_eq_true_eq] at h
      obtain ⟨rfl, h1, h2, h3⟩ := h
      exact cCmp g.un (h_a.val g h2) (h_b.val g h3) h1
    · cases h
  refine ⟨hE, fun {E X sc x} g h k => ?_, fun g h _ => by cases (show false = true from h)⟩
  unfold chkE at h
  split at h
  · simp only [Bool.and_eq_true, decide_eq_true_eq] at h
    obtain ⟨rfl, h1, h2, h3⟩ := h
    exact tCmpV g.un (h_a.val g h2) (h_b.val g h3) h1
  · cases h
theorem ok_chn {o o' : CO} {a b c : Mi.E} (h_a : OkE C T Φ a) (h_b : OkE C T Φ b) (h_c : OkE C T Φ c) : OkE C T Φ (.chn o o' a b c) := by
  have hE : ∀ {E : XK} {X : Cx} {sc : Scope} {x : Expr}, Good C T Φ E X sc → chkE C (.chn o o' a b c) sc x = true → Sd X T E Φ (.chn o o' a b c) x := by
    intro E X sc x g h
    unfold chkE at h
    split at h
    · simp only [Bool.and_eq_true, decide_eq_true_eq] at h
      obtain ⟨⟨rfl, rfl⟩, h1, h2, h3, h4⟩ := h
      exact cChn g.un (h_a.val g h2) (h_b.val g h3) (h_c.val g h4) h1
    · cases h
  refine ⟨hE, fun {E X sc x} g h k => ?_, fun g h _ => by cases (show false = true from h)⟩
  unfold chkE at h
  split at h
  · simp only [Bool.and_eq_true, decide_eq_true_eq] at h
    obtain ⟨⟨rfl, rfl⟩, h1, h2, h3, h4⟩ := h
    exact tChnV g.un (h_a.val g h2) (h_b.val g h3) (h_c.val g h4) h1
  · cases h
theorem ok_and {a b : Mi.E} (h_a : OkE C T Φ a) (h_b : OkE C T Φ b) : OkE C T Φ (.and a b) := by
  have hE : ∀ {E : XK} {X : Cx} {sc : Scope} {x : Expr}, Good C T Φ E X sc → chkE C (.and a b) sc x = true → Sd X T E Φ (.and a b) x := by
    intro E X sc x g h
    unfold chkE at h
    split at h
    · simp only [Bool.and_eq_true] at h
      exact cAnd (h_a.val g h.1) (or_one (h_b.val g h.2))
    · cases h
  have hW : ∀ {E : XK} {X : Cx} {sc : Scope} {y z : Expr} {r : List Expr} {p : Pos}, Good C T Φ E X sc → chkE C (.and a b) sc (.BoolOp .And (y :: z :: r) p) = true → okT (.and a b) (.BoolOp .And (y :: z :: r) p) = true → PW X (.BoolOp .And (y :: z :: r) p) (rdT X.K T E Φ (.and a b)) := by
    intro E X sc y z r p g h k
    have h : (chkE C a sc y && chkE C b sc (tailB .And z r p)) = true := h
    have k : (okT a y && okT b (tailB .And z r p)) = true := k
    rw [Bool.and_eq_true] at h k
    refine wAnd (h_a.tst g h.1 k.1) ?_
    cases r with
    | nil => exact pw_and1 (h_b.tst g h.2 k.2)
    | cons w r => exact h_b.rest g h.2 k.2
  refine ⟨hE, fun {E X sc x} g h k => ?_, fun {E X sc op y z r p} g h k => ?_⟩
  · have h0 := h
    unfold chkE at h
    split at h
    · exact (hW g h0 k).pt
    · cases h
  · cases op with
    | And => exact hW g h k
    | _ => cases (show false = true from h)
theorem ok_or {a b : Mi.E} (h_a : OkE C T Φ a) (h_b : OkE C T Φ b) : OkE C T Φ (.or a b) := by
  have hE : ∀ {E : XK} {X : Cx} {sc : Scope} {x : Expr}, Good C T Φ E X sc → chkE C (.or a b) sc x = true → Sd X T E Φ (.or a b) x := by
    intro E X sc x g h
    unfold chkE at h
    split at h
    · simp only [Bool.and_eq_true] at h
      exact cOr (h_a.val g h.1) (or_one (h_b.val g h.2))
    · cases h
  have hW : ∀ {E : XK} {X : Cx} {sc : Scope} {y z : Expr} {r : List Expr} {p : Pos}, Good C T Φ E X sc → chkE C (.or a b) sc (.BoolOp .Or (y :: z :: r) p) = true → okT (.or a b) (.BoolOp .Or (y :: z :: r) p) = true → PW X (.BoolOp .Or (y :: z :: r) p) (rdT X.K T E Φ (.or a b)) := by
    intro E X sc y z r p g h k
    have h : (chkE C a sc y && chkE C b sc (tailB .Or z r p)) = true := h
    have k : (okT a y && okT b (tailB .Or z r p)) = true := k
    rw [Bool.and_eq_true] at h k
    refine wOr (h_a.tst g h.1 k.1) ?_
    cases r with
    | nil => exact pw_or1 (h_b.tst g h.2 k.2)
    | cons w r => exact h_b.rest g h.2 k.2
  refine ⟨hE, fun {E X sc x} g h k => ?_, fun {E X sc op y z r p} g h k => ?_⟩
  · have h0 := h
    unfold chkE at h
    split at h
    · exact (hW g h0 k).pt
    · cases h
  · cases op with
    | Or => exact hW g h k
    | _ => cases (show false = true from h)
theorem ok_ite {c a b : Mi.E} (h_c : OkE C T Φ c) (h_a : OkE C T Φ a) (h_b : OkE C T Φ b) : OkE C T Φ (.ite c a b) := by
  have hE : ∀ {E : XK} {X : Cx} {sc : Scope} {x : Expr}, Good C T Φ E X sc → chkE C (.ite c a b) sc x = true → Sd X T E Φ (.ite c a b) x := by
    intro E X sc x g h
    unfold chkE at h
    split at h
    · simp only [Bool.and_eq_true] at h
      obtain ⟨⟨h1, h2⟩, h3, h4⟩ := h
      exact cIte (h_c.tst g h1 h2) (h_a.val g h3) (h_b.val g h4)
    · cases h
  exact mkE (fun x => rfl) (fun sc op y z r p => rfl) hE
theorem ok_call {n : Nat} {es : Es} (h_es : OkEs C T Φ es) : OkE C T Φ (.call n es) := by
  have hE : ∀ {E : XK} {X : Cx} {sc : Scope} {x : Expr}, Good C T Φ E X sc → chkE C (.call n es) sc x = true → Sd X T E Φ (.call n es) x := by
    intro E X sc x g h
    unfold chkE at h
    split at h
    · simp only [Bool.and_eq_true] at h
      obtain ⟨⟨h1, h2, h3⟩, h4, h5, h6⟩ := h
      obtain ⟨q, hq, e⟩ := any_mem h3
      simp only [Bool.and_eq_true, decide_eq_true_eq] at e
      obtain ⟨rfl, rfl⟩ := e
      obtain ⟨m1, m2⟩ := g.fns q hq
      obtain ⟨s1, s2⟩ := h_es.2 g h6
      exact cCall (g.gl h1) m1 m2 (noDb_ok h2).1 (g.call _ (List.contains_iff_mem.mp h4)) g.pa s1 h5 s2
    · cases h
  exact mkE (fun x => rfl) (fun sc op y z r p => rfl) hE
theorem ok_dyn {i : Nat} {es : Es} (h_es : OkEs C T Φ es) : OkE C T Φ (.dyn i es) := by
  have hE : ∀ {E : XK} {X : Cx} {sc : Scope} {x : Expr}, Good C T Φ E X sc → chkE C (.dyn i es) sc x = true → Sd X T E Φ (.dyn i es) x := by
    intro E X sc x g h
    unfold chkE at h
    cases h
  exact mkE (fun x => rfl) (fun sc op y z r p => rfl) hE
theorem ok_b1 {b : B1} {a : Mi.E} (h_a : OkE C T Φ a) : OkE C T Φ (.b1 b a) := by
  have hE : ∀ {E : XK} {X : Cx} {sc : Scope} {x : Expr}, Good C T Φ E X sc → chkE C (.b1 b a) sc x = true → Sd X T E Φ (.b1 b a) x := by
    intro E X sc x g h
    unfold chkE at h
    split at h
    · simp only [Bool.and_eq_true] at h
      obtain ⟨⟨h1, h2⟩, h3, h4⟩ := h
      obtain ⟨e, hg, hm, hd, hn⟩ := g.blt h2
      exact cB1 g.un h1 e g.calm hg hm hn hd h3 (h_a.val g h4)
    · cases h
  exact mkE (fun x => rfl) (fun sc op y z r p => rfl) hE
theorem ok_b2 {b : B2} {a c : Mi.E} (h_a : OkE C T Φ a) (h_c : OkE C T Φ c) : OkE C T Φ (.b2 b a c) := by
  have hE : ∀ {E : XK} {X : Cx} {sc : Scope} {x : Expr}, Good C T Φ E X sc → chkE C (.b2 b a c) sc x = true → Sd X T E Φ (.b2 b a c) x := by
    intro E X sc x g h
    unfold chkE at h
    split at h
    · simp only [Bool.and_eq_true] at h
      obtain ⟨h2, ⟨h3, h4⟩, h5, h6⟩ := h
      obtain ⟨e, hg, hm, hd, hn⟩ := g.blt h2
      exact cB2 e g.calm hg hm hn hd h3 h4 (h_a.val g h5) (h_c.val g h6)
    · cases h
  exact mkE (fun x => rfl) (fun sc op y z r p => rfl) hE
theorem ok_lrng {a b : Mi.E} (h_a : OkE C T Φ a) (h_b : OkE C T Φ b) : OkE C T Φ (.lrng a b) := by
  have hE : ∀ {E : XK} {X : Cx} {sc : Scope} {x : Expr}, Good C T Φ E X sc → chkE C (.lrng a b) sc x = true → Sd X T E Φ (.lrng a b) x := by
    intro E X sc x g h
    unfold chkE at h
    split at h
    · simp only [Bool.and_eq_true] at h
      obtain ⟨⟨h1, h2⟩, h3, h4, h5⟩ := h
      obtain ⟨e, hg, hm, hd, hn⟩ := g.blt h1
      obtain ⟨e', hg', hm', hd', hn'⟩ := g.blt h2
      rw [isZero_eq h3]
      exact cLrng e g.calm hg hm rfl (rg1 e' hg' hm' h4 (h_b.val g h5))
    · simp only [Bool.and_eq_true] at h
      obtain ⟨⟨h1, h2⟩, ⟨h3, h4⟩, h5, h6⟩ := h
      obtain ⟨e, hg, hm, hd, hn⟩ := g.blt h1
      obtain ⟨e', hg', hm', hd', hn'⟩ := g.blt h2
      exact cLrng e g.calm hg hm rfl (rg2 e' hg' hm' h3 h4 (h_a.val g h5) (h_b.val g h6))
    · cases h
  exact mkE (fun x => rfl) (fun sc op y z r p => rfl) hE
theorem ok_trng {a b : Mi.E} (h_a : OkE C T Φ a) (h_b : OkE C T Φ b) : OkE C T Φ (.trng a b) := by
  have hE : ∀ {E : XK} {X : Cx} {sc : Scope} {x : Expr}, Good C T Φ E X sc → chkE C (.trng a b) sc x = true → Sd X T E Φ (.trng a b) x := by
    intro E X sc x g h
    unfold chkE at h
    split at h
    · simp only [Bool.and_eq_true] at h
      obtain ⟨⟨h1, h2⟩, h3, h4, h5⟩ := h
      obtain ⟨e, hg, hm, hd, hn⟩ := g.blt h1
      obtain ⟨e', hg', hm', hd', hn'⟩ := g.blt h2
      rw [isZero_eq h3]
      exact cTrng e g.calm hg hm rfl (rg1 e' hg' hm' h4 (h_b.val g h5))
    · simp only [Bool.and_eq_true] at h
      obtain ⟨⟨h1, h2⟩, ⟨h3, h4⟩, h5, h6⟩ := h
      obtain ⟨e, hg, hm, hd, hn⟩ := g.blt h1
      obtain ⟨e', hg', hm', hd', hn'⟩ := g.blt h2
      exact cTrng e g.calm hg hm rfl (rg2 e' hg' hm' h3 h4 (h_a.val g h5) (h_b.val g h6))
    · cases h
  exact mkE (fun x => rfl) (fun sc op y z r p => rfl) hE
theorem ok_isi {a : Mi.E} {t : Ty} (h_a : OkE C T Φ a) : OkE C T Φ (.isi a t) := by
  have hE : ∀ {E : XK} {X : Cx} {sc : Scope} {x : Expr}, Good C T Φ E X sc → chkE C (.isi a t) sc x = true → Sd X T E Φ (.isi a t) x := by
    intro E X sc x g h
    unfold chkE at h
    split at h
    · simp only [Bool.and_eq_true] at h
      obtain ⟨h1, ⟨h2, h3⟩, h4, h5⟩ := h
      obtain ⟨e, hg, hm, hd, hn⟩ := g.blt h1
      obtain ⟨t1, t2⟩ := tyC_ok g h5
      exact cIsi e (by rw [g.hcs]; exact g.cf) t2 hg hm h2 h3 (h_a.val g h4) t1
    · cases h
  exact mkE (fun x => rfl) (fun sc op y z r p => rfl) hE
theorem ok_isi2 {a : Mi.E} {t u : Ty} (h_a : OkE C T Φ a) : OkE C T Φ (.isi2 a t u) := by
  have hE : ∀ {E : XK} {X : Cx} {sc : Scope} {x : Expr}, Good C T Φ E X sc → chkE C (.isi2 a t u) sc x = true → Sd X T E Φ (.isi2 a t u) x := by
    intro E X sc x g h
    unfold chkE at h
    split at h
    · simp only [Bool.and_eq_true] at h
      obtain ⟨h1, ⟨h2, h3, h6⟩, h4, h5, h7⟩ := h
      obtain ⟨e, hg, hm, hd, hn⟩ := g.blt h1
      obtain ⟨t1, t2⟩ := tyC_ok g h5
      obtain ⟨t3, t4⟩ := tyC_ok g h7
      exact cIsi2 e (by rw [g.hcs]; exact g.cf) t2 t4 hg hm h2 h3 h6 (h_a.val g h4) t1 t3
    · cases h
  exact mkE (fun x => rfl) (fun sc op y z r p => rfl) hE
theorem ok_m0 {m : M0} {o : Mi.E} (h_o : OkE C T Φ o) : OkE C T Φ (.m0 m o) := by
  have hE : ∀ {E : XK} {X : Cx} {sc : Scope} {x : Expr}, Good C T Φ E X sc → chkE C (.m0 m o) sc x = true → Sd X T E Φ (.m0 m o) x := by
    intro E X sc x g h
    unfold chkE at h
    split at h
    · simp only [Bool.and_eq_true, decide_eq_true_eq] at h
      obtain ⟨rfl, h1, h2, h3⟩ := h
      exact sdM0 (h_o.val g h3) h1 h2
    · cases h
  exact mkE (fun x => rfl) (fun sc op y z r p => rfl) hE
theorem ok_m1 {m : M1} {o a : Mi.E} (h_o : OkE C T Φ o) (h_a : OkE C T Φ a) : OkE C T Φ (.m1 m o a) := by
  have hE : ∀ {E : XK} {X : Cx} {sc : Scope} {x : Expr}, Good C T Φ E X sc → chkE C (.m1 m o a) sc x = true → Sd X T E Φ (.m1 m o a) x := by
    intro E X sc x g h
    unfold chkE at h
    split at h
    · simp only [Bool.and_eq_true, decide_eq_true_eq] at h
      obtain ⟨rfl, h1, h2, h3, h4, h5⟩ := h
      exact sdM1 g.un (h_o.val g h4) (h_a.val g h5) h1 h2 h3
    · cases h
  exact mkE (fun x => rfl) (fun sc op y z r p => rfl) hE
theorem ok_m2 {m : M2} {o a b : Mi.E} (h_o : OkE C T Φ o) (h_a : OkE C T Φ a) (h_b : OkE C T Φ b) : OkE C T Φ (.m2 m o a b) := by
  have hE : ∀ {E : XK} {X : Cx} {sc : Scope} {x : Expr}, Good C T Φ E X sc → chkE C (.m2 m o a b) sc x = true → Sd X T E Φ (.m2 m o a b) x := by
    intro E X sc x g h
    unfold chkE at h
    cases h
  exact mkE (fun x => rfl) (fun sc op y z r p => rfl) hE
theorem ok_ix {a i : Mi.E} (h_a : OkE C T Φ a) (h_i : OkE C T Φ i) : OkE C T Φ (.ix a i) := by
  have hE : ∀ {E : XK} {X : Cx} {sc : Scope} {x : Expr}, Good C T Φ E X sc → chkE C (.ix a i) sc x = true → Sd X T E Φ (.ix a i) x := by
    intro E X sc x g h
    unfold chkE at h
    split at h
    · simp only [Bool.and_eq_true] at h
      exact cIx g.un (h_a.val g h.2.1) (h_i.val g h.2.2) h.1
    · cases h
  exact mkE (fun x => rfl) (fun sc op y z r p => rfl) hE
theorem ok_sl {a lo hi : Mi.E} (h_a : OkE C T Φ a) (h_lo : OkE C T Φ lo) (h_hi : OkE C T Φ hi) : OkE C T Φ (.sl a lo hi) := by
  have hE : ∀ {E : XK} {X : Cx} {sc : Scope} {x : Expr}, Good C T Φ E X sc → chkE C (.sl a lo hi) sc x = true → Sd X T E Φ (.sl a lo hi) x := by
    intro E X sc x g h
    unfold chkE at h
    split at h
    · simp only [Bool.and_eq_true] at h
      obtain ⟨h1, h2, h3⟩ := h
      refine cSl (h_a.val g h1) ?_ ?_
      · split at h2
        · rw [isNon_eq h2]; exact cPn
        · exact cPs (h_lo.val g h2)
      · split at h3
        · rw [isNon_eq h3]; exact cPn
        · exact cPs (h_hi.val g h3)
    · cases h
  exact mkE (fun x => rfl) (fun sc op y z r p => rfl) hE
theorem ok_rev {a : Mi.E} (h_a : OkE C T Φ a) : OkE C T Φ (.rev a) := by
  have hE : ∀ {E : XK} {X : Cx} {sc : Scope} {x : Expr}, Good C T Φ E X sc → chkE C (.rev a) sc x = true → Sd X T E Φ (.rev a) x := by
    intro E X sc x g h
    unfold chkE at h
    split at h
    · exact cRev (p4 := ⟨0, 0, 0, 0⟩) (h_a.val g h)
    · cases h
  exact mkE (fun x => rfl) (fun sc op y z r p => rfl) hE
theorem ok_fld {a : Mi.E} {n : Nat} {f : Str} (h_a : OkE C T Φ a) : OkE C T Φ (.fld a n f) := by
  have hE : ∀ {E : XK} {X : Cx} {sc : Scope} {x : Expr}, Good C T Φ E X sc → chkE C (.fld a n f) sc x = true → Sd X T E Φ (.fld a n f) x := by
    intro E X sc x g h
    unfold chkE at h
    split at h
    · simp only [Bool.and_eq_true, decide_eq_true_eq] at h
      obtain ⟨rfl, h1, ⟨h2, h3⟩, h4⟩ := h
      exact sdFld (h_a.val g h4) h1 (g.fo n (List.contains_iff_mem.mp h2) _ (List.contains_iff_mem.mp h3))
    · cases h
  exact mkE (fun x => rfl) (fun sc op y z r p => rfl) hE
theorem ok_lc1 {own : List Nat} {elt : Mi.E} {tg : Tg} {it : Mi.It} {c : Mi.E} (h_elt : OkE C T Φ elt) (h_it : OkI C T Φ it) (h_c : OkE C T Φ c) : OkE C T Φ (.lc1 own elt tg it c) := by
  have hE : ∀ {E : XK} {X : Cx} {sc : Scope} {x : Expr}, Good C T Φ E X sc → chkE C (.lc1 own elt tg it c) sc x = true → Sd X T E Φ (.lc1 own elt tg it c) x := by
    intro E X sc x g h
    unfold chkE at h
    split at h
    · rename_i y tx ix ifs scope pos
      simp only [Bool.and_eq_true] at h
      obtain ⟨⟨h1, h2, h3, h4⟩, h5, h6, h7⟩ := h
      have ho := allIn_ok h2
      have r := pe_lc (scope := scope) (ifs := ifs) (g := tg.rd X.K) (tt := rdT X.K T NoX Φ c) (te := rdE X.K T NoX Φ elt) (pos := pos) g.calm g.nd (h_it g h5) (blkOk_by (by rw [g.hN, g.hs]; exact h1)) (fun s H Ca cl fp => tg_ok (X := X.blk s H scope (compEnvC scope cl Ca X.env) fp) g.calm g.nd g.hN (fun y hy => blk_names (X := X) y hy) tg h4)
        (fun s H Ca cl fp => ifs_ok (T := T) (Φ := Φ) (E := NoX) (ifs := ifs) (c := c) (by
          split at h7
          · exact .inl ⟨rfl, h7⟩
          · rw [Bool.and_eq_true] at h7
            exact .inr ⟨_, rfl, h_c.tst (g.blk s H Ca cl fp) h7.2 h7.1⟩
          · cases h7)) (fun s H Ca cl fp => h_elt.val (g.blk s H Ca cl fp) h6) (noSet_folded h3 _)
      refine peImp r fun σ H Q h => ?_
      rw [ownN_snd]
      exact tLc_of ho h
    · cases h
  exact mkE (fun x => rfl) (fun sc op y z r p => rfl) hE
theorem ok_lc2 {own own2 : List Nat} {elt : Mi.E} {tg : Tg} {it : Mi.It} {c : Mi.E} {tg2 : Tg} {it2 : Mi.It} {c2 : Mi.E} (h_elt : OkE C T Φ elt) (h_it : OkI C T Φ it) (h_c : OkE C T Φ c) (h_it2 : OkI C T Φ it2) (h_c2 : OkE C T Φ c2) : OkE C T Φ (.lc2 own own2 elt tg it c tg2 it2 c2) := by
  have hE : ∀ {E : XK} {X : Cx} {sc : Scope} {x : Expr}, Good C T Φ E X sc → chkE C (.lc2 own own2 elt tg it c tg2 it2 c2) sc x = true → Sd X T E Φ (.lc2 own own2 elt tg it c tg2 it2 c2) x := by
    intro E X sc x g h
    unfold chkE at h
    split at h
    · rename_i y tx ix ifs tx2 ix2 ifs2 scope pos
      simp only [Bool.and_eq_true] at h
      obtain ⟨⟨⟨h1, h2, h3, h4⟩, h8, h9, h10, h11⟩, ⟨h5, h12, h6⟩, h7, h13⟩ := h
      have r := pe_lc2 (scope := scope) (ifs := ifs) (ifs1 := ifs2) (g := tg.rd X.K) (g1 := tg2.rd X.K) (tt := rdT X.K T NoX Φ c) (tt1 := rdT X.K T NoX Φ c2) (wi1 := rdI X.K T NoX Φ it2 tg2) (te := rdE X.K T NoX Φ elt) (vs1 := own2) (pos := pos) g.calm g.nd (h_it g h5) (blkOk_by (by rw [g.hN, g.hs]; exact h1)) (by rw [ownN_snd]; exact allIn_ok h8) (fun s H Ca cl fp => tg_ok (X := X.blk s H scope (compEnvC scope cl Ca X.env) fp) g.calm g.nd g.hN (fun y hy => blk_names (X := X) y hy) tg h4)
        (fun s H Ca cl fp => ifs_ok (T := T) (Φ := Φ) (E := NoX) (ifs := ifs) (c := c) (by
          split at h7
          · exact .inl ⟨rfl, h7⟩
          · rw [Bool.and_eq_true] at h7
            exact .inr ⟨_, rfl, h_c.tst (g.blk s H Ca cl fp) h7.2 h7.1⟩
          · cases h7))
        (fun s H Ca cl fp => h_it2 (g.blk s H Ca cl fp) h12) (fun s H Ca cl fp => tg_ok (X := X.blk s H scope (compEnvC scope cl Ca X.env) fp) g.calm g.nd g.hN (fun y hy => blk_names (X := X) y hy) tg2 h11)
        (fun s H Ca cl fp => ifs_ok (T := T) (Φ := Φ) (E := NoX) (ifs := ifs2) (c := c2) (by
          split at h13
          · exact .inl ⟨rfl, h13⟩
          · rw [Bool.and_eq_true] at h13
            exact .inr ⟨_, rfl, h_c2.tst (g.blk s H Ca cl fp) h13.2 h13.1⟩
          · cases h13))
        (fun s H Ca cl fp => h_elt.val (g.blk s H Ca cl fp) h6) (noSet_folded h3 _) (fun env => noSet_folded h10 env)
      refine peImp r fun σ H Q h => ?_
      rw [ownN_snd]
      exact tLc2_of (allIn_ok h2) (allIn_ok h9) h
    · cases h
  exact mkE (fun x => rfl) (fun sc op y z r p => rfl) hE
theorem ok_dc1 {own : List Nat} {t : Bool} {k v : Mi.E} {tg : Tg} {it : Mi.It} {c : Mi.E} (h_k : OkE C T Φ k) (h_v : OkE C T Φ v) (h_it : OkI C T Φ it) (h_c : OkE C T Φ c) : OkE C T Φ (.dc1 own t k v tg it c) := by
  have hE : ∀ {E : XK} {X : Cx} {sc : Scope} {x : Expr}, Good C T Φ E X sc → chkE C (.dc1 own t k v tg it c) sc x = true → Sd X T E Φ (.dc1 own t k v tg it c) x := by
    intro E X sc x g h
    unfold chkE at h
    split at h
    · rename_i y u tx ix ifs scope pos
      simp only [Bool.and_eq_true, Bool.not_eq_true'] at h
      obtain ⟨⟨rfl, h1, h2, h3, h4⟩, h5, ⟨h6, h8⟩, h7⟩ := h
      have ho := allIn_ok h2
      have r := pe_dc (scope := scope) (ifs := ifs) (g := tg.rd X.K) (tt := rdT X.K T NoX Φ c) (tk := rdE X.K T NoX Φ k) (tv := rdE X.K T NoX Φ v) (pos := pos) g.calm g.nd (h_it g h5) (blkOk_by (by rw [g.hN, g.hs]; exact h1)) (fun s H Ca cl fp => tg_ok (X := X.blk s H scope (compEnvC scope cl Ca X.env) fp) g.calm g.nd g.hN (fun y hy => blk_names (X := X) y hy) tg h4)
        (fun s H Ca cl fp => ifs_ok (T := T) (Φ := Φ) (E := NoX) (ifs := ifs) (c := c) (by
          split at h7
          · exact .inl ⟨rfl, h7⟩
          · rw [Bool.and_eq_true] at h7
            exact .inr ⟨_, rfl, h_c.tst (g.blk s H Ca cl fp) h7.2 h7.1⟩
          · cases h7)) (fun s H Ca cl fp => h_k.val (g.blk s H Ca cl fp) h6) (fun s H Ca cl fp => h_v.val (g.blk s H Ca cl fp) h8) (noSet_folded h3 _)
      refine peImp r fun σ H Q h => ?_
      rw [ownN_snd]
      exact tDc_of ho h
    · cases h
  exact mkE (fun x => rfl) (fun sc op y z r p => rfl) hE
theorem ok_nil : OkEs C T Φ .nil := by
  refine ⟨fun {E X sc xs} g h => ?_, fun {E X sc xs} g h => ?_⟩
  · unfold chkD at h
    split at h
    · exact ⟨cDs0, rfl⟩
    · cases h
  · unfold chkA at h
    split at h
    · exact ⟨cAs0, rfl⟩
    · cases h
theorem ok_cons {e : Mi.E} {es : Es} (h_e : OkE C T Φ e) (h_es : OkEs C T Φ es) : OkEs C T Φ (.cons e es) := by
  refine ⟨fun {E X sc xs} g h => ?_, fun {E X sc xs} g h => ?_⟩
  · unfold chkD at h
    split at h
    · simp only [Bool.and_eq_true] at h
      obtain ⟨h1, h2, h3⟩ := h
      obtain ⟨a1, a2⟩ := h_es.1 g h3
      exact ⟨cDs (h_e.val g h2) a1 h1, by show _ + 1 = _ + 1; rw [a2]⟩
    · cases h
  · unfold chkA at h
    split at h
    · simp only [Bool.and_eq_true] at h
      obtain ⟨h1, h2, h3⟩ := h
      obtain ⟨a1, a2⟩ := h_es.2 g h3
      exact ⟨cAs (h_e.val g h2) a1 h1, by show _ + 1 = _ + 1; rw [a2]⟩
    · cases h
theorem ok_seq {e : Mi.E} (h_e : OkE C T Φ e) : OkI C T Φ (.seq e) := by
  intro E X sc x tx tg g h
  unfold chkI at h
  rw [Bool.and_eq_true] at h
  exact cSeq (h_e.val g h.2)
theorem ok_rng {a b : Mi.E} (h_a : OkE C T Φ a) (h_b : OkE C T Φ b) : OkI C T Φ (.rng a b) := by
  intro E X sc x tx tg g h
  unfold chkI at h
  split at h
  · simp only [Bool.and_eq_true] at h
    obtain ⟨h1, h2, h3, h4⟩ := h
    obtain ⟨e, hg, hm, hd, hn⟩ := g.blt h1
    rw [isZero_eq h2]
    exact cRng1 e hg hm h3 (h_b.val g h4)
  · simp only [Bool.and_eq_true] at h
    obtain ⟨h1, ⟨h2, h3⟩, h4, h5⟩ := h
    obtain ⟨e, hg, hm, hd, hn⟩ := g.blt h1
    exact cRng2 e hg hm h2 h3 (h_a.val g h4) (h_b.val g h5)
  · cases h
theorem ok_enum {e : Mi.E} (h_e : OkE C T Φ e) : OkI C T Φ (.enum e) := by
  intro E X sc x tx tg g h
  unfold chkI at h
  split at h
  · simp only [Bool.and_eq_true] at h
    obtain ⟨⟨h1, h2⟩, h3, h4⟩ := h
    obtain ⟨ta, tb, rfl⟩ := isTwo_eq h1
    obtain ⟨e, hg, hm, hd, hn⟩ := g.blt h2
    exact cEnum e hg hm h3 (h_e.val g h4)
  · cases h
theorem ok_zip {a b : Mi.E} (h_a : OkE C T Φ a) (h_b : OkE C T Φ b) : OkI C T Φ (.zip a b) := by
  intro E X sc x tx tg g h
  unfold chkI at h
  split at h
  · simp only [Bool.and_eq_true] at h
    obtain ⟨⟨h1, h2⟩, ⟨h3, h5⟩, h4, h6⟩ := h
    obtain ⟨ta, tb, rfl⟩ := isTwo_eq h1
    obtain ⟨e, hg, hm, hd, hn⟩ := g.blt h2
    exact cZip e hg hm h3 h5 (h_a.val g h4) (h_b.val g h6)
  · cases h
mutual
theorem okE : ∀ e : Mi.E, OkE C T Φ e
  | .var i => ok_var
  | .lit d => ok_lit
  | .glb y d => ok_glb
  | .tup es => ok_tup (okEs es)
  | .lst es => ok_lst (okEs es)
  | .dic0 t => ok_dic0
  | .bin o a b => ok_bin (okE a) (okE b)
  | .neg a => ok_neg (okE a)
  | .not a => ok_not (okE a)
  | .cmp o a b => ok_cmp (okE a) (okE b)
  | .chn o o' a b c => ok_chn (okE a) (okE b) (okE c)
  | .and a b => ok_and (okE a) (okE b)
  | .or a b => ok_or (okE a) (okE b)
  | .ite c a b => ok_ite (okE c) (okE a) (okE b)
  | .call n es => ok_call (okEs es)
  | .dyn i es => ok_dyn (okEs es)
  | .b1 b a => ok_b1 (okE a)
  | .b2 b a c => ok_b2 (okE a) (okE c)
  | .lrng a b => ok_lrng (okE a) (okE b)
  | .trng a b => ok_trng (okE a) (okE b)
  | .isi a t => ok_isi (okE a)
  | .isi2 a t u => ok_isi2 (okE a)
  | .m0 m o => ok_m0 (okE o)
  | .m1 m o a => ok_m1 (okE o) (okE a)
  | .m2 m o a b => ok_m2 (okE o) (okE a) (okE b)
  | .ix a i => ok_ix (okE a) (okE i)
  | .sl a lo hi => ok_sl (okE a) (okE lo) (okE hi)
  | .rev a => ok_rev (okE a)
  | .fld a n f => ok_fld (okE a)
  | .lc1 own elt tg it c => ok_lc1 (okE elt) (okI it) (okE c)
  | .lc2 own own2 elt tg it c tg2 it2 c2 => ok_lc2 (okE elt) (okI it) (okE c) (okI it2) (okE c2)
  | .dc1 own t k v tg it c => ok_dc1 (okE k) (okE v) (okI it) (okE c)
theorem okEs : ∀ es : Es, OkEs C T Φ es
  | .nil => ok_nil
  | .cons e es => ok_cons (okE e) (okEs es)
theorem okI : ∀ it : Mi.It, OkI C T Φ it
  | .seq e => ok_seq (okE e)
  | .rng a b => ok_rng (okE a) (okE b)
  | .enum e => ok_enum (okE e)
  | .zip a b => ok_zip (okE a) (okE b)
end
end
end Mi

set_option Elab.async false
set_option linter.all false
set_option maxRecDepth 100000
set_option maxHeartbeats 1000000
/-! MiR: statements by their evaluation. -/
namespace Mi
open PySem PySem.Spec PyProof.Rows L2
/-- a later world: more is known, more places stand, the same is locked -/
structure Wd.Lx (W W' : Wd) : Prop where
  F : Ext W.F W'.F
  L : W'.L = W.L
  μ : ∃ ν, W'.μ = W.μ ++ ν
theorem Wd.Lx.refl (W : Wd) : W.Lx W := ⟨Ext.refl _, rfl, [], by simp⟩
theorem Wd.Lx.trans {A B D : Wd} (a : A.Lx B) (b : B.Lx D) : A.Lx D := by
  obtain ⟨f, l, ν, e⟩ := a
  obtain ⟨f', l', ν', e'⟩ := b
  exact ⟨f.trans f', l'.trans l, ν ++ ν', by rw [e', e, List.append_assoc]⟩
theorem Wd.Lx.wF {W : Wd} {F : Hp} (e : Ext W.F F) : W.Lx (W.wF F) := ⟨e, rfl, [], by simp⟩
theorem Wd.Lx.le {W W' : Wd} (a : W.Lx W') : W.Le W' := by
  obtain ⟨f, l, ν, e⟩ := a
  refine ⟨f, fun i p h => ?_⟩
  rw [e, List.getElem?_append_left (List.getElem?_eq_some_iff.mp h).1]
  exact h
section
variable (K : PySem.W.Frag) (T : Tb) (E : XK)
def PostS (W : Wd) (r : Res Fl) (D : Ends) : Prop := match r with
  | .ok (.next δ) S => ∀ W' σ H, W.Lx W' → Rel K T W' S H → Slots K T W' σ δ → D.nx σ H
  | .ok (.ret r) S => ∀ W' H v, W.Lx W' → Rel K T W' S H → RpR K T W' H r v → D.rt v H
  | .exc x S => ∀ W' H c d, W.Lx W' → Rel K T W' S H → XRp K T W'.F H x c d → E c d H
  | .bad => False
end
section
variable {K : PySem.W.Frag} {T : Tb} {E : XK} {Φ : Phi} {W W' : Wd} {S : Sto} {σ : L2.St} {δ : Env} {H : Hp} {D : Ends} {e : Mi.E}
theorem PostS.lx {r : Res Fl} (h : PostS K T E W r D) (l : W.Lx W') : PostS K T E W' r D := by
  cases r with
  | ok f S =>
    cases f with
    | next δ => exact fun W'' σ H l' => h W'' σ H (l.trans l')
    | ret r => exact fun W'' H v l' => h W'' H v (l.trans l')
  | exc x S => exact fun W'' H c d l' => h W'' H c d (l.trans l')
  | bad => exact h
/-- an expression ahead of a statement's rest -/
theorem PostS.ofE {α β : Type} {P : Wd → Hp → α → β → Prop} {r : Res α} {k : α → Sto → Res Fl} (h : PostS K T E W (r.andThen k) D) :
    PostG K T E P W r (fun v H => ∃ a S F, Ext W.F F ∧ Rel K T (W.wF F) S H ∧ P (W.wF F) H a v ∧ PostS K T E (W.wF F) (k a S) D) := by
  cases r with
  | ok a S => exact fun F H v ex rel p => ⟨a, S, F, ex, rel, p, h.lx (Wd.Lx.wF ex)⟩
  | exc x S => exact fun F H c d ex rel xr => h (W.wF F) H c d (Wd.Lx.wF ex) rel xr
  | bad => exact h
theorem sR {k : R → Sto → Res Fl} (rel : Rel K T W S H) (sl : Slots K T W σ δ) (h : PostS K T E W ((ev T.z T.cl Φ e δ S).andThen k) D) :
    rdE K T E Φ e σ H fun v H1 => ∃ r S' F, Ext W.F F ∧ Rel K T (W.wF F) S' H1 ∧ Slots K T (W.wF F) σ δ ∧ RpR K T (W.wF F) H1 r v ∧ PostS K T E (W.wF F) (k r S') D := by
  refine ⟨W, S, δ, rel, sl, ?_⟩
  rw [← postR]
  exact (PostS.ofE h).imp fun v H1 ⟨a, S', F, ex, r, p, q⟩ => ⟨a, S', F, ex, r, sl.ext ex, p, q⟩
theorem sA {k : R → Sto → Res Fl} (rel : Rel K T W S H) (sl : Slots K T W σ δ) (h : PostS K T E W ((ev T.z T.cl Φ e δ S).andThen fun x S => (toA x S).andThen k) D) :
    rdE K T E Φ e σ H fun v H1 => ∃ a S' F, Ext W.F F ∧ Rel K T (W.wF F) S' H1 ∧ Slots K T (W.wF F) σ δ ∧ RpA K T (W.wF F) a v ∧ PostS K T E (W.wF F) (k a S') D := by
  refine (sR rel sl h).imp fun v H1 ⟨r, S', F, ex, rel', sl', rp, q⟩ => ?_
  cases ha : toA r S' with
  | ok a S'' =>
    obtain ⟨rfl, F', e', rel'', rp'⟩ := toA_ok rel' rp ha
    rw [ha] at q
    exact ⟨a, S'', F', ex.trans e', rel'', sl'.ext (W := W.wF F) e', rp', PostS.lx (W := W.wF F) q (Wd.Lx.wF e')⟩
  | exc x S'' =>
    exfalso
    unfold toA at ha
    split at ha <;> cases ha
  | bad => rw [ha] at q; exact q.elim
theorem sT {k : Bool → Sto → Res Fl} (rel : Rel K T W S H) (sl : Slots K T W σ δ) (h : PostS K T E W ((ev T.z T.cl Φ e δ S).andThen fun x S => (toB x S).andThen k) D) :
    rdT K T E Φ e σ H fun b H1 => ∃ S' F, Ext W.F F ∧ Rel K T (W.wF F) S' H1 ∧ Slots K T (W.wF F) σ δ ∧ PostS K T E (W.wF F) (k b S') D := by
  refine ⟨W, S, δ, rel, sl, ?_⟩
  have h' : PostS K T E W (((ev T.z T.cl Φ e δ S).andThen toB).andThen k) D := by
    cases hh : ev T.z T.cl Φ e δ S <;> rw [hh] at h <;> exact h
  refine (PostS.ofE h').imp fun v H1 ⟨a, S', F, e, r, p, q⟩ => ?_
  cases p
  exact ⟨S', F, e, r, sl.ext e, q⟩
/-- a statement ahead of others -/
theorem PostS.seq {r : Res Fl} {k : Env → Sto → Res Fl} (h : PostS K T E W (r.andThen fun f S => match f with
    | .next δ => k δ S
    | .ret r => .ok (.ret r) S) D) : PostS K T E W r { D with nx := fun σ H => ∃ W' S' δ', W.Lx W' ∧ Rel K T W' S' H ∧ Slots K T W' σ δ' ∧ PostS K T E W' (k δ' S') D } := by
  cases r with
  | ok f S =>
    cases f with
    | next δ => exact fun W' σ H l rel sl => ⟨W', S, δ, l, rel, sl, PostS.lx h l⟩
    | ret r => exact h
  | exc x S => exact h
  | bad => exact h
theorem Rel.size_eq (rel : Rel K T W S H) : W.μ.length = S.length := rel.len
/-- a value is put where it is to go -/
theorem box_ok {box : Bool} {r a : R} {v : V} {S' : Sto} (rel : Rel K T W S H) (rp : RpR K T W H r v) (h : boxR box r S = .ok a S') : ∃ W', W.Lx W' ∧ Rel K T W' S' H ∧ RpA K T W' a v := by
  cases box with
  | false =>
    obtain ⟨rfl, F, e, rel', rp'⟩ := toA_ok rel rp (show toA r S = .ok a S' from h)
    exact ⟨W.wF F, Wd.Lx.wF e, rel', rp'⟩
  | true =>
    cases r with
    | d x => cases h
    | loc l => cases h; exact ⟨W, Wd.Lx.refl _, rel, rp⟩
    | fl ds =>
      have h : (Res.ok (.loc S.length) (S ++ [.lst ds]) : Res R) = .ok a S' := h
      cases h
      obtain ⟨p, xs, rfl, hp, rx, n⟩ := rp
      exact ⟨⟨W.F, W.L, W.μ ++ [p]⟩, ⟨Ext.refl _, rfl, [p], rfl⟩, rel.place n hp (.lst rx), p, rfl, by rw [← rel.len]; simp⟩
    | fd t kvs =>
      have h : (Res.ok (.loc S.length) (S ++ [.dic t kvs]) : Res R) = .ok a S' := h
      cases h
      obtain ⟨p, u, rfl, hp, ou, n⟩ := rp
      exact ⟨⟨W.F, W.L, W.μ ++ [p]⟩, ⟨Ext.refl _, rfl, [p], rfl⟩, rel.place n hp ou, p, rfl, by rw [← rel.len]; simp⟩
theorem box_noexc {box : Bool} {r : R} {S S' : Sto} {x : Exn} (h : boxR box r S = .exc x S') : False := by
  cases box with
  | false =>
    have h : toA r S = .exc x S' := h
    unfold toA at h
    split at h <;> cases h
  | true => cases r <;> cases h
/-- what a bound name leaves -/
theorem sBox {box : Bool} {r : R} {v : V} {k : R → Sto → Res Fl} (rel : Rel K T W S H) (rp : RpR K T W H r v) (h : PostS K T E W ((boxR box r S).andThen k) D) : ∃ W' S' a, W.Lx W' ∧ Rel K T W' S' H ∧ RpA K T W' a v ∧ PostS K T E W' (k a S') D := by
  cases hb : boxR box r S with
  | ok a S' =>
    obtain ⟨W', l, rel', ra⟩ := box_ok rel rp hb
    rw [hb] at h
    exact ⟨W', S', a, l, rel', ra, PostS.lx h l⟩
  | exc x S' => exact (box_noexc hb).elim
  | bad => rw [hb] at h; exact h.elim
end
section
variable (K : PySem.W.Frag) (T : Tb) (E : XK) (Φ : Phi)
def rdSt (st : St) : TS := fun D σ H => ∃ W S δ, Rel K T W S H ∧ Slots K T W σ δ ∧ PostS K T E W (exec T.z T.cl Φ st δ S) D
def rdSts (ss : Sts) : TS := fun D σ H => ∃ W S δ, Rel K T W S H ∧ Slots K T W σ δ ∧ PostS K T E W (execs T.z T.cl Φ ss δ S) D
end
section
variable {K : PySem.W.Frag} {T : Tb} {E : XK} {Φ : Phi} {σ : L2.St} {H : Hp} {D : Ends}
theorem asg_red {i : Nat} {box : Bool} {e : Mi.E} (h : rdSt K T E Φ (.asg i box e) D σ H) : tAsg (rdE K T E Φ e) (gName i) D σ H := by
  obtain ⟨W, S, δ, rel, sl, post⟩ := h
  refine (sR rel sl post).imp fun v H1 ⟨r, S1, F1, e1, rel1, sl1, rp, q⟩ => ?_
  have q : PostS K T E (W.wF F1) (((boxR box r S1).andThen fun a S => .ok (δ.set i (some a)) S).andThen fun δ S => .ok (.next δ) S) D := q
  have q' : PostS K T E (W.wF F1) ((boxR box r S1).andThen fun a S => .ok (.next (δ.set i (some a))) S) D := by
    cases hb : boxR box r S1 <;> rw [hb] at q <;> exact q
  obtain ⟨W2, S2, a, l, rel2, ra, q2⟩ := sBox rel1 rp q'
  exact q2 W2 _ H1 (Wd.Lx.refl _) rel2 ((sl1.le l.le).set i ra)
theorem unp_red {tg : Tg} {e : Mi.E} (h : rdSt K T E Φ (.unp tg e) D σ H) : tAsg (rdE K T E Φ e) (tg.rd K) D σ H := by
  obtain ⟨W, S, δ, rel, sl, post⟩ := h
  refine (sR rel sl post).imp fun v H1 ⟨r, S1, F1, e1, rel1, sl1, rp, q⟩ => ?_
  cases r with
  | d x =>
    simp only at q
    cases hs : tg.set x δ with
    | none => rw [hs] at q; exact q.elim
    | some δ' =>
      rw [hs] at q
      exact Tg.sound rel1.sub tg rp sl1 hs fun σ' s' _ => q (W.wF F1) σ' H1 (Wd.Lx.refl _) rel1 s'
  | _ => exact q.elim
/-- several values at once -/
def rdPar (K : PySem.W.Frag) (T : Tb) (E : XK) (Φ : Phi) (xs : List (Nat × Bool)) : Es → TA
  | es => fun σ H Q => ∃ W S δ, Rel K T W S H ∧ Slots K T W σ δ ∧ (match evp T.z T.cl Φ xs es δ S with
    | .ok as S' => ∀ W' H' vs, W.Lx W' → Rel K T W' S' H' → RpAs K T W' as vs → Q vs H'
    | .exc x S' => ∀ W' H' c d, W.Lx W' → Rel K T W' S' H' → XRp K T W'.F H' x c d → E c d H'
    | .bad => False)
theorem par_step {b : Bool} {i : Nat} {xs : List (Nat × Bool)} {e : Mi.E} {es : Es} {Q : List V → Hp → Prop} (h : rdPar K T E Φ ((i, b) :: xs) (.cons e es) σ H Q) : rdE K T E Φ e σ H fun v H1 => rdPar K T E Φ xs es σ H1 fun vs H2 => Q (v :: vs) H2 := by
  obtain ⟨W, S, δ, rel, sl, post⟩ := h
  refine ⟨W, S, δ, rel, sl, ?_⟩
  simp only [evp] at post
  cases he : ev T.z T.cl Φ e δ S with
  | bad => rw [he] at post; exact post.elim
  | exc x S' =>
    rw [he] at post
    exact fun F H1 c d ex rel1 xr => post (W.wF F) H1 c d (Wd.Lx.wF ex) rel1 xr
  | ok r S1 =>
    rw [he] at post
    intro F H1 v ex rel1 rp
    have post : (match ((boxR b r S1).andThen fun a S => (evp T.z T.cl Φ xs es δ S).andThen fun as S => .ok (a :: as) S : Res (List R)) with
      | .ok as S' => ∀ W' H' vs, W.Lx W' → Rel K T W' S' H' → RpAs K T W' as vs → Q vs H'
      | .exc x S' => ∀ W' H' c d, W.Lx W' → Rel K T W' S' H' → XRp K T W'.F H' x c d → E c d H'
      | .bad => False) := post
    cases hb : boxR b r S1 with
    | bad => rw [hb] at post; exact post.elim
    | exc x S' => exact (box_noexc hb).elim
    | ok a S2 =>
      obtain ⟨W2, l, rel2, ra⟩ := box_ok rel1 rp hb
      rw [hb] at post
      have lx : W.Lx W2 := (Wd.Lx.wF ex).trans l
      refine ⟨W2, S2, δ, rel2, sl.le lx.le, ?_⟩
      have post : (match ((evp T.z T.cl Φ xs es δ S2).andThen fun as S => .ok (a :: as) S : Res (List R)) with
        | .ok as S' => ∀ W' H' vs, W.Lx W' → Rel K T W' S' H' → RpAs K T W' as vs → Q vs H'
        | .exc x S' => ∀ W' H' c d, W.Lx W' → Rel K T W' S' H' → XRp K T W'.F H' x c d → E c d H'
        | .bad => False) := post
      cases hp : evp T.z T.cl Φ xs es δ S2 with
      | ok as S3 =>
        rw [hp] at post
        exact fun W' H' vs l' rel' rv => post W' H' (v :: vs) (lx.trans l') rel' (.cons (ra.le l'.le) rv)
      | exc x S3 =>
        rw [hp] at post
        exact fun W' H' c d l' rel' xr => post W' H' c d (lx.trans l') rel' xr
      | bad => rw [hp] at post; exact post.elim
theorem par_nil {Q : List V → Hp → Prop} (h : rdPar K T E Φ [] .nil σ H Q) : Q [] H := by
  obtain ⟨W, S, δ, rel, sl, post⟩ := h
  exact post W H [] (Wd.Lx.refl _) rel .nil
def setV : List (Nat × Bool) → List V → L2.St → L2.St
  | (i, _) :: xs, v :: vs, σ => setV xs vs (σ.set i (some v))
  | _, _, σ => σ
theorem setAll_ok {W : Wd} : ∀ {xs : List (Nat × Bool)} {as : List R} {vs : List V} {σ : L2.St} {δ : Env}, Slots K T W σ δ → RpAs K T W as vs → Slots K T W (setV xs vs σ) (setAll xs as δ) := by
  intro xs
  induction xs with
  | nil => intro as vs σ δ s _; exact s
  | cons p xs ih =>
    intro as vs σ δ s h
    cases h with
    | nil => exact s
    | cons r rs => exact ih (s.set p.1 r) rs
theorem evp_len {δ : Env} : ∀ {xs : List (Nat × Bool)} {es : Es} {S S' : Sto} {as : List R}, evp T.z T.cl Φ xs es δ S = .ok as S' → as.length = xs.length := by
  intro xs
  induction xs with
  | nil =>
    intro es S S' as h
    cases es with
    | nil => simp only [evp] at h; cases h; rfl
    | cons e es => simp only [evp] at h; cases h
  | cons x xs ih =>
    intro es S S' as h
    cases es with
    | nil => simp only [evp] at h; cases h
    | cons e es =>
      simp only [evp] at h
      obtain ⟨_, _, _, h⟩ := andThen_inv h
      obtain ⟨_, _, _, h⟩ := andThen_inv h
      obtain ⟨_, _, e3, h⟩ := andThen_inv h
      cases h
      show _ + 1 = _ + 1
      rw [ih e3]
/-- what a statement of several values comes to -/
theorem par_red {xs : List (Nat × Bool)} {es : Es} (h : rdSt K T E Φ (.par xs es) D σ H) : rdPar K T E Φ xs es σ H fun vs H1 => vs.length = xs.length ∧ ∀ H2, Ext H1 H2 → D.nx (setV xs vs σ) H2 := by
  obtain ⟨W, S, δ, rel, sl, post⟩ := h
  refine ⟨W, S, δ, rel, sl, ?_⟩
  have post : PostS K T E W ((evp T.z T.cl Φ xs es δ S).andThen fun as S => .ok (.next (setAll xs as δ)) S) D := post
  cases hp : evp T.z T.cl Φ xs es δ S with
  | ok as S3 =>
    rw [hp] at post
    exact fun W' H' vs l' rel' rv => ⟨by rw [← Paired.length rv]; exact evp_len hp, fun H2 ex => post W' _ H2 l' (rel'.heap ex) (setAll_ok (sl.le l'.le) rv)⟩
  | exc x S3 => rw [hp] at post; exact post
  | bad => rw [hp] at post; exact post.elim
/-- another wish -/
theorem rdPar.imp {xs : List (Nat × Bool)} {es : Es} {Q Q' : List V → Hp → Prop} (h : rdPar K T E Φ xs es σ H Q) (hQ : ∀ vs H1, Q vs H1 → Q' vs H1) : rdPar K T E Φ xs es σ H Q' := by
  obtain ⟨W, S, δ, rel, sl, post⟩ := h
  refine ⟨W, S, δ, rel, sl, ?_⟩
  cases hp : evp T.z T.cl Φ xs es δ S with
  | ok as S' => rw [hp] at post; exact fun W' H' vs l r p => hQ _ _ (post W' H' vs l r p)
  | exc x S' => rw [hp] at post; exact post
  | bad => rw [hp] at post; exact post
theorem ret_red {e : Mi.E} (h : rdSt K T E Φ (.ret e) D σ H) : rdE K T E Φ e σ H D.rt := by
  obtain ⟨W, S, δ, rel, sl, post⟩ := h
  refine (sR rel sl post).imp fun v H1 ⟨r, S1, F1, e1, rel1, sl1, rp, q⟩ => q (W.wF F1) H1 v (Wd.Lx.refl _) rel1 rp
theorem ex_red {e : Mi.E} (h : rdSt K T E Φ (.ex e) D σ H) : tDrop (rdE K T E Φ e) D σ H := by
  obtain ⟨W, S, δ, rel, sl, post⟩ := h
  refine (sR rel sl post).imp fun v H1 ⟨r, S1, F1, e1, rel1, sl1, rp, q⟩ => q (W.wF F1) σ H1 (Wd.Lx.refl _) rel1 sl1
theorem iff_red {c : Mi.E} {a b : Sts} (h : rdSt K T E Φ (.iff c a b) D σ H) : tIfS (rdT K T E Φ c) (rdSts K T E Φ a) (rdSts K T E Φ b) D σ H := by
  obtain ⟨W, S, δ, rel, sl, post⟩ := h
  refine (sT rel sl post).imp fun k H1 ⟨S1, F1, e1, rel1, sl1, q⟩ => ?_
  cases k with
  | true => exact ⟨_, S1, δ, rel1, sl1, q⟩
  | false => exact ⟨_, S1, δ, rel1, sl1, q⟩
theorem cons_red {s : St} {ss : Sts} (h : rdSts K T E Φ (.cons s ss) D σ H) : tSeq (rdSt K T E Φ s) (rdSts K T E Φ ss) D σ H := by
  obtain ⟨W, S, δ, rel, sl, post⟩ := h
  refine ⟨W, S, δ, rel, sl, ?_⟩
  have q := PostS.seq (k := fun δ S => execs T.z T.cl Φ ss δ S) (show PostS K T E W ((exec T.z T.cl Φ s δ S).andThen fun f S => match f with
    | .next δ => execs T.z T.cl Φ ss δ S
    | .ret r => .ok (.ret r) S) D from post)
  cases he : exec T.z T.cl Φ s δ S with
  | ok f S1 =>
    rw [he] at q
    cases f with
    | next δ1 => exact fun W' σ' H' l rel' sl' => let ⟨W2, S2, δ2, l2, r2, s2, p2⟩ := q W' σ' H' l rel' sl'; ⟨W2, S2, δ2, r2, s2, p2⟩
    | ret r => exact q
  | exc x S1 => rw [he] at q; exact q
  | bad => rw [he] at q; exact q
theorem nil_red (h : rdSts K T E Φ .nil D σ H) : D.nx σ H := by
  obtain ⟨W, S, δ, rel, sl, post⟩ := h
  exact post W σ H (Wd.Lx.refl _) rel sl
theorem pass_red (h : rdSt K T E Φ .pass D σ H) : D.nx σ H := by
  obtain ⟨W, S, δ, rel, sl, post⟩ := h
  exact post W σ H (Wd.Lx.refl _) rel sl
theorem rse_red (h : rdSt K T E Φ .rse D σ H) : False := by
  obtain ⟨W, S, δ, rel, sl, post⟩ := h
  exact post
theorem aug_red {i : Nat} {o : BO} {e : Mi.E} (h : rdSt K T E Φ (.aug i o e) D σ H) : ∃ f, augF o = some f ∧ tAug i (rdE K T E Φ e) (ipI f) D σ H := by
  obtain ⟨W, S, δ, rel, sl, post⟩ := h
  simp only [exec] at post
  split at post
  case h_2 => exact post.elim
  rename_i f x hf hx
  obtain ⟨v, hv, rv⟩ := sl.at_ i _ hx
  have rv : Rp K T W.F v (.int x) := rv
  cases rv
  refine ⟨f, hf, .int x, hv, (sR rel sl post).imp fun u H1 ⟨r, S1, F1, e1, rel1, sl1, rp, q⟩ => ?_⟩
  split at q
  · rename_i y hy
    have hr := int_inv hy
    subst hr
    have rp : Rp K T F1 u (.int y) := rp
    cases rp
    exact ⟨x, y, rfl, rfl, q (W.wF F1) _ H1 (Wd.Lx.refl _) rel1 (sl1.set i (r := .d (.int (f x y))) (Rp.int _))⟩
  · exact q.elim
theorem setix_red {o i e : Mi.E} (h : rdSt K T E Φ (.setix o i e) D σ H) : tAsg (rdE K T E Φ e) (gSub (rdE K T E Φ o) (rdE K T E Φ i) (rdSet K T E)) D σ H := by
  obtain ⟨W, S, δ, rel, sl, post⟩ := h
  refine (sA rel sl post).imp fun v H1 ⟨r, S1, F1, e1, rel1, sl1, rp, q⟩ => (sA rel1 sl1 q).imp fun ov H2 ⟨r2, S2, F2, e2, rel2, sl2, rp2, q2⟩ => (sA rel2 sl2 q2).imp fun iv H3 ⟨r3, S3, F3, e3, rel3, sl3, rp3, q3⟩ => ?_
  refine ⟨_, S3, r2, r3, r, rel3, rp2.ext (W := (W.wF F1).wF F2) e3, rp3, (rp.ext (W := W.wF F1) e2).ext (W := (W.wF F1).wF F2) e3, ?_⟩
  refine (PostS.ofE q3).imp fun _ H4 ⟨_, S4, F4, e4, rel4, _, q4⟩ => ?_
  exact q4 _ σ H4 (Wd.Lx.refl _) rel4 (sl3.ext (W := ((W.wF F1).wF F2).wF F3) e4)

/-! ### loops -/
theorem whl_red {c : Mi.E} {b : Sts} (h : rdSt K T E Φ (.whl c b) D σ H) : tWhile (rdT K T E Φ c) (rdSts K T E Φ b) D σ H := by
  obtain ⟨W0, S0, δ0, rel0, sl0, post0⟩ := h
  refine ⟨fun m σ H => ∃ W S δ, Rel K T W S H ∧ Slots K T W σ δ ∧ PostS K T E W (whileN (fun δ S => (ev T.z T.cl Φ c δ S).andThen fun x S => toB x S) (execs T.z T.cl Φ b) m δ S) D, ⟨most, W0, S0, δ0, rel0, sl0, post0⟩, fun m σ H ⟨W, S, δ, rel, sl, post⟩ => ?_⟩
  cases m with
  | zero => exact post.elim
  | succ m =>
    have post : PostS K T E W (((ev T.z T.cl Φ c δ S).andThen fun x S => toB x S).andThen fun k S => if k = true then (execs T.z T.cl Φ b δ S).andThen fun f S => (match f with
      | .next δ => whileN (fun δ S => (ev T.z T.cl Φ c δ S).andThen fun x S => toB x S) (execs T.z T.cl Φ b) m δ S
      | .ret r => .ok (.ret r) S) else .ok (.next δ) S) D := post
    have post' := PostS.ofE (P := pEq) post
    refine rdT.imp (Q := fun k H1 => ∃ S1 F1, Ext W.F F1 ∧ Rel K T (W.wF F1) S1 H1 ∧ Slots K T (W.wF F1) σ δ ∧ PostS K T E (W.wF F1) (if k = true then (execs T.z T.cl Φ b δ S1).andThen fun f S => (match f with
      | .next δ => whileN (fun δ S => (ev T.z T.cl Φ c δ S).andThen fun x S => toB x S) (execs T.z T.cl Φ b) m δ S
      | .ret r => .ok (.ret r) S) else .ok (.next δ) S1) D) ?_ fun k H1 ⟨S1, F1, e1, rel1, sl1, q⟩ => ?_
    · exact ⟨W, S, δ, rel, sl, post'.imp fun k H1 ⟨a, S1, F1, e1, rel1, p, q⟩ => by cases p; exact ⟨S1, F1, e1, rel1, sl.ext e1, q⟩⟩
    · cases k with
      | false => exact q (W.wF F1) σ H1 (Wd.Lx.refl _) rel1 sl1
      | true =>
        refine ⟨fun σ' H' => ∃ m', m' < m + 1 ∧ ∃ W S δ, Rel K T W S H' ∧ Slots K T W σ' δ ∧ PostS K T E W (whileN (fun δ S => (ev T.z T.cl Φ c δ S).andThen fun x S => toB x S) (execs T.z T.cl Φ b) m' δ S) D, fun σ' H' h => h, ?_⟩
        refine ⟨_, S1, δ, rel1, sl1, ?_⟩
        have q2 := PostS.seq (k := fun δ S => whileN (fun δ S => (ev T.z T.cl Φ c δ S).andThen fun x S => toB x S) (execs T.z T.cl Φ b) m δ S) q
        cases he : execs T.z T.cl Φ b δ S1 with
        | ok f S2 =>
          rw [he] at q2
          cases f with
          | next δ1 => exact fun W' σ' H' l rel' sl' => let ⟨W2, S2, δ2, l2, r2, s2, p2⟩ := q2 W' σ' H' l rel' sl'; ⟨m, Nat.lt_succ_self _, W2, S2, δ2, r2, s2, p2⟩
          | ret r => exact q2
        | exc x S2 => rw [he] at q2; exact q2
        | bad => rw [he] at q2; exact q2
/-- what is left of a loop -/
def forR (s : Src) (f : Mi.D → Env → Sto → Res Fl) (i m : Nat) (δ : Env) (S : Sto) : Res Fl := match s with
  | .fix ds => if m = ds.length - i then forD f (ds.drop i) δ S else .bad
  | .dyn k => forN (.dyn k) f m i δ S
theorem forR_start {s : Src} {f : Mi.D → Env → Sto → Res Fl} {δ : Env} {S : Sto} : ∃ m, forR s f 0 m δ S = forS s f δ S := by
  cases s with
  | fix ds => exact ⟨ds.length, by show (if ds.length = ds.length - 0 then forD f (ds.drop 0) δ S else _) = _; rw [if_pos (by omega)]; rfl⟩
  | dyn k => exact ⟨_, rfl⟩
theorem forR_step {s : Src} {f : Mi.D → Env → Sto → Res Fl} {i m : Nat} {δ : Env} {S : Sto} : forR s f i m δ S = .bad ∨ (s.here S = true ∧ s.at? S i = none ∧ forR s f i m δ S = .ok (.next δ) S) ∨
    ∃ x m', s.here S = true ∧ s.at? S i = some x ∧ m' < m ∧ forR s f i m δ S = (f x δ S).andThen fun a S => match a with
      | .next δ => forR s f (i + 1) m' δ S
      | .ret r => .ok (.ret r) S := by
  cases s with
  | fix ds =>
    simp only [forR]
    by_cases hm : m = ds.length - i
    · rw [if_pos hm]
      by_cases hi : i < ds.length
      · refine .inr (.inr ⟨ds[i], m - 1, rfl, List.getElem?_eq_getElem hi, by omega, ?_⟩)
        rw [List.drop_eq_getElem_cons hi]
        show (f ds[i] δ S).andThen _ = _
        have e : (m - 1 = ds.length - (i + 1)) := by omega
        congr 1
        funext a S
        cases a with
        | next δ => show forD f _ δ S = (if _ then _ else _); rw [if_pos e]
        | ret r => rfl
      · rw [List.drop_eq_nil_of_le (Nat.le_of_not_lt hi)]
        exact .inr (.inl ⟨rfl, List.getElem?_eq_none (Nat.le_of_not_lt hi), rfl⟩)
    · rw [if_neg hm]; exact .inl rfl
  | dyn k =>
    cases m with
    | zero =>
      simp only [forR, forN]
      split
      · rename_i q; exact .inr (.inl ⟨q.1, q.2, rfl⟩)
      · exact .inl rfl
    | succ m =>
      simp only [forR, forN]
      split
      · rename_i q
        split
        · rename_i x hx
          exact .inr (.inr ⟨x, m, q, hx, Nat.lt_succ_self _, rfl⟩)
        · rename_i hx
          exact .inr (.inl ⟨q, hx, rfl⟩)
      · exact .inl rfl
theorem for_red {tg : Tg} {it : Mi.It} {b : Sts} (h : rdSt K T E Φ (.for tg it b) D σ H) : tFor (rdI K T E Φ it tg) (tg.rd K) (rdSts K T E Φ b) D σ H := by
  obtain ⟨W0, S0, δ0, rel0, sl0, post0⟩ := h
  have post0 : PostS K T E W0 ((evI T.z T.cl Φ it δ0 S0).andThen fun src S => forS src (fun x δ S => match tg.set x δ with
      | some δ => execs T.z T.cl Φ b δ S
      | none => .bad) δ0 S) D := post0
  refine ⟨W0, S0, δ0, rel0, sl0, (PostS.ofE post0).imp fun J H1 ⟨src, S1, F1, e1, rel1, sg, q1⟩ => ?_⟩
  obtain ⟨m0, hm0⟩ := forR_start (s := src) (f := fun x δ S => match tg.set x δ with
      | some δ => execs T.z T.cl Φ b δ S
      | none => .bad) (δ := δ0) (S := S1)
  rw [← hm0] at q1
  refine ⟨fun i m σ H => ∃ W S δ, (W0.wF F1).Lx W ∧ Rel K T W S H ∧ Slots K T W σ δ ∧ PostS K T E W (forR src (fun x δ S => match tg.set x δ with
      | some δ => execs T.z T.cl Φ b δ S
      | none => .bad) i m δ S) D, ⟨m0, _, S1, δ0, Wd.Lx.refl _, rel1, sl0.ext e1, q1⟩, fun i m σ H ⟨W, S, δ, lx, rel, sl, post⟩ => ?_⟩
  rcases forR_step (s := src) (f := fun x δ S => match tg.set x δ with
      | some δ => execs T.z T.cl Φ b δ S
      | none => .bad) (i := i) (m := m) (δ := δ) (S := S) with hb | ⟨hh, hn, hb⟩ | ⟨x, m', hh, hx, hm, hb⟩
  · rw [hb] at post; exact post.elim
  · rw [hb] at post
    exact .inl ⟨sg.stop W S H i lx.le rel hh hn, post W σ H (Wd.Lx.refl _) rel sl⟩
  · rw [hb] at post
    cases hs : tg.set x δ with
    | none => rw [hs] at post; exact post.elim
    | some δ' =>
      rw [hs] at post
      obtain ⟨g1, g2⟩ := sg.go W S H i x σ δ δ' lx.le rel sl hh hx hs
      refine .inr ⟨g1, fun σ' H' => ∃ m', m' < m ∧ ∃ W S δ, (W0.wF F1).Lx W ∧ Rel K T W S H' ∧ Slots K T W σ' δ ∧ PostS K T E W (forR src (fun x δ S => match tg.set x δ with
        | some δ => execs T.z T.cl Φ b δ S
        | none => .bad) (i + 1) m' δ S) D, fun σ' H' h => h, fun v H' hy => g2 v H' hy _ fun σ2 rel2 sl2 _ => ⟨W, S, δ', rel2, sl2, ?_⟩⟩
      have q2 := PostS.seq (k := fun δ S => forR src (fun x δ S => match tg.set x δ with
        | some δ => execs T.z T.cl Φ b δ S
        | none => .bad) (i + 1) m' δ S) post
      replace q2 : PostS K T E W (execs T.z T.cl Φ b δ' S) _ := q2
      cases he : execs T.z T.cl Φ b δ' S with
      | ok f S2 =>
        rw [he] at q2
        cases f with
        | next δ1 => exact fun W' σ' H' l rel' sl' => let ⟨W2, S2, δ2, l2, r2, s2, p2⟩ := q2 W' σ' H' l rel' sl'; ⟨m', hm, W2, S2, δ2, lx.trans l2, r2, s2, p2⟩
        | ret r => exact q2
      | exc x S2 => rw [he] at q2; exact q2
      | bad => rw [he] at q2; exact q2
end
end Mi

set_option Elab.async false
set_option linter.all false
set_option maxRecDepth 100000
set_option maxHeartbeats 1000000
/-! MiS: the checker of statements, and that what it lets is so. -/
namespace Mi
open PySem PySem.Spec PyProof.Rows L2

/-! ### several names at once -/
def tsNames (sc : Scope) (line : Nat) (ts : List Expr) : List Str := ts.filterMap fun
  | .Name id pos => if sc.names.lookup id == some .local && pos.line == line then some id else none
  | _ => none
/-- which names are stored as a swap -/
def swN (sc : Scope) (ts vs : List Expr) : Option (Option (List Str)) :=
  let names := tsNames sc ((ts.head?.map (·.pos.line)).getD 0) ts
  if (!(ts.length == 2 || ts.length == 3)) = true then some none else
  if (names.length != ts.length || names.eraseDups.length != names.length) = true then some none else
  if vs.all (foldedForSure 8) = true then some none else
  if vs.all (constantsAlone 8) = true then none else some (some names)
def anyStar (vs : List Expr) : Bool := vs.any fun | .Starred .. => true | _ => false
theorem anyStar_no {vs : List Expr} (h : vs.all noStar = true) : anyStar vs = false := by
  unfold anyStar
  rw [List.any_eq_false]
  intro x hx
  have := List.all_eq_true.mp h x hx
  cases x <;> first | (simp; done) | (cases this)
theorem sw_eq {env : PySem.Env} {sc : Scope} {ts vs : List Expr} {k k2 : Nat} {p p2 : Pos} {r : Option (List Str)} (hs : env.scope = sc) (hk : sc.kind = .function) (h : swN sc ts vs = some r) (hl : (vs.length == ts.length) = true) (hv : vs.all noStar = true) :
    swappedStores [.Tuple ts k p] (.Tuple vs k2 p2) env = pure r := by
  have hb : env.blockKind = .function := by unfold Env.blockKind; rw [hs, hk]; rfl
  have ha := anyStar_no hv
  have hn : (ts.filterMap fun
    | .Name id pos => if env.kindOf id == some .local && pos.line == ((ts.head?.map (·.pos.line)).getD 0) then some id else none
    | _ => none) = tsNames sc ((ts.head?.map (·.pos.line)).getD 0) ts := by
    unfold tsNames Env.kindOf
    rw [hs]
  have hl' : (vs.length != ts.length) = false := by rw [bne, hl]; rfl
  have e : swappedStores [.Tuple ts k p] (.Tuple vs k2 p2) env =
      (if (!(ts.length == 2 || ts.length == 3) || vs.length != ts.length || env.blockKind != .function) = true then pure none else
      if anyStar vs = true then pure none else
      if ((ts.filterMap fun
        | .Name id pos => if env.kindOf id == some .local && pos.line == ((ts.head?.map (·.pos.line)).getD 0) then some id else none
        | _ => none).length != ts.length || (ts.filterMap fun
        | .Name id pos => if env.kindOf id == some .local && pos.line == ((ts.head?.map (·.pos.line)).getD 0) then some id else none
        | _ => none).eraseDups.length != (ts.filterMap fun
        | .Name id pos => if env.kindOf id == some .local && pos.line == ((ts.head?.map (·.pos.line)).getD 0) then some id else none
        | _ => none).length) = true then pure none else
      if vs.all (foldedForSure 8) = true then pure none else
      (do
        if vs.all (constantsAlone 8) then unsupported "assign.tuple-of-constant-expressions:order-of-the-stores"
        return some (ts.filterMap fun
        | .Name id pos => if env.kindOf id == some .local && pos.line == ((ts.head?.map (·.pos.line)).getD 0) then some id else none
        | _ => none))) := rfl
  rw [e, hn, ha, hl', hb]
  unfold swN at h
  simp only at h
  split at h
  · rename_i q
    cases h
    rw [q]; rfl
  · rename_i q
    rw [Bool.not_eq_true] at q
    rw [q]
    split at h
    · rename_i q2; cases h; rw [if_neg (by decide), if_neg (by decide), if_pos q2]
    · rename_i q2
      split at h
      · rename_i q3; cases h; rw [if_neg (by decide), if_neg (by decide), if_neg q2, if_pos q3]
      · rename_i q3
        split at h
        · cases h
        · rename_i q4
          cases h
          rw [Bool.not_eq_true] at q4
          rw [if_neg (by decide), if_neg (by decide), if_neg q2, if_neg q3, q4]; rfl
/-- the names as targets -/
def nmsC (N : List Str) (sc : Scope) : List (Nat × Bool) → List Expr → Bool
  | [], [] => true
  | (i, _) :: xs, .Name y _ :: ts => (decide (N[i]? = some y) && locB sc y) && nmsC N sc xs ts
  | _, _ => false
def gNms : List (Nat × Bool) → TGs
  | [] => gNil
  | (i, _) :: xs => gCons (gName i) (gNms xs)
theorem gNms_of : ∀ {xs : List (Nat × Bool)} {vs : List V} {σ : L2.St} {H : Hp} {Q : L2.St → Hp → Prop}, vs.length = xs.length → Q (setV xs vs σ) H → gNms xs vs σ H Q
  | [], [], _, _, _, _, q => ⟨rfl, q⟩
  | [], _ :: _, _, _, _, h, _ => by cases h
  | (i, b) :: xs, [], _, _, _, h, _ => by cases h
  | (i, b) :: xs, v :: vs, _, _, _, h, q => ⟨v, vs, rfl, gNms_of (Nat.succ.inj h) q⟩

section
variable (C : Ck)
/-- may be assigned to a name as it stands -/
def asgB (sc : Scope) (y : Str) (py : Pos) (x : Expr) : Bool := match x with
  | .ListComp _ _ scope p => match sc.names.lookup y with
    | some .local => (py.line == p.line) && !(scope.names.any fun (n, k) => n == y && (k == .local || k == .cell))
    | some .cell => true
    | _ => false
  | .DictComp _ _ _ _ _ => match sc.names.lookup y with
    | some .cell => true
    | _ => false
  | x => noComp x
def notTup : Expr → Bool
  | .Tuple _ _ _ => false
  | _ => true
def isTup : Expr → Bool
  | .Tuple _ _ _ => true
  | _ => false
def chkPs : List (Nat × Bool) → Es → Scope → List Expr → Bool
  | [], .nil => fun _ xs => match xs with
    | [] => true
    | _ => false
  | _ :: ps, .cons e es => fun sc xs => match xs with
    | x :: xs => (noStar x && chkE C e sc x) && chkPs ps es sc xs
    | _ => false
  | _, _ => fun _ _ => false
/-- swapped stores of two or three names, or a tuple unpacked -/
def parC (N : List Str) (sc : Scope) (xs : List (Nat × Bool)) (ts vs : List Expr) : Bool := match swN sc ts vs with
  | some none => nmsC N sc xs ts && decide (ts.length ≤ 1000)
  | some (some ns) => match xs, ts with
    | [(i, _), (j, _)], [.Name x _, .Name y _] => (decide (ns = [x, y]) && decide (i ≠ j)) && (nmsC N sc xs ts && (decide (sc.names.lookup x = some .local) && decide (sc.names.lookup y = some .local)))
    | [(i, _), (j, _), (l, _)], [.Name x _, .Name y _, .Name z _] => (decide (ns = [x, y, z]) && (decide (i ≠ j) && (decide (i ≠ l) && decide (j ≠ l)))) && (nmsC N sc xs ts && (decide (sc.names.lookup x = some .local) && (decide (sc.names.lookup y = some .local) && decide (sc.names.lookup z = some .local))))
    | _, _ => false
  | none => false
mutual
def chkS : St → Scope → Stmt → Bool
  | .asg i _ e => fun sc st => match st with
    | .Assign [.Name y py] x _ => (decide (C.N[i]? = some y) && locB sc y) && (asgB sc y py x && chkE C e sc x)
    | _ => false
  | .unp tg e => fun sc st => match st with
    | .Assign [tx] x _ => (tgC C.N sc tg tx && isTup tx) && (notTup x && chkE C e sc x)
    | _ => false
  | .par xs es => fun sc st => match st with
    | .Assign [.Tuple ts _ _] (.Tuple vs _ _) _ => (parC C.N sc xs ts vs && (vs.length == ts.length)) && (vs.all noStar && chkPs C xs es sc vs)
    | _ => false
  | .setix o i e => fun sc st => match st with
    | .Assign [.Subscript x y _] w _ => noSlice y && (chkE C o sc x && (chkE C i sc y && chkE C e sc w))
    | _ => false
  | .aug i o e => fun sc st => match st with
    | .AugAssign (.Name y _) op x _ => (decide (op = o.py) && (decide (C.N[i]? = some y) && locB sc y)) && chkE C e sc x
    | _ => false
  | .ex e => fun sc st => match st with
    | .Expr x _ => noComp x && chkE C e sc x
    | _ => false
  | .ret e => fun sc st => match st with
    | .Return (some x) _ => chkE C e sc x
    | .Return none _ => isNon e
    | _ => false
  | .iff c a b => fun sc st => match st with
    | .If x xs ys _ => (chkE C c sc x && okT c x) && (chkSs a sc xs && chkSs b sc ys)
    | _ => false
  | .whl c b => fun sc st => match st with
    | .While x xs [] _ => (chkE C c sc x && okT c x) && chkSs b sc xs
    | _ => false
  | .for tg it b => fun sc st => match st with
    | .For tx ix xs [] _ => (tgC C.N sc tg tx && (noSet ix && chkI C it (isTwo tg) sc tx ix)) && chkSs b sc xs
    | _ => false
  | .rse => fun _ st => match st with
    | .Raise _ _ _ => true
    | _ => false
  | .pass => fun _ st => match st with
    | .Pass _ => true
    | .Expr (.Constant (.str _) _ _) _ => true
    | _ => false
def chkSs : Sts → Scope → List Stmt → Bool
  | .nil => fun _ xs => match xs with
    | [] => true
    | _ => false
  | .cons s ss => fun sc xs => match xs with
    | x :: xs => chkS s sc x && chkSs ss sc xs
    | _ => false
end
end
/-- a def's body -/
structure GoodS (C : Ck) (T : Tb) (Φ : Phi) (E : XK) (X : Cx) (sc : Scope) : Prop extends Good C T Φ E X sc where
  kind : sc.kind = .function
  fn : ∀ x, X.fn x = true
  own : PassesOwn (model X.prog X.w) X.A X.env X.xe
section
variable {C : Ck} {T : Tb} {Φ : Phi} {E : XK} {X : Cx} {sc : Scope}
theorem GoodS.nms (g : GoodS C T Φ E X sc) (y : Str) (h : locB sc y = true) : L2.Loc X.env.scope y ∧ (X.fn y = true ∨ X.env.scope.names.lookup y = some .local) := ⟨by rw [g.hs]; exact locB_ok h, .inl (g.fn y)⟩
theorem pgs_nms (g : GoodS C T Φ E X sc) : ∀ {xs : List (Nat × Bool)} {ts : List Expr}, nmsC C.N sc xs ts = true → PGs X ts (gNms xs) ∧ ts.all noStar = true ∧ (assignEach ts X.env).length = xs.length ∧ (assignEach ts X.env).findIdx? (·.1) = none
  | [], [], _ => ⟨pgs_nil, rfl, rfl, rfl⟩
  | [], _ :: _, h => by cases h
  | (i, b) :: xs, [], h => by cases h
  | (i, b) :: xs, t :: ts, h => by
    cases t with
    | Name y p =>
      simp only [nmsC, Bool.and_eq_true, decide_eq_true_eq] at h
      obtain ⟨⟨h1, h2⟩, h3⟩ := h
      obtain ⟨a1, a2, a3, a4⟩ := pgs_nms g h3
      obtain ⟨l, f⟩ := g.nms y h2
      refine ⟨pgs_cons (pg_name g.nd (by rw [g.hN]; exact h1) l f) a1 rfl, by rw [List.all_cons, a2]; rfl, ?_, ?_⟩
      · show (assignEach ts X.env).length + 1 = xs.length + 1
        rw [a3]
      · show List.findIdx? (fun q : Bool × (Value → Sem Unit) => q.1) ((false, assign (.Name y p) X.env) :: assignEach ts X.env) = none
        rw [List.findIdx?_cons]
        simp [a4]
    | _ => cases h
theorem paPar (g : Good C T Φ E X sc) : ∀ {xs : List (Nat × Bool)} {es : Es} {vs : List Expr}, chkPs C xs es sc vs = true → PA X vs (rdPar X.K T E Φ xs es) ∧ vs.length = xs.length
  | [], .nil, vs, h => by
    unfold chkPs at h
    split at h
    · exact ⟨paImp pa_nil fun σ H Q h => par_nil h, rfl⟩
    · cases h
  | (i, b) :: xs, .cons e es, vs, h => by
    unfold chkPs at h
    split at h
    · simp only [Bool.and_eq_true] at h
      obtain ⟨⟨h1, h2⟩, h3⟩ := h
      obtain ⟨a1, a2⟩ := paPar g h3
      exact ⟨paImp (pa_cons ((okE e).val g h2) a1 (star_cons h1 _ _)) fun σ H Q h => par_step h, by show _ + 1 = _ + 1; rw [a2]⟩
    · cases h
  | [], .cons _ _, _, h => by cases h
  | _ :: _, .nil, _, h => by cases h
theorem sw_cell {x : Expr} {y : Str} {py : Pos} {l : Nat} {env : PySem.Env} (hy : env.scope.names.lookup y = some .cell) : swapsWith x (some (.Name y py)) l env = pure false := by
  have ky : env.kindOf y = some .cell := hy
  have e : (some NameKind.cell == some NameKind.local) = false := rfl
  cases x <;> first | rfl | (unfold swapsWith; simp only [ky, e, Bool.and_false, Bool.false_and])
theorem sw_tuple {x : Expr} {ts : List Expr} {k : Nat} {p : Pos} {l : Nat} {env : PySem.Env} : swapsWith x (some (.Tuple ts k p)) l env = pure false := by cases x <;> rfl
theorem sw_sub {x a b : Expr} {p : Pos} {l : Nat} {env : PySem.Env} : swapsWith x (some (.Subscript a b p)) l env = pure false := by cases x <;> rfl
theorem sws_tuple {x : Expr} {ts : List Expr} {k : Nat} {p : Pos} {l : Nat} {env : PySem.Env} : swapsWithSole [.Tuple ts k p] x l env = pure false := by cases x <;> rfl
theorem sws_sub {x a b : Expr} {p : Pos} {l : Nat} {env : PySem.Env} : swapsWithSole [.Subscript a b p] x l env = pure false := by cases x <;> rfl
theorem isTup_eq {x : Expr} (h : isTup x = true) : ∃ ts k p, x = .Tuple ts k p := by
  cases x <;> first | exact ⟨_, _, _, rfl⟩ | (cases h)
theorem ss_not {x : Expr} {tx : Expr} {env : PySem.Env} (h : notTup x = true) : swappedStores [tx] x env = pure none := by
  cases x <;> first | (cases h; done) | (cases tx <;> rfl)
theorem assign_sub {x y : Expr} {p : Pos} {env : PySem.Env} (h : noSlice y = true) : ∀ v, assign (.Subscript x y p) env v = (do
      let ov ← holding [v] (eval x env)
      let iv ← holding [v, ov] (eval y env)
      standAt p
      holding [v, ov, iv] (setItem ov iv v)
      release [v, ov, iv] []) := fun v => by
  cases y <;> first | rfl | (cases h)
/-- comprehensions go to a name -/
theorem asg_lc (g : GoodS C T Φ E X sc) {i : Nat} {y : Str} {py pos : Pos} {x : Expr} {e : Mi.E} (hi : C.N[i]? = some y) (hl : locB sc y = true) (ha : asgB sc y py x = true) (h : chkE C e sc x = true) : PS X (.Assign [.Name y py] x pos) (tAsg (rdE X.K T E Φ e) (gName i)) := by
  obtain ⟨lo, fn⟩ := g.nms y hl
  have hN : X.N[i]? = some y := by rw [g.hN]; exact hi
  have norm : swapsWith x (some (.Name y py)) pos.line X.env = pure false → PS X (.Assign [.Name y py] x pos) (tAsg (rdE X.K T E Φ e) (gName i)) := fun q => ps_set g.nd hN lo ((okE e).val g.toGood h) q fn
  unfold asgB at ha
  split at ha
  · rename_i y0 gs scope p
    split at ha
    · rename_i hlk
      rw [Bool.and_eq_true, Bool.not_eq_true'] at ha
      have hlk' : X.env.scope.names.lookup y = some .local := by rw [g.hs]; exact hlk
      have hk : X.env.scope.kind = .function := by rw [g.hs]; exact g.kind
      have sw : ∀ (el : Expr) (gs : List Comprehension), swapsWith (.ListComp el gs scope p) (some (.Name y py)) pos.line X.env = pure true := fun el gs => sw_true hk hlk' ha.1 ha.2
      cases e with
      | lc1 own elt tg it c =>
        unfold chkE at h
        split at h
        · rename_i y tx ix ifs scope' pos' hx
          cases hx
          simp only [Bool.and_eq_true] at h
          obtain ⟨⟨h1, h2, h3, h4⟩, h5, h6, h7⟩ := h
          have r := ps_setLc (scope := scope) (ifs := ifs) (g := tg.rd X.K) (tt := rdT X.K T NoX Φ c) (te := rdE X.K T NoX Φ elt) (pos := p) g.calm g.nd hN hlk' (sw _ _) (okI it g.toGood h5) (blkOk_by (by rw [g.hN, g.hs]; exact h1))
            (fun s H Ca cl fp => tg_ok (X := X.blk s H scope (compEnvC scope cl Ca X.env) fp) g.calm g.nd g.hN (fun y hy => blk_names (X := X) y hy) tg h4)
            (fun s H Ca cl fp => ifs_ok (T := T) (Φ := Φ) (E := NoX) (ifs := ifs) (c := c) (by
              split at h7
              · exact .inl ⟨rfl, h7⟩
              · rw [Bool.and_eq_true] at h7
                exact .inr ⟨_, rfl, (okE c).tst (g.toGood.blk s H Ca cl fp) h7.2 h7.1⟩
              · cases h7)) (fun s H Ca cl fp => (okE elt).val (g.toGood.blk s H Ca cl fp) h6) (noSet_folded h3 _)
          refine psImp r fun D σ H h => ?_
          rw [ownN_snd]
          exact tLc_of (allIn_ok h2) h
        · cases h
      | lc2 own own2 elt tg it c tg2 it2 c2 =>
        unfold chkE at h
        split at h
        · rename_i y tx ix ifs tx2 ix2 ifs2 scope' pos' hx
          cases hx
          simp only [Bool.and_eq_true] at h
          obtain ⟨⟨⟨h1, h2, h3, h4⟩, h8, h9, h10, h11⟩, ⟨h5, h12, h6⟩, h7, h13⟩ := h
          have r := ps_setLc2 (scope := scope) (ifs := ifs) (ifs1 := ifs2) (g := tg.rd X.K) (g1 := tg2.rd X.K) (tt := rdT X.K T NoX Φ c) (tt1 := rdT X.K T NoX Φ c2) (wi1 := rdI X.K T NoX Φ it2 tg2) (te := rdE X.K T NoX Φ elt) (vs1 := own2) (pos := p) g.calm g.nd hN hlk' (sw _ _)
            (okI it g.toGood h5) (blkOk_by (by rw [g.hN, g.hs]; exact h1)) (by rw [ownN_snd]; exact allIn_ok h8)
            (fun s H Ca cl fp => tg_ok (X := X.blk s H scope (compEnvC scope cl Ca X.env) fp) g.calm g.nd g.hN (fun y hy => blk_names (X := X) y hy) tg h4)
            (fun s H Ca cl fp => ifs_ok (T := T) (Φ := Φ) (E := NoX) (ifs := ifs) (c := c) (by
              split at h7
              · exact .inl ⟨rfl, h7⟩
              · rw [Bool.and_eq_true] at h7
                exact .inr ⟨_, rfl, (okE c).tst (g.toGood.blk s H Ca cl fp) h7.2 h7.1⟩
              · cases h7))
            (fun s H Ca cl fp => okI it2 (g.toGood.blk s H Ca cl fp) h12)
            (fun s H Ca cl fp => tg_ok (X := X.blk s H scope (compEnvC scope cl Ca X.env) fp) g.calm g.nd g.hN (fun y hy => blk_names (X := X) y hy) tg2 h11)
            (fun s H Ca cl fp => ifs_ok (T := T) (Φ := Φ) (E := NoX) (ifs := ifs2) (c := c2) (by
              split at h13
              · exact .inl ⟨rfl, h13⟩
              · rw [Bool.and_eq_true] at h13
                exact .inr ⟨_, rfl, (okE c2).tst (g.toGood.blk s H Ca cl fp) h13.2 h13.1⟩
              · cases h13)) (fun s H Ca cl fp => (okE elt).val (g.toGood.blk s H Ca cl fp) h6) (noSet_folded h3 _) (fun env => noSet_folded h10 env)
          refine psImp r fun D σ H h => ?_
          rw [ownN_snd]
          exact tLc2_of (allIn_ok h2) (allIn_ok h9) h
        · cases h
      | lit d => cases d <;> cases (show false = true from h)
      | _ => cases (show false = true from h)
    · rename_i hlk
      exact norm (sw_cell (by rw [g.hs]; exact hlk))
    · cases ha
  · split at ha
    · rename_i hlk
      exact norm (sw_cell (by rw [g.hs]; exact hlk))
    · cases ha
  · exact norm (noComp_sw ha _ _ _)

/-! ### statements -/
theorem xs_pair {A : Prop} {a b : Nat × Bool} : A → A := fun h => h
def OkS (C : Ck) (T : Tb) (Φ : Phi) (s : St) : Prop := ∀ {E : XK} {X : Cx} {sc : Scope} {st : Stmt}, GoodS C T Φ E X sc → chkS C s sc st = true → PS X st (rdSt X.K T E Φ s)
def OkSs (C : Ck) (T : Tb) (Φ : Phi) (ss : Sts) : Prop := ∀ {E : XK} {X : Cx} {sc : Scope} {xs : List Stmt}, GoodS C T Φ E X sc → chkSs C ss sc xs = true → PSs X xs (rdSts X.K T E Φ ss)
end
section
variable {C : Ck} {T : Tb} {Φ : Phi}
theorem oS_asg {i : Nat} {box : Bool} {e : Mi.E} : OkS C T Φ (.asg i box e) := by
  intro E X sc st g h
  unfold chkS at h
  split at h
  · simp only [Bool.and_eq_true, decide_eq_true_eq] at h
    obtain ⟨⟨h1, h2⟩, h3, h4⟩ := h
    exact psImp (asg_lc g h1 h2 h3 h4) fun D σ H h => asg_red h
  · cases h
theorem oS_unp {tg : Tg} {e : Mi.E} : OkS C T Φ (.unp tg e) := by
  intro E X sc st g h
  unfold chkS at h
  split at h
  · simp only [Bool.and_eq_true] at h
    obtain ⟨⟨h1, h2⟩, h3, h4⟩ := h
    obtain ⟨ts, k, p, rfl⟩ := isTup_eq h2
    exact psImp (ps_asg ((okE e).val g.toGood h4) (tg_ok g.calm g.nd g.hN g.nms tg h1) sws_tuple (ss_not h3) rfl) fun D σ H h => unp_red h
  · cases h
theorem oS_par {xs : List (Nat × Bool)} {es : Es} : OkS C T Φ (.par xs es) := by
  intro E X sc st g h
  unfold chkS at h
  split at h
  · rename_i ts k p vs k2 p2 pos
    simp only [Bool.and_eq_true] at h
    obtain ⟨⟨h1, h2⟩, h3, h4⟩ := h
    obtain ⟨pa, hl⟩ := paPar g.toGood h4
    unfold parC at h1
    split at h1
    · rename_i hsw
      rw [Bool.and_eq_true] at h1
      obtain ⟨n1, n2, n3, n4⟩ := pgs_nms g h1.1
      have hlen := of_decide_eq_true h1.2
      refine psImp (ps_asg (te := tTup (rdPar X.K T E Φ xs es)) (g := gTup X.K xs.length (gNms xs)) (pe_tup pa) (pg_tup g.calm n1 n3 n4) sws_tuple (sw_eq g.hs g.kind hsw h2 h3) rfl) fun D σ H h => ?_
      have hx : xs.length ≤ sizeLine := by
        rw [← hl, beq_iff_eq.mp h2, sizeLine_eq]; omega
      exact (par_red h).imp fun vs H' ⟨l, q⟩ => ⟨by rw [l]; exact hx, fun p hp => ⟨p, vs, rfl, SqT.of upd_same, l, gNms_of l (q _ (Ext.upd hp))⟩⟩
    · rename_i ns hsw
      split at h1
      · rename_i i b1 j b2 x px y py
        simp only [Bool.and_eq_true, decide_eq_true_eq] at h1
        obtain ⟨⟨rfl, hij⟩, h5, h6, h7⟩ := h1
        obtain ⟨_, _, _, _⟩ := pgs_nms g h5
        simp only [nmsC, Bool.and_eq_true, decide_eq_true_eq] at h5
        obtain ⟨⟨a1, a2⟩, ⟨a3, a4⟩, _⟩ := h5
        cases vs with
        | nil => cases h2
        | cons v1 vs =>
          cases vs with
          | nil => cases h2
          | cons v2 vs =>
            cases vs with
            | cons _ _ => cases h2
            | nil =>
              refine psImp (ps_par g.calm g.nd (by rw [g.hN]; exact a1) (by rw [g.hN]; exact a3) hij (by rw [g.hs]; exact h6) (by rw [g.hs]; exact h7) pa (sw_eq g.hs g.kind hsw h2 h3) sws_tuple) fun D σ H h => ?_
              refine (par_red h).imp fun vs H' ⟨l, q⟩ => ?_
              match vs, l with
              | [u, w], _ => exact ⟨u, w, rfl, q _ (Ext.refl _)⟩
      · rename_i i b1 j b2 k' b3 x px y py z pz
        simp only [Bool.and_eq_true, decide_eq_true_eq] at h1
        obtain ⟨⟨rfl, hij, hik, hjk⟩, h5, h6, h7, h8⟩ := h1
        simp only [nmsC, Bool.and_eq_true, decide_eq_true_eq] at h5
        obtain ⟨⟨a1, a2⟩, ⟨a3, a4⟩, ⟨a5, a6⟩, _⟩ := h5
        cases vs with
        | nil => cases h2
        | cons v1 vs =>
          cases vs with
          | nil => cases h2
          | cons v2 vs =>
            cases vs with
            | nil => cases h2
            | cons v3 vs =>
              cases vs with
              | cons _ _ => cases h2
              | nil =>
                refine psImp (ps_par3 g.calm g.nd (by rw [g.hN]; exact a1) (by rw [g.hN]; exact a3) (by rw [g.hN]; exact a5) hij hik hjk (by rw [g.hs]; exact h6) (by rw [g.hs]; exact h7) (by rw [g.hs]; exact h8) pa (sw_eq g.hs g.kind hsw h2 h3) sws_tuple) fun D σ H h => ?_
                refine (par_red h).imp fun vs H' ⟨l, q⟩ => ?_
                match vs, l with
                | [u, w, t], _ => exact ⟨u, w, t, rfl, q _ (Ext.refl _)⟩
      · cases h1
    · cases h1
  · cases h
theorem oS_setix {o i e : Mi.E} : OkS C T Φ (.setix o i e) := by
  intro E X sc st g h
  unfold chkS at h
  split at h
  · simp only [Bool.and_eq_true] at h
    obtain ⟨h1, h2, h3, h4⟩ := h
    exact psImp (ps_asg ((okE e).val g.toGood h4) (pg_sub ((okE o).val g.toGood h2) ((okE i).val g.toGood h3) (set_op (E := E) (T := T) g.un) (assign_sub h1)) sws_sub rfl rfl) fun D σ H h => setix_red h
  · cases h
theorem oS_aug {i : Nat} {o : BO} {e : Mi.E} : OkS C T Φ (.aug i o e) := by
  intro E X sc st g h
  unfold chkS at h
  split at h
  · simp only [Bool.and_eq_true, decide_eq_true_eq] at h
    obtain ⟨⟨rfl, h1, h2⟩, h3⟩ := h
    obtain ⟨lo, fn⟩ := g.nms _ h2
    rw [← g.hN] at h1
    have hN := h1
    cases o with
    | add =>
      exact psImp (ps_aug g.nd hN lo ((okE e).val g.toGood h3) ip_add fn) fun D σ H h => by
        obtain ⟨f, hf, q⟩ := aug_red h
        cases hf; exact q
    | sub =>
      exact psImp (ps_aug g.nd hN lo ((okE e).val g.toGood h3) ip_sub fn) fun D σ H h => by
        obtain ⟨f, hf, q⟩ := aug_red h
        cases hf; exact q
    | _ =>
      exact psImp (t := tNever) ps_never fun D σ H h => by
        obtain ⟨f, hf, q⟩ := aug_red h
        cases hf
  · cases h
theorem oS_ex {e : Mi.E} : OkS C T Φ (.ex e) := by
  intro E X sc st g h
  unfold chkS at h
  split at h
  · rw [Bool.and_eq_true] at h
    exact psImp (ps_expr ((okE e).val g.toGood h.2) (noComp_sw h.1 _ _ _)) fun D σ H h => ex_red h
  · cases h
theorem oS_ret {e : Mi.E} : OkS C T Φ (.ret e) := by
  intro E X sc st g h
  unfold chkS at h
  split at h
  · exact psImp (ps_ret ((okE e).val g.toGood h)) fun D σ H h => ret_red h
  · rw [isNon_eq h]
    exact psImp ps_retN fun D σ H h => by
      obtain ⟨W, S, δ, rel, sl, post⟩ := ret_red h
      exact post.here rel Rp.non
  · cases h
theorem oS_iff {c : Mi.E} {a b : Sts} (ha : OkSs C T Φ a) (hb : OkSs C T Φ b) : OkS C T Φ (.iff c a b) := by
  intro E X sc st g h
  unfold chkS at h
  split at h
  · simp only [Bool.and_eq_true] at h
    obtain ⟨⟨h1, h2⟩, h3, h4⟩ := h
    exact psImp (ps_if ((okE c).tst g.toGood h1 h2) (ha g h3) (hb g h4)) fun D σ H h => iff_red h
  · cases h
theorem oS_whl {c : Mi.E} {b : Sts} (hb : OkSs C T Φ b) : OkS C T Φ (.whl c b) := by
  intro E X sc st g h
  unfold chkS at h
  split at h
  · simp only [Bool.and_eq_true] at h
    obtain ⟨⟨h1, h2⟩, h4⟩ := h
    exact psImp (ps_while g.own ((okE c).tst g.toGood h1 h2) (hb g h4)) fun D σ H h => whl_red h
  · cases h
theorem oS_for {tg : Tg} {it : Mi.It} {b : Sts} (hb : OkSs C T Φ b) : OkS C T Φ (.for tg it b) := by
  intro E X sc st g h
  unfold chkS at h
  split at h
  · simp only [Bool.and_eq_true] at h
    obtain ⟨⟨h1, h2, h3⟩, h4⟩ := h
    exact psImp (ps_for g.own g.calm (okI it g.toGood h3) (tg_ok g.calm g.nd g.hN g.nms tg h1) (hb g h4) (noSet_folded h2 _)) fun D σ H h => for_red h
  · cases h
theorem oS_rse : OkS C T Φ .rse := fun g h => psImp (t := tNever) ps_never fun D σ H h => rse_red h
theorem oS_pass : OkS C T Φ .pass := by
  intro E X sc st g h
  unfold chkS at h
  split at h
  · exact psImp ps_pass fun D σ H h => pass_red h
  · exact psImp ps_doc fun D σ H h => pass_red h
  · cases h
theorem oS_nil : OkSs C T Φ .nil := by
  intro E X sc xs g h
  unfold chkSs at h
  split at h
  · exact pssImp pss_nil fun D σ H h => nil_red h
  · cases h
theorem oS_cons {s : St} {ss : Sts} (hs : OkS C T Φ s) (hss : OkSs C T Φ ss) : OkSs C T Φ (.cons s ss) := by
  intro E X sc xs g h
  unfold chkSs at h
  split at h
  · rw [Bool.and_eq_true] at h
    exact pssImp (pss_cons (hs g h.1) (hss g h.2)) fun D σ H h => cons_red h
  · cases h
mutual
theorem okS : ∀ s : St, OkS C T Φ s
  | .asg i box e => oS_asg
  | .unp tg e => oS_unp
  | .par xs es => oS_par
  | .setix o i e => oS_setix
  | .aug i o e => oS_aug
  | .ex e => oS_ex
  | .ret e => oS_ret
  | .iff c a b => oS_iff (okSs a) (okSs b)
  | .whl c b => oS_whl (okSs b)
  | .for tg it b => oS_for (okSs b)
  | .rse => oS_rse
  | .pass => oS_pass
theorem okSs : ∀ ss : Sts, OkSs C T Φ ss
  | .nil => oS_nil
  | .cons s ss => oS_cons (okS s) (okSs ss)
end
end
end Mi

set_option Elab.async false
set_option linter.all false
set_option maxRecDepth 100000
set_option maxHeartbeats 1000000
/-! MiT: defs by their evaluation. -/
namespace Mi
open PySem PySem.Spec PyProof.Rows L2
/-- a def's promise: p arguments, φ tells what it gives -/
def spF (K : PySem.W.Frag) (T : Tb) (p : Nat) (φ : List R → Sto → Res R) : Sp := fun vs H Q E => ∃ W S rs, Rel K T W S H ∧ RpAs K T W rs vs ∧ rs.length = p ∧ Post K T E W (φ rs S) Q
/-- φ is no more than ψ -/
def Res.Le {α : Type} (r s : Res α) : Prop := r = .bad ∨ r = s
def LeF (φ ψ : List R → Sto → Res R) : Prop := ∀ rs S, (φ rs S).Le (ψ rs S)
section
variable {K : PySem.W.Frag} {T : Tb} {E : XK} {W : Wd} {S : Sto} {H : Hp} {Q : VK}
theorem Post.le {r s : Res R} (l : r.Le s) (h : Post K T E W r Q) : Post K T E W s Q := by
  rcases l with rfl | rfl
  · exact h.elim
  · exact h
theorem spF_le {p : Nat} {φ ψ : List R → Sto → Res R} (l : LeF φ ψ) {vs : List V} (h : spF K T p φ vs H Q E) : spF K T p ψ vs H Q E := by
  obtain ⟨W, S, rs, r1, r2, r3, p⟩ := h
  exact ⟨W, S, rs, r1, r2, r3, p.le (l rs S)⟩
/-- the def's own places are gone -/
theorem Rel.back {W' : Wd} {S' : Sto} {H' : Hp} (rel : Rel K T W S H) (l : W.Lx W') (rel' : Rel K T W' S' H') : Rel K T (W.wF W'.F) (S'.take S.length) H' := by
  obtain ⟨f, L, ν, e⟩ := l
  have hn := rel.len
  have h1 : W'.μ = W.μ ++ W'.μ.drop S.length := by
    rw [e, List.drop_append_of_le_length (by rw [hn]; exact Nat.le_refl _), ← hn, List.drop_length]; rfl
  have h2 : S.length ≤ S'.length := by
    rw [← rel'.len, e, List.length_append, hn]; exact Nat.le_add_right _ _
  have q := rel'.pop h1 hn h2
  rw [L] at q
  exact q
theorem back_ok {W' : Wd} {S' : Sto} {H' : Hp} {r : R} {v : V} (rel : Rel K T W S H) (l : W.Lx W') (rel' : Rel K T W' S' H') (rp : RpR K T W' H' r v) (post : Post K T E W (backR r S.length S') Q) : Q v H' := by
  have rb := Rel.back rel l rel'
  obtain ⟨f, L, ν, e⟩ := l
  have hn := rel.len
  have newTo : ∀ a, New W' a → New (W.wF W'.F) a := fun a n => ⟨n.f, by show W.L a = none; rw [← L]; exact n.l, fun hm => n.m (by rw [e]; exact List.mem_append_left _ hm)⟩
  cases r with
  | d x => exact post W'.F H' v f rb rp
  | fl ds =>
    obtain ⟨p, xs, h1, h2, h3, h4⟩ := rp
    exact post W'.F H' v f rb ⟨p, xs, h1, h2, h3, newTo p h4⟩
  | fd t kvs =>
    obtain ⟨p, u, h1, h2, h3, h4⟩ := rp
    exact post W'.F H' v f rb ⟨p, u, h1, h2, h3, newTo p h4⟩
  | loc l =>
    obtain ⟨p, rfl, hp⟩ := rp
    unfold backR at post
    simp only at post
    split at post
    · rename_i hl
      refine post W'.F H' (.ref p) f rb ⟨p, rfl, ?_⟩
      show W.μ[l]? = some p
      rw [e, List.getElem?_append_left (by rw [hn]; exact hl)] at hp
      exact hp
    · rename_i hl
      have hlt : l < W'.μ.length := (List.getElem?_eq_some_iff.mp hp).1
      have hnew : New (W.wF W'.F) p := by
        have hm := List.mem_of_getElem? hp
        refine ⟨rel'.mF p hm, by show W.L p = none; rw [← L]; exact rel'.mL p hm, fun h => ?_⟩
        have h : p ∈ W.μ := h
        obtain ⟨i, hi, hpi⟩ := List.mem_iff_getElem.mp h
        have h2 : W'.μ[i]? = some p := by rw [e, List.getElem?_append_left hi, List.getElem?_eq_getElem hi, hpi]
        have : i = l := by
          have e1 := (List.getElem?_eq_some_iff.mp h2).2
          have e2 := (List.getElem?_eq_some_iff.mp hp).2
          exact (List.getElem_inj rel'.nd).mp (e1.trans e2.symm)
        omega
      split at post
      · rename_i ds hs
        obtain ⟨a, u, h1, h2, h3⟩ := rel'.at hs
        rw [hp] at h1; cases h1
        cases h3 with
        | lst rx => exact post W'.F H' (.ref p) f rb ⟨p, _, rfl, h2, rx, hnew⟩
      · rename_i t kvs hs
        obtain ⟨a, u, h1, h2, h3⟩ := rel'.at hs
        rw [hp] at h1; cases h1
        exact post W'.F H' (.ref p) f rb ⟨p, u, rfl, h2, h3, hnew⟩
      · exact post.elim
/-- the body's end, as the call's -/
theorem call_post {z : Bool} {cl : Cl} {Φ : Phi} {m p : Nat} {b : Sts} {rs : List R} (rel : Rel K T W S H) (hp : rs.length = p) (post : Post K T E W (callF z cl Φ m p b rs S) Q) :
    PostS K T E W (execs z cl Φ b (rs.map some ++ List.replicate (m - p) none) S) { nx := fun _ H' => Q .non H', rt := Q } := by
  unfold callF at post
  rw [if_pos hp] at post
  cases he : execs z cl Φ b (rs.map some ++ List.replicate (m - p) none) S with
  | ok f S' =>
    rw [he] at post
    cases f with
    | next δ => exact fun W' σ H' l rel' _ => post W'.F H' .non l.F (Rel.back rel l rel') Rp.non
    | ret r => exact fun W' H' v l rel' rp => back_ok rel l rel' rp post
  | exc x S' =>
    rw [he] at post
    exact fun W' H' c d l rel' xr => post W'.F H' c d l.F (Rel.back rel l rel') xr
  | bad => rw [he] at post; exact post.elim
end

/-! ### a def -/
/-- what all defs lean on -/
structure Base (C : Ck) (T : Tb) (K : PySem.W.Frag) (mg : Str → Option Value) : Prop where
  hz : T.z = C.z
  hcl : T.cl = C.cl
  hcs : T.cs = C.cs
  bl : ∀ x ∈ C.bl, mg x = none
  fns : ∀ q ∈ C.fns, mg q.1 = some (.ref (T.fa q.2)) ∧ PySem.W.keepIn K (.ref (T.fa q.2)) = true
  cst : ∀ q ∈ C.cst, ∃ v u, mg q.1 = some u ∧ RelV v u ∧ ∀ F, Rp K T F v q.2
  cls : ∀ q ∈ C.cls, mg q.1 = some (.ref (T.fa q.2)) ∧ q.2 ∈ C.cs
  cf : ∀ n ∈ C.cs, CF K (T.fa n)
  fo : ∀ n ∈ C.cs, ∀ f ∈ C.cl n, FieldOk K (T.fa n) f
/-- a callable: it keeps its promise at the level k -/
structure Callee (P : Program) (w : World) (K : PySem.W.Frag) (mg : Str → Option Value) (base : Heap) (T : Tb) (k : Nat) (a : Addr) (φ : List R → Sto → Res R) : Prop where
  ex : ∃ (fd : FuncData) (ps : List Str), FnOk P w K mg base (L2.CX P w) k a fd ps (spF K T ps.length φ) ∧ Binds K fd ps [] ∧ ∀ rs S, φ rs S = .bad ∨ rs.length = ps.length
theorem Callee.mono {P : Program} {w : World} {K : PySem.W.Frag} {mg : Str → Option Value} {base : Heap} {T : Tb} {j k : Nat} {a : Addr} {φ : List R → Sto → Res R} (c : Callee P w K mg base T j a φ) (h : j ≤ k) : Callee P w K mg base T k a φ := by
  obtain ⟨fd, ps, F, b, l⟩ := c.ex
  exact ⟨fd, ps, F.mono h, b, l⟩
theorem Callee.le {P : Program} {w : World} {K : PySem.W.Frag} {mg : Str → Option Value} {base : Heap} {T : Tb} {k : Nat} {a : Addr} {φ ψ : List R → Sto → Res R} (c : Callee P w K mg base T k a φ) (l : LeF ψ φ) : Callee P w K mg base T k a ψ := by
  obtain ⟨fd, ps, F, b, hl⟩ := c.ex
  refine ⟨fd, ps, F.imp fun vs H Q E h => spF_le l h, b, fun rs S => ?_⟩
  rcases l rs S with e | e
  · exact .inl e
  · rw [e]; exact hl rs S
theorem Callee.ok {X : Cx} {T : Tb} {k : Nat} {a : Addr} {φ : List R → Sto → Res R} (c : Callee X.prog X.w X.K X.mg X.base T k a φ) (hr : Room k X.A) : CalleeOk X T a φ := by
  intro Y E h1 h2 h3 h4 h5 h6 hp pins s σ H xs us Q I r h
  obtain ⟨fd, ps, F, b, hl⟩ := c.ex
  obtain ⟨W, S, rs, rel, rp, post⟩ := h
  have hlen : rs.length = ps.length := by
    rcases hl rs S with e | e
    · rw [e] at post; exact post.elim
    · exact e
  rw [← h1, ← h2, ← h3, ← h4, ← h5] at F
  rw [← h3] at b
  rw [← h6] at hr
  refine run_fn F hr b .nil hp I r ?_
  rw [List.append_nil]
  exact ⟨W, S, rs, rel, rp, hlen, post⟩
/-- THE RULE for a def, its own function named -/
theorem def_fn {C : Ck} {T : Tb} {Φ : Phi} {P : Program} {w : World} {K : PySem.W.Frag} {mg : Str → Option Value} {base : Heap} {x qual : Str} {params : Arguments} {body : List Stmt} {scope : Scope} {f : Addr} {fd : FuncData} {k : Nat} {ps : List Str} {b : Sts}
    (B : Base C T K mg) (Fd : FunD K x qual params body scope [] [] f fd) (Sc : FnScope C.N ps scope) (hc : ∀ n ∈ C.fs, Callee P w K mg base T k (T.fa n) (Φ n)) (h : chkSs C b scope body = true) :
    FnOk P w K mg base (L2.CX P w) (k + 1) f fd ps (spF K T ps.length (callF C.z C.cl Φ C.N.length ps.length b)) := by
  refine Fd.ok Sc (fun vs H Q E ⟨W, S, rs, _, rp, hl, _⟩ => by rw [← Paired.length rp]; exact hl) fun cdv A outer s H vs Q E hr hsp => ?_
  refine ⟨rdSts K T E Φ b, ?_, ?_⟩
  · have tk : Takes (cxOf (L2.CX P w) P w K mg base C.N qual scope f cdv A outer s H E) (fun cls d _ H => E cls d H) := takes_of rfl rfl rfl rfl
    have g : GoodS C T Φ E (cxOf (L2.CX P w) P w K mg base C.N qual scope f cdv A outer s H E) scope := {
      hz := B.hz, hcl := B.hcl, hcs := B.hcs, hN := rfl, hs := rfl, nd := Sc.nd, calm := rfl
      un := by have := hr.un; show (A.deeper _).units + 80 < cLine; omega
      bl := B.bl, fns := B.fns, cst := B.cst, cls := B.cls, cf := B.cf, fo := B.fo
      call := fun n hn => Callee.ok (X := cxOf (L2.CX P w) P w K mg base C.N qual scope f cdv A outer s H E) (hc n hn) hr
      pa := passes_call tk fun _ _ _ _ e => e
      kind := Sc.kind, fn := fun _ => rfl
      own := passes_of rfl }
    exact okSs b g h
  · obtain ⟨W, S, rs, rel, rp, hl, post⟩ := hsp
    refine ⟨W, S, rs.map some ++ List.replicate (C.N.length - ps.length) none, rel, ?_, ?_⟩
    · have e : L2.start C.N vs = vs.map some ++ List.replicate (C.N.length - ps.length) none := by
        unfold L2.start
        rw [← Paired.length rp, hl]
      rw [e]
      exact Slots.start rp _
    · rw [B.hz, B.hcl]
      exact call_post rel hl post
theorem def_ok {C : Ck} {T : Tb} {Φ : Phi} {P : Program} {w : World} {K : PySem.W.Frag} {mg : Str → Option Value} {base : Heap} {x qual : Str} {params : Arguments} {body : List Stmt} {scope : Scope} {f : Addr} {fd : FuncData} {k : Nat} {ps : List Str} {b : Sts}
    (B : Base C T K mg) (Fd : FunD K x qual params body scope [] [] f fd) (Sc : FnScope C.N ps scope) (hb : Binds K fd ps []) (hc : ∀ n ∈ C.fs, Callee P w K mg base T k (T.fa n) (Φ n)) (h : chkSs C b scope body = true) :
    Callee P w K mg base T (k + 1) f (callF C.z C.cl Φ C.N.length ps.length b) := by
  refine ⟨fd, ps, def_fn B Fd Sc hc h, hb, fun rs S => ?_⟩
  unfold callF
  by_cases e : rs.length = ps.length
  · exact .inr e
  · rw [if_neg e]; exact .inl rfl
end Mi

set_option Elab.async false
set_option linter.all false
set_option maxRecDepth 100000
set_option maxHeartbeats 1000000
/-! MiX: a whole law: its defs, level by level. -/
namespace Mi
open PySem PySem.Spec PyProof.Rows L2
/-- a def of the text, and its words -/
structure Dn where
  nm : Str
  st : Stmt
  fs : List Nat
  N : List Str
  ps : List Str
  b : Sts
def Dn.d (q : Dn) : He.DefD := ⟨(q.nm, none), q.nm, q.nm, defArgs q.st, defBody q.st, defScope q.st, [], []⟩
structure Law where
  z : Bool
  ds : List Dn
  bl : List Str
  cst : List (Str × Int)
def Law.names (L : Law) : List (Str × Nat) := (L.ds.map Dn.nm).zipIdx
def Law.fa (L : Law) : List He.Fa := L.names.map (fun q => .glo q.1) ++ (L.bl.map .free ++ L.cst.map fun q => .int q.1 q.2)
def Law.fn (L : Law) : List He.DefD := L.ds.map Dn.d
def Law.ck (L : Law) (q : Dn) : Ck := { z := L.z, cl := fun _ => [], cs := [], fns := L.names, cst := L.cst.map fun q => (q.1, .int q.2), cls := [], fs := q.fs, bl := L.bl, N := q.N }
/-- what the program does, k calls deep -/
def Law.phi (L : Law) : Nat → Phi
  | 0, _ => fun _ _ => .bad
  | k + 1, n => match L.ds[n]? with
    | some q => callF L.z (fun _ => []) (L.phi k) q.N.length q.ps.length q.b
    | none => fun _ _ => .bad
structure DnOk (L : Law) (q : Dn) : Prop where
  sc : FnScope q.N q.ps (defScope q.st)
  bi : ∀ (kV doc pm : Value) (an : Option Addr) (cdv ct : Value) (us : List Value), us.length = q.ps.length → bindArgs (PySem.W.fnOf q.nm q.nm (defArgs q.st) (defBody q.st) (defScope q.st) .none kV doc pm an cdv ct) ⟨us, []⟩ = pure (q.ps.zip us)
  ck : chkSs (L.ck q) q.b (defScope q.st) (defBody q.st) = true
  fs : ∀ n ∈ q.fs, n < L.ds.length
def Law.tb (L : Law) (K : PySem.W.Frag) : Tb := { fa := fun n => He.ga K ((L.ds[n]?.map Dn.nm).getD ("" : Str)), cl := fun _ => [], z := L.z, cs := [] }
section
variable {L : Law} {P : Program} {w : World} {K : PySem.W.Frag} {mg : Str → Option Value} {base h : Heap}
theorem tb_at {n : Nat} {q : Dn} (e : L.ds[n]? = some q) : (L.tb K).fa n = He.ga K q.nm := by
  show He.ga K ((L.ds[n]?.map Dn.nm).getD _) = _
  rw [e]
  rfl
theorem names_at {x : Str} {n : Nat} (hm : (x, n) ∈ L.names) : ∃ q, L.ds[n]? = some q ∧ q.nm = x := by
  unfold Law.names at hm
  rw [List.mem_zipIdx_iff_getElem?] at hm
  rw [List.getElem?_map] at hm
  cases e : L.ds[n]? with
  | none => rw [e] at hm; cases hm
  | some q => rw [e] at hm; exact ⟨q, rfl, by simpa using hm⟩
theorem names_of {n : Nat} {q : Dn} (e : L.ds[n]? = some q) : (q.nm, n) ∈ L.names := by
  unfold Law.names
  rw [List.mem_zipIdx_iff_getElem?, List.getElem?_map, e]
  rfl
theorem Law.def_ (c : He.SaysD L.fa L.fn K) {n : Nat} {q : Dn} (e : L.ds[n]? = some q) : ∃ fd, FunD K q.nm q.nm (defArgs q.st) (defBody q.st) (defScope q.st) [] [] ((L.tb K).fa n) fd := by
  obtain ⟨fd, F⟩ := c.def_ n (d := q.d) (by rw [Law.fn, List.getElem?_map, e]; rfl)
  rw [tb_at e]
  exact ⟨fd, F⟩
theorem Law.glo (X : K.In h) (G : h.Ns mainGlobals mg) (c : He.SaysD L.fa L.fn K) {n : Nat} {q : Dn} (e : L.ds[n]? = some q) : mg q.nm = some (.ref ((L.tb K).fa n)) := by
  rw [tb_at e]
  exact He.glo_ok X G (c.facts (f := .glo q.nm) (List.mem_append_left _ (List.mem_map.mpr ⟨_, names_of e, rfl⟩)))
theorem Law.bas (X : K.In h) (G : h.Ns mainGlobals mg) (c : He.SaysD L.fa L.fn K) (q : Dn) : Base (L.ck q) (L.tb K) K mg where
  hz := rfl
  hcl := rfl
  hcs := rfl
  bl := fun x hx => He.free_ok X G (c.facts (f := .free x) (List.mem_append_right _ (List.mem_append_left _ (List.mem_map.mpr ⟨_, hx, rfl⟩))))
  fns := fun p hp => by
    obtain ⟨d, e, en⟩ := names_at (x := p.1) (n := p.2) hp
    obtain ⟨fd, F⟩ := Law.def_ c e
    rw [← en]
    exact ⟨Law.glo X G c e, F.kp⟩
  cst := fun p hp => by
    obtain ⟨p', hp', rfl⟩ := List.mem_map.mp hp
    obtain ⟨t, ht⟩ := He.int_ok X G (c.facts (f := .int p'.1 p'.2) (List.mem_append_right _ (List.mem_append_right _ (List.mem_map.mpr ⟨_, hp', rfl⟩))))
    exact ⟨.int p'.2, _, ht, ⟨t, rfl⟩, fun F => Rp.int _⟩
  cls := fun p hp => nomatch hp
  cf := fun n hn => nomatch hn
  fo := fun n hn => nomatch hn
/-- EVERY DEF, AT EVERY LEVEL -/
theorem Law.ok (X : K.In h) (G : h.Ns mainGlobals mg) (c : He.SaysD L.fa L.fn K) (hd : ∀ q ∈ L.ds, DnOk L q) : ∀ k n, n < L.ds.length → Callee P w K mg base (L.tb K) (k + 1) ((L.tb K).fa n) (L.phi k n)
  | 0, n, hn => by
    obtain ⟨fd, F⟩ := Law.def_ c (List.getElem?_eq_getElem hn)
    have ok := hd _ (List.getElem_mem hn)
    refine ⟨fd, L.ds[n].ps, F.ok ok.sc (fun vs H Q E ⟨W, S, rs, _, _, _, post⟩ => post.elim) fun cdv A outer s H vs Q E hr ⟨W, S, rs, _, _, _, post⟩ => post.elim, F.bindsN ok.bi, fun rs S => .inl rfl⟩
  | k + 1, n, hn => by
    have e := List.getElem?_eq_getElem hn
    obtain ⟨fd, F⟩ := Law.def_ c e
    have ok := hd _ (List.getElem_mem hn)
    have ih := Law.ok X G c hd k
    have r := def_ok (C := L.ck L.ds[n]) (Φ := L.phi k) (P := P) (w := w) (base := base) (Law.bas X G c L.ds[n]) F ok.sc (F.bindsN ok.bi) (fun m hm => ih m (ok.fs m hm)) ok.ck
    have e2 : L.phi (k + 1) n = callF L.z (fun _ => []) (L.phi k) L.ds[n].N.length L.ds[n].ps.length L.ds[n].b := by
      show (match L.ds[n]? with
        | some q => callF L.z (fun _ => []) (L.phi k) q.N.length q.ps.length q.b
        | none => fun _ _ => .bad) = _
      rw [e]
    rw [e2]
    exact r
/-- the law's own def: what its head needs -/
theorem Law.facts {k n m : Nat} {q : Dn} {f : Addr} {x : Str} (hd : ∀ q ∈ L.ds, DnOk L q) (e : L.ds[n]? = some q) (hps : q.ps = [x]) (good : ∀ ns : List Int, ns.length ≤ m → ∃ S', L.phi (k + 1) n [.d (.scr ns)] [] = .ok (.d (.bl true)) S')
    (X : K.In h) (G : h.Ns mainGlobals mg) (hfa : mg q.nm = some (.ref f)) (c : He.SaysD L.fa L.fn K) :
    ∃ (fd : FuncData) (sp : Sp), (∀ (s : Shared) (v : Value), BindsTo s fd ⟨[v], []⟩ [(x, v)]) ∧
      (∀ (H : Hp) (a : Addr) (ns : List Int), ns.length ≤ m → Only H → SqL K H a (ns.map V.int) → sp [.ref a] H (fun v _ => v = .bl true) fun _ _ _ => False) ∧
      ∀ base : Heap, K.In base → base.Ns mainGlobals mg → FnOk P w K mg base (L2.CX P w) (k + 2) f fd [x] sp := by
  obtain ⟨fd, F⟩ := Law.def_ c e
  have ok := hd _ (List.mem_of_getElem? e)
  have ef : f = (L.tb K).fa n := by
    have := hfa.symm.trans (Law.glo X G c e)
    cases this
    rfl
  subst ef
  refine ⟨fd, spF K (L.tb K) 1 (L.phi (k + 1) n), fun s v => ?_, fun H a ns hl hO hS => ?_, fun base KX G' => ?_⟩
  · have b := FunD.bindsA (ps := q.ps) F ok.bi s [v] (by rw [hps]; rfl)
    rw [hps] at b
    exact b
  · refine ⟨⟨H, fun _ => none, []⟩, [], [.d (.scr ns)], ?_, ?_, rfl, ?_⟩
    · exact { sub := Ext.refl _, lsub := fun _ _ z => (nomatch z), disj := fun _ _ z => (nomatch z), mF := fun _ z => (nomatch z), mL := fun _ z => (nomatch z), nd := List.nodup_nil, len := rfl, obj := fun l a o z => by simp at z }
    · exact .cons (.scr hS) .nil
    · obtain ⟨S', eq⟩ := good ns hl
      rw [eq]
      intro F' H' v _ _ rp
      have rp : Rp K (L.tb K) F' v (.bl true) := rp
      cases rp
      rfl
  · have r := def_fn (C := L.ck q) (Φ := L.phi k) (P := P) (w := w) (base := base) (Law.bas X G c q) F ok.sc (fun m hm => Law.ok X G c hd k m (ok.fs m hm)) ok.ck
    have e2 : L.phi (k + 1) n = callF L.z (fun _ => []) (L.phi k) q.N.length q.ps.length q.b := by
      show (match L.ds[n]? with
        | some q => callF L.z (fun _ => []) (L.phi k) q.N.length q.ps.length q.b
        | none => fun _ _ => .bad) = _
      rw [e]
    rw [e2]
    have l1 : q.ps.length = 1 := by rw [hps]; rfl
    rw [← hps, ← l1]
    exact r
end
/-- the end of a law, with what calls let out told by the world -/
theorem walk_law {l : PySem.W.OpenLaw} {m k : Nat} {q : Program} {free : List Str} {XP : (Str → Option Value) → Heap → Prop} {YP : World → Heap → Prop} {d : DefRec} {x : Str}
    (hm : l.most = some m) (hm2 : m ≤ sizeLine) (hdf : d.params.defaults = []) (hr : Room k callerA)
    (F : ∀ (w : World) (mg : Str → Option Value) (f : Addr) (h : Heap), YP w h → h.Ns mainGlobals mg → mg d.name = some (.ref f) →
      ∃ (K : PySem.W.Frag) (fd : FuncData) (sp : Sp), K.In h ∧ (∀ (s : Shared) (v : Value), BindsTo s fd ⟨[v], []⟩ [(x, v)]) ∧
        (∀ (H : Hp) (a : Addr) (ns : List Int), ns.length ≤ m → Only H → SqL K H a (ns.map V.int) → sp [.ref a] H (fun v _ => v = .bl true) fun _ _ _ => False) ∧
        ∀ base : Heap, K.In base → base.Ns mainGlobals mg → FnOk l.prog w K mg base (L2.CX l.prog w) k f fd [x] sp) :
    PySem.W.WalkO q free XP YP l.row.toRowW d [] (fun f vs => PySem.call f vs) := by
  refine Att.attach_call hm hdf fun w s₀ s₁ mg mb f o pm cd doc a us ns G Y ho hd hcd hmg hobj hints hlen hg => ?_
  obtain ⟨K, fd, sp, KX, hb, hsp, hF⟩ := F w mg f _ Y G.T.g hmg
  refine law_call (CX := L2.CX l.prog w) KX G.T.g G.T.b G.T.builtins G.T.nolimit hg hobj hints (Nat.le_trans hlen hm2) hr hF hb (fun H hO hS => hsp H a ns hlen hO hS) fun H e s' z => ?_
  obtain ⟨_, _, _, _, _, _, _, _, _, _, _, _, z⟩ := z
  exact z
end Mi

set_option Elab.async false
set_option linter.all false
set_option maxRecDepth 100000
set_option maxHeartbeats 1000000
/-! MiY: the evaluator's equations for simp; walks; printed by gen_y.py out of MiB. -/
namespace Mi
open PySem
@[simp] theorem ofO_some {α : Type} {S : Sto} {a : α} : ofO S (some a) = .ok a S := rfl
@[simp] theorem ofO_none {α : Type} {S : Sto} : (ofO S none : Res α) = .bad := rfl
section
variable {z : Bool} {cl : Cl} {Φ : Phi} {δ : Env} {S : Sto}

@[simp] theorem ev_var_eq {i} : ev z cl Φ (.var i) δ S = (ofO S (δ.get i)) := rfl
@[simp] theorem ev_lit_eq {d} : ev z cl Φ (.lit d) δ S = (.ok (.d d) S) := rfl
@[simp] theorem ev_glb_eq {u1 d} : ev z cl Φ (.glb u1 d) δ S = (.ok (.d d) S) := rfl
@[simp] theorem ev_tup_eq {es} : ev z cl Φ (.tup es) δ S = ((evs z cl Φ es δ S).andThen fun ds S => .ok (.d (.tup ds)) S) := rfl
@[simp] theorem ev_lst_eq {es} : ev z cl Φ (.lst es) δ S = ((evs z cl Φ es δ S).andThen fun ds S => .ok (.fl ds) S) := rfl
@[simp] theorem ev_dic0_eq {t} : ev z cl Φ (.dic0 t) δ S = (if (z && t) = true then .bad else .ok (.fd t []) S) := rfl
@[simp] theorem ev_bin_eq {o a b} : ev z cl Φ (.bin o a b) δ S = ((ev z cl Φ a δ S).andThen fun x S => (toA x S).andThen fun x S => (ev z cl Φ b δ S).andThen fun y S => (toA y S).andThen fun y S => binop o x y S) := rfl
@[simp] theorem ev_neg_eq {a} : ev z cl Φ (.neg a) δ S = ((ev z cl Φ a δ S).andThen fun x S => match x with
    | .d (.int i) => .ok (.d (.int (-i))) S
    | _ => .bad) := rfl
@[simp] theorem ev_not_eq {a} : ev z cl Φ (.not a) δ S = ((ev z cl Φ a δ S).andThen fun x S => (toB x S).andThen fun b S => .ok (.d (.bl (!b))) S) := rfl
@[simp] theorem ev_cmp_eq {o a b} : ev z cl Φ (.cmp o a b) δ S = ((ev z cl Φ a δ S).andThen fun x S => (toA x S).andThen fun x S => (ev z cl Φ b δ S).andThen fun y S => (toA y S).andThen fun y S => cmpop o x y S) := rfl
@[simp] theorem ev_chn_eq {o o' a b c} : ev z cl Φ (.chn o o' a b c) δ S = ((ev z cl Φ a δ S).andThen fun x S => (toA x S).andThen fun x S => (ev z cl Φ b δ S).andThen fun y S => (toA y S).andThen fun y S => (cmpop o x y S).andThen fun r S => (toB r S).andThen fun k S =>
      if k = true then (ev z cl Φ c δ S).andThen fun z S => (toA z S).andThen fun z S => cmpop o' y z S else .ok (.d (.bl false)) S) := rfl
@[simp] theorem ev_and_eq {a b} : ev z cl Φ (.and a b) δ S = ((ev z cl Φ a δ S).andThen fun x S => (toB x S).andThen fun k S => if k = true then ev z cl Φ b δ S else .ok (.d (.bl false)) S) := rfl
@[simp] theorem ev_or_eq {a b} : ev z cl Φ (.or a b) δ S = ((ev z cl Φ a δ S).andThen fun x S => (toB x S).andThen fun k S => if k = true then .ok (.d (.bl true)) S else ev z cl Φ b δ S) := rfl
@[simp] theorem ev_ite_eq {c a b} : ev z cl Φ (.ite c a b) δ S = ((ev z cl Φ c δ S).andThen fun x S => (toB x S).andThen fun k S => if k = true then ev z cl Φ a δ S else ev z cl Φ b δ S) := rfl
@[simp] theorem ev_call_eq {n es} : ev z cl Φ (.call n es) δ S = ((eva z cl Φ es δ S).andThen fun rs S => Φ n rs S) := rfl
@[simp] theorem ev_dyn_eq {i es} : ev z cl Φ (.dyn i es) δ S = (match δ.get i with
    | some (.d (.fn n)) => (eva z cl Φ es δ S).andThen fun rs S => Φ n rs S
    | _ => .bad) := rfl
@[simp] theorem ev_b1_eq {b a} : ev z cl Φ (.b1 b a) δ S = ((ev z cl Φ a δ S).andThen fun x S => b1op b x S) := rfl
@[simp] theorem ev_b2_eq {o a b} : ev z cl Φ (.b2 o a b) δ S = ((ev z cl Φ a δ S).andThen fun x S => (toA x S).andThen fun x S => (ev z cl Φ b δ S).andThen fun y S => (toA y S).andThen fun y S => b2op o x y S) := rfl
theorem ev_lrng_eq {a b} : ev z cl Φ (.lrng a b) δ S = ((ev z cl Φ a δ S).andThen fun x S => (ev z cl Φ b δ S).andThen fun y S => (rngS x y S).andThen fun ds S => if ds.length ≤ lim then .ok (.fl ds) S else .bad) := rfl
theorem ev_trng_eq {a b} : ev z cl Φ (.trng a b) δ S = ((ev z cl Φ a δ S).andThen fun x S => (ev z cl Φ b δ S).andThen fun y S => (rngS x y S).andThen fun ds S => if ds.length ≤ lim then .ok (.d (.tup ds)) S else .bad) := rfl
@[simp] theorem ev_isi_eq {a t} : ev z cl Φ (.isi a t) δ S = ((ev z cl Φ a δ S).andThen fun x S => (toA x S).andThen fun x S => ofO S ((isTy t x S).map fun b => .d (.bl b))) := rfl
@[simp] theorem ev_isi2_eq {a t u} : ev z cl Φ (.isi2 a t u) δ S = ((ev z cl Φ a δ S).andThen fun x S => (toA x S).andThen fun x S => ofO S ((isTy t x S).bind fun b => (isTy u x S).map fun c => .d (.bl (b || c)))) := rfl
@[simp] theorem ev_m0_eq {m o} : ev z cl Φ (.m0 m o) δ S = ((ev z cl Φ o δ S).andThen fun x S => (toA x S).andThen fun x S => match x.kind S with
    | some k => if m0ok m k = true then m0op k m x S else .bad
    | none => .bad) := rfl
@[simp] theorem ev_m1_eq {m o a} : ev z cl Φ (.m1 m o a) δ S = ((ev z cl Φ o δ S).andThen fun x S => (toA x S).andThen fun x S => match x.kind S with
    | some k => if m1ok z m k = true then (ev z cl Φ a δ S).andThen fun y S => (toA y S).andThen fun y S => m1op z k m x y S else .bad
    | none => .bad) := rfl
@[simp] theorem ev_m2_eq {m o a b} : ev z cl Φ (.m2 m o a b) δ S = ((ev z cl Φ o δ S).andThen fun x S => (toA x S).andThen fun x S => match x.kind S with
    | some k => if m2ok m k = true then (ev z cl Φ a δ S).andThen fun y S => (toA y S).andThen fun y S => (ev z cl Φ b δ S).andThen fun z S => (toA z S).andThen fun z S => m2op k m x y z S else .bad
    | none => .bad) := rfl
@[simp] theorem ev_ix_eq {a i} : ev z cl Φ (.ix a i) δ S = ((ev z cl Φ a δ S).andThen fun x S => (toA x S).andThen fun x S => (ev z cl Φ i δ S).andThen fun y S => (toA y S).andThen fun y S => ixop x y S) := rfl
@[simp] theorem ev_sl_eq {a lo hi} : ev z cl Φ (.sl a lo hi) δ S = ((ev z cl Φ a δ S).andThen fun x S => (toA x S).andThen fun x S => (ev z cl Φ lo δ S).andThen fun y S => (toP y S).andThen fun l S => (ev z cl Φ hi δ S).andThen fun z S => (toP z S).andThen fun h S => slop x l h S) := rfl
@[simp] theorem ev_rev_eq {a} : ev z cl Φ (.rev a) δ S = ((ev z cl Φ a δ S).andThen fun x S => (toA x S).andThen fun x S => revop x S) := rfl
@[simp] theorem ev_fld_eq {a n f} : ev z cl Φ (.fld a n f) δ S = ((ev z cl Φ a δ S).andThen fun x S => (toA x S).andThen fun x S => fldop cl x n f S) := rfl
theorem ev_lc1_eq {own elt tg it c} : ev z cl Φ (.lc1 own elt tg it c) δ S = ((evI z cl Φ it δ S).andThen fun src S => (walk src (fun x acc S => match tg.set x (wipeE δ own) with
      | none => .bad
      | some δ' => (ev z cl Φ c δ' S).andThen fun k S => (toB k S).andThen fun k S => if k = true then (ev z cl Φ elt δ' S).andThen fun y S => (toD y S).andThen fun y S => .ok (acc ++ [y]) S else .ok acc S) [] S).noExc.andThen fun ds S => if ds.length ≤ lim then .ok (.fl ds) S else .bad) := rfl
theorem ev_lc2_eq {own own2 elt tg it c tg2 it2 c2} : ev z cl Φ (.lc2 own own2 elt tg it c tg2 it2 c2) δ S = ((evI z cl Φ it δ S).andThen fun src S => (walk src (fun x acc S => match tg.set x (wipeE δ own) with
      | none => .bad
      | some δ' => (ev z cl Φ c δ' S).andThen fun k S => (toB k S).andThen fun k S => if k = true then (evI z cl Φ it2 δ' S).andThen fun src2 S => walk src2 (fun x acc S => match tg2.set x (wipeE δ' own2) with
        | none => .bad
        | some δ' => (ev z cl Φ c2 δ' S).andThen fun k S => (toB k S).andThen fun k S => if k = true then (ev z cl Φ elt δ' S).andThen fun y S => (toD y S).andThen fun y S => (.ok (acc ++ [y]) S) else .ok acc S) acc S
        else .ok acc S) [] S).noExc.andThen fun ds S => if ds.length ≤ lim then .ok (.fl ds) S else .bad) := rfl
theorem ev_dc1_eq {own t kE vE tg it c} : ev z cl Φ (.dc1 own t kE vE tg it c) δ S = ((evI z cl Φ it δ S).andThen fun src S => (walk src (fun x acc S => match tg.set x (wipeE δ own) with
      | none => .bad
      | some δ' => (ev z cl Φ c δ' S).andThen fun k S => (toB k S).andThen fun k S => if k = true then (ev z cl Φ kE δ' S).andThen fun a S => (toD a S).andThen fun a S => (ev z cl Φ vE δ' S).andThen fun y S => (toD y S).andThen fun y S =>
        if (keyB t a && !(z && t)) = true then .ok (put a y acc) S else .bad else .ok acc S) [] S).noExc.andThen fun kvs S => if kvs.length < lim then .ok (.fd t kvs) S else .bad) := rfl
@[simp] theorem evs_nil_eq : evs z cl Φ .nil δ S = (.ok [] S) := rfl
@[simp] theorem evs_cons_eq {e es} : evs z cl Φ (.cons e es) δ S = ((ev z cl Φ e δ S).andThen fun x S => (toD x S).andThen fun x S => (evs z cl Φ es δ S).andThen fun xs S => .ok (x :: xs) S) := rfl
@[simp] theorem eva_nil_eq : eva z cl Φ .nil δ S = (.ok [] S) := rfl
@[simp] theorem eva_cons_eq {e es} : eva z cl Φ (.cons e es) δ S = ((ev z cl Φ e δ S).andThen fun x S => (toA x S).andThen fun x S => (eva z cl Φ es δ S).andThen fun xs S => .ok (x :: xs) S) := rfl
@[simp] theorem evI_seq_eq {e} : evI z cl Φ (.seq e) δ S = ((ev z cl Φ e δ S).andThen fun x S => (toA x S).andThen fun x S => srcOf x S) := rfl
@[simp] theorem evI_rng_eq {a b} : evI z cl Φ (.rng a b) δ S = ((ev z cl Φ a δ S).andThen fun x S => (ev z cl Φ b δ S).andThen fun y S => (rngS x y S).andThen fun ds S => .ok (.fix ds) S) := rfl
@[simp] theorem evI_enum_eq {e} : evI z cl Φ (.enum e) δ S = ((ev z cl Φ e δ S).andThen fun x S => (toA x S).andThen fun x S => match x with
    | .d (.tup ds) => .ok (.fix (enumD ds)) S
    | .d (.lst ds) => .ok (.fix (enumD ds)) S
    | .loc l => if (stoL S l).isSome = true then .ok (.dyn (.en l)) S else .bad
    | _ => .bad) := rfl
@[simp] theorem evI_zip_eq {a b} : evI z cl Φ (.zip a b) δ S = ((ev z cl Φ a δ S).andThen fun x S => (toA x S).andThen fun x S => (ev z cl Φ b δ S).andThen fun y S => (toA y S).andThen fun y S => zipop x y S) := rfl
@[simp] theorem exec_asg_eq {i box e} : exec z cl Φ (.asg i box e) δ S = ((ev z cl Φ e δ S).andThen fun r S => (bindR i box r δ S).andThen fun δ S => .ok (.next δ) S) := rfl
@[simp] theorem exec_unp_eq {tg e} : exec z cl Φ (.unp tg e) δ S = ((ev z cl Φ e δ S).andThen fun r S => match r with
    | .d x => (match tg.set x δ with
      | some δ => .ok (.next δ) S
      | none => .bad)
    | _ => .bad) := rfl
@[simp] theorem exec_par_eq {xs es} : exec z cl Φ (.par xs es) δ S = ((evp z cl Φ xs es δ S).andThen fun as S => .ok (.next (setAll xs as δ)) S) := rfl
@[simp] theorem exec_setix_eq {o i e} : exec z cl Φ (.setix o i e) δ S = ((ev z cl Φ e δ S).andThen fun v S => (toA v S).andThen fun v S => (ev z cl Φ o δ S).andThen fun o S => (toA o S).andThen fun o S => (ev z cl Φ i δ S).andThen fun i S => (toA i S).andThen fun i S =>
      (setop o i v S).andThen fun _ S => .ok (.next δ) S) := rfl
@[simp] theorem exec_aug_eq {i o e} : exec z cl Φ (.aug i o e) δ S = (match augF o, δ.get i with
    | some f, some (.d (.int x)) => (ev z cl Φ e δ S).andThen fun y S => (match y.int with
      | some y => .ok (.next (δ.set i (some (.d (.int (f x y)))))) S
      | none => .bad)
    | _, _ => .bad) := rfl
@[simp] theorem exec_ex_eq {e} : exec z cl Φ (.ex e) δ S = ((ev z cl Φ e δ S).andThen fun _ S => .ok (.next δ) S) := rfl
@[simp] theorem exec_ret_eq {e} : exec z cl Φ (.ret e) δ S = ((ev z cl Φ e δ S).andThen fun r S => .ok (.ret r) S) := rfl
@[simp] theorem exec_iff_eq {c a b} : exec z cl Φ (.iff c a b) δ S = ((ev z cl Φ c δ S).andThen fun x S => (toB x S).andThen fun k S => if k = true then execs z cl Φ a δ S else execs z cl Φ b δ S) := rfl
theorem exec_whl_eq {c b} : exec z cl Φ (.whl c b) δ S = (whileN (fun δ S => (ev z cl Φ c δ S).andThen fun x S => toB x S) (execs z cl Φ b) most δ S) := rfl
theorem exec_for_eq {tg it b} : exec z cl Φ (.for tg it b) δ S = ((evI z cl Φ it δ S).andThen fun src S => forS src (fun x δ S => match tg.set x δ with
      | some δ => execs z cl Φ b δ S
      | none => .bad) δ S) := rfl
@[simp] theorem exec_rse_eq : exec z cl Φ .rse δ S = (.bad) := rfl
@[simp] theorem exec_pass_eq : exec z cl Φ .pass δ S = (.ok (.next δ) S) := rfl
@[simp] theorem execs_nil_eq : execs z cl Φ .nil δ S = (.ok (.next δ) S) := rfl
def thenS (z : Bool) (cl : Cl) (Φ : Phi) (ss : Sts) : Fl → Sto → Res Fl
  | .next δ, S => execs z cl Φ ss δ S
  | .ret r, S => .ok (.ret r) S
@[simp] theorem thenS_next {ss : Sts} : thenS z cl Φ ss (.next δ) S = execs z cl Φ ss δ S := rfl
@[simp] theorem thenS_ret {ss : Sts} {r : R} : thenS z cl Φ ss (.ret r) S = .ok (.ret r) S := rfl
@[simp] theorem execs_cons_eq {s ss} : execs z cl Φ (.cons s ss) δ S = (exec z cl Φ s δ S).andThen (thenS z cl Φ ss) := by
  show (exec z cl Φ s δ S).andThen _ = _
  congr 1
  funext f S
  cases f <;> rfl
end

@[simp] theorem evp_nil {z : Bool} {cl : Cl} {Φ : Phi} {δ : Env} {S : Sto} : evp z cl Φ [] .nil δ S = .ok [] S := rfl
@[simp] theorem evp_cons {z : Bool} {cl : Cl} {Φ : Phi} {δ : Env} {S : Sto} {i : Nat} {b : Bool} {xs : List (Nat × Bool)} {e : E} {es : Es} :
    evp z cl Φ ((i, b) :: xs) (.cons e es) δ S = (ev z cl Φ e δ S).andThen fun r S => (boxR b r S).andThen fun a S => (evp z cl Φ xs es δ S).andThen fun as S => .ok (a :: as) S := rfl
@[simp] theorem setAll_nil {δ : Env} {rs : List R} : setAll [] rs δ = δ := by cases rs <;> rfl
@[simp] theorem setAll_cons {δ : Env} {i : Nat} {b : Bool} {xs : List (Nat × Bool)} {r : R} {rs : List R} : setAll ((i, b) :: xs) (r :: rs) δ = setAll xs rs (δ.set i (some r)) := rfl
section
variable {S : Sto} {x y : D} {l : Nat} {ds : List D} {b t : Bool} {i : Int} {kvs : List (D × D)}
@[simp] theorem frz_d : (R.d x).frz = .d x := rfl
@[simp] theorem frz_loc : (R.loc l).frz = .loc l := rfl
@[simp] theorem frz_fl : (R.fl ds).frz = .d (.lst ds) := rfl
@[simp] theorem toA_d : toA (.d x) S = .ok (.d x) S := rfl
@[simp] theorem toA_loc : toA (.loc l) S = .ok (.loc l) S := rfl
@[simp] theorem toA_fl : toA (.fl ds) S = .ok (.d (.lst ds)) S := rfl
@[simp] theorem toD_d : toD (.d x) S = .ok x S := rfl
@[simp] theorem toD_fl : toD (.fl ds) S = .ok (.lst ds) S := rfl
@[simp] theorem toB_bl : toB (.d (.bl b)) S = .ok b S := rfl
@[simp] theorem toP_non : toP (.d .non) S = .ok none S := rfl
@[simp] theorem toP_int : toP (.d (.int i)) S = .ok (some i) S := rfl
@[simp] theorem boxR_fl : boxR true (.fl ds) S = .ok (.loc S.length) (S ++ [.lst ds]) := rfl
@[simp] theorem boxR_loc : boxR true (.loc l) S = .ok (.loc l) S := rfl
@[simp] theorem boxR_f (r : R) : boxR false r S = toA r S := rfl
@[simp] theorem bindR_eq {δ : Env} (r : R) : bindR l b r δ S = (boxR b r S).andThen fun a S => .ok (δ.set l (some a)) S := rfl
@[simp] theorem seq_tup : (R.d (.tup ds)).seq S = some (false, ds) := rfl
@[simp] theorem seq_lst : (R.d (.lst ds)).seq S = some (true, ds) := rfl
@[simp] theorem seq_fl : (R.fl ds).seq S = some (true, ds) := rfl
@[simp] theorem seq_int : (R.d (.int i)).seq S = none := rfl
@[simp] theorem seq_non : (R.d .non).seq S = none := rfl
@[simp] theorem seq_bl : (R.d (.bl b)).seq S = none := rfl
@[simp] theorem dat_d : (R.d x).dat S = some x := rfl
@[simp] theorem dat_fl : (R.fl ds).dat S = some (.lst ds) := rfl
@[simp] theorem R_int : (R.d (.int i)).int = some i := rfl
@[simp] theorem srcOf_tup : srcOf (.d (.tup ds)) S = .ok (.fix ds) S := rfl
@[simp] theorem srcOf_lst : srcOf (.d (.lst ds)) S = .ok (.fix ds) S := rfl
@[simp] theorem walk_fix {α : Type} {f : D → α → Sto → Res α} {a : α} : walk (.fix ds) f a S = walkD f ds a S := rfl
@[simp] theorem walkD_nil {α : Type} {f : D → α → Sto → Res α} {a : α} : walkD f [] a S = .ok a S := rfl
theorem walkD_cons {α : Type} {f : D → α → Sto → Res α} {a : α} : walkD f (x :: ds) a S = (f x a S).andThen fun a' S' => walkD f ds a' S' := rfl
@[simp] theorem forS_fix {f : D → Env → Sto → Res Fl} {δ : Env} : forS (.fix ds) f δ S = forD f ds δ S := rfl
@[simp] theorem forD_nil {f : D → Env → Sto → Res Fl} {δ : Env} : forD f [] δ S = .ok (.next δ) S := rfl
theorem forD_cons {f : D → Env → Sto → Res Fl} {δ : Env} : forD f (x :: ds) δ S = (f x δ S).andThen fun a S => match a with
    | .next δ => forD f ds δ S
    | .ret r => .ok (.ret r) S := rfl
@[simp] theorem set_nm {δ : Env} : (Tg.nm l).set x δ = some (δ.set l (some (.d x))) := rfl
@[simp] theorem binop_int {o : BO} {j : Int} : binop o (.d (.int i)) (.d (.int j)) S = ofO S ((binI o i j).map fun k => .d (.int k)) := rfl
@[simp] theorem eqv_int {j : Int} : D.eqv (.int i) (.int j) = decide (i = j) := by
  unfold D.eqv D.py
  simp only [PyData.eqv]
  exact Bool.eq_iff_iff.mpr (by simp)
end
/-- how a call ends -/
def finF (S : Sto) : Res Fl → Res R
  | .ok (.next _) S' => .ok (.d .non) (S'.take S.length)
  | .ok (.ret r) S' => backR r S.length S'
  | .exc x S' => .exc x (S'.take S.length)
  | .bad => .bad
theorem callF_eq {z : Bool} {cl : Cl} {Φ : Phi} {m p : Nat} {b : Sts} {rs : List R} {S : Sto} (h : rs.length = p) : callF z cl Φ m p b rs S = finF S (execs z cl Φ b (rs.map some ++ List.replicate (m - p) none) S) := by
  unfold callF
  rw [if_pos h]
  rfl
section
variable {S S' : Sto} {x : D} {l : Nat} {ds : List D} {δ : Env} {i j : Int}
@[simp] theorem finF_next : finF S (.ok (.next δ) S') = .ok (.d .non) (S'.take S.length) := rfl
@[simp] theorem finF_d : finF S (.ok (.ret (.d x)) S') = .ok (.d x) (S'.take S.length) := rfl
@[simp] theorem finF_fl : finF S (.ok (.ret (.fl ds)) S') = .ok (.fl ds) (S'.take S.length) := rfl
theorem finF_loc (h : S.length ≤ l) (e : S'[l]? = some (.lst ds)) : finF S (.ok (.ret (.loc l)) S') = .ok (.fl ds) (S'.take S.length) := by
  show backR (.loc l) S.length S' = _
  unfold backR
  simp only
  rw [if_neg (by omega), e]
@[simp] theorem finF_ite {c : Prop} [Decidable c] {a b : Res Fl} : finF S (if c then a else b) = if c then finF S a else finF S b := by split <;> rfl
@[simp] theorem andThen_ite {α β : Type} {c : Prop} [Decidable c] {a b : Res α} {k : α → Sto → Res β} : (if c then a else b).andThen k = if c then a.andThen k else b.andThen k := by split <;> rfl
@[simp] theorem ok_int : (D.int i).ok = true := rfl
@[simp] theorem ok_non : D.non.ok = true := rfl
@[simp] theorem ok_bl {b : Bool} : (D.bl b).ok = true := rfl
@[simp] theorem cmp_lt : cmpop .lt (.d (.int i)) (.d (.int j)) S = .ok (.d (.bl (decide (i < j)))) S := rfl
@[simp] theorem cmp_le : cmpop .le (.d (.int i)) (.d (.int j)) S = .ok (.d (.bl (decide (i ≤ j)))) S := rfl
@[simp] theorem cmp_gt : cmpop .gt (.d (.int i)) (.d (.int j)) S = .ok (.d (.bl (decide (j < i)))) S := rfl
@[simp] theorem cmp_ge : cmpop .ge (.d (.int i)) (.d (.int j)) S = .ok (.d (.bl (decide (j ≤ i)))) S := rfl
@[simp] theorem cmp_eq : cmpop .eq (.d (.int i)) (.d (.int j)) S = .ok (.d (.bl (decide (i = j)))) S := by
  show ofO S ((if true = true then some (D.eqv (.int i) (.int j)) else none).map _) = _
  rw [if_pos rfl, eqv_int]
  rfl
@[simp] theorem cmp_ne : cmpop .ne (.d (.int i)) (.d (.int j)) S = .ok (.d (.bl (!decide (i = j)))) S := by
  show ofO S ((if true = true then some (!D.eqv (.int i) (.int j)) else none).map _) = _
  rw [if_pos rfl, eqv_int]
  rfl
@[simp] theorem isi_tup : isTy .tuple (.d (.tup ds)) S = some true := rfl
@[simp] theorem isi_tup_i : isTy .tuple (.d (.int i)) S = some false := rfl
@[simp] theorem isi_int : isTy .int (.d (.int i)) S = some true := rfl
@[simp] theorem isi_bool : isTy .bool (.d (.int i)) S = some false := rfl
@[simp] theorem len_tup : b1op .len (.d (.tup ds)) S = .ok (.d (.int ds.length)) S := rfl
@[simp] theorem len_lst : b1op .len (.d (.lst ds)) S = .ok (.d (.int ds.length)) S := rfl
@[simp] theorem len_fl : b1op .len (.fl ds) S = .ok (.d (.int ds.length)) S := rfl
@[simp] theorem tuple_fl : b1op .tuple (.fl ds) S = .ok (.d (.tup ds)) S := rfl
@[simp] theorem list_tup : b1op .list (.d (.tup ds)) S = .ok (.fl ds) S := rfl
@[simp] theorem allBl_map {β : Type} {xs : List β} {p : β → Bool} : allBl (xs.map fun x => .bl (p x)) = some (xs.map p) := by
  induction xs with
  | nil => rfl
  | cons x xs ih => rw [List.map_cons, allBl, ih]; rfl
@[simp] theorem all_map {β : Type} {xs : List β} {p : β → Bool} : b1op .all (.fl (xs.map fun x => .bl (p x))) S = .ok (.d (.bl (xs.all p))) S := by
  show ofO S ((allBl (xs.map fun x => .bl (p x))).bind _) = _
  rw [allBl_map]
  simp
@[simp] theorem any_map {β : Type} {xs : List β} {p : β → Bool} : b1op .any (.fl (xs.map fun x => .bl (p x))) S = .ok (.d (.bl (xs.any p))) S := by
  show ofO S ((allBl (xs.map fun x => .bl (p x))).bind _) = _
  rw [allBl_map]
  simp
theorem small62_nat {n : Nat} (h : n ≤ 1000000) : small62 (n : Int) = true := by
  have e : (2 : Int) ^ 62 = 4611686018427387904 := by decide
  unfold small62
  rw [e, decide_eq_true_eq]
  omega
theorem rngS_if {a b : Int} (h : small62 a = true) (h' : small62 b = true) : rngS (.d (.int a)) (.d (.int b)) S = .ok (rngD a (b - a).toNat) S := by
  have q : (small62 a && small62 b) = true := by rw [h, h']; rfl
  exact if_pos q
theorem rngS_nat {n : Nat} (h : n ≤ 1000000) : rngS (.d (.int 0)) (.d (.int (n : Int))) S = .ok ((List.range n).map fun (i : Nat) => D.int (i : Int)) S := by
  have h0 := small62_nat (n := 0) (by omega)
  have q := rngS_if (S := S) h0 (small62_nat h)
  have e : ((n : Int) - ((0 : Nat) : Int)).toNat = n := by omega
  rw [e, Int.natCast_zero] at q
  rw [q]
  have e3 : rngD 0 n = (List.range n).map fun (i : Nat) => D.int (i : Int) := List.map_congr_left fun i _ => by rw [Int.zero_add]
  rw [e3]
theorem small62_int {j : Int} (h1 : -1000000 ≤ j) (h2 : j ≤ 1000000) : small62 j = true := by
  have e : (2 : Int) ^ 62 = 4611686018427387904 := by decide
  unfold small62
  rw [e, decide_eq_true_eq]
  omega
theorem rngS_int {i j : Int} (h : -1000000 ≤ i ∧ i ≤ 1000000) (h' : -1000000 ≤ j ∧ j ≤ 1000000) : rngS (.d (.int i)) (.d (.int j)) S = .ok (rngD i (j - i).toNat) S := rngS_if (small62_int h.1 h.2) (small62_int h'.1 h'.2)
theorem rngD_eq {n : Nat} : rngD 0 n = (List.range n).map fun (i : Nat) => D.int (i : Int) := List.map_congr_left fun i _ => by rw [Int.zero_add]
theorem ix_tup {i : Nat} {d : D} (h : ds[i]? = some d) : ixop (.d (.tup ds)) (.d (.int (i : Int))) S = .ok (.d d) S := by
  have hi : i < ds.length := (List.getElem?_eq_some_iff.mp h).1
  show ofO S ((ixD ds i).map R.d) = _
  have e : ixD ds (i : Int) = some d := by
    unfold ixD L2.atI L2.ixN
    rw [if_pos (by omega), if_pos (by omega), Option.bind_some, Int.toNat_natCast, h]
  rw [e]; rfl
theorem ix_lst {i : Nat} {d : D} (h : ds[i]? = some d) : ixop (.d (.lst ds)) (.d (.int (i : Int))) S = .ok (.d d) S := by
  have hi : i < ds.length := (List.getElem?_eq_some_iff.mp h).1
  show ofO S ((ixD ds i).map R.d) = _
  have e : ixD ds (i : Int) = some d := by
    unfold ixD L2.atI L2.ixN
    rw [if_pos (by omega), if_pos (by omega), Option.bind_some, Int.toNat_natCast, h]
  rw [e]; rfl
/-- the last -/
theorem ix_last {d : D} (h : ds.getLast? = some d) : ixop (.d (.tup ds)) (.d (.int (-1))) S = .ok (.d d) S := by
  show ofO S ((ixD ds (-1)).map R.d) = _
  have hl : ds ≠ [] := fun e => by rw [e] at h; cases h
  have h0 : 0 < ds.length := List.length_pos_iff.mpr hl
  have e : ixD ds (-1) = some d := by
    unfold ixD L2.atI L2.ixN
    rw [if_neg (by omega), if_pos (by omega), Option.bind_some]
    have e2 : (-1 + (ds.length : Int)).toNat = ds.length - 1 := by omega
    rw [e2, ← List.getLast?_eq_getElem?, h]
  rw [e]; rfl
theorem ix_last_lst {d : D} (h : ds.getLast? = some d) : ixop (.d (.lst ds)) (.d (.int (-1))) S = .ok (.d d) S := by
  have q := ix_last (S := S) h
  exact q
end
/-- plain, no deeper than n -/
def okd (n : Nat) (d : D) : Prop := d.py.canLay0 = true ∧ d.py.depth ≤ n
theorem okd.ok {n : Nat} {d : D} (h : okd n d) (hn : n ≤ 64) : d.ok = true := by
  show (d.py.canLay0 && decide (d.py.depth ≤ 64)) = true
  rw [h.1, Bool.true_and]
  exact decide_eq_true (Nat.le_trans h.2 hn)
theorem okd_int {n : Nat} {i : Int} : okd n (.int i) := ⟨rfl, Nat.zero_le _⟩
theorem okd_non {n : Nat} : okd n .non := ⟨rfl, Nat.zero_le _⟩
theorem okd_all {n : Nat} : ∀ {ds : List D}, (∀ d ∈ ds, okd n d) → PyData.canLayAll0 (D.pys ds) = true ∧ PyData.depthAll (D.pys ds) ≤ n
  | [], _ => ⟨rfl, Nat.zero_le _⟩
  | d :: ds, h => by
    obtain ⟨a, b⟩ := h d List.mem_cons_self
    obtain ⟨a2, b2⟩ := okd_all fun e he => h e (List.mem_cons_of_mem _ he)
    refine ⟨?_, ?_⟩
    · show (d.py.canLay0 && PyData.canLayAll0 (D.pys ds)) = true
      rw [a, a2]; rfl
    · show max d.py.depth (PyData.depthAll (D.pys ds)) ≤ n
      omega
theorem okd_tup {n : Nat} {ds : List D} (h : ∀ d ∈ ds, okd n d) : okd (n + 1) (.tup ds) := by
  obtain ⟨a, b⟩ := okd_all h
  refine ⟨?_, ?_⟩
  · simpa [D.py, PyData.canLay0] using a
  · show PyData.depthAll (D.pys ds) + 1 ≤ n + 1
    omega
theorem okd_lst {n : Nat} {ds : List D} (h : ∀ d ∈ ds, okd n d) : okd (n + 1) (.lst ds) := by
  obtain ⟨a, b⟩ := okd_all h
  refine ⟨?_, ?_⟩
  · simpa [D.py, PyData.canLay0] using a
  · show PyData.depthAll (D.pys ds) + 1 ≤ n + 1
    omega
/-- a comprehension over fixed items that leaves the store as it is -/
theorem walkD_flt {β : Type} {f : D → List D → Sto → Res (List D)} {S : Sto} {xs : List β} (g : β → D) (p : β → Bool) (e : β → D)
    (h : ∀ x ∈ xs, ∀ acc, f (g x) acc S = if p x = true then .ok (acc ++ [e x]) S else .ok acc S) : ∀ acc, walkD f (xs.map g) acc S = .ok (acc ++ (xs.filter p).map e) S := by
  induction xs with
  | nil => intro acc; simp
  | cons x xs ih =>
    intro acc
    rw [List.map_cons, walkD_cons, h x List.mem_cons_self]
    cases q : p x with
    | true =>
      rw [if_pos rfl, andThen_ok, ih (fun y hy => h y (List.mem_cons_of_mem _ hy)), List.filter_cons_of_pos q, List.map_cons, List.append_assoc]
      rfl
    | false =>
      rw [if_neg (by decide), andThen_ok, ih (fun y hy => h y (List.mem_cons_of_mem _ hy)), List.filter_cons_of_neg (by rw [q]; decide)]
theorem noExc_of {α : Type} {r : Res α} {a : α} {S : Sto} (h : r = .ok a S) : r.noExc = .ok a S := by rw [h]; rfl
/-- [elt for tg in it if c], the store as it is -/
theorem ev_lc1_of {z : Bool} {cl : Cl} {Φ : Phi} {δ : Env} {S : Sto} {own : List Nat} {elt : E} {tg : Tg} {it : It} {c : E} {β : Type} {xs : List β} (g : β → D) (p : β → Bool) (e : β → D)
    (hit : evI z cl Φ it δ S = .ok (.fix (xs.map g)) S) (hl : xs.length ≤ 1000)
    (h : ∀ x ∈ xs, ∃ δ', tg.set (g x) (wipeE δ own) = some δ' ∧ ev z cl Φ c δ' S = .ok (.d (.bl (p x))) S ∧ (p x = true → (ev z cl Φ elt δ' S).andThen toD = .ok (e x) S)) :
    ev z cl Φ (.lc1 own elt tg it c) δ S = .ok (.fl ((xs.filter p).map e)) S := by
  rw [ev_lc1_eq, hit, andThen_ok, walk_fix, noExc_of (walkD_flt g p e (fun x hx acc => ?_) [])]
  · have l : ([] ++ (xs.filter p).map e : List D).length ≤ lim := by
      have q : (xs.filter p).length ≤ xs.length := List.length_filter_le p xs
      have q2 : (1000 : Nat) ≤ lim := by decide
      rw [List.nil_append, List.length_map]
      omega
    rw [andThen_ok, if_pos l, List.nil_append]
  · obtain ⟨δ', h1, h2, h3⟩ := h x hx
    rw [h1]
    simp only
    rw [h2, andThen_ok, toB_bl, andThen_ok]
    cases q : p x with
    | false => rfl
    | true =>
      rw [if_pos rfl, if_pos rfl]
      have h3 := h3 q
      cases he : ev z cl Φ elt δ' S with
      | ok r S1 =>
        rw [he, andThen_ok] at h3
        rw [andThen_ok, h3]
        rfl
      | exc x S1 => rw [he] at h3; cases h3
      | bad => rw [he] at h3; cases h3
/-- [elt for tg in it] -/
theorem ev_lc1_all {z : Bool} {cl : Cl} {Φ : Phi} {δ : Env} {S : Sto} {own : List Nat} {elt : E} {tg : Tg} {it : It} {β : Type} {xs : List β} (g : β → D) (e : β → D)
    (hit : evI z cl Φ it δ S = .ok (.fix (xs.map g)) S) (hl : xs.length ≤ 1000)
    (h : ∀ x ∈ xs, ∃ δ', tg.set (g x) (wipeE δ own) = some δ' ∧ (ev z cl Φ elt δ' S).andThen toD = .ok (e x) S) :
    ev z cl Φ (.lc1 own elt tg it (.lit (.bl true))) δ S = .ok (.fl (xs.map e)) S := by
  have q := ev_lc1_of (c := .lit (.bl true)) g (fun _ => true) e hit hl fun x hx => by
    obtain ⟨δ', h1, h2⟩ := h x hx
    exact ⟨δ', h1, rfl, fun _ => h2⟩
  rw [q, List.filter_eq_self.mpr fun _ _ => rfl]
/-- each item gives one -/
theorem walkD_map {β : Type} {f : D → List D → Sto → Res (List D)} {S : Sto} {xs : List β} (g : β → D) (e : β → D)
    (h : ∀ x ∈ xs, ∀ acc, f (g x) acc S = .ok (acc ++ [e x]) S) : ∀ acc, walkD f (xs.map g) acc S = .ok (acc ++ xs.map e) S := by
  intro acc
  have q := walkD_flt (f := f) (S := S) (xs := xs) g (fun _ => true) e (fun x hx acc => by rw [if_pos rfl]; exact h x hx acc) acc
  rw [q, List.filter_eq_self.mpr fun _ _ => rfl]
/-- a walk with a law that stands all along -/
theorem walkD_inv {α : Type} {f : D → α → Sto → Res α} (I : List D → α → Sto → Prop) : ∀ {ds done : List D} {a : α} {S : Sto}, I done a S →
    (∀ done x a S, x ∈ ds → I done a S → ∃ a' S', f x a S = .ok a' S' ∧ I (done ++ [x]) a' S') → ∃ a' S', walkD f ds a S = .ok a' S' ∧ I (done ++ ds) a' S'
  | [], done, a, S, hI, _ => ⟨a, S, rfl, by rw [List.append_nil]; exact hI⟩
  | x :: ds, done, a, S, hI, h => by
    obtain ⟨a1, S1, e, h1⟩ := h done x a S List.mem_cons_self hI
    obtain ⟨a2, S2, e2, h2⟩ := walkD_inv I h1 fun dn y a S hy hi => h dn y a S (List.mem_cons_of_mem _ hy) hi
    refine ⟨a2, S2, ?_, ?_⟩
    · rw [walkD_cons, e]; exact e2
    · rw [List.append_assoc] at h2; exact h2
theorem forD_inv {f : D → Env → Sto → Res Fl} (I : List D → Env → Sto → Prop) : ∀ {ds done : List D} {δ : Env} {S : Sto}, I done δ S →
    (∀ done x δ S, x ∈ ds → I done δ S → ∃ δ' S', f x δ S = .ok (.next δ') S' ∧ I (done ++ [x]) δ' S') → ∃ δ' S', forD f ds δ S = .ok (.next δ') S' ∧ I (done ++ ds) δ' S'
  | [], done, δ, S, hI, _ => ⟨δ, S, rfl, by rw [List.append_nil]; exact hI⟩
  | x :: ds, done, δ, S, hI, h => by
    obtain ⟨a1, S1, e, h1⟩ := h done x δ S List.mem_cons_self hI
    obtain ⟨a2, S2, e2, h2⟩ := forD_inv I h1 fun dn y a S hy hi => h dn y a S (List.mem_cons_of_mem _ hy) hi
    refine ⟨a2, S2, ?_, ?_⟩
    · rw [forD_cons, e]; exact e2
    · rw [List.append_assoc] at h2; exact h2
theorem lim_big {n : Nat} (h : n ≤ 100000) : n ≤ lim := Nat.le_trans h (by decide)
/-- list(range(n)), tuple(range(n)) -/
theorem ev_lrng_nat {z : Bool} {cl : Cl} {Φ : Phi} {δ : Env} {S : Sto} {a b : E} {n : Nat} (ha : ev z cl Φ a δ S = .ok (.d (.int 0)) S) (hb : ev z cl Φ b δ S = .ok (.d (.int (n : Int))) S) (h : n ≤ 1000) :
    ev z cl Φ (.lrng a b) δ S = .ok (.fl ((List.range n).map fun (i : Nat) => D.int (i : Int))) S := by
  have l : ((List.range n).map fun (i : Nat) => D.int (i : Int)).length ≤ lim := lim_big (by rw [List.length_map, List.length_range]; omega)
  rw [ev_lrng_eq, ha, andThen_ok, hb, andThen_ok, rngS_nat (by omega), andThen_ok, if_pos l]
theorem ev_trng_nat {z : Bool} {cl : Cl} {Φ : Phi} {δ : Env} {S : Sto} {a b : E} {n : Nat} (ha : ev z cl Φ a δ S = .ok (.d (.int 0)) S) (hb : ev z cl Φ b δ S = .ok (.d (.int (n : Int))) S) (h : n ≤ 1000) :
    ev z cl Φ (.trng a b) δ S = .ok (.d (.tup ((List.range n).map fun (i : Nat) => D.int (i : Int)))) S := by
  have l : ((List.range n).map fun (i : Nat) => D.int (i : Int)).length ≤ lim := lim_big (by rw [List.length_map, List.length_range]; omega)
  rw [ev_trng_eq, ha, andThen_ok, hb, andThen_ok, rngS_nat (by omega), andThen_ok, if_pos l]
end Mi

set_option Elab.async false
set_option linter.all false
set_option maxRecDepth 100000
set_option maxHeartbeats 1000000
/-! Mj1: typed mirrors of programs: the monad, slots, what stands for what. -/
namespace Mi.J
open PySem

/-- the same, not to be computed -/
noncomputable def opq {α : Type} (a : α) : α := Classical.choose (⟨a, rfl⟩ : ∃ b : α, b = a)
theorem opq_eq {α : Type} (a : α) : opq a = a := Classical.choose_spec (⟨a, rfl⟩ : ∃ b : α, b = a)
/-! ### the monad: the hand's cell is the state -/
inductive Q (α : Type) where
  | ok (a : α) (h : O) | exc (x : Exn) (h : O) | bad
def M (α : Type) : Type := O → Q α
section
variable {α β γ : Type}
def rtn (a : α) : M α := fun h => .ok a h
def bad : M α := fun _ => .bad
def bndQ (f : α → M β) : Q α → Q β
  | .ok a h => f a h
  | .exc x h => .exc x h
  | .bad => .bad
def bnd (m : M α) (f : α → M β) : M β := fun h => bndQ f (m h)
def nx (m : M α) : M α := fun h => match m h with
  | .ok a h => .ok a h
  | _ => .bad
@[simp] theorem ret_bnd (a : α) (f : α → M β) : bnd (rtn a) f = f a := rfl
@[simp] theorem bad_bnd (f : α → M β) : bnd bad f = bad := rfl
@[simp] theorem bnd_ret (m : M α) : bnd m rtn = m := by
  funext h
  show bndQ rtn (m h) = m h
  cases m h <;> rfl
@[simp] theorem bnd_ret' (m : M α) : (bnd m fun a => rtn a) = m := bnd_ret m
@[simp] theorem bnd_assoc (m : M α) (f : α → M β) (g : β → M γ) : bnd (bnd m f) g = bnd m fun a => bnd (f a) g := by
  funext h
  show bndQ g (bndQ f (m h)) = bndQ _ (m h)
  cases m h <;> rfl
@[simp] theorem nx_ret (a : α) : nx (rtn a) = rtn a := rfl
@[simp] theorem nx_bad : nx (bad : M α) = bad := rfl
@[simp] theorem bnd_ite {c : Prop} [Decidable c] (a b : M α) (f : α → M β) : bnd (if c then a else b) f = if c then bnd a f else bnd b f := by split <;> rfl
@[simp] theorem ret_ite {c : Prop} [Decidable c] (a b : α) : (if c then rtn a else rtn b) = rtn (if c then a else b) := by split <;> rfl
@[simp] theorem nx_ite {c : Prop} [Decidable c] (a b : M α) : nx (if c then a else b) = if c then nx a else nx b := by split <;> rfl
theorem ret_inj {a b : α} (h : (rtn a : M α) = rtn b) : a = b := by
  have q := congrFun h (O.lst [])
  injection q
def opt : Option α → M α
  | some a => rtn a
  | none => bad
@[simp] theorem opt_some (a : α) : opt (some a) = rtn a := rfl
@[simp] theorem opt_none : opt (none : Option α) = bad := rfl
def grd (c : Bool) (m : M α) : M α := if c = true then m else bad
@[simp] theorem grd_true (m : M α) : grd true m = m := rfl
@[simp] theorem grd_false (m : M α) : grd false m = bad := rfl
theorem grd_of {c : Bool} (h : c = true) (m : M α) : grd c m = m := by rw [h]; rfl
end
/-- flow: on with the state, or back with a value -/
inductive Fw (σ ρ : Type) where
  | nxt (s : σ) | out (a : ρ)

/-! ### how data lie -/
section
variable {α β γ ε : Type}
def eI (i : Int) : D := .int i
def eB (b : Bool) : D := .bl b
def eS (s : Str) : D := .str s
def eU (_ : Unit) : D := .non
def eD (d : D) : D := d
def eT (e : α → D) (xs : List α) : D := .tup (xs.map e)
def eL (e : α → D) (xs : List α) : D := .lst (xs.map e)
def eO (e : α → D) : Option α → D
  | none => .non
  | some a => e a
def e2 (e : α → D) (f : β → D) (p : α × β) : D := .tup [e p.1, f p.2]
def e3 (e : α → D) (f : β → D) (g : γ → D) (p : α × β × γ) : D := .tup [e p.1, f p.2.1, g p.2.2]
def e4 (e : α → D) (f : β → D) (g : γ → D) (k : ε → D) (p : α × β × γ × ε) : D := .tup [e p.1, f p.2.1, g p.2.2.1, k p.2.2.2]
/-- a tuple of one -/
def e1 (e : α → D) (a : α) : D := .tup [e a]
/-- a list of unlike things -/
def l2 (e : α → D) (f : β → D) (p : α × β) : D := .lst [e p.1, f p.2]
def l3 (e : α → D) (f : β → D) (g : γ → D) (p : α × β × γ) : D := .lst [e p.1, f p.2.1, g p.2.2]
def l4 (e : α → D) (f : β → D) (g : γ → D) (k : ε → D) (p : α × β × γ × ε) : D := .lst [e p.1, f p.2.1, g p.2.2.1, k p.2.2.2]
end

/-! ### slots -/
inductive Sl where
  | no | d (x : D) | v (x : D) | w (x : D) | frz (ds : List D) | own (ds : List D) | dic (t : Bool) (kvs : List (D × D)) | bdic (t : Bool) (kvs : List (D × D)) | hand
abbrev Ts := List (Nat × Sl)
def tsAt : Ts → Nat → Sl
  | [], _ => .no
  | (j, s) :: r, i => match Nat.beq j i with
    | true => s
    | false => tsAt r i
def Sl.ow : Sl → Bool
  | .own _ => true
  | .dic _ _ => true
  | _ => false
/-- a plain value or a place that stands for data -/
def Va (T : Sto) (r : R) (x : D) : Prop := r = .d x ∨ ∃ ds l, x = .lst ds ∧ r = .loc (l + 1) ∧ T[l]? = some (.lst ds)
/-- kinds of results: data; a fresh list; any -/
inductive K where
  | d | f | n | a
def Vr (k : K) (T : Sto) (r : R) (x : D) : Prop := match k with
  | .d => r = .d x
  | .f => ∃ ds, x = .lst ds ∧ r = .fl ds
  | .n => r = .d x ∨ ∃ ds, x = .lst ds ∧ r = .fl ds
  | .a => Va T r x ∨ ∃ ds, x = .lst ds ∧ r = .fl ds
theorem Vr.any {k : K} {T : Sto} {r : R} {x : D} (h : Vr k T r x) : Vr .a T r x := by
  cases k with
  | d => exact .inl (.inl h)
  | f => exact .inr h
  | n => exact h.imp .inl id
  | a => exact h
def SlOk (T : Sto) (c : Nat) (s : Sl) (o : Option R) : Prop := match s with
  | .no => True
  | .d x => ∃ r, o = some r ∧ Va T r x
  | .v x => o = some (.d x)
  | .w x => o = some (.d x) ∨ ∃ ds l, x = .lst ds ∧ o = some (.loc (l + 1)) ∧ c ≤ l ∧ T[l]? = some (.lst ds)
  | .frz ds => ∃ l, o = some (.loc (l + 1)) ∧ c ≤ l ∧ T[l]? = some (.lst ds)
  | .own ds => ∃ l, o = some (.loc (l + 1)) ∧ c ≤ l ∧ T[l]? = some (.lst ds)
  | .dic t kvs => ∃ l, o = some (.loc (l + 1)) ∧ c ≤ l ∧ T[l]? = some (.dic t kvs)
  | .bdic t kvs => ∃ l, o = some (.loc (l + 1)) ∧ T[l]? = some (.dic t kvs)
  | .hand => o = some (.loc 0)
structure At (n c : Nat) (ts : Ts) (δ : Env) (T : Sto) : Prop where
  len : δ.length = n
  cT : c ≤ T.length
  sl : ∀ i, SlOk T c (tsAt ts i) (δ.get i)
  dis : ∀ i j l, i ≠ j → δ.get i = some (.loc (l + 1)) → δ.get j = some (.loc (l + 1)) → (tsAt ts i).ow = true → tsAt ts j = .no

/-- q is what happens -/
def Ok {α ρ : Type} (T : Sto) (P : α → ρ → Prop) (q : Q α) (res : Res ρ) : Prop := match q with
  | .ok a h => ∃ r, res = .ok r (h :: T) ∧ P a r
  | .exc x h => res = .exc x (h :: T)
  | .bad => True
section
variable {α β ρ ρ' : Type} {T : Sto} {P : α → ρ → Prop} {P' : β → ρ' → Prop} {q : Q α} {res : Res ρ} {m : M α} {f : α → M β} {H : O} {k : ρ → Sto → Res ρ'}
theorem Ok.bind (h : Ok T P (m H) res) (hk : ∀ a h r, P a r → Ok T P' (f a h) (k r (h :: T))) : Ok T P' (bnd m f H) (res.andThen k) := by
  show Ok T P' (bndQ f (m H)) _
  cases e : m H with
  | ok a h' =>
    rw [e] at h
    obtain ⟨r, rfl, p⟩ := h
    exact hk a h' r p
  | exc x h' =>
    rw [e] at h
    have h : res = .exc x (h' :: T) := h
    rw [h]
    rfl
  | bad => trivial
theorem Ok.mk {r : ρ} {a : α} {h : O} (p : P a r) : Ok T P (rtn a h) (.ok r (h :: T)) := ⟨r, rfl, p⟩
theorem Ok.opt {o : Option α} {g : α → ρ} {h : O} (p : ∀ a, P a (g a)) : Ok T P (J.opt o h) (ofO (h :: T) (o.map g)) := by
  cases o with
  | none => trivial
  | some a => exact ⟨_, rfl, p a⟩
theorem Ok.nox (h : Ok T P (m H) res) : Ok T P (nx m H) res.noExc := by
  show Ok T P (match m H with
    | .ok a h => .ok a h
    | _ => .bad) _
  cases e : m H with
  | ok a h' =>
    rw [e] at h
    obtain ⟨r, rfl, p⟩ := h
    exact ⟨r, rfl, p⟩
  | exc x h' => trivial
  | bad => trivial
theorem Ok.imp {P2 : α → ρ → Prop} (h : Ok T P q res) (hp : ∀ a r, P a r → P2 a r) : Ok T P2 q res := by
  cases q with
  | ok a h' =>
    obtain ⟨r, e, p⟩ := h
    exact ⟨r, e, hp _ _ p⟩
  | exc x h' => exact h
  | bad => trivial
end
section
variable {T : Sto} {r s : R} {x y : D} {k : K} {H : O}
/-- frozen -/
theorem Vr.toA (h : Vr k T r x) : ∃ r', Mi.toA r (H :: T) = .ok r' (H :: T) ∧ Va T r' x := by
  rcases h.any with (rfl | ⟨ds, l, rfl, rfl, e⟩) | ⟨ds, rfl, rfl⟩
  · exact ⟨_, rfl, .inl rfl⟩
  · exact ⟨_, rfl, .inr ⟨ds, l, rfl, rfl, e⟩⟩
  · exact ⟨_, rfl, .inl rfl⟩
theorem Ok.toA {β ρ' : Type} {P' : β → ρ' → Prop} {q : Q β} {kk : R → Sto → Res ρ'} (h : Vr k T r x) (hk : ∀ r', Va T r' x → Ok T P' q (kk r' (H :: T))) : Ok T P' q ((Mi.toA r (H :: T)).andThen kk) := by
  obtain ⟨r', e, v⟩ := h.toA (H := H)
  rw [e]
  exact hk r' v
theorem Va.seq (h : Va T r x) : r.seq (H :: T) = (R.d x).seq (H :: T) := by
  rcases h with rfl | ⟨ds, l, rfl, rfl, e⟩
  · rfl
  · show (match T[l]? with
      | some (.lst ds) => some (true, ds)
      | _ => none) = _
    rw [e]
    rfl
theorem Va.dat (h : Va T r x) : r.dat (H :: T) = some x := by
  rcases h with rfl | ⟨ds, l, rfl, rfl, e⟩
  · rfl
  · show (match T[l]? with
      | some (.lst ds) => some (D.lst ds)
      | _ => none) = some (.lst ds)
    rw [e]
theorem Vr.seq (h : Vr k T r x) : r.seq (H :: T) = (R.d x).seq (H :: T) := by
  rcases h.any with h | ⟨ds, rfl, rfl⟩
  · exact h.seq
  · rfl
theorem Va.notlst (h : Va T r x) (hx : ∀ ds, x ≠ .lst ds) : r = .d x := by
  rcases h with rfl | ⟨ds, l, rfl, rfl, e⟩
  · rfl
  · exact absurd rfl (hx ds)
theorem Vr.notlst (h : Vr k T r x) (hx : ∀ ds, x ≠ .lst ds) : r = .d x := by
  rcases h.any with h | ⟨ds, rfl, rfl⟩
  · exact h.notlst hx
  · exact absurd rfl (hx ds)
theorem Va.int {i : Int} (h : Va T r (eI i)) : r = .d (.int i) := h.notlst fun _ e => nomatch e
theorem Va.bl {b : Bool} (h : Va T r (eB b)) : r = .d (.bl b) := h.notlst fun _ e => nomatch e
theorem Va.tup {ds : List D} (h : Va T r (.tup ds)) : r = .d (.tup ds) := h.notlst fun _ e => nomatch e
theorem Vr.int {i : Int} (h : Vr k T r (eI i)) : r = .d (.int i) := h.notlst fun _ e => nomatch e
theorem Vr.bl {b : Bool} (h : Vr k T r (eB b)) : r = .d (.bl b) := h.notlst fun _ e => nomatch e
theorem Vr.tup {ds : List D} (h : Vr k T r (.tup ds)) : r = .d (.tup ds) := h.notlst fun _ e => nomatch e
theorem Va.kind (h : Va T r x) : r.kind (H :: T) = (R.d x).kind (H :: T) := by
  rcases h with rfl | ⟨ds, l, rfl, rfl, e⟩
  · rfl
  · show (match (R.loc (l + 1)).seq (H :: T) with
      | some (true, _) => some RK.lst
      | some (false, _) => some .tup
      | none => _) = _
    have e2 : (R.loc (l + 1)).seq (H :: T) = some (true, ds) := by
      show (match T[l]? with
        | some (.lst ds) => some (true, ds)
        | _ => none) = _
      rw [e]
    rw [e2]
    rfl
end
end Mi.J

set_option Elab.async false
set_option linter.all false
set_option maxRecDepth 100000
set_option maxHeartbeats 1000000
/-! Mj2: what typed expressions give. -/
namespace Mi.J
open PySem

structure Cx where
  z : Bool
  cl : Cl
  Φ : Phi
  n : Nat
/-- expression e, in slots ts, gives what m gives, as em lays it -/
def Jv {α : Type} (X : Cx) (k : K) (e : E) (ts : Ts) (m : M α) (em : α → D) : Prop :=
  ∀ c δ T H, At X.n c ts δ T → Ok T (fun a r => Vr k T r (em a)) (m H) (ev X.z X.cl X.Φ e δ (H :: T))
abbrev m2 {α β γ : Type} (f : α → β → M γ) (a : M α) (b : M β) : M γ := bnd a fun x => bnd b fun y => f x y
abbrev m1 {α γ : Type} (f : α → M γ) (a : M α) : M γ := bnd a f
abbrev mIf {α : Type} (c : M Bool) (a b : M α) : M α := bnd c fun k => if k = true then a else b
abbrev mAnd (a b : M Bool) : M Bool := bnd a fun k => if k = true then b else rtn false
abbrev mOr (a b : M Bool) : M Bool := bnd a fun k => if k = true then rtn true else b
def K.nl : K → Bool
  | .a => false
  | _ => true
/-- never a list -/
def NL {α : Type} (em : α → D) : Prop := ∀ a ds, em a ≠ .lst ds
theorem nlI : NL eI := fun _ _ e => nomatch e
theorem nlB : NL eB := fun _ _ e => nomatch e
theorem nlS : NL eS := fun _ _ e => nomatch e
theorem nlU : NL eU := fun _ _ e => nomatch e
section
variable {α β γ ε : Type} {e : α → D} {f : β → D} {g : γ → D} {k : ε → D}
theorem nlT : NL (eT e) := fun _ _ e => nomatch e
theorem nl1 : NL (e1 e) := fun _ _ e => nomatch e
theorem nl2 : NL (e2 e f) := fun _ _ e => nomatch e
theorem nl3 : NL (e3 e f g) := fun _ _ e => nomatch e
theorem nl4 : NL (e4 e f g k) := fun _ _ e => nomatch e
theorem nlO (h : NL e) : NL (eO e) := fun a ds => match a with
  | none => fun e => nomatch e
  | some a => h a ds
end
section
variable {α β γ ε : Type} {X : Cx} {k k' k1 k2 k3 : K} {a b c i e : E} {ts : Ts} {m : M α} {ma : M α} {mb : M β} {mc : M γ} {em : α → D} {ea : α → D} {eb : β → D} {ec : γ → D}
theorem Vr.frz {T : Sto} {r : R} {x : D} (h : Vr k T r x) (hk : k.nl = true) : r.frz = .d x := by
  cases k with
  | d => have h : r = .d x := h; rw [h]; rfl
  | f => obtain ⟨ds, rfl, rfl⟩ := h; rfl
  | n =>
    rcases h with h | ⟨ds, rfl, rfl⟩
    · rw [h]; rfl
    · rfl
  | a => cases hk
theorem Jv.any (h : Jv X k e ts m em) : Jv X .a e ts m em := fun c δ T H A => (h c δ T H A).imp fun _ _ => Vr.any
theorem Jv.nl (h : Jv X k e ts m em) (hn : NL em) : Jv X .d e ts m em := fun c δ T H A => (h c δ T H A).imp fun a r v => v.notlst (hn a)
/-- a value is seen as another -/
theorem Jv.map (h : Jv X k e ts m ea) (g : α → β) (hg : ∀ a, eb (g a) = ea a) : Jv X k e ts (bnd m fun a => rtn (g a)) eb := fun c δ T H A => by
  have q := h c δ T H A
  show Ok T _ (bndQ (fun a => rtn (g a)) (m H)) _
  cases e : m H with
  | ok a h' =>
    rw [e] at q
    obtain ⟨r, e2, v⟩ := q
    exact ⟨r, e2, by show Vr k T r (eb (g a)); rw [hg]; exact v⟩
  | exc x h' => rw [e] at q; exact q
  | bad => trivial
theorem Jv.up (h : Jv X k e ts m em) : Jv X k e ts (bnd m fun a => rtn (em a)) eD := h.map em fun _ => rfl
theorem Jv.sm (h : Jv X k e ts m em) : Jv X k e ts (bnd m fun a => rtn (Option.some a)) (eO em) := h.map _ fun _ => rfl
/-- a value that must be there -/
theorem Jv.un {mo : M (Option α)} (h : Jv X k e ts mo (eO em)) : Jv X k e ts (bnd mo opt) em := fun c δ T H A => by
  have q := h c δ T H A
  show Ok T _ (bndQ opt (mo H)) _
  cases e : mo H with
  | ok a h' =>
    rw [e] at q
    obtain ⟨r, e2, v⟩ := q
    cases a with
    | none => trivial
    | some a => exact ⟨r, e2, v⟩
  | exc x h' => rw [e] at q; exact q
  | bad => trivial
theorem Jv.lit {d : D} (x : α) (h : em x = d) : Jv X .d (.lit d) ts (rtn x) em := by subst h; exact fun c δ T H A => ⟨_, rfl, rfl⟩
theorem Jv.litI (i : Int) : Jv X .d (.lit (.int i)) ts (rtn i) eI := Jv.lit i rfl
theorem Jv.litB (i : Bool) : Jv X .d (.lit (.bl i)) ts (rtn i) eB := Jv.lit i rfl
theorem Jv.litS (i : Str) : Jv X .d (.lit (.str i)) ts (rtn i) eS := Jv.lit i rfl
theorem Jv.litN : Jv X .d (.lit .non) ts (rtn (none : Option α)) (eO em) := Jv.lit none rfl
theorem Jv.litU : Jv X .d (.lit .non) ts (rtn ()) eU := Jv.lit () rfl
theorem Jv.glbI (x : Str) (i : Int) : Jv X .d (.glb x (.int i)) ts (rtn i) eI := fun c δ T H A => ⟨_, rfl, rfl⟩
theorem Jv.glbS (x : Str) (i : Str) : Jv X .d (.glb x (.str i)) ts (rtn i) eS := fun c δ T H A => ⟨_, rfl, rfl⟩
theorem At.get {n c : Nat} {δ : Env} {T : Sto} {i : Nat} {x : D} (A : At n c ts δ T) (h : tsAt ts i = .d x) : ∃ r, δ.get i = Option.some r ∧ Va T r x := by
  have q := A.sl i
  rw [h] at q
  exact q
theorem Jv.var {x : α} (i : Nat) (h : tsAt ts i = .d (em x)) : Jv X .a (.var i) ts (rtn x) em := fun c δ T H A => by
  obtain ⟨r, e, v⟩ := A.get h
  refine ⟨r, ?_, .inl v⟩
  show ofO _ (δ.get i) = _
  rw [e]
  rfl
theorem Jv.varD {x : α} (i : Nat) (h : tsAt ts i = .d (em x)) (hn : NL em) : Jv X .d (.var i) ts (rtn x) em := (Jv.var i h).nl hn
theorem Jv.varV {x : α} (i : Nat) (h : tsAt ts i = .v (em x)) : Jv X .d (.var i) ts (rtn x) em := fun c δ T H A => by
  have q := A.sl i
  rw [h] at q
  have q : δ.get i = Option.some (.d (em x)) := q
  refine ⟨.d (em x), ?_, rfl⟩
  show ofO _ (δ.get i) = _
  rw [q]
  rfl
theorem Jv.varW {x : α} (i : Nat) (h : tsAt ts i = .w (em x)) : Jv X .a (.var i) ts (rtn x) em := fun c δ T H A => by
  have q := A.sl i
  rw [h] at q
  have q : δ.get i = Option.some (.d (em x)) ∨ ∃ ds l, em x = .lst ds ∧ δ.get i = Option.some (.loc (l + 1)) ∧ c ≤ l ∧ T[l]? = Option.some (.lst ds) := q
  show Ok T _ _ (ofO _ (δ.get i))
  rcases q with q | ⟨ds, l, e1, q, _, e2⟩
  · rw [q]; exact ⟨_, rfl, .inl (.inl rfl)⟩
  · rw [q]; exact ⟨_, rfl, .inl (.inr ⟨ds, l, e1, rfl, e2⟩)⟩
theorem Jv.varI {x : Int} (i : Nat) (h : tsAt ts i = .d (eI x)) : Jv X .d (.var i) ts (rtn x) eI := Jv.varD i h nlI
theorem Jv.varF {xs : List α} (i : Nat) (h : tsAt ts i = .frz (xs.map em)) : Jv X .a (.var i) ts (rtn xs) (eL em) := fun c δ T H A => by
  have q := A.sl i
  rw [h] at q
  obtain ⟨l, e, _, e2⟩ := q
  refine ⟨.loc (l + 1), ?_, .inl (.inr ⟨_, l, rfl, rfl, e2⟩)⟩
  show ofO _ (δ.get i) = _
  rw [e]
  rfl
theorem Jv.varO {xs : List α} (i : Nat) (h : tsAt ts i = .own (xs.map em)) : Jv X .a (.var i) ts (rtn xs) (eL em) := fun c δ T H A => by
  have q := A.sl i
  rw [h] at q
  obtain ⟨l, e, _, e2⟩ := q
  refine ⟨.loc (l + 1), ?_, .inl (.inr ⟨_, l, rfl, rfl, e2⟩)⟩
  show ofO _ (δ.get i) = _
  rw [e]
  rfl

/-! ### operations of one and two values -/
theorem op1 {q : E} {op : R → Sto → Res R} (he : ∀ δ S, ev X.z X.cl X.Φ q δ S = (ev X.z X.cl X.Φ a δ S).andThen op) (ha : Jv X k a ts ma ea) (F : α → M γ)
    (hop : ∀ x r T H, Vr k T r (ea x) → Ok T (fun y r => Vr k' T r (ec y)) (F x H) (op r (H :: T))) : Jv X k' q ts (bnd ma F) ec := fun c δ T H A => by
  rw [he]
  exact (ha c δ T H A).bind fun x h r v => hop x r T h v
theorem op1A {q : E} {op : R → Sto → Res R} (he : ∀ δ S, ev X.z X.cl X.Φ q δ S = (ev X.z X.cl X.Φ a δ S).andThen fun x S => (toA x S).andThen op) (ha : Jv X k a ts ma ea) (F : α → M γ)
    (hop : ∀ x r T H, Va T r (ea x) → Ok T (fun y r => Vr k' T r (ec y)) (F x H) (op r (H :: T))) : Jv X k' q ts (bnd ma F) ec :=
  op1 he ha F fun x r T H v => Ok.toA v fun r' v' => hop x r' T H v'
theorem op2 {q : E} {op : R → R → Sto → Res R} (he : ∀ δ S, ev X.z X.cl X.Φ q δ S = (ev X.z X.cl X.Φ a δ S).andThen fun x S => (toA x S).andThen fun x S => (ev X.z X.cl X.Φ b δ S).andThen fun y S => (toA y S).andThen fun y S => op x y S)
    (ha : Jv X k1 a ts ma ea) (hb : Jv X k2 b ts mb eb) (F : α → β → M γ)
    (hop : ∀ x y r s T H, Va T r (ea x) → Va T s (eb y) → Ok T (fun y r => Vr k' T r (ec y)) (F x y H) (op r s (H :: T))) : Jv X k' q ts (m2 F ma mb) ec := fun c δ T H A => by
  rw [he]
  exact (ha c δ T H A).bind fun x h r v => Ok.toA v fun r' v' => (hb c δ T h A).bind fun y h2 s w => Ok.toA w fun s' w' => hop x y r' s' T h2 v' w'
/-- of two plain values that are no lists -/
theorem op2D {q : E} {op : R → R → Sto → Res R} (he : ∀ δ S, ev X.z X.cl X.Φ q δ S = (ev X.z X.cl X.Φ a δ S).andThen fun x S => (toA x S).andThen fun x S => (ev X.z X.cl X.Φ b δ S).andThen fun y S => (toA y S).andThen fun y S => op x y S)
    (ha : Jv X k1 a ts ma ea) (hb : Jv X k2 b ts mb eb) (na : NL ea) (nb : NL eb) (F : α → β → M γ)
    (hop : ∀ x y T H, Ok T (fun y r => Vr k' T r (ec y)) (F x y H) (op (.d (ea x)) (.d (eb y)) (H :: T))) : Jv X k' q ts (m2 F ma mb) ec :=
  op2 he ha hb F fun x y r s T H v w => by
    rw [v.notlst (na x), w.notlst (nb y)]
    exact hop x y T H
theorem okd_d {T : Sto} {x : γ} {H : O} : Ok T (fun y r => Vr .d T r (ec y)) (rtn x H) (.ok (.d (ec x)) (H :: T)) := ⟨_, rfl, rfl⟩
variable {ai : M Int} {bi : M Int} {ab : M Bool} {bb : M Bool}
theorem Jv.addI (ha : Jv X k1 a ts ai eI) (hb : Jv X k2 b ts bi eI) : Jv X .d (.bin .add a b) ts (m2 (fun x y => rtn (x + y)) ai bi) eI :=
  op2D (fun _ _ => rfl) ha hb nlI nlI _ fun x y T H => ⟨_, rfl, rfl⟩
theorem Jv.subI (ha : Jv X k1 a ts ai eI) (hb : Jv X k2 b ts bi eI) : Jv X .d (.bin .sub a b) ts (m2 (fun x y => rtn (x - y)) ai bi) eI :=
  op2D (fun _ _ => rfl) ha hb nlI nlI _ fun x y T H => ⟨_, rfl, rfl⟩
theorem Ok.gI {T : Sto} {H : O} {c : Bool} {v : Int} {o : Option Int} (h : o = if c = true then Option.some v else none) : Ok T (fun y r => Vr .d T r (eI y)) (grd c (rtn v) H) (ofO (H :: T) (o.map fun k => R.d (.int k))) := by
  subst h
  cases c with
  | true => exact ⟨_, rfl, rfl⟩
  | false => trivial
@[irreducible] noncomputable def mMul (x y : Int) : M Int := opq (grd (mulOk x y) (rtn (x * y)))
theorem mMul_def (x y : Int) : mMul x y = grd (mulOk x y) (rtn (x * y)) := by
  unfold mMul
  exact opq_eq _
@[irreducible] noncomputable def mDiv (x y : Int) : M Int := opq (grd (divOk y) (rtn (x.fdiv y)))
theorem mDiv_def (x y : Int) : mDiv x y = grd (divOk y) (rtn (x.fdiv y)) := by
  unfold mDiv
  exact opq_eq _
@[irreducible] noncomputable def mMod (x y : Int) : M Int := opq (grd (decide (y ≠ 0)) (rtn (x.fmod y)))
theorem mMod_def (x y : Int) : mMod x y = grd (decide (y ≠ 0)) (rtn (x.fmod y)) := by
  unfold mMod
  exact opq_eq _
@[irreducible] noncomputable def mPow (x y : Int) : M Int := opq (grd (powOk x y) (rtn (x ^ y.toNat)))
theorem mPow_def (x y : Int) : mPow x y = grd (powOk x y) (rtn (x ^ y.toNat)) := by
  unfold mPow
  exact opq_eq _
theorem Jv.mulI (ha : Jv X k1 a ts ai eI) (hb : Jv X k2 b ts bi eI) : Jv X .d (.bin .mul a b) ts (m2 mMul ai bi) eI :=
  op2D (fun _ _ => rfl) ha hb nlI nlI _ fun x y T H => by rw [mMul_def]; exact Ok.gI rfl
theorem Jv.fdivI (ha : Jv X k1 a ts ai eI) (hb : Jv X k2 b ts bi eI) : Jv X .d (.bin .fdiv a b) ts (m2 mDiv ai bi) eI :=
  op2D (fun _ _ => rfl) ha hb nlI nlI _ fun x y T H => by rw [mDiv_def]; exact Ok.gI rfl
theorem Jv.modI (ha : Jv X k1 a ts ai eI) (hb : Jv X k2 b ts bi eI) : Jv X .d (.bin .mod a b) ts (m2 mMod ai bi) eI :=
  op2D (fun _ _ => rfl) ha hb nlI nlI _ fun x y T H => by rw [mMod_def]; exact Ok.gI rfl
theorem Jv.powI (ha : Jv X k1 a ts ai eI) (hb : Jv X k2 b ts bi eI) : Jv X .d (.bin .pow a b) ts (m2 mPow ai bi) eI :=
  op2D (fun _ _ => rfl) ha hb nlI nlI _ fun x y T H => by rw [mPow_def]; exact Ok.gI rfl
theorem Jv.neg (ha : Jv X k a ts ai eI) : Jv X .d (.neg a) ts (m1 (fun x => rtn (-x)) ai) eI :=
  op1 (fun _ _ => rfl) ha _ fun x r T H v => by rw [v.int]; exact ⟨_, rfl, rfl⟩
theorem Jv.not (ha : Jv X k a ts ab eB) : Jv X .d (.not a) ts (m1 (fun x => rtn (!x)) ab) eB :=
  op1 (fun _ _ => rfl) ha _ fun x r T H v => by rw [v.bl]; exact ⟨_, rfl, rfl⟩
theorem Jv.ite {mx : M α} (hc : Jv X k c ts ab eB) (ha : Jv X k1 a ts ma ea) (hb : Jv X k1 b ts mx ea) : Jv X k1 (.ite c a b) ts (mIf ab ma mx) ea := fun c δ T H A =>
  (hc c δ T H A).bind fun x h r v => by
    rw [v.bl]
    cases x with
    | true => exact ha _ δ T h A
    | false => exact hb _ δ T h A
theorem Jv.and (ha : Jv X k1 a ts ab eB) (hb : Jv X k2 b ts bb eB) : Jv X .d (.and a b) ts (mAnd ab bb) eB := fun c δ T H A =>
  (ha c δ T H A).bind fun x h r v => by
    rw [v.bl]
    cases x with
    | true => exact (hb.nl nlB) _ δ T h A
    | false => exact ⟨_, rfl, rfl⟩
theorem Jv.or (ha : Jv X k1 a ts ab eB) (hb : Jv X k2 b ts bb eB) : Jv X .d (.or a b) ts (mOr ab bb) eB := fun c δ T H A =>
  (ha c δ T H A).bind fun x h r v => by
    rw [v.bl]
    cases x with
    | true => exact ⟨_, rfl, rfl⟩
    | false => exact (hb.nl nlB) _ δ T h A

/-! ### lawful ways to lie: equal data are equal -/
structure Lw [DecidableEq α] (n : Nat) (em : α → D) : Prop where
  ok : ∀ a, okd n (em a)
  eq : ∀ a b, D.eqv (em a) (em b) = decide (a = b)
section
variable [DecidableEq α] [DecidableEq β] [DecidableEq γ] [DecidableEq ε] {n n' n1 n2 n3 n4 : Nat}
theorem _root_.Mi.okd.up {m n : Nat} {d : D} (h : okd m d) (hm : m ≤ n) : okd n d := ⟨h.1, Nat.le_trans h.2 hm⟩
theorem lwI : Lw 0 eI := ⟨fun _ => okd_int, fun a b => eqv_int⟩
theorem lwB : Lw 0 eB := ⟨fun _ => ⟨rfl, Nat.zero_le _⟩, fun a b => by cases a <;> cases b <;> decide⟩
theorem eqvs : ∀ {as bs : List D}, D.eqv (.tup as) (.tup bs) = (decide (as.length = bs.length) && (as.zip bs).all fun p => D.eqv p.1 p.2) := by
  intro as bs
  have q : ∀ as bs : List D, PyData.eqvAll (D.pys as) (D.pys bs) = (decide (as.length = bs.length) && (as.zip bs).all fun p => D.eqv p.1 p.2) := by
    intro as
    induction as with
    | nil =>
      intro bs
      cases bs with
      | nil => rfl
      | cons b bs => rfl
    | cons a as ih =>
      intro bs
      cases bs with
      | nil => rfl
      | cons b bs =>
        show (PyData.eqv a.py b.py && PyData.eqvAll (D.pys as) (D.pys bs)) = _
        rw [ih]
        simp only [List.length_cons, List.zip_cons_cons, List.all_cons]
        show (D.eqv a b && _) = _
        cases D.eqv a b <;> simp
  exact q as bs
theorem eqvl {as bs : List D} : D.eqv (.lst as) (.lst bs) = D.eqv (.tup as) (.tup bs) := rfl
end
end
end Mi.J

set_option Elab.async false
set_option linter.all false
set_option maxRecDepth 100000
set_option maxHeartbeats 1000000
/-! Mj3: comparisons, sequences, built-ins, calls. -/
namespace Mi.J
open PySem
section
variable {α β γ ε : Type} [DecidableEq α] [DecidableEq β] [DecidableEq γ] [DecidableEq ε] {n n' n1 n2 n3 n4 : Nat} {e : α → D} {f : β → D} {g : γ → D} {h : ε → D}
theorem eqv_tup_map (he : Lw n e) : ∀ as bs : List α, D.eqv (.tup (as.map e)) (.tup (bs.map e)) = decide (as = bs) := by
  intro as
  induction as with
  | nil =>
    intro bs
    rw [eqvs]
    cases bs with
    | nil => rfl
    | cons b bs => simp
  | cons a as ih =>
    intro bs
    cases bs with
    | nil => rw [eqvs]; simp
    | cons b bs =>
      have q := ih bs
      rw [eqvs] at q ⊢
      simp only [List.map_cons, List.length_cons, List.zip_cons_cons, List.all_cons, he.eq]
      have e1 : decide ((as.map e).length + 1 = (bs.map e).length + 1) = decide ((as.map e).length = (bs.map e).length) := by simp
      rw [e1, Bool.and_left_comm, q]
      simp
theorem lwT (he : Lw n e) : Lw (n + 1) (eT e) := ⟨fun xs => okd_tup fun d hd => by
  obtain ⟨x, _, rfl⟩ := List.mem_map.mp hd
  exact he.ok x, fun a b => eqv_tup_map he a b⟩
theorem lwL (he : Lw n e) : Lw (n + 1) (eL e) := ⟨fun xs => okd_lst fun d hd => by
  obtain ⟨x, _, rfl⟩ := List.mem_map.mp hd
  exact he.ok x, fun a b => by
    show D.eqv (.lst _) (.lst _) = _
    rw [eqvl]
    exact eqv_tup_map he a b⟩
theorem okd_mem2 {x y : D} (hx : okd n x) (hy : okd n' y) : ∀ d ∈ [x, y], okd (max n n') d := by
  intro d hd
  simp only [List.mem_cons, List.not_mem_nil, or_false] at hd
  rcases hd with rfl | rfl
  · exact hx.up (by omega)
  · exact hy.up (by omega)
theorem lw1 (he : Lw n e) : Lw (n + 1) (e1 e) := ⟨fun p => okd_tup fun d hd => by
  simp only [List.mem_cons, List.not_mem_nil, or_false] at hd
  subst hd
  exact he.ok _, fun a b => by
    show D.eqv (.tup _) (.tup _) = _
    rw [eqvs]
    simp [he.eq]⟩
theorem lw2 (he : Lw n e) (hf : Lw n' f) : Lw (max n n' + 1) (e2 e f) := ⟨fun p => okd_tup (okd_mem2 (he.ok _) (hf.ok _)), fun a b => by
  obtain ⟨a, a'⟩ := a
  obtain ⟨b, b'⟩ := b
  show D.eqv (.tup _) (.tup _) = _
  rw [eqvs]
  simp [he.eq, hf.eq]⟩
theorem lwl2 (he : Lw n e) (hf : Lw n' f) : Lw (max n n' + 1) (l2 e f) := ⟨fun p => okd_lst (okd_mem2 (he.ok _) (hf.ok _)), fun a b => (lw2 he hf).eq a b⟩
theorem okd_mem3 {x y w : D} (hx : okd n1 x) (hy : okd n2 y) (hw : okd n3 w) : ∀ d ∈ [x, y, w], okd (max n1 (max n2 n3)) d := by
  intro d hd
  simp only [List.mem_cons, List.not_mem_nil, or_false] at hd
  rcases hd with rfl | rfl | rfl
  · exact hx.up (by omega)
  · exact hy.up (by omega)
  · exact hw.up (by omega)
theorem lw3 (he : Lw n1 e) (hf : Lw n2 f) (hg : Lw n3 g) : Lw (max n1 (max n2 n3) + 1) (e3 e f g) := ⟨fun p => okd_tup (okd_mem3 (he.ok _) (hf.ok _) (hg.ok _)), fun a b => by
  obtain ⟨a, a', a''⟩ := a
  obtain ⟨b, b', b''⟩ := b
  show D.eqv (.tup _) (.tup _) = _
  rw [eqvs]
  simp [he.eq, hf.eq, hg.eq]⟩
theorem lwl3 (he : Lw n1 e) (hf : Lw n2 f) (hg : Lw n3 g) : Lw (max n1 (max n2 n3) + 1) (l3 e f g) := ⟨fun p => okd_lst (okd_mem3 (he.ok _) (hf.ok _) (hg.ok _)), fun a b => (lw3 he hf hg).eq a b⟩
theorem okd_mem4 {x y w v : D} (hx : okd n1 x) (hy : okd n2 y) (hw : okd n3 w) (hv : okd n4 v) : ∀ d ∈ [x, y, w, v], okd (max n1 (max n2 (max n3 n4))) d := by
  intro d hd
  simp only [List.mem_cons, List.not_mem_nil, or_false] at hd
  rcases hd with rfl | rfl | rfl | rfl
  · exact hx.up (by omega)
  · exact hy.up (by omega)
  · exact hw.up (by omega)
  · exact hv.up (by omega)
theorem lw4 (he : Lw n1 e) (hf : Lw n2 f) (hg : Lw n3 g) (hh : Lw n4 h) : Lw (max n1 (max n2 (max n3 n4)) + 1) (e4 e f g h) := ⟨fun p => okd_tup (okd_mem4 (he.ok _) (hf.ok _) (hg.ok _) (hh.ok _)), fun a b => by
  obtain ⟨a, a', a'', a'''⟩ := a
  obtain ⟨b, b', b'', b'''⟩ := b
  show D.eqv (.tup _) (.tup _) = _
  rw [eqvs]
  simp [he.eq, hf.eq, hg.eq, hh.eq]⟩
theorem lwl4 (he : Lw n1 e) (hf : Lw n2 f) (hg : Lw n3 g) (hh : Lw n4 h) : Lw (max n1 (max n2 (max n3 n4)) + 1) (l4 e f g h) := ⟨fun p => okd_lst (okd_mem4 (he.ok _) (hf.ok _) (hg.ok _) (hh.ok _)), fun a b => (lw4 he hf hg hh).eq a b⟩
def isNon : D → Bool
  | .non => true
  | _ => false
/-- none of the values is None -/
def NN {α : Type} (em : α → D) : Prop := ∀ a, isNon (em a) = false ∧ D.eqv .non (em a) = false ∧ D.eqv (em a) .non = false
theorem nnI : NN eI := fun a => ⟨rfl, rfl, rfl⟩
theorem nnT {α : Type} {e : α → D} : NN (eT e) := fun a => ⟨rfl, rfl, rfl⟩
theorem nnL {α : Type} {e : α → D} : NN (eL e) := fun a => ⟨rfl, rfl, rfl⟩
theorem nn2 {α β : Type} {e : α → D} {f : β → D} : NN (e2 e f) := fun a => ⟨rfl, rfl, rfl⟩
theorem nn3 {α β γ : Type} {e : α → D} {f : β → D} {g : γ → D} : NN (e3 e f g) := fun a => ⟨rfl, rfl, rfl⟩
theorem nn4 {α β γ ε : Type} {e : α → D} {f : β → D} {g : γ → D} {h : ε → D} : NN (e4 e f g h) := fun a => ⟨rfl, rfl, rfl⟩
theorem lwO (he : Lw n e) (hn : NN e) : Lw n (eO e) := ⟨fun p => match p with
  | none => okd_non
  | some a => he.ok a, fun a b => by
    cases a with
    | none => cases b with
      | none => rfl
      | some b => exact (hn b).2.1.trans (by simp)
    | some a => cases b with
      | none => exact (hn a).2.2.trans (by simp)
      | some b => exact (he.eq a b).trans (by simp)⟩
@[simp] theorem isNon_eI (i : Int) : isNon (eI i) = false := rfl
@[simp] theorem isNon_eT {α : Type} {e : α → D} (i : List α) : isNon (eT e i) = false := rfl
@[simp] theorem isNon_eL {α : Type} {e : α → D} (i : List α) : isNon (eL e i) = false := rfl
@[simp] theorem isNon_e2 {α β : Type} {e : α → D} {f : β → D} (p : α × β) : isNon (e2 e f p) = false := rfl
@[simp] theorem isNon_e3 {α β γ : Type} {e : α → D} {f : β → D} {g : γ → D} (p : α × β × γ) : isNon (e3 e f g p) = false := rfl
@[simp] theorem isNon_none {α : Type} {e : α → D} : isNon (eO e none) = true := rfl
@[simp] theorem isNon_some {α : Type} {e : α → D} (a : α) : isNon (eO e (some a)) = isNon (e a) := rfl
end
section
variable {α β γ ε : Type} {X : Cx} {k k' k1 k2 k3 : K} {a b c i e : E} {ts : Ts} {m : M α} {ma : M α} {mb : M β} {mc : M γ} {em : α → D} {ea : α → D} {eb : β → D} {ec : γ → D} {n n1 : Nat}
theorem Lw.dok [DecidableEq α] (h : Lw n em) (hn : n ≤ 64) (a : α) : (em a).ok = true := (h.ok a).ok hn
/-! ### comparisons -/
theorem Jv.eq [DecidableEq α] {mb : M α} (hw : Lw n em) (hn : n ≤ 64) (ha : Jv X k1 a ts ma em) (hb : Jv X k2 b ts mb em) : Jv X .d (.cmp .eq a b) ts (m2 (fun x y => rtn (decide (x = y))) ma mb) eB :=
  op2 (fun _ _ => rfl) ha hb _ fun x y r s T H v w => by
    refine ⟨_, ?_, rfl⟩
    show ofO _ ((match r.dat (H :: T), s.dat (H :: T) with
      | some a, some b => if (a.ok && b.ok) = true then some (D.eqv a b) else none
      | _, _ => none).map _) = _
    rw [v.dat, w.dat]
    simp only [hw.dok hn, hw.eq, Bool.and_self, if_true]
    rfl
theorem Jv.ne [DecidableEq α] {mb : M α} (hw : Lw n em) (hn : n ≤ 64) (ha : Jv X k1 a ts ma em) (hb : Jv X k2 b ts mb em) : Jv X .d (.cmp .ne a b) ts (m2 (fun x y => rtn (!decide (x = y))) ma mb) eB :=
  op2 (fun _ _ => rfl) ha hb _ fun x y r s T H v w => by
    refine ⟨_, ?_, rfl⟩
    show ofO _ ((match r.dat (H :: T), s.dat (H :: T) with
      | some a, some b => if (a.ok && b.ok) = true then some (!D.eqv a b) else none
      | _, _ => none).map _) = _
    rw [v.dat, w.dat]
    simp only [hw.dok hn, hw.eq, Bool.and_self, if_true]
    rfl
/-- the items of a sequence -/
def seqD : D → Option (List D)
  | .tup ds => some ds
  | .lst ds => some ds
  | _ => none
theorem seq_seqD {x : D} {S : Sto} {ds : List D} (h : seqD x = some ds) : ∃ t, (R.d x).seq S = some (t, ds) := by
  cases x <;> cases h
  · exact ⟨_, rfl⟩
  · exact ⟨_, rfl⟩
theorem any_mem [DecidableEq α] (hw : Lw n em) (xs : List α) (x : α) : (xs.map em).any (fun z => D.eqv z (em x)) = decide (x ∈ xs) := by
  induction xs with
  | nil => rfl
  | cons y ys ih =>
    rw [List.map_cons, List.any_cons, ih, hw.eq]
    by_cases q : x = y
    · subst q; simp
    · have q2 : y ≠ x := fun e => q e.symm
      simp [q, q2]
theorem isin_of [DecidableEq α] (hw : Lw n em) (hn : n ≤ 64) {el : List α → D} (hs : ∀ xs, seqD (el xs) = some (xs.map em)) {T : Sto} {H : O} {x : α} {xs : List α} {r s : R} (v : Va T r (em x)) (w : Va T s (el xs)) : isinB (H :: T) r s = some (decide (x ∈ xs)) := by
  obtain ⟨t, q⟩ := seq_seqD (S := H :: T) (hs xs)
  show (match r.dat (H :: T) with
    | none => none
    | some a => match s.seq (H :: T) with
      | some (_, ds) => if (a.ok && ds.all D.ok) = true then some (ds.any fun z => D.eqv z a) else none
      | none => _) = _
  rw [v.dat, w.seq, q]
  have q2 : (xs.map em).all D.ok = true := List.all_eq_true.mpr fun d hd => by
    obtain ⟨x, _, rfl⟩ := List.mem_map.mp hd
    exact hw.dok hn x
  simp only [hw.dok hn, q2, Bool.and_self, if_true, any_mem hw]
theorem seqD_T (xs : List α) : seqD (eT em xs) = some (xs.map em) := rfl
theorem seqD_L (xs : List α) : seqD (eL em xs) = some (xs.map em) := rfl
theorem Jv.isin [DecidableEq α] {mb : M (List α)} {el : List α → D} (hw : Lw n em) (hn : n ≤ 64) (hs : ∀ xs, seqD (el xs) = some (xs.map em)) (ha : Jv X k1 a ts ma em) (hb : Jv X k2 b ts mb el) : Jv X .d (.cmp .isin a b) ts (m2 (fun x y => rtn (decide (x ∈ y))) ma mb) eB :=
  op2 (fun _ _ => rfl) ha hb _ fun x y r s T H v w => by
    refine ⟨_, ?_, rfl⟩
    show ofO _ ((isinB (H :: T) r s).map _) = _
    rw [isin_of hw hn hs v w]
    rfl
theorem Jv.notin [DecidableEq α] {mb : M (List α)} {el : List α → D} (hw : Lw n em) (hn : n ≤ 64) (hs : ∀ xs, seqD (el xs) = some (xs.map em)) (ha : Jv X k1 a ts ma em) (hb : Jv X k2 b ts mb el) : Jv X .d (.cmp .notin a b) ts (m2 (fun x y => rtn (!decide (x ∈ y))) ma mb) eB :=
  op2 (fun _ _ => rfl) ha hb _ fun x y r s T H v w => by
    refine ⟨_, ?_, rfl⟩
    show ofO _ (((isinB (H :: T) r s).map (!·)).map _) = _
    rw [isin_of hw hn hs v w]
    rfl
variable {ai bi : M Int} {ab bb : M Bool}
/-- an order of ints -/
def relI : CO → Int → Int → Bool
  | .lt, x, y => decide (x < y)
  | .le, x, y => decide (x ≤ y)
  | .gt, x, y => decide (y < x)
  | .ge, x, y => decide (y ≤ x)
  | .eq, x, y => decide (x = y)
  | .ne, x, y => !decide (x = y)
  | _, _, _ => false
def CO.int : CO → Bool
  | .lt => true
  | .le => true
  | .gt => true
  | .ge => true
  | .eq => true
  | .ne => true
  | _ => false
theorem cmp_int {o : CO} (ho : CO.int o = true) {x y : Int} {S : Sto} : cmpop o (.d (.int x)) (.d (.int y)) S = .ok (.d (.bl (relI o x y))) S := by
  cases o <;> first | exact absurd ho (by decide) | simp [relI]
theorem Jv.cmpI {o : CO} (ho : CO.int o = true) (ha : Jv X k1 a ts ai eI) (hb : Jv X k2 b ts bi eI) : Jv X .d (.cmp o a b) ts (m2 (fun x y => rtn (relI o x y)) ai bi) eB :=
  op2D (fun _ _ => rfl) ha hb nlI nlI _ fun x y T H => ⟨_, cmp_int ho, rfl⟩
theorem Jv.ltI (ha : Jv X k1 a ts ai eI) (hb : Jv X k2 b ts bi eI) : Jv X .d (.cmp .lt a b) ts (m2 (fun x y => rtn (decide (x < y))) ai bi) eB := Jv.cmpI rfl ha hb
theorem Jv.leI (ha : Jv X k1 a ts ai eI) (hb : Jv X k2 b ts bi eI) : Jv X .d (.cmp .le a b) ts (m2 (fun x y => rtn (decide (x ≤ y))) ai bi) eB := Jv.cmpI rfl ha hb
theorem Jv.gtI (ha : Jv X k1 a ts ai eI) (hb : Jv X k2 b ts bi eI) : Jv X .d (.cmp .gt a b) ts (m2 (fun x y => rtn (decide (y < x))) ai bi) eB := Jv.cmpI rfl ha hb
theorem Jv.geI (ha : Jv X k1 a ts ai eI) (hb : Jv X k2 b ts bi eI) : Jv X .d (.cmp .ge a b) ts (m2 (fun x y => rtn (decide (y ≤ x))) ai bi) eB := Jv.cmpI rfl ha hb
/-- a typed order -/
structure Lo (em : α → D) (lt : α → α → Bool) : Prop where
  lt : ∀ a b, ltD (em a) (em b) = some (lt a b)
theorem Jv.ltT [DecidableEq α] {mb : M α} {lt : α → α → Bool} (hw : Lw n em) (hn : n ≤ 64) (ho : Lo em lt) (hl : NL em) (ha : Jv X k1 a ts ma em) (hb : Jv X k2 b ts mb em) : Jv X .d (.cmp .lt a b) ts (m2 (fun x y => rtn (lt x y)) ma mb) eB :=
  op2D (fun _ _ => rfl) ha hb hl hl _ fun x y T H => by
    refine ⟨_, ?_, rfl⟩
    show ofO _ ((if ((em x).ok && (em y).ok) = true then ltD (em x) (em y) else none).map _) = _
    simp only [hw.dok hn, ho.lt, Bool.and_self, if_true]
    rfl
theorem cmp_isnone {r : R} {x : D} {T S : Sto} (v : Va T r x) : cmpB .is r (.d .non) S = some (isNon x) := by
  rcases v with rfl | ⟨ds, l, rfl, rfl, e⟩
  · cases x <;> rfl
  · rfl
theorem cmp_isnotnone {r : R} {x : D} {T S : Sto} (v : Va T r x) : cmpB .isnot r (.d .non) S = some (!isNon x) := by
  rcases v with rfl | ⟨ds, l, rfl, rfl, e⟩
  · cases x <;> rfl
  · rfl
theorem Jv.isN (ha : Jv X k1 a ts ma ea) : Jv X .d (.cmp .is a (.lit .non)) ts (m1 (fun x => rtn (isNon (ea x))) ma) eB := fun c δ T H A =>
  (ha c δ T H A).bind fun x h r v => Ok.toA v fun r' v' => by
    refine ⟨_, ?_, rfl⟩
    show ofO _ ((cmpB .is r' (.d .non) (h :: T)).map _) = _
    rw [cmp_isnone v']
    rfl
theorem Jv.isnotN (ha : Jv X k1 a ts ma ea) : Jv X .d (.cmp .isnot a (.lit .non)) ts (m1 (fun x => rtn (!isNon (ea x))) ma) eB := fun c δ T H A =>
  (ha c δ T H A).bind fun x h r v => Ok.toA v fun r' v' => by
    refine ⟨_, ?_, rfl⟩
    show ofO _ ((cmpB .isnot r' (.d .non) (h :: T)).map _) = _
    rw [cmp_isnotnone v']
    rfl
theorem Jv.isB {t : Bool} (ha : Jv X k1 a ts ab eB) : Jv X .d (.cmp .is a (.lit (.bl t))) ts (m1 (fun x => rtn (x == t)) ab) eB := fun c δ T H A =>
  (ha c δ T H A).bind fun x h r v => Ok.toA v fun r' v' => by
    rw [v'.bl]
    exact ⟨_, rfl, rfl⟩
theorem Jv.isnotB {t : Bool} (ha : Jv X k1 a ts ab eB) : Jv X .d (.cmp .isnot a (.lit (.bl t))) ts (m1 (fun x => rtn (!(x == t))) ab) eB := fun c δ T H A =>
  (ha c δ T H A).bind fun x h r v => Ok.toA v fun r' v' => by
    rw [v'.bl]
    exact ⟨_, rfl, rfl⟩
theorem Jv.chnI {o o' : CO} {ci : M Int} (ho : CO.int o = true) (ho' : CO.int o' = true) (ha : Jv X k1 a ts ai eI) (hb : Jv X k2 b ts bi eI) (hc : Jv X k3 c ts ci eI) : Jv X .d (.chn o o' a b c) ts (bnd ai fun x => bnd bi fun y => if relI o x y = true then bnd ci fun w => rtn (relI o' y w) else rtn false) eB := by
  intro q δ T H A
  refine (ha q δ T H A).bind fun x h r v => Ok.toA v fun r1 v1 => (hb q δ T h A).bind fun y h2 s w => Ok.toA w fun s1 w1 => ?_
  rw [v1.int, w1.int, cmp_int ho, andThen_ok, toB_bl, andThen_ok]
  cases relI o x y with
  | false => exact ⟨_, rfl, rfl⟩
  | true =>
    refine (hc q δ T h2 A).bind fun u h3 t p => Ok.toA p fun t1 p1 => ?_
    rw [p1.int, cmp_int ho']
    exact ⟨_, rfl, rfl⟩

/-! ### displays -/
def Je (X : Cx) (es : Es) (ts : Ts) (m : M α) (ems : α → List D) : Prop :=
  ∀ c δ T H, At X.n c ts δ T → Ok T (fun a ds => ds = ems a) (m H) (evs X.z X.cl X.Φ es δ (H :: T))
theorem Je.nil : Je X .nil ts (rtn ()) (fun _ => []) := fun c δ T H A => ⟨_, rfl, rfl⟩
theorem Je.cons {es : Es} {ems : β → List D} (hk : k.nl = true) (ha : Jv X k a ts ma ea) (hb : Je X es ts mb ems) : Je X (.cons a es) ts (m2 (fun x y => rtn (x, y)) ma mb) (fun p => ea p.1 :: ems p.2) := fun c δ T H A =>
  (ha c δ T H A).bind fun x h r v => by
    have e : toD r (h :: T) = .ok (ea x) (h :: T) := by
      show (match r.frz with
        | .d x => Res.ok x (h :: T)
        | _ => .bad) = _
      rw [v.frz hk]
    rw [e]
    exact (hb c δ T h A).bind fun y h2 ds w => ⟨_, rfl, by rw [w]⟩
/-- of one kind -/
theorem Je.hnil : Je X .nil ts (rtn []) (fun xs : List α => xs.map em) := fun c δ T H A => ⟨_, rfl, rfl⟩
theorem Je.hcons {es : Es} {mb : M (List α)} (hk : k.nl = true) (ha : Jv X k a ts ma em) (hb : Je X es ts mb (fun xs : List α => xs.map em)) : Je X (.cons a es) ts (m2 (fun x y => rtn (x :: y)) ma mb) (fun xs : List α => xs.map em) := fun c δ T H A =>
  (ha c δ T H A).bind fun x h r v => by
    have e : toD r (h :: T) = .ok (em x) (h :: T) := by
      show (match r.frz with
        | .d x => Res.ok x (h :: T)
        | _ => .bad) = _
      rw [v.frz hk]
    rw [e]
    exact (hb c δ T h A).bind fun y h2 ds w => ⟨_, rfl, by rw [w]; rfl⟩
theorem Jv.tupE {es : Es} {ems : α → List D} (h : Je X es ts m ems) : Jv X .d (.tup es) ts m (fun x => .tup (ems x)) := fun c δ T H A => by
  have q := (h c δ T H A).bind (f := rtn) (P' := fun x r => Vr .d T r (.tup (ems x))) (k := fun ds S => Res.ok (R.d (.tup ds)) S) fun x h r v => ⟨_, rfl, by rw [v]; rfl⟩
  rw [bnd_ret] at q
  exact q
theorem Jv.lstE {es : Es} {ems : α → List D} (h : Je X es ts m ems) : Jv X .f (.lst es) ts m (fun x => .lst (ems x)) := fun c δ T H A => by
  have q := (h c δ T H A).bind (f := rtn) (P' := fun x r => Vr .f T r (.lst (ems x))) (k := fun ds S => Res.ok (R.fl ds) S) fun x h r v => ⟨_, rfl, by rw [v]; exact ⟨_, rfl, rfl⟩⟩
  rw [bnd_ret] at q
  exact q
theorem Jv.tupH {es : Es} {ml : M (List α)} (h : Je X es ts ml (fun xs : List α => xs.map em)) : Jv X .d (.tup es) ts ml (eT em) := Jv.tupE h
theorem Jv.lstH {es : Es} {ml : M (List α)} (h : Je X es ts ml (fun xs : List α => xs.map em)) : Jv X .f (.lst es) ts ml (eL em) := Jv.lstE h
theorem Jv.tup1 {a1 : E} (k1l : k1.nl = true) (ha : Jv X k1 a1 ts ma ea) : Jv X .d (.tup (.cons a1 .nil)) ts ma (e1 ea) := by
  have q := (Jv.tupE (Je.cons k1l ha Je.nil)).map (eb := e1 ea) (fun p => p.1) (fun p => rfl)
  simpa using q
theorem Jv.tup2 (k1l : k1.nl = true) (k2l : k2.nl = true) (ha : Jv X k1 a ts ma ea) (hb : Jv X k2 b ts mb eb) : Jv X .d (.tup (.cons a (.cons b .nil))) ts (m2 (fun x y => rtn (x, y)) ma mb) (e2 ea eb) := by
  have q := (Jv.tupE (Je.cons k1l ha (Je.cons k2l hb Je.nil))).map (eb := e2 ea eb) (fun p => (p.1, p.2.1)) (fun p => rfl)
  simpa using q
theorem Jv.lst2 (k1l : k1.nl = true) (k2l : k2.nl = true) (ha : Jv X k1 a ts ma ea) (hb : Jv X k2 b ts mb eb) : Jv X .f (.lst (.cons a (.cons b .nil))) ts (m2 (fun x y => rtn (x, y)) ma mb) (l2 ea eb) := by
  have q := (Jv.lstE (Je.cons k1l ha (Je.cons k2l hb Je.nil))).map (eb := l2 ea eb) (fun p => (p.1, p.2.1)) (fun p => rfl)
  simpa using q
abbrev m3 {δ : Type} (f : α → β → γ → M δ) (a : M α) (b : M β) (c : M γ) : M δ := bnd a fun x => bnd b fun y => bnd c fun z => f x y z
abbrev m4 {δ : Type} (f : α → β → γ → ε → M δ) (a : M α) (b : M β) (c : M γ) (d : M ε) : M δ := bnd a fun x => bnd b fun y => bnd c fun z => bnd d fun w => f x y z w
theorem Jv.tup3 (k1l : k1.nl = true) (k2l : k2.nl = true) (k3l : k3.nl = true) (ha : Jv X k1 a ts ma ea) (hb : Jv X k2 b ts mb eb) (hc : Jv X k3 c ts mc ec) : Jv X .d (.tup (.cons a (.cons b (.cons c .nil)))) ts (m3 (fun x y z => rtn (x, y, z)) ma mb mc) (e3 ea eb ec) := by
  have q := (Jv.tupE (Je.cons k1l ha (Je.cons k2l hb (Je.cons k3l hc Je.nil)))).map (eb := e3 ea eb ec) (fun p => (p.1, p.2.1, p.2.2.1)) (fun p => rfl)
  simpa using q
theorem Jv.lst3 (k1l : k1.nl = true) (k2l : k2.nl = true) (k3l : k3.nl = true) (ha : Jv X k1 a ts ma ea) (hb : Jv X k2 b ts mb eb) (hc : Jv X k3 c ts mc ec) : Jv X .f (.lst (.cons a (.cons b (.cons c .nil)))) ts (m3 (fun x y z => rtn (x, y, z)) ma mb mc) (l3 ea eb ec) := by
  have q := (Jv.lstE (Je.cons k1l ha (Je.cons k2l hb (Je.cons k3l hc Je.nil)))).map (eb := l3 ea eb ec) (fun p => (p.1, p.2.1, p.2.2.1)) (fun p => rfl)
  simpa using q
theorem Jv.tup4 {d : E} {md : M ε} {ed : ε → D} {k4 : K} (k1l : k1.nl = true) (k2l : k2.nl = true) (k3l : k3.nl = true) (k4l : k4.nl = true) (ha : Jv X k1 a ts ma ea) (hb : Jv X k2 b ts mb eb) (hc : Jv X k3 c ts mc ec) (hd : Jv X k4 d ts md ed) : Jv X .d (.tup (.cons a (.cons b (.cons c (.cons d .nil))))) ts (m4 (fun x y z w => rtn (x, y, z, w)) ma mb mc md) (e4 ea eb ec ed) := by
  have q := (Jv.tupE (Je.cons k1l ha (Je.cons k2l hb (Je.cons k3l hc (Je.cons k4l hd Je.nil))))).map (eb := e4 ea eb ec ed) (fun p => (p.1, p.2.1, p.2.2.1, p.2.2.2.1)) (fun p => rfl)
  simpa using q
theorem Jv.lst4 {d : E} {md : M ε} {ed : ε → D} {k4 : K} (k1l : k1.nl = true) (k2l : k2.nl = true) (k3l : k3.nl = true) (k4l : k4.nl = true) (ha : Jv X k1 a ts ma ea) (hb : Jv X k2 b ts mb eb) (hc : Jv X k3 c ts mc ec) (hd : Jv X k4 d ts md ed) : Jv X .f (.lst (.cons a (.cons b (.cons c (.cons d .nil))))) ts (m4 (fun x y z w => rtn (x, y, z, w)) ma mb mc md) (l4 ea eb ec ed) := by
  have q := (Jv.lstE (Je.cons k1l ha (Je.cons k2l hb (Je.cons k3l hc (Je.cons k4l hd Je.nil))))).map (eb := l4 ea eb ec ed) (fun p => (p.1, p.2.1, p.2.2.1, p.2.2.2.1)) (fun p => rfl)
  simpa using q
end
end Mi.J

set_option Elab.async false
set_option linter.all false
set_option maxRecDepth 100000
set_option maxHeartbeats 1000000
/-! Mj4: sequences, built-ins, calls. -/
namespace Mi.J
open PySem
section
variable {α β γ ε : Type} {X : Cx} {k k' k1 k2 k3 : K} {a b c i e : E} {ts : Ts} {m : M α} {ma : M α} {mb : M β} {mc : M γ} {em : α → D} {ea : α → D} {eb : β → D} {ec : γ → D} {n n1 : Nat} {ai bi : M Int} {ab bb : M Bool} {xs ys : M (List α)}
/-! ### sequences -/
theorem ofO_ok {S : Sto} {α : Type} (a : α) : ofO S (some a) = .ok a S := rfl
@[irreducible] noncomputable def mCat {α : Type} (x y : List α) : M (List α) := opq (grd (decide (x.length + y.length ≤ lim)) (rtn (x ++ y)))
theorem mCat_def {α : Type} (x y : List α) : mCat x y = grd (decide (x.length + y.length ≤ lim)) (rtn (x ++ y)) := by
  unfold mCat
  exact opq_eq _
theorem Jv.addT (ha : Jv X k1 a ts xs (eT em)) (hb : Jv X k2 b ts ys (eT em)) : Jv X .d (.bin .add a b) ts (m2 mCat xs ys) (eT em) :=
  op2D (fun _ _ => rfl) ha hb nlT nlT _ fun x y T H => by
    have e : binop .add (.d (eT em x)) (.d (eT em y)) (H :: T) = ofO (H :: T) (if (x.map em).length + (y.map em).length ≤ lim then some (.d (.tup (x.map em ++ y.map em))) else none) := rfl
    rw [e, List.length_map, List.length_map]
    rw [mCat_def]
    by_cases q : x.length + y.length ≤ lim
    · rw [if_pos q, decide_eq_true q]
      exact ⟨_, rfl, by show R.d (.tup (x.map em ++ y.map em)) = .d (.tup ((x ++ y).map em)); rw [List.map_append]⟩
    · rw [decide_eq_false q]; trivial
theorem binop_lst {T : Sto} {H : O} {x y : List D} {r s : R} (v : Va T r (.lst x)) (w : Va T s (.lst y)) : binop .add r s (H :: T) = ofO (H :: T) (if x.length + y.length ≤ lim then some (.fl (x ++ y)) else none) := by
  have e : binop .add r s (H :: T) = match r.seq (H :: T), s.seq (H :: T) with
    | some a, some b => ofO (H :: T) (binS .add a b)
    | _, _ => .bad := by
    rcases v with rfl | ⟨ds, l, e1, rfl, e2⟩ <;> rcases w with rfl | ⟨ds', l', e1', rfl, e2'⟩ <;> rfl
  rw [e, v.seq, w.seq]
  rfl
theorem Jv.addL (ha : Jv X k1 a ts xs (eL em)) (hb : Jv X k2 b ts ys (eL em)) : Jv X .f (.bin .add a b) ts (m2 mCat xs ys) (eL em) :=
  op2 (fun _ _ => rfl) ha hb _ fun x y r s T H v w => by
    rw [binop_lst v w, List.length_map, List.length_map]
    rw [mCat_def]
    by_cases q : x.length + y.length ≤ lim
    · rw [if_pos q, decide_eq_true q]
      exact ⟨_, rfl, ⟨_, by show eL em (x ++ y) = .lst (x.map em ++ y.map em); show D.lst ((x ++ y).map em) = _; rw [List.map_append], rfl⟩⟩
    · rw [decide_eq_false q]; trivial
theorem lenR_seq {r : R} {S : Sto} {t : Bool} {ds : List D} (h : r.seq S = some (t, ds)) : lenR r S = some ds.length := by
  unfold lenR
  rw [h]
theorem Jv.len {el : List α → D} (hs : ∀ xs, seqD (el xs) = some (xs.map em)) (ha : Jv X k a ts xs el) : Jv X .d (.b1 .len a) ts (m1 (fun x => rtn (x.length : Int)) xs) eI :=
  op1 (fun _ _ => rfl) ha _ fun x r T H v => by
    obtain ⟨t, q⟩ := seq_seqD (S := H :: T) (hs x)
    refine ⟨.d (.int x.length), ?_, rfl⟩
    show ofO _ ((lenR r (H :: T)).map fun n => R.d (.int n)) = _
    rw [lenR_seq (v.seq.trans q), List.length_map]
    rfl
theorem allBl_eB (bs : List Bool) : allBl (bs.map eB) = some bs := by
  induction bs with
  | nil => rfl
  | cons b bs ih =>
    show (allBl (bs.map eB)).map (b :: ·) = _
    rw [ih]; rfl
theorem allInt_eI (bs : List Int) : allInt (bs.map eI) = some bs := by
  induction bs with
  | nil => rfl
  | cons b bs ih =>
    show (allInt (bs.map eI)).map (b :: ·) = _
    rw [ih]; rfl
theorem Jv.all {bs : M (List Bool)} (ha : Jv X k a ts bs (eL eB)) : Jv X .d (.b1 .all a) ts (m1 (fun x => rtn (x.all id)) bs) eB :=
  op1 (fun _ _ => rfl) ha _ fun x r T H v => by
    refine ⟨_, ?_, rfl⟩
    show ofO _ ((r.seq (H :: T)).bind fun p => (allBl p.2).bind fun bs => if p.1 = true then some (R.d (.bl (bs.all id))) else none) = _
    rw [v.seq]
    show ofO _ ((allBl (x.map eB)).bind fun bs => some (R.d (.bl (bs.all id)))) = _
    rw [allBl_eB]
    rfl
theorem Jv.any1 {bs : M (List Bool)} (ha : Jv X k a ts bs (eL eB)) : Jv X .d (.b1 .any a) ts (m1 (fun x => rtn (x.any id)) bs) eB :=
  op1 (fun _ _ => rfl) ha _ fun x r T H v => by
    refine ⟨_, ?_, rfl⟩
    show ofO _ ((r.seq (H :: T)).bind fun p => (allBl p.2).bind fun bs => if p.1 = true then some (R.d (.bl (bs.any id))) else none) = _
    rw [v.seq]
    show ofO _ ((allBl (x.map eB)).bind fun bs => some (R.d (.bl (bs.any id)))) = _
    rw [allBl_eB]
    rfl
theorem Jv.sum {bs : M (List Int)} (ha : Jv X k a ts bs (eL eI)) : Jv X .d (.b1 .sum a) ts (m1 (fun x => rtn x.sum) bs) eI :=
  op1 (fun _ _ => rfl) ha _ fun x r T H v => by
    refine ⟨_, ?_, rfl⟩
    show ofO _ ((r.seq (H :: T)).bind fun p => (allInt p.2).bind fun bs => if p.1 = true then some (R.d (.int bs.sum)) else none) = _
    rw [v.seq]
    show ofO _ ((allInt (x.map eI)).bind fun bs => some (R.d (.int bs.sum))) = _
    rw [allInt_eI]
    rfl
theorem Jv.tuple {el : List α → D} (hs : ∀ xs, seqD (el xs) = some (xs.map em)) (ha : Jv X k a ts xs el) : Jv X .d (.b1 .tuple a) ts xs (eT em) := by
  have q : Jv X .d (.b1 .tuple a) ts (bnd xs rtn) (eT em) := op1 (fun _ _ => rfl) ha _ fun x r T H v => by
    obtain ⟨t, q⟩ := seq_seqD (S := H :: T) (hs x)
    refine ⟨_, ?_, rfl⟩
    show ofO _ ((r.seq (H :: T)).map fun p => R.d (.tup p.2)) = _
    rw [v.seq, q]
    rfl
  rwa [bnd_ret] at q
theorem Jv.list {el : List α → D} (hs : ∀ xs, seqD (el xs) = some (xs.map em)) (ha : Jv X k a ts xs el) : Jv X .f (.b1 .list a) ts xs (eL em) := by
  have q : Jv X .f (.b1 .list a) ts (bnd xs rtn) (eL em) := op1 (fun _ _ => rfl) ha _ fun x r T H v => by
    obtain ⟨t, q⟩ := seq_seqD (S := H :: T) (hs x)
    refine ⟨.fl (x.map em), ?_, ⟨_, rfl, rfl⟩⟩
    show ofO _ ((r.seq (H :: T)).map fun p => R.fl p.2) = _
    rw [v.seq, q]
    rfl
  rwa [bnd_ret] at q
theorem Jv.int (ha : Jv X k a ts ai eI) : Jv X .d (.b1 .int a) ts (m1 (fun x => rtn x) ai) eI :=
  op1 (fun _ _ => rfl) ha _ fun x r T H v => by rw [v.int]; exact ⟨_, rfl, rfl⟩
def absZ (i : Int) : Int := if i < 0 then -i else i
theorem Jv.abs (ha : Jv X k a ts ai eI) : Jv X .d (.b1 .abs a) ts (m1 (fun x => rtn (absZ x)) ai) eI :=
  op1 (fun _ _ => rfl) ha _ fun x r T H v => by rw [v.int]; exact ⟨_, rfl, rfl⟩
def minZ (i j : Int) : Int := if j < i then j else i
def maxZ (i j : Int) : Int := if j > i then j else i
theorem Jv.min2 (ha : Jv X k1 a ts ai eI) (hb : Jv X k2 b ts bi eI) : Jv X .d (.b2 .min a b) ts (m2 (fun x y => rtn (minZ x y)) ai bi) eI :=
  op2D (fun _ _ => rfl) ha hb nlI nlI _ fun x y T H => ⟨_, rfl, rfl⟩
theorem Jv.max2 (ha : Jv X k1 a ts ai eI) (hb : Jv X k2 b ts bi eI) : Jv X .d (.b2 .max a b) ts (m2 (fun x y => rtn (maxZ x y)) ai bi) eI :=
  op2D (fun _ _ => rfl) ha hb nlI nlI _ fun x y T H => ⟨_, rfl, rfl⟩
/-- the ints from one to below another -/
def rangeZ (lo hi : Int) : List Int := (List.range (hi - lo).toNat).map fun (i : Nat) => lo + (i : Int)
@[irreducible] noncomputable def mRng (lo hi : Int) : M (List Int) := opq (grd (small62 lo && small62 hi) (rtn (rangeZ lo hi)))
theorem mRng_def (lo hi : Int) : mRng lo hi = grd (small62 lo && small62 hi) (rtn (rangeZ lo hi)) := by
  unfold mRng
  exact opq_eq _
theorem rngD_Z (lo hi : Int) : rngD lo (hi - lo).toNat = (rangeZ lo hi).map eI := by
  unfold rngD rangeZ
  rw [List.map_map]
  rfl
theorem rng_ok {T : Sto} {H : O} {lo hi : Int} {r s : R} (v : Vr k1 T r (eI lo)) (w : Vr k2 T s (eI hi)) : Ok T (fun (xs : List Int) ds => ds = xs.map eI) (mRng lo hi H) (rngS r s (H :: T)) := by
  rw [v.int, w.int]
  rw [mRng_def]
  show Ok T _ (grd (small62 lo && small62 hi) _ H) (if (small62 lo && small62 hi) = true then .ok (rngD lo (hi - lo).toNat) (H :: T) else .bad)
  cases small62 lo && small62 hi with
  | true => exact ⟨_, rfl, rngD_Z lo hi⟩
  | false => trivial
@[irreducible] noncomputable def mCut {α : Type} (xs : List α) : M (List α) := opq (grd (decide (xs.length ≤ lim)) (rtn xs))
theorem mCut_def {α : Type} (xs : List α) : mCut xs = grd (decide (xs.length ≤ lim)) (rtn xs) := by
  unfold mCut
  exact opq_eq _
theorem Jv.lrng (ha : Jv X k1 a ts ai eI) (hb : Jv X k2 b ts bi eI) : Jv X .f (.lrng a b) ts (m2 (fun x y => bnd (mRng x y) mCut) ai bi) (eL eI) := fun c δ T H A =>
  (ha c δ T H A).bind fun x h r v => (hb c δ T h A).bind fun y h2 s w => (rng_ok v w).bind fun xs h3 ds q => by
    subst q
    rw [List.length_map]
    rw [mCut_def]
    by_cases q : xs.length ≤ lim
    · rw [if_pos q, decide_eq_true q]; exact ⟨_, rfl, ⟨_, rfl, rfl⟩⟩
    · rw [decide_eq_false q]; trivial
theorem Jv.trng (ha : Jv X k1 a ts ai eI) (hb : Jv X k2 b ts bi eI) : Jv X .d (.trng a b) ts (m2 (fun x y => bnd (mRng x y) mCut) ai bi) (eT eI) := fun c δ T H A =>
  (ha c δ T H A).bind fun x h r v => (hb c δ T h A).bind fun y h2 s w => (rng_ok v w).bind fun xs h3 ds q => by
    subst q
    rw [List.length_map]
    rw [mCut_def]
    by_cases q : xs.length ≤ lim
    · rw [if_pos q, decide_eq_true q]; exact ⟨_, rfl, rfl⟩
    · rw [decide_eq_false q]; trivial
/-! ### orders -/
section
variable [DecidableEq α] [DecidableEq β] {n' : Nat} {lt : α → α → Bool} {lt' : β → β → Bool}
def ltZ (a b : Int) : Bool := decide (a < b)
def ltL [DecidableEq α] (lt : α → α → Bool) : List α → List α → Bool
  | [], [] => false
  | [], _ :: _ => true
  | _ :: _, [] => false
  | x :: xs, y :: ys => if x = y then ltL lt xs ys else lt x y
def lt2 [DecidableEq α] [DecidableEq β] (lt : α → α → Bool) (lt' : β → β → Bool) (a b : α × β) : Bool := if a.1 = b.1 then (if a.2 = b.2 then false else lt' a.2 b.2) else lt a.1 b.1
theorem loI : Lo eI ltZ := ⟨fun _ _ => rfl⟩
theorem loT (hw : Lw n em) (ho : Lo em lt) : Lo (eT em) (ltL lt) := ⟨fun as bs => by
  show ltDs (as.map em) (bs.map em) = _
  induction as generalizing bs with
  | nil => cases bs <;> rfl
  | cons a as ih =>
    cases bs with
    | nil => rfl
    | cons b bs =>
      show (match ltD (em a) (em b), ltDs (as.map em) (bs.map em) with
        | some c, some r => some (if D.eqv (em a) (em b) = true then r else c)
        | _, _ => none) = _
      rw [ho.lt, ih, hw.eq]
      show some (if decide (a = b) = true then ltL lt as bs else lt a b) = some (if a = b then ltL lt as bs else lt a b)
      by_cases q : a = b <;> simp [q]⟩
theorem lo2 (hw : Lw n em) (hw' : Lw n' eb) (ho : Lo em lt) (ho' : Lo eb lt') : Lo (e2 em eb) (lt2 lt lt') := ⟨fun p q => by
  obtain ⟨a, b⟩ := p
  obtain ⟨a', b'⟩ := q
  show (match ltD (em a) (em a'), (match ltD (eb b) (eb b'), some false with
    | some c, some r => some (if D.eqv (eb b) (eb b') = true then r else c)
    | _, _ => none) with
    | some c, some r => some (if D.eqv (em a) (em a') = true then r else c)
    | _, _ => none) = _
  rw [ho.lt, ho'.lt, hw.eq, hw'.eq]
  unfold lt2
  by_cases q : a = a' <;> by_cases q2 : b = b' <;> simp [q, q2]⟩
def HasSh {α : Type} (h : Sh) (em : α → D) : Prop := ∀ a, h.has (em a) = true
theorem shI : HasSh .i eI := fun _ => rfl
theorem shT {h : Sh} (q : HasSh h em) : HasSh (.many h) (eT em) := fun xs => by
  show (xs.map em).all (Sh.has h) = true
  rw [List.all_eq_true]
  intro d hd
  obtain ⟨x, _, rfl⟩ := List.mem_map.mp hd
  exact q x
theorem sh2 {h h' : Sh} (q : HasSh h em) (q' : HasSh h' eb) : HasSh (.two h h') (e2 em eb) := fun p => by
  show (h.has _ && h'.has _) = true
  rw [q, q']; rfl
theorem sh3 {h h' h2 : Sh} (q : HasSh h em) (q' : HasSh h' eb) (q2 : HasSh h2 ec) : HasSh (.three h h' h2) (e3 em eb ec) := fun p => by
  show (h.has _ && (h'.has _ && h2.has _)) = true
  rw [q, q', q2]; rfl
def insT (lt : α → α → Bool) (x : α) : List α → List α
  | [] => [x]
  | y :: ys => if lt y x = true then y :: insT lt x ys else x :: y :: ys
def sortT (lt : α → α → Bool) : List α → List α
  | [] => []
  | x :: xs => insT lt x (sortT lt xs)
def minT (lt : α → α → Bool) : α → List α → α
  | m, [] => m
  | m, x :: xs => minT lt (if lt x m = true then x else m) xs
def maxT (lt : α → α → Bool) : α → List α → α
  | m, [] => m
  | m, x :: xs => maxT lt (if lt m x = true then x else m) xs
theorem ltB_T (ho : Lo em lt) (x y : α) : ltB (em x) (em y) = lt x y := by
  show ((ltD (em x) (em y)).getD false) = _
  rw [ho.lt]; rfl
theorem insD_T (ho : Lo em lt) (x : α) (ys : List α) : sortD.insF (em x) (ys.map em) = (insT lt x ys).map em := by
  induction ys with
  | nil => rfl
  | cons y ys ih =>
    show (if ltB (em y) (em x) = true then em y :: sortD.insF (em x) (ys.map em) else em x :: em y :: ys.map em) = _
    rw [ltB_T ho, ih]
    show _ = List.map em (if lt y x = true then y :: insT lt x ys else x :: y :: ys)
    split <;> rfl
theorem sortD_T (ho : Lo em lt) (xs : List α) : sortD (xs.map em) = (sortT lt xs).map em := by
  induction xs with
  | nil => rfl
  | cons x xs ih =>
    show sortD.insF (em x) (sortD (xs.map em)) = _
    rw [ih, insD_T ho]
    rfl
theorem minD_T (ho : Lo em lt) (m : α) (xs : List α) : minD (em m) (xs.map em) = em (minT lt m xs) := by
  induction xs generalizing m with
  | nil => rfl
  | cons x xs ih =>
    show minD (if ltB (em x) (em m) = true then em x else em m) (xs.map em) = _
    rw [ltB_T ho]
    show _ = em (minT lt (if lt x m = true then x else m) xs)
    split <;> exact ih _
theorem maxD_T (ho : Lo em lt) (m : α) (xs : List α) : maxD (em m) (xs.map em) = em (maxT lt m xs) := by
  induction xs generalizing m with
  | nil => rfl
  | cons x xs ih =>
    show maxD (if ltB (em m) (em x) = true then em x else em m) (xs.map em) = _
    rw [ltB_T ho]
    show _ = em (maxT lt (if lt m x = true then x else m) xs)
    split <;> exact ih _
theorem sh_all {h : Sh} (hs : HasSh h em) (hw : Lw n em) (hn : n ≤ 64) (xs : List α) : ((xs.map em).all fun z => h.has z && z.ok) = true := by
  rw [List.all_eq_true]
  intro d hd
  obtain ⟨x, _, rfl⟩ := List.mem_map.mp hd
  rw [hs x, hw.dok hn]; rfl
/-- more than one, and an empty tuple among them: not told -/
def sortOk {α : Type} (em : α → D) (xs : List α) : Bool := decide (xs.length < 2) || xs.all fun x => neT (em x)
theorem all_map' {xs : List α} {p : D → Bool} : (xs.map em).all p = xs.all fun x => p (em x) := by
  induction xs with
  | nil => rfl
  | cons x xs ih => rw [List.map_cons, List.all_cons, List.all_cons, ih]
theorem Jv.sorted {h : Sh} {el : List α → D} (hsq : ∀ xs, seqD (el xs) = some (xs.map em)) (hs : HasSh h em) (hw : Lw n em) (hn : n ≤ 64) (ho : Lo em lt) (ha : Jv X k a ts xs el) :
    Jv X .f (.b1 (.sorted h) a) ts (m1 (fun x => grd (sortOk em x) (rtn (sortT lt x))) xs) (eL em) :=
  op1 (fun _ _ => rfl) ha _ fun x r T H v => by
    obtain ⟨t, q⟩ := seq_seqD (S := H :: T) (hsq x)
    show Ok T _ _ (ofO _ ((r.seq (H :: T)).bind fun p => if ((p.2.all fun z => h.has z && z.ok) && (decide (p.2.length < 2) || p.2.all neT)) = true then some (R.fl (sortD p.2)) else none))
    rw [v.seq, q]
    show Ok T _ _ (ofO _ (if (((x.map em).all fun z => h.has z && z.ok) && (decide ((x.map em).length < 2) || (x.map em).all neT)) = true then some (R.fl (sortD (x.map em))) else none))
    rw [sh_all hs hw hn, Bool.true_and, List.length_map, all_map', sortD_T ho]
    show Ok T _ (grd (sortOk em x) _ H) (ofO _ (if sortOk em x = true then _ else _))
    cases sortOk em x with
    | true => exact ⟨_, rfl, ⟨_, rfl, rfl⟩⟩
    | false => trivial
def mMin (lt : α → α → Bool) : List α → M α
  | [] => bad
  | m :: r => rtn (minT lt m r)
def mMax (lt : α → α → Bool) : List α → M α
  | [] => bad
  | m :: r => rtn (maxT lt m r)
theorem Jv.min1 {h : Sh} {el : List α → D} (hsq : ∀ xs, seqD (el xs) = some (xs.map em)) (hs : HasSh h em) (hw : Lw n em) (hn : n ≤ 64) (ho : Lo em lt) (ha : Jv X k a ts xs el) :
    Jv X .d (.b1 (.min h) a) ts (m1 (mMin lt) xs) em :=
  op1 (fun _ _ => rfl) ha _ fun x r T H v => by
    obtain ⟨t, q⟩ := seq_seqD (S := H :: T) (hsq x)
    show Ok T _ _ (ofO _ ((r.seq (H :: T)).bind fun p => if (p.2.all fun z => h.has z && z.ok) = true then (match p.2 with
      | [] => none
      | m :: r => some (R.d (minD m r))) else none))
    rw [v.seq, q]
    show Ok T _ _ (ofO _ (if ((x.map em).all fun z => h.has z && z.ok) = true then (match x.map em with
      | [] => none
      | m :: r => some (R.d (minD m r))) else none))
    rw [sh_all hs hw hn, if_pos rfl]
    cases x with
    | nil => trivial
    | cons m r =>
      show Ok T _ _ (Res.ok (R.d (minD (em m) (r.map em))) _)
      rw [minD_T ho]
      exact ⟨_, rfl, rfl⟩
theorem Jv.max1 {h : Sh} {el : List α → D} (hsq : ∀ xs, seqD (el xs) = some (xs.map em)) (hs : HasSh h em) (hw : Lw n em) (hn : n ≤ 64) (ho : Lo em lt) (ha : Jv X k a ts xs el) :
    Jv X .d (.b1 (.max h) a) ts (m1 (mMax lt) xs) em :=
  op1 (fun _ _ => rfl) ha _ fun x r T H v => by
    obtain ⟨t, q⟩ := seq_seqD (S := H :: T) (hsq x)
    show Ok T _ _ (ofO _ ((r.seq (H :: T)).bind fun p => if (p.2.all fun z => h.has z && z.ok) = true then (match p.2 with
      | [] => none
      | m :: r => some (R.d (maxD m r))) else none))
    rw [v.seq, q]
    show Ok T _ _ (ofO _ (if ((x.map em).all fun z => h.has z && z.ok) = true then (match x.map em with
      | [] => none
      | m :: r => some (R.d (maxD m r))) else none))
    rw [sh_all hs hw hn, if_pos rfl]
    cases x with
    | nil => trivial
    | cons m r =>
      show Ok T _ _ (Res.ok (R.d (maxD (em m) (r.map em))) _)
      rw [maxD_T ho]
      exact ⟨_, rfl, rfl⟩
end
/-! ### places -/
theorem atI_map (xs : List α) (i : Int) : L2.atI (xs.map em) i = (L2.atI xs i).map em := by
  unfold L2.atI
  rw [List.length_map]
  cases L2.ixN xs.length i with
  | none => rfl
  | some j => show (xs.map em)[j]? = (xs[j]?).map em; rw [List.getElem?_map]
theorem Jv.ix {el : List α → D} (hs : ∀ xs, seqD (el xs) = some (xs.map em)) (ha : Jv X k1 a ts xs el) (hb : Jv X k2 b ts bi eI) : Jv X .d (.ix a b) ts (m2 (fun x i => opt (L2.atI x i)) xs bi) em :=
  op2 (fun _ _ => rfl) ha hb _ fun x i r s T H v w => by
    obtain ⟨t, q⟩ := seq_seqD (S := H :: T) (hs x)
    rw [w.int]
    show Ok T _ _ (match r.seq (H :: T) with
      | some (_, ds) => ofO (H :: T) ((ixD ds i).map R.d)
      | none => _)
    rw [v.seq, q]
    show Ok T _ _ (ofO (H :: T) ((L2.atI (x.map em) i).map R.d))
    rw [atI_map, Option.map_map]
    exact Ok.opt fun a => rfl
/-- of a tuple of unlike things, at a place that is told -/
theorem Jv.ixG {j : Int} (ha : Jv X k1 a ts ma ea) (hb : Jv X k2 b ts (rtn j) eI) (f : α → β) (h : ∀ a, (seqD (ea a)).bind (fun ds => ixD ds j) = some (eb (f a))) : Jv X .d (.ix a b) ts (bnd ma fun x => rtn (f x)) eb := by
  have q := op2 (q := .ix a b) (X := X) (ts := ts) (k' := .d) (ec := eb) (op := ixop) (fun _ _ => rfl) ha hb (fun x i => if i = j then rtn (f x) else bad) fun x i r s T H v w => by
    by_cases e : i = j
    · subst e
      rw [if_pos rfl, w.int]
      have hx := h x
      cases e2 : seqD (ea x) with
      | none => rw [e2] at hx; cases hx
      | some ds =>
        rw [e2] at hx
        obtain ⟨t, q⟩ := seq_seqD (S := H :: T) e2
        show Ok T _ _ (match r.seq (H :: T) with
          | some (_, ds) => ofO (H :: T) ((ixD ds i).map R.d)
          | none => _)
        rw [v.seq, q]
        have hx : ixD ds i = some (eb (f x)) := hx
        show Ok T _ _ (ofO (H :: T) ((ixD ds i).map R.d))
        rw [hx]
        exact ⟨_, rfl, rfl⟩
    · rw [if_neg e]; trivial
  simpa [m2] using q
theorem cutD_map (xs : List α) (lo hi : Option Int) : cutD (xs.map em) lo hi = ((xs.drop (HT.sIx xs.length 0 lo)).take (HT.sIx xs.length xs.length hi - HT.sIx xs.length 0 lo)).map em := by
  unfold cutD
  rw [List.length_map, List.map_take, List.map_drop]
def cutT {α : Type} (xs : List α) (lo hi : Option Int) : List α := (xs.drop (HT.sIx xs.length 0 lo)).take (HT.sIx xs.length xs.length hi - HT.sIx xs.length 0 lo)
theorem toP_ok {β ρ' : Type} {T : Sto} {H : O} {P' : β → ρ' → Prop} {q : Q β} {o : Option Int} {r : R} {kk : Option Int → Sto → Res ρ'} (v : Vr k T r (eO eI o)) (hk : Ok T P' q (kk o (H :: T))) : Ok T P' q ((toP r (H :: T)).andThen kk) := by
  cases o with
  | none =>
    have v : r = .d .non := v.notlst fun _ e => nomatch e
    rw [v]; exact hk
  | some i =>
    have v : r = .d (.int i) := v.notlst fun _ e => nomatch e
    rw [v]; exact hk
theorem Jv.slT {lo hi : E} {ml mh : M (Option Int)} (ha : Jv X k1 a ts xs (eT em)) (hl : Jv X k2 lo ts ml (eO eI)) (hh : Jv X k3 hi ts mh (eO eI)) :
    Jv X .d (.sl a lo hi) ts (m3 (fun x l h => rtn (cutT x l h)) xs ml mh) (eT em) := fun c δ T H A =>
  (ha c δ T H A).bind fun x h r v => Ok.toA v fun r' v' => (hl c δ T h A).bind fun l h2 s w => toP_ok w ((hh c δ T h2 A).bind fun u h3 t w2 => toP_ok w2 (by
    rw [v'.tup]
    exact ⟨_, rfl, by show R.d (.tup (cutD (x.map em) l u)) = _; rw [cutD_map]; rfl⟩))
theorem slop_lst {T : Sto} {H : O} {ds : List D} {r : R} {lo hi : Option Int} (v : Va T r (.lst ds)) : slop r lo hi (H :: T) = .ok (.fl (cutD ds lo hi)) (H :: T) := by
  have e : slop r lo hi (H :: T) = match r.seq (H :: T) with
    | some (true, ds) => Res.ok (R.fl (cutD ds lo hi)) (H :: T)
    | some (false, ds) => .ok (.d (.tup (cutD ds lo hi))) (H :: T)
    | none => .bad := by
    rcases v with rfl | ⟨ds, l, e1, rfl, e2⟩ <;> rfl
  rw [e, v.seq]
  rfl
theorem Jv.slL {lo hi : E} {ml mh : M (Option Int)} (ha : Jv X k1 a ts xs (eL em)) (hl : Jv X k2 lo ts ml (eO eI)) (hh : Jv X k3 hi ts mh (eO eI)) :
    Jv X .f (.sl a lo hi) ts (m3 (fun x l h => rtn (cutT x l h)) xs ml mh) (eL em) := fun c δ T H A =>
  (ha c δ T H A).bind fun x h r v => Ok.toA v fun r' v' => (hl c δ T h A).bind fun l h2 s w => toP_ok w ((hh c δ T h2 A).bind fun u h3 t w2 => toP_ok w2 (by
    have v' : Va T r' (.lst (x.map em)) := v'
    rw [slop_lst v', cutD_map]
    exact ⟨_, rfl, ⟨_, rfl, rfl⟩⟩))
theorem Jv.revT (ha : Jv X k1 a ts xs (eT em)) : Jv X .d (.rev a) ts (m1 (fun x => rtn x.reverse) xs) (eT em) :=
  op1A (fun _ _ => rfl) ha _ fun x r T H v => by
    rw [v.tup]
    exact ⟨_, rfl, by show R.d (.tup (x.map em).reverse) = .d (.tup (x.reverse.map em)); rw [List.map_reverse]⟩
theorem Jv.revL (ha : Jv X k1 a ts xs (eL em)) : Jv X .f (.rev a) ts (m1 (fun x => rtn x.reverse) xs) (eL em) :=
  op1A (fun _ _ => rfl) ha _ fun x r T H v => by
    have v : Va T r (.lst (x.map em)) := v
    refine ⟨.fl (x.map em).reverse, ?_, ⟨_, rfl, by rw [← List.map_reverse]⟩⟩
    show (match r.seq (H :: T) with
      | some (true, ds) => Res.ok (R.fl ds.reverse) (H :: T)
      | some (false, ds) => .ok (.d (.tup ds.reverse)) (H :: T)
      | none => .bad) = _
    rw [v.seq]
    rfl
/-! ### kinds -/
def Ty.plain : Ty → Bool
  | .cls _ => false
  | _ => true
theorem isTy_Va {T : Sto} {r : R} {x : D} {t : Ty} {H : O} (ht : Ty.plain t = true) (v : Va T r x) : isTy t r (H :: T) = isTy t (.d x) [] := by
  rcases v with rfl | ⟨ds, l, rfl, rfl, e⟩
  · rfl
  · cases t <;> first | exact absurd ht Bool.false_ne_true | (unfold isTy; simp only [List.getElem?_cons_succ, e])
/-- of what kind -/
def mTy (t : Ty) (x : D) : M Bool := opt (isTy t (.d x) [])
theorem Jv.isi {t : Ty} (ht : Ty.plain t = true) (ha : Jv X k a ts ma ea) : Jv X .d (.isi a t) ts (m1 (fun x => mTy t (ea x)) ma) eB :=
  op1A (fun _ _ => rfl) ha _ fun x r T H v => by
    rw [isTy_Va ht v]
    exact Ok.opt fun b => rfl
theorem Jv.isi2 {t u : Ty} (ht : Ty.plain t = true) (hu : Ty.plain u = true) (ha : Jv X k a ts ma ea) : Jv X .d (.isi2 a t u) ts (m1 (fun x => m2 (fun b c => rtn (b || c)) (mTy t (ea x)) (mTy u (ea x))) ma) eB :=
  op1A (fun _ _ => rfl) ha _ fun x r T H v => by
    rw [isTy_Va ht v, isTy_Va hu v]
    unfold mTy
    cases isTy t (.d (ea x)) [] with
    | none => trivial
    | some b =>
      cases isTy u (.d (ea x)) [] with
      | none => trivial
      | some c => exact ⟨_, rfl, rfl⟩
@[simp] theorem mTy_int_I (i : Int) : mTy .int (eI i) = rtn true := rfl
@[simp] theorem mTy_bool_I (i : Int) : mTy .bool (eI i) = rtn false := rfl
@[simp] theorem mTy_int_B (i : Bool) : mTy .int (eB i) = rtn true := rfl
@[simp] theorem mTy_bool_B (i : Bool) : mTy .bool (eB i) = rtn true := rfl
@[simp] theorem mTy_tuple_I (i : Int) : mTy .tuple (eI i) = rtn false := rfl
@[simp] theorem mTy_tuple_B (i : Bool) : mTy .tuple (eB i) = rtn false := rfl
@[simp] theorem mTy_list_I (i : Int) : mTy .list (eI i) = rtn false := rfl
@[simp] theorem mTy_list_B (i : Bool) : mTy .list (eB i) = rtn false := rfl
@[simp] theorem mTy_tuple_T (i : List α) : mTy .tuple (eT em i) = rtn true := rfl
@[simp] theorem mTy_list_T (i : List α) : mTy .list (eT em i) = rtn false := rfl
@[simp] theorem mTy_int_T (i : List α) : mTy .int (eT em i) = rtn false := rfl
@[simp] theorem mTy_bool_T (i : List α) : mTy .bool (eT em i) = rtn false := rfl
@[simp] theorem mTy_tuple_L (i : List α) : mTy .tuple (eL em i) = rtn false := rfl
@[simp] theorem mTy_list_L (i : List α) : mTy .list (eL em i) = rtn true := rfl
@[simp] theorem mTy_tuple_2 (p : α × β) : mTy .tuple (e2 ea eb p) = rtn true := rfl
@[simp] theorem mTy_tuple_3 (p : α × β × γ) : mTy .tuple (e3 ea eb ec p) = rtn true := rfl
/-! ### methods that only look -/
def idxT [DecidableEq α] (x : α) (xs : List α) : Option Int := (xs.findIdx? fun y => decide (y = x)).map fun (j : Nat) => (j : Int)
theorem indexO_T [DecidableEq α] (hw : Lw n em) (x : α) (xs : List α) : indexO (em x) (xs.map em) = xs.findIdx? fun y => decide (y = x) := by
  unfold indexO
  rw [List.findIdx?_map]
  congr 1
  funext y
  exact hw.eq y x
theorem Jv.indexT [DecidableEq α] (hz : X.z = true) (hl : NL em) (hw : Lw n em) (hn : n ≤ 63) (ha : Jv X k1 a ts xs (eT em)) (hb : Jv X k2 b ts ma em) : Jv X .d (.m1 .index a b) ts (m2 (fun x y => opt (idxT y x)) xs ma) eI := fun c δ T H A => by
  refine (ha c δ T H A).bind fun x h r v => Ok.toA v fun r1 v1 => ?_
  rw [v1.tup]
  have e : (if m1ok X.z .index .tup = true then (ev X.z X.cl X.Φ b δ (h :: T)).andThen fun y S => (toA y S).andThen fun y S => m1op X.z .tup .index (.d (.tup (x.map em))) y S else .bad) = (ev X.z X.cl X.Φ b δ (h :: T)).andThen fun y S => (toA y S).andThen fun y S => m1op X.z .tup .index (.d (.tup (x.map em))) y S := by
    show (if X.z = true then _ else _) = _
    rw [if_pos hz]
  show Ok T _ _ (if m1ok X.z .index .tup = true then (ev X.z X.cl X.Φ b δ (h :: T)).andThen fun y S => (toA y S).andThen fun y S => m1op X.z .tup .index (.d (.tup (x.map em))) y S else .bad)
  rw [e]
  refine (hb c δ T h A).bind fun y h2 s w => Ok.toA w fun s1 w1 => ?_
  rw [w1.notlst (hl y)]
  show Ok T _ _ (if ((em y).ok && (X.z && (D.tup (x.map em)).ok)) = true then ofO (h2 :: T) ((indexO (em y) (x.map em)).map fun j => R.d (.int j)) else .bad)
  have q1 : (em y).ok = true := hw.dok (by omega) y
  have q2 : (D.tup (x.map em)).ok = true := (lwT hw).dok (by omega) x
  rw [q1, q2, hz, indexO_T hw]
  simp only [Bool.and_self, if_true]
  unfold idxT
  cases x.findIdx? fun z => decide (z = y) with
  | none => trivial
  | some j => exact ⟨_, rfl, rfl⟩
/-- in a list -/
theorem Jv.indexL [DecidableEq α] (hl : NL em) (hw : Lw n em) (hn : n ≤ 63) (ha : Jv X k1 a ts xs (eL em)) (hb : Jv X k2 b ts ma em) : Jv X .d (.m1 .index a b) ts (m2 (fun x y => opt (idxT y x)) xs ma) eI := fun c δ T H A => by
  refine (ha c δ T H A).bind fun x h r v => Ok.toA v fun r1 v1 => ?_
  have ek : r1.kind (h :: T) = some .lst := v1.kind
  show Ok T _ _ (match r1.kind (h :: T) with
    | some k => if m1ok X.z .index k = true then (ev X.z X.cl X.Φ b δ (h :: T)).andThen fun y S => (toA y S).andThen fun y S => m1op X.z k .index r1 y S else .bad
    | none => .bad)
  rw [ek]
  show Ok T _ _ ((ev X.z X.cl X.Φ b δ (h :: T)).andThen fun y S => (toA y S).andThen fun y S => m1op X.z .lst .index r1 y S)
  refine (hb c δ T h A).bind fun y h2 s w => Ok.toA w fun s1 w1 => ?_
  rw [w1.notlst (hl y)]
  show Ok T _ _ (match RK.lst, r1.seq (h2 :: T), R.d (em y) with
    | .lst, some (true, ds), .d y => if (y.ok && (D.lst ds).ok) = true then ofO (h2 :: T) ((indexO y ds).map fun j => R.d (.int j)) else .bad
    | .tup, some (false, ds), .d y => if (y.ok && (X.z && (D.tup ds).ok)) = true then ofO (h2 :: T) ((indexO y ds).map fun j => R.d (.int j)) else .bad
    | _, _, _ => .bad)
  rw [v1.seq]
  show Ok T _ _ (if ((em y).ok && (D.lst (x.map em)).ok) = true then ofO (h2 :: T) ((indexO (em y) (x.map em)).map fun j => R.d (.int j)) else .bad)
  have q1 : (em y).ok = true := hw.dok (by omega) y
  have q2 : (D.lst (x.map em)).ok = true := (lwL hw).dok (by omega) x
  rw [q1, q2, indexO_T hw]
  simp only [Bool.and_self, if_true]
  unfold idxT
  cases x.findIdx? fun z => decide (z = y) with
  | none => trivial
  | some j => exact ⟨_, rfl, rfl⟩
end
end Mi.J

set_option Elab.async false
set_option linter.all false
set_option maxRecDepth 100000
set_option maxHeartbeats 1000000
/-! Mj5: targets, walks, comprehensions, calls. -/
namespace Mi.J
open PySem
/-! ### slots change -/
theorem get_set_same {δ : Env} {i : Nat} {v : Option R} (h : i < δ.length) : Env.get (δ.set i v) i = v := by
  unfold Env.get
  rw [List.getElem?_set_self h]
  rfl
theorem get_set_ne {δ : Env} {i j : Nat} {v : Option R} (h : i ≠ j) : Env.get (δ.set i v) j = δ.get j := by
  unfold Env.get
  rw [List.getElem?_set_ne h]
theorem get_set_cases {δ : Env} {i j : Nat} {v : Option R} : Env.get (δ.set i v) j = δ.get j ∨ (i = j ∧ Env.get (δ.set i v) j = v) := by
  by_cases e : i = j
  · subst e
    by_cases h : i < δ.length
    · exact .inr ⟨rfl, get_set_same h⟩
    · left
      rw [List.set_eq_of_length_le (by omega)]
  · exact .inl (get_set_ne e)
theorem tsAt_cons_same {i : Nat} {s : Sl} {ts : Ts} : tsAt ((i, s) :: ts) i = s := by
  show (match Nat.beq i i with
    | true => s
    | false => tsAt ts i) = s
  rw [show Nat.beq i i = true from Nat.beq_refl i]
theorem tsAt_cons_ne {i j : Nat} {s : Sl} {ts : Ts} (h : i ≠ j) : tsAt ((i, s) :: ts) j = tsAt ts j := by
  show (match Nat.beq i j with
    | true => s
    | false => tsAt ts j) = _
  cases e : Nat.beq i j with
  | true => exact absurd (Nat.eq_of_beq_eq_true e) h
  | false => rfl
def Own (ts : Ts) (δ : Env) (l : Nat) : Prop := ∃ i, (tsAt ts i).ow = true ∧ δ.get i = some (.loc (l + 1))
theorem SlOk.sm {T : Sto} {c : Nat} {s : Sl} {o : Option R} (h : SlOk T c s o) (hs : s ≠ .no) : ∃ r, o = some r := by
  cases s with
  | no => exact absurd rfl hs
  | d x => obtain ⟨r, e, _⟩ := h; exact ⟨r, e⟩
  | v x => exact ⟨_, h⟩
  | w x => rcases h with h | ⟨ds, l, _, h, _⟩ <;> exact ⟨_, h⟩
  | frz ds => obtain ⟨l, e, _⟩ := h; exact ⟨_, e⟩
  | own ds => obtain ⟨l, e, _⟩ := h; exact ⟨_, e⟩
  | dic t kvs => obtain ⟨l, e, _⟩ := h; exact ⟨_, e⟩
  | bdic t kvs => obtain ⟨l, e, _⟩ := h; exact ⟨_, e⟩
  | hand => exact ⟨_, h⟩
/-- a tracked place lies in the store -/
theorem SlOk.lt {T : Sto} {c : Nat} {s : Sl} {l : Nat} (h : SlOk T c s (some (.loc (l + 1)))) (hs : s ≠ .no) : l < T.length := by
  have q : ∀ {o : O}, T[l]? = some o → l < T.length := fun e => (List.getElem?_eq_some_iff.mp e).1
  cases s with
  | no => exact absurd rfl hs
  | d x =>
    obtain ⟨r, e, v⟩ := h
    cases e
    rcases v with e | ⟨ds, l', _, e, e2⟩
    · cases e
    · cases e; exact q e2
  | frz ds => obtain ⟨l', e, _, e2⟩ := h; cases e; exact q e2
  | own ds => obtain ⟨l', e, _, e2⟩ := h; cases e; exact q e2
  | dic t kvs => obtain ⟨l', e, _, e2⟩ := h; cases e; exact q e2
  | bdic t kvs => obtain ⟨l', e, e2⟩ := h; cases e; exact q e2
  | v x => cases h
  | w x =>
    rcases h with h | ⟨ds, l', _, e, _, e2⟩
    · cases h
    · cases e; exact q e2
  | hand => cases h
theorem At.lt {n c : Nat} {ts : Ts} {δ : Env} {T : Sto} (A : At n c ts δ T) {i l : Nat} (h : δ.get i = some (.loc (l + 1))) (hs : tsAt ts i ≠ .no) : l < T.length := by
  have q := A.sl i
  rw [h] at q
  exact q.lt hs
/-- a slot gets a value -/
theorem At.set {n c : Nat} {ts : Ts} {δ : Env} {T : Sto} (A : At n c ts δ T) {i : Nat} {s : Sl} {r : R} (hi : i < n) (hr : SlOk T c s (some r))
    (hd : ∀ l j, r = .loc (l + 1) → j ≠ i → δ.get j = some (.loc (l + 1)) → ((tsAt ts j).ow = true → s = .no) ∧ (s.ow = true → tsAt ts j = .no)) : At n c ((i, s) :: ts) (δ.set i (some r)) T := by
  have hl : i < δ.length := by rw [A.len]; exact hi
  refine ⟨by rw [List.length_set]; exact A.len, A.cT, fun j => ?_, fun j1 j2 l hne e1 e2 ho => ?_⟩
  · by_cases e : i = j
    · subst e; rw [tsAt_cons_same, get_set_same hl]; exact hr
    · rw [tsAt_cons_ne e, get_set_ne e]; exact A.sl j
  · by_cases e : i = j1
    · subst e
      rw [tsAt_cons_same] at ho
      rw [get_set_same hl] at e1
      rw [get_set_ne hne] at e2
      rw [tsAt_cons_ne hne]
      cases e1
      exact (hd l j2 rfl (fun q => hne q.symm) e2).2 ho
    · rw [tsAt_cons_ne e] at ho
      rw [get_set_ne e] at e1
      by_cases e' : i = j2
      · subst e'
        rw [get_set_same hl] at e2
        cases e2
        rw [tsAt_cons_same]
        exact (hd l j1 rfl hne e1).1 ho
      · rw [get_set_ne e'] at e2
        rw [tsAt_cons_ne e']
        exact A.dis j1 j2 l hne e1 e2 ho
theorem At.setD {n c : Nat} {ts : Ts} {δ : Env} {T : Sto} (A : At n c ts δ T) {i : Nat} {x : D} (hi : i < n) : At n c ((i, .d x) :: ts) (δ.set i (some (.d x))) T :=
  A.set hi ⟨_, rfl, .inl rfl⟩ fun l j e => nomatch e
theorem At.setV {n c : Nat} {ts : Ts} {δ : Env} {T : Sto} (A : At n c ts δ T) {i : Nat} {x : D} (hi : i < n) : At n c ((i, .v x) :: ts) (δ.set i (some (.d x))) T :=
  A.set hi rfl fun l j e => nomatch e
theorem Own.setD {ts : Ts} {δ : Env} {i l : Nat} {s : Sl} {v : Option R} (hs : s.ow = false) (h : Own ((i, s) :: ts) (δ.set i v) l) : Own ts δ l := by
  obtain ⟨j, ho, e⟩ := h
  by_cases q : i = j
  · subst q; rw [tsAt_cons_same] at ho; rw [hs] at ho; cases ho
  · rw [tsAt_cons_ne q] at ho; rw [get_set_ne q] at e; exact ⟨j, ho, e⟩
/-- a slot is wiped -/
theorem At.wipe1 {n c : Nat} {ts : Ts} {δ : Env} {T : Sto} (A : At n c ts δ T) (i : Nat) : At n c ((i, .no) :: ts) (δ.set i none) T := by
  refine ⟨by rw [List.length_set]; exact A.len, A.cT, fun j => ?_, fun j1 j2 l hne e1 e2 ho => ?_⟩
  · by_cases e : i = j
    · subst e; rw [tsAt_cons_same]; trivial
    · rw [tsAt_cons_ne e, get_set_ne e]; exact A.sl j
  · by_cases e : i = j1
    · subst e; rw [tsAt_cons_same] at ho; cases ho
    · rw [tsAt_cons_ne e] at ho
      rw [get_set_ne e] at e1
      by_cases e' : i = j2
      · subst e'; rw [tsAt_cons_same]
      · rw [get_set_ne e'] at e2
        rw [tsAt_cons_ne e']
        exact A.dis j1 j2 l hne e1 e2 ho
def wip : List Nat → Ts
  | [] => []
  | v :: vs => (v, .no) :: wip vs
theorem At.wipe {n c : Nat} {ts : Ts} {δ : Env} {T : Sto} (A : At n c ts δ T) : ∀ own : List Nat, At n c (wip own ++ ts) (wipeE δ own) T
  | [] => A
  | v :: vs => (At.wipe A vs).wipe1 v
/-! ### targets -/
section
variable {α β γ ε : Type} {X : Cx} {k k' k1 k2 k3 : K} {a b c i e : E} {ts : Ts} {m : M α} {ma : M α} {mb : M β} {mc : M γ} {em : α → D} {ea : α → D} {eb : β → D} {ec : γ → D} {ed : ε → D} {n n1 : Nat} {ai bi : M Int} {ab bb : M Bool} {xs ys : M (List α)}
def Jt (n : Nat) (tg : Tg) (em : α → D) (ents : α → Ts) : Prop := ∀ a c ts δ T, At n c ts δ T → ∃ δ', tg.set (em a) δ = some δ' ∧ At n c (ents a ++ ts) δ' T ∧ ∀ l, Own (ents a ++ ts) δ' l → Own ts δ l
theorem Jt.nm {i : Nat} (hi : Nat.blt i n = true) : Jt n (.nm i) em (fun a => [(i, .d (em a))]) := fun a c ts δ T A =>
  ⟨_, rfl, A.setD (Nat.le_of_ble_eq_true hi), fun l h => h.setD rfl⟩
theorem Jt.two {t u : Tg} {A1 : α → Ts} {A2 : β → Ts} (h1 : Jt n t ea A1) (h2 : Jt n u eb A2) : Jt n (.two t u) (e2 ea eb) (fun p => A2 p.2 ++ A1 p.1) := fun p c ts δ T A => by
  obtain ⟨δ1, q1, B1, o1⟩ := h1 p.1 c ts δ T A
  obtain ⟨δ2, q2, B2, o2⟩ := h2 p.2 c _ δ1 T B1
  refine ⟨δ2, ?_, by rw [List.append_assoc]; exact B2, fun l h => o1 l (o2 l (by rw [List.append_assoc] at h; exact h))⟩
  show (t.set (ea p.1) δ).bind (u.set (eb p.2)) = _
  rw [q1]
  exact q2
theorem Jt.three {t u v : Tg} {A1 : α → Ts} {A2 : β → Ts} {A3 : γ → Ts} (h1 : Jt n t ea A1) (h2 : Jt n u eb A2) (h3 : Jt n v ec A3) : Jt n (.three t u v) (e3 ea eb ec) (fun p => A3 p.2.2 ++ (A2 p.2.1 ++ A1 p.1)) := fun p c ts δ T A => by
  obtain ⟨δ1, q1, B1, o1⟩ := h1 p.1 c ts δ T A
  obtain ⟨δ2, q2, B2, o2⟩ := h2 p.2.1 c _ δ1 T B1
  obtain ⟨δ3, q3, B3, o3⟩ := h3 p.2.2 c _ δ2 T B2
  refine ⟨δ3, ?_, by rw [List.append_assoc, List.append_assoc]; exact B3, fun l h => o1 l (o2 l (o3 l (by rw [List.append_assoc, List.append_assoc] at h; exact h)))⟩
  show ((t.set (ea p.1) δ).bind (u.set (eb p.2.1))).bind (v.set (ec p.2.2)) = _
  rw [q1]
  show (u.set (eb p.2.1) δ1).bind (v.set (ec p.2.2)) = _
  rw [q2]
  exact q3
theorem Jt.four {t u v w : Tg} {A1 : α → Ts} {A2 : β → Ts} {A3 : γ → Ts} {A4 : ε → Ts} (h1 : Jt n t ea A1) (h2 : Jt n u eb A2) (h3 : Jt n v ec A3) (h4 : Jt n w ed A4) : Jt n (.four t u v w) (e4 ea eb ec ed) (fun p => A4 p.2.2.2 ++ (A3 p.2.2.1 ++ (A2 p.2.1 ++ A1 p.1))) := fun p c ts δ T A => by
  obtain ⟨δ1, q1, B1, o1⟩ := h1 p.1 c ts δ T A
  obtain ⟨δ2, q2, B2, o2⟩ := h2 p.2.1 c _ δ1 T B1
  obtain ⟨δ3, q3, B3, o3⟩ := h3 p.2.2.1 c _ δ2 T B2
  obtain ⟨δ4, q4, B4, o4⟩ := h4 p.2.2.2 c _ δ3 T B3
  refine ⟨δ4, ?_, by rw [List.append_assoc, List.append_assoc, List.append_assoc]; exact B4, fun l h => o1 l (o2 l (o3 l (o4 l (by rw [List.append_assoc, List.append_assoc, List.append_assoc] at h; exact h))))⟩
  show (((t.set (ea p.1) δ).bind (u.set (eb p.2.1))).bind (v.set (ec p.2.2.1))).bind (w.set (ed p.2.2.2)) = _
  rw [q1]
  show ((u.set (eb p.2.1) δ1).bind (v.set (ec p.2.2.1))).bind (w.set (ed p.2.2.2)) = _
  rw [q2]
  show (v.set (ec p.2.2.1) δ2).bind (w.set (ed p.2.2.2)) = _
  rw [q3]
  exact q4
/-! ### walks -/
def Sr (T : Sto) (src : Src) (ds : List D) : Prop := src = .fix ds ∨ ∃ k, src = .dyn k ∧ ∀ H, k.items (H :: T) = some ds
def mFold {α σ : Type} (F : α → σ → M σ) : List α → σ → M σ
  | [], s => rtn s
  | x :: xs, s => bnd (F x s) (mFold F xs)
theorem walk_ok {σ τ : Type} {T : Sto} {src : Src} {xs : List α} {f : D → τ → Sto → Res τ} {J : σ → τ} (F : α → σ → M σ) (hs : Sr T src (xs.map em)) (hf : ∀ x s H, Ok T (fun s' a' => a' = J s') (F x s H) (f (em x) (J s) (H :: T))) (s : σ) (H : O) :
    Ok T (fun s' a' => a' = J s') (mFold F xs s H) (walk src f (J s) (H :: T)) := by
  rcases hs with rfl | ⟨k, rfl, hk⟩
  · show Ok T _ _ (walkD f (xs.map em) (J s) (H :: T))
    induction xs generalizing s H with
    | nil => exact ⟨_, rfl, rfl⟩
    | cons x xs ih =>
      show Ok T _ _ ((f (em x) (J s) (H :: T)).andThen fun a S => walkD f (xs.map em) a S)
      refine (hf x s H).bind fun s' h a' e => ?_
      subst e
      exact ih s' h
  · have e : (Src.dyn k).len (H :: T) = xs.length := by
      show ((k.items (H :: T)).getD []).length = _
      rw [hk]
      exact List.length_map ..
    show Ok T _ _ (walkN (.dyn k) f ((Src.dyn k).len (H :: T)) 0 (J s) (H :: T))
    rw [e]
    have q : ∀ (n i : Nat) (s : σ) (H : O), i + n = xs.length → Ok T (fun s' a' => a' = J s') (mFold F (xs.drop i) s H) (walkN (.dyn k) f n i (J s) (H :: T)) := by
      intro n
      induction n with
      | zero =>
        intro i s H hi
        have h1 : (Src.dyn k).here (H :: T) = true := by
          show (k.items (H :: T)).isSome = true
          rw [hk]; rfl
        have h2 : (Src.dyn k).at? (H :: T) i = none := by
          show (k.items (H :: T)).bind _ = none
          rw [hk]
          show (xs.map em)[i]? = none
          rw [List.getElem?_eq_none (by rw [List.length_map]; omega)]
        rw [List.drop_of_length_le (by omega)]
        show Ok T _ _ (if (Src.dyn k).here (H :: T) = true ∧ (Src.dyn k).at? (H :: T) i = none then .ok (J s) (H :: T) else .bad)
        rw [if_pos ⟨h1, h2⟩]
        exact ⟨_, rfl, rfl⟩
      | succ n ih =>
        intro i s H hi
        have h1 : (Src.dyn k).here (H :: T) = true := by
          show (k.items (H :: T)).isSome = true
          rw [hk]; rfl
        have hlt : i < xs.length := by omega
        have h2 : (Src.dyn k).at? (H :: T) i = some (em xs[i]) := by
          show (k.items (H :: T)).bind _ = _
          rw [hk]
          show (xs.map em)[i]? = _
          rw [List.getElem?_map, List.getElem?_eq_getElem hlt]
          rfl
        rw [List.drop_eq_getElem_cons hlt]
        show Ok T _ _ (if (Src.dyn k).here (H :: T) = true then (match (Src.dyn k).at? (H :: T) i with
          | some x => (f x (J s) (H :: T)).andThen fun a' S' => walkN (.dyn k) f n (i + 1) a' S'
          | none => .ok (J s) (H :: T)) else .bad)
        rw [if_pos h1, h2]
        refine (hf xs[i] s H).bind fun s' h a' e => ?_
        subst e
        exact ih (i + 1) s' h (by omega)
    exact q xs.length 0 s H (by omega)
/-- what is walked -/
def JI (X : Cx) (it : It) (ts : Ts) (m : M (List α)) (em : α → D) : Prop := ∀ c δ T H, At X.n c ts δ T → Ok T (fun xs src => Sr T src (xs.map em)) (m H) (evI X.z X.cl X.Φ it δ (H :: T))
theorem srcOf_ok {T : Sto} {H : O} {r : R} {ds : List D} {x : D} (v : Va T r x) (h : seqD x = some ds) : ∃ src, srcOf r (H :: T) = .ok src (H :: T) ∧ Sr T src ds := by
  rcases v with rfl | ⟨ds', l, rfl, rfl, e⟩
  · cases x <;> cases h
    · exact ⟨_, rfl, .inl rfl⟩
    · exact ⟨_, rfl, .inl rfl⟩
  · cases h
    refine ⟨.dyn (.lst (l + 1)), ?_, .inr ⟨_, rfl, fun H' => ?_⟩⟩
    · show (match T[l]? with
        | some (.lst _) => Res.ok (Src.dyn (.lst (l + 1))) (H :: T)
        | _ => .bad) = _
      rw [e]
    · show (match T[l]? with
        | some (.lst ds) => some ds
        | _ => none) = _
      rw [e]
theorem JI.seq {el : List α → D} (hs : ∀ xs, seqD (el xs) = some (xs.map em)) (ha : Jv X k a ts xs el) : JI X (.seq a) ts xs em := fun c δ T H A => by
  have q := (ha c δ T H A).bind (f := rtn) (P' := fun x src => Sr T src (x.map em)) (k := fun x S => (toA x S).andThen fun x S => srcOf x S) fun x h r v => Ok.toA v fun r' v' => by
    obtain ⟨src, e, s⟩ := srcOf_ok (H := h) v' (hs x)
    exact ⟨src, e, s⟩
  rw [bnd_ret] at q
  exact q
theorem JI.rng (ha : Jv X k1 a ts ai eI) (hb : Jv X k2 b ts bi eI) : JI X (.rng a b) ts (m2 (fun x y => mRng x y) ai bi) eI := fun c δ T H A =>
  (ha c δ T H A).bind fun x h r v => (hb c δ T h A).bind fun y h2 s w => by
    have q := (rng_ok (T := T) (H := h2) v w).bind (f := rtn) (P' := fun (xs : List Int) src => Sr T src (xs.map eI)) (k := fun ds S => .ok (.fix ds) S) fun xs h3 ds q => ⟨_, rfl, .inl (by rw [q])⟩
    rw [bnd_ret] at q
    exact q
def enumZ {α : Type} (xs : List α) : List (Int × α) := ((List.range xs.length).zip xs).map fun p => ((p.1 : Int), p.2)
theorem enumD_map (xs : List α) : enumD (xs.map em) = (enumZ xs).map (e2 eI em) := by
  unfold enumD enumZ
  rw [List.length_map, List.zip_map_right, List.map_map, List.map_map]
  rfl
theorem JI.enum {el : List α → D} (hs : ∀ xs, seqD (el xs) = some (xs.map em)) (ha : Jv X k a ts xs el) : JI X (.enum a) ts (m1 (fun x => rtn (enumZ x)) xs) (e2 eI em) := fun c δ T H A => by
  refine (ha c δ T H A).bind fun x h r v => Ok.toA v fun r' v' => ?_
  have hs := hs x
  rcases v' with rfl | ⟨ds', l, e0, rfl, e⟩
  · cases e3 : el x <;> rw [e3] at hs <;> cases hs
    · exact ⟨.fix (enumD (x.map em)), rfl, .inl (by rw [enumD_map])⟩
    · exact ⟨.fix (enumD (x.map em)), rfl, .inl (by rw [enumD_map])⟩
  · rw [e0] at hs
    cases hs
    have st : ∀ H, stoL (H :: T) (l + 1) = some (x.map em) := fun H => by
      show (match T[l]? with
        | some (.lst ds) => some ds
        | _ => none) = _
      rw [e]
    refine ⟨.dyn (.en (l + 1)), ?_, .inr ⟨_, rfl, fun H' => ?_⟩⟩
    · show (if (stoL (h :: T) (l + 1)).isSome = true then Res.ok (Src.dyn (.en (l + 1))) (h :: T) else .bad) = _
      rw [st]; rfl
    · show (stoL (H' :: T) (l + 1)).map enumD = _
      rw [st, ← enumD_map]
      rfl
theorem zipD_map (xs : List α) (ys : List β) : zipD (xs.map ea) (ys.map eb) = (xs.zip ys).map (e2 ea eb) := by
  unfold zipD
  rw [List.zip_map, List.map_map]
  rfl
theorem JI.zipT {ys : M (List β)} (ha : Jv X k1 a ts xs (eT ea)) (hb : Jv X k2 b ts ys (eT eb)) : JI X (.zip a b) ts (m2 (fun x y => rtn (x.zip y)) xs ys) (e2 ea eb) := fun c δ T H A =>
  (ha c δ T H A).bind fun x h r v => Ok.toA v fun r' v' => (hb c δ T h A).bind fun y h2 s w => Ok.toA w fun s' w' => by
    rw [v'.tup, w'.tup]
    exact ⟨.fix (zipD (x.map ea) (y.map eb)), rfl, .inl (by rw [zipD_map])⟩
theorem JI.zipL {ys : M (List β)} (ha : Jv X k1 a ts xs (eL ea)) (hb : Jv X k2 b ts ys (eL eb)) : JI X (.zip a b) ts (m2 (fun x y => rtn (x.zip y)) xs ys) (e2 ea eb) := fun c δ T H A =>
  (ha c δ T H A).bind fun x h r v => Ok.toA v fun r' v' => (hb c δ T h A).bind fun y h2 s w => Ok.toA w fun s' w' => by
    have it : ∀ H, Dyn.items (H :: T) (.zp r' s') = some ((x.zip y).map (e2 ea eb)) := fun H => by
      have v' : Va T r' (.lst (x.map ea)) := v'
      have w' : Va T s' (.lst (y.map eb)) := w'
      show ((r'.seq (H :: T)).bind fun a => (s'.seq (H :: T)).bind fun b => if (a.1 == b.1) = true then some (zipD a.2 b.2) else none) = _
      rw [v'.seq, w'.seq, ← zipD_map]
      rfl
    have cs : zipop r' s' (h2 :: T) = .ok (.fix (zipD (x.map ea) (y.map eb))) (h2 :: T) ∨ zipop r' s' (h2 :: T) = if (Dyn.items (h2 :: T) (.zp r' s')).isSome = true then .ok (.dyn (.zp r' s')) (h2 :: T) else .bad := by
      rcases v' with rfl | ⟨ds', l, e0, rfl, e⟩ <;> rcases w' with rfl | ⟨ds'', l', e0', rfl, e'⟩
      · exact .inl rfl
      · exact .inr rfl
      · exact .inr rfl
      · exact .inr rfl
    rcases cs with cs | cs
    · rw [cs]
      exact ⟨_, rfl, .inl (by rw [zipD_map])⟩
    · rw [cs, it h2]
      exact ⟨_, rfl, .inr ⟨_, rfl, it⟩⟩
/-! ### comprehensions -/
def mLc (c : α → M Bool) (f : α → M β) : List α → M (List β)
  | [] => rtn []
  | x :: xs => bnd (c x) fun k => if k = true then bnd (f x) fun y => bnd (mLc c f xs) fun ys => rtn (y :: ys) else mLc c f xs
noncomputable def mLst (c : α → M Bool) (f : α → M β) (xs : List α) : M (List β) := bnd (nx (mLc c f xs)) mCut
def lcF (c : α → M Bool) (f : α → M β) (x : α) (acc : List β) : M (List β) := bnd (c x) fun k => if k = true then bnd (f x) fun y => rtn (acc ++ [y]) else rtn acc
theorem mFold_lc (c : α → M Bool) (f : α → M β) (xs : List α) (acc : List β) : mFold (lcF c f) xs acc = bnd (mLc c f xs) fun ys => rtn (acc ++ ys) := by
  induction xs generalizing acc with
  | nil => simp [mFold, mLc]
  | cons x xs ih =>
    show bnd (bnd (c x) fun k => if k = true then bnd (f x) fun y => rtn (acc ++ [y]) else rtn acc) (mFold (lcF c f) xs) = _
    rw [bnd_assoc]
    show _ = bnd (bnd (c x) fun k => if k = true then bnd (f x) fun y => bnd (mLc c f xs) fun ys => rtn (y :: ys) else mLc c f xs) _
    rw [bnd_assoc]
    congr 1
    funext k
    cases k with
    | true => simp [ih]
    | false => simp [ih]
theorem lc_walk {own : List Nat} {elt cE : E} {tg : Tg} {ents : α → Ts} {T : Sto} {src : Src} {ys : List α} {δ : Env} {c0 : Nat} {H : O} {f : α → M β} {cnd : α → M Bool} {J : List β} (ht : Jt X.n tg ea ents) (hk : k.nl = true)
    (hc : ∀ x, Jv X k2 cE (ents x ++ (wip own ++ ts)) (cnd x) eB) (he : ∀ x, Jv X k elt (ents x ++ (wip own ++ ts)) (f x) eb) (A : At X.n c0 ts δ T) (s : Sr T src (ys.map ea)) :
    Ok T (fun s' a' => a' = s'.map eb) (mFold (lcF cnd f) ys J H) (walk src (fun x acc S => match tg.set x (wipeE δ own) with
      | none => .bad
      | some δ' => (ev X.z X.cl X.Φ cE δ' S).andThen fun k S => (toB k S).andThen fun k S => if k = true then (ev X.z X.cl X.Φ elt δ' S).andThen fun y S => (toD y S).andThen fun y S => .ok (acc ++ [y]) S else .ok acc S) (J.map eb) (H :: T)) := by
  refine walk_ok (J := fun s : List β => s.map eb) (lcF cnd f) s (fun x acc h => ?_) J H
  obtain ⟨δ', e, B, _⟩ := ht x c0 _ _ T (A.wipe own)
  rw [e]
  refine (hc x _ δ' T h B).bind fun q h2 r v => ?_
  rw [v.bl, toB_bl, andThen_ok]
  cases q with
  | false => exact ⟨_, rfl, rfl⟩
  | true =>
    refine (he x _ δ' T h2 B).bind fun y h3 r v => ?_
    have e : toD r (h3 :: T) = .ok (eb y) (h3 :: T) := by
      show (match r.frz with
        | .d x => Res.ok x (h3 :: T)
        | _ => .bad) = _
      rw [v.frz hk]
    rw [e]
    exact ⟨_, rfl, by show acc.map eb ++ [eb y] = (acc ++ [y]).map eb; rw [List.map_append]; rfl⟩
theorem Jv.lc1 {own : List Nat} {elt cE : E} {tg : Tg} {it : It} {ents : α → Ts} {f : α → M β} {cnd : α → M Bool} (hi : JI X it ts xs ea) (ht : Jt X.n tg ea ents) (hk : k.nl = true)
    (hc : ∀ x, Jv X k2 cE (ents x ++ (wip own ++ ts)) (cnd x) eB) (he : ∀ x, Jv X k elt (ents x ++ (wip own ++ ts)) (f x) eb) : Jv X .f (.lc1 own elt tg it cE) ts (m1 (mLst cnd f) xs) (eL eb) := fun c0 δ T H A => by
  rw [ev_lc1_eq]
  refine (hi c0 δ T H A).bind fun ys h src s => ?_
  have w := (lc_walk (J := []) (H := h) ht hk hc he A s).nox
  have e : nx (mFold (lcF cnd f) ys []) = nx (mLc cnd f ys) := by rw [mFold_lc]; simp
  rw [e] at w
  refine w.bind fun zs h2 ds q => ?_
  subst q
  rw [List.length_map]
  rw [mCut_def]
  by_cases q : zs.length ≤ lim
  · rw [if_pos q, decide_eq_true q]; exact ⟨_, rfl, ⟨_, rfl, rfl⟩⟩
  · rw [decide_eq_false q]; trivial
def mLc2 (c : α → M Bool) (it2 : α → M (List γ)) (c2 : α → γ → M Bool) (f : α → γ → M β) : List α → M (List β)
  | [] => rtn []
  | x :: xs => bnd (c x) fun k => if k = true then bnd (it2 x) fun zs => bnd (mLc (c2 x) (f x) zs) fun y => bnd (mLc2 c it2 c2 f xs) fun ys => rtn (y ++ ys) else mLc2 c it2 c2 f xs
noncomputable def mLst2 (c : α → M Bool) (it2 : α → M (List γ)) (c2 : α → γ → M Bool) (f : α → γ → M β) (xs : List α) : M (List β) := bnd (nx (mLc2 c it2 c2 f xs)) mCut
def lcF2 (c : α → M Bool) (it2 : α → M (List γ)) (c2 : α → γ → M Bool) (f : α → γ → M β) (x : α) (acc : List β) : M (List β) := bnd (c x) fun k => if k = true then bnd (it2 x) fun zs => mFold (lcF (c2 x) (f x)) zs acc else rtn acc
theorem mFold_lc2 (c : α → M Bool) (it2 : α → M (List γ)) (c2 : α → γ → M Bool) (f : α → γ → M β) (xs : List α) (acc : List β) : mFold (lcF2 c it2 c2 f) xs acc = bnd (mLc2 c it2 c2 f xs) fun ys => rtn (acc ++ ys) := by
  induction xs generalizing acc with
  | nil => simp [mFold, mLc2]
  | cons x xs ih =>
    show bnd (bnd (c x) fun k => if k = true then bnd (it2 x) fun zs => mFold (lcF (c2 x) (f x)) zs acc else rtn acc) (mFold (lcF2 c it2 c2 f) xs) = _
    rw [bnd_assoc]
    show _ = bnd (bnd (c x) fun k => if k = true then bnd (it2 x) fun zs => bnd (mLc (c2 x) (f x) zs) fun y => bnd (mLc2 c it2 c2 f xs) fun ys => rtn (y ++ ys) else mLc2 c it2 c2 f xs) _
    rw [bnd_assoc]
    congr 1
    funext k
    cases k with
    | true => simp [ih, mFold_lc]
    | false => simp [ih]
theorem Jv.lc2 {own own2 : List Nat} {elt cE cE2 : E} {tg tg2 : Tg} {it itb : It} {ents : α → Ts} {ents2 : γ → Ts} {f : α → γ → M β} {cnd : α → M Bool} {cnd2 : α → γ → M Bool} {it2 : α → M (List γ)} (hi : JI X it ts xs ea) (ht : Jt X.n tg ea ents) (hk : k.nl = true)
    (hc : ∀ x, Jv X k2 cE (ents x ++ (wip own ++ ts)) (cnd x) eB) (hi2 : ∀ x, JI X itb (ents x ++ (wip own ++ ts)) (it2 x) ec) (ht2 : Jt X.n tg2 ec ents2)
    (hc2 : ∀ x y, Jv X k3 cE2 (ents2 y ++ (wip own2 ++ (ents x ++ (wip own ++ ts)))) (cnd2 x y) eB) (he : ∀ x y, Jv X k elt (ents2 y ++ (wip own2 ++ (ents x ++ (wip own ++ ts)))) (f x y) eb) :
    Jv X .f (.lc2 own own2 elt tg it cE tg2 itb cE2) ts (m1 (mLst2 cnd it2 cnd2 f) xs) (eL eb) := fun c0 δ T H A => by
  rw [ev_lc2_eq]
  refine (hi c0 δ T H A).bind fun ys h src s => ?_
  have w := (walk_ok (T := T) (J := fun s : List β => s.map eb) (lcF2 cnd it2 cnd2 f) (f := fun x acc S => match tg.set x (wipeE δ own) with
      | none => .bad
      | some δ' => (ev X.z X.cl X.Φ cE δ' S).andThen fun k S => (toB k S).andThen fun k S => if k = true then (evI X.z X.cl X.Φ itb δ' S).andThen fun src2 S => walk src2 (fun x acc S => match tg2.set x (wipeE δ' own2) with
        | none => .bad
        | some δ' => (ev X.z X.cl X.Φ cE2 δ' S).andThen fun k S => (toB k S).andThen fun k S => if k = true then (ev X.z X.cl X.Φ elt δ' S).andThen fun y S => (toD y S).andThen fun y S => (.ok (acc ++ [y]) S) else .ok acc S) acc S
        else .ok acc S) s (fun x acc h => by
    obtain ⟨δ', e, B, _⟩ := ht x c0 _ _ T (A.wipe own)
    rw [e]
    refine (hc x _ δ' T h B).bind fun q h2 r v => ?_
    rw [v.bl, toB_bl, andThen_ok]
    cases q with
    | false => exact ⟨_, rfl, rfl⟩
    | true =>
      refine (hi2 x _ δ' T h2 B).bind fun zs h3 src2 s2 => ?_
      exact lc_walk ht2 hk (hc2 x) (he x) B s2) [] h).nox
  have e : nx (mFold (lcF2 cnd it2 cnd2 f) ys []) = nx (mLc2 cnd it2 cnd2 f ys) := by rw [mFold_lc2]; simp
  rw [e] at w
  refine w.bind fun zs h2 ds q => ?_
  subst q
  rw [List.length_map]
  rw [mCut_def]
  by_cases q : zs.length ≤ lim
  · rw [if_pos q, decide_eq_true q]; exact ⟨_, rfl, ⟨_, rfl, rfl⟩⟩
  · rw [decide_eq_false q]; trivial
/-! ### calls -/
def Aok (T : Sto) (r : R) (s : Sl) : Prop := match s with
  | .d x => Va T r x
  | .hand => r = .loc 0
  | .bdic t kvs => ∃ l, r = .loc (l + 1) ∧ T[l]? = some (.dic t kvs)
  | _ => False
def Args (T : Sto) : List R → List Sl → Prop
  | [], [] => True
  | r :: rs, s :: ss => Aok T r s ∧ Args T rs ss
  | _, _ => False
/-- a def: with these arguments it does what m does -/
def Jf (F : List R → Sto → Res R) (sls : List Sl) (m : M α) (k : K) (er : α → D) : Prop := ∀ rs T H, Args T rs sls → Ok T (fun a r => Vr k T r (er a)) (m H) (F rs (H :: T))
def Ja (X : Cx) (es : Es) (ts : Ts) (m : M α) (sls : α → List Sl) : Prop := ∀ c δ T H, At X.n c ts δ T → Ok T (fun a rs => Args T rs (sls a)) (m H) (eva X.z X.cl X.Φ es δ (H :: T))
theorem Ja.nil : Ja X .nil ts (rtn ()) (fun _ => []) := fun c δ T H A => ⟨_, rfl, trivial⟩
theorem Ja.cons {es : Es} {sls : β → List Sl} (ha : Jv X k a ts ma ea) (hb : Ja X es ts mb sls) : Ja X (.cons a es) ts (m2 (fun x y => rtn (x, y)) ma mb) (fun p => .d (ea p.1) :: sls p.2) := fun c δ T H A =>
  (ha c δ T H A).bind fun x h r v => Ok.toA v fun r' v' => (hb c δ T h A).bind fun y h2 rs w => ⟨_, rfl, v', w⟩
theorem Ja.hand {es : Es} {i : Nat} {sls : β → List Sl} (hi : tsAt ts i = .hand) (hb : Ja X es ts mb sls) : Ja X (.cons (.var i) es) ts mb (fun p => .hand :: sls p) := fun c δ T H A => by
  have q := A.sl i
  rw [hi] at q
  have q : δ.get i = some (.loc 0) := q
  have e : eva X.z X.cl X.Φ (.cons (.var i) es) δ (H :: T) = (eva X.z X.cl X.Φ es δ (H :: T)).andThen fun xs S => .ok (.loc 0 :: xs) S := by
    rw [eva_cons_eq]
    show ((ofO (H :: T) (δ.get i)).andThen _) = _
    rw [q]
    rfl
  rw [e]
  have w := (hb c δ T H A).bind (f := rtn) (P' := fun a rs => Args T rs (.hand :: sls a)) (k := fun xs S => Res.ok (R.loc 0 :: xs) S) fun y h2 rs w => ⟨_, rfl, rfl, w⟩
  rw [bnd_ret] at w
  exact w
theorem Jv.call {es : Es} {n : Nat} {sls : α → List Sl} {f : α → M β} (ha : Ja X es ts ma sls) (hf : ∀ a, Jf (X.Φ n) (sls a) (f a) k eb) : Jv X k (.call n es) ts (bnd ma f) eb := fun c δ T H A =>
  (ha c δ T H A).bind fun x h rs v => hf x rs T h v
end
end Mi.J

set_option Elab.async false
set_option linter.all false
set_option maxRecDepth 100000
set_option maxHeartbeats 1000000
/-! Mj6: statements. -/
namespace Mi.J
open PySem
/-! ### frames -/
structure FrR (ts : Ts) (δ : Env) (T T' : Sto) : Prop where
  len : T.length ≤ T'.length
  same : ∀ l, l < T.length → ¬ Own ts δ l → T'[l]? = T[l]?
structure Fr (ts : Ts) (δ : Env) (T : Sto) (ts' : Ts) (δ' : Env) (T' : Sto) : Prop where
  r : FrR ts δ T T'
  own : ∀ l, Own ts' δ' l → Own ts δ l ∨ T.length ≤ l
theorem FrR.refl {ts : Ts} {δ : Env} {T : Sto} : FrR ts δ T T := ⟨Nat.le_refl _, fun _ _ _ => rfl⟩
theorem Fr.refl {ts : Ts} {δ : Env} {T : Sto} : Fr ts δ T ts δ T := ⟨FrR.refl, fun _ h => .inl h⟩
theorem Fr.of {ts ts' : Ts} {δ δ' : Env} {T : Sto} (h : ∀ l, Own ts' δ' l → Own ts δ l) : Fr ts δ T ts' δ' T := ⟨FrR.refl, fun l o => .inl (h l o)⟩
theorem Fr.transR {ts ts1 : Ts} {δ δ1 : Env} {T T1 T2 : Sto} (h : Fr ts δ T ts1 δ1 T1) (g : FrR ts1 δ1 T1 T2) : FrR ts δ T T2 := by
  refine ⟨Nat.le_trans h.r.len g.len, fun l hl ho => ?_⟩
  have q := h.r.len
  rw [g.same l (by omega) fun o => ?_, h.r.same l hl ho]
  rcases h.own l o with o | o
  · exact ho o
  · omega
theorem Fr.trans {ts ts1 ts2 : Ts} {δ δ1 δ2 : Env} {T T1 T2 : Sto} (h : Fr ts δ T ts1 δ1 T1) (g : Fr ts1 δ1 T1 ts2 δ2 T2) : Fr ts δ T ts2 δ2 T2 := by
  refine ⟨h.transR g.r, fun l o => ?_⟩
  have q := h.r.len
  rcases g.own l o with o | o
  · exact h.own l o
  · right; omega
/-- what is handed back -/
def Vt (c : Nat) (k : K) (T : Sto) (r : R) (x : D) : Prop := match k with
  | .d => r = .d x
  | .f => ∃ ds, x = .lst ds ∧ (r = .fl ds ∨ ∃ l, r = .loc (l + 1) ∧ c ≤ l ∧ T[l]? = some (.lst ds))
  | .n => r = .d x ∨ ∃ ds, x = .lst ds ∧ (r = .fl ds ∨ ∃ l, r = .loc (l + 1) ∧ c ≤ l ∧ T[l]? = some (.lst ds))
  | .a => False
section
variable {σ τ ρ α β γ : Type} {X : Cx}
def OkF (n c : Nat) (ts : Ts) (δ : Env) (T : Sto) (post : σ → Ts) (k : K) (er : ρ → D) (q : Q (Fw σ ρ)) (res : Res Fl) : Prop := match q with
  | .ok (.nxt s) h => ∃ δ' T', res = .ok (.next δ') (h :: T') ∧ At n c (post s) δ' T' ∧ Fr ts δ T (post s) δ' T'
  | .ok (.out a) h => ∃ r T', res = .ok (.ret r) (h :: T') ∧ FrR ts δ T T' ∧ Vt c k T' r (er a)
  | .exc x h => ∃ T', res = .exc x (h :: T') ∧ FrR ts δ T T'
  | .bad => True
def OkN (n c : Nat) (ts : Ts) (δ : Env) (T : Sto) (post : σ → Ts) (q : Q σ) (res : Res Fl) : Prop := match q with
  | .ok s h => ∃ δ' T', res = .ok (.next δ') (h :: T') ∧ At n c (post s) δ' T' ∧ Fr ts δ T (post s) δ' T'
  | .exc x h => ∃ T', res = .exc x (h :: T') ∧ FrR ts δ T T'
  | .bad => True
def OkR (c : Nat) (ts : Ts) (δ : Env) (T : Sto) (k : K) (er : ρ → D) (q : Q ρ) (res : Res Fl) : Prop := match q with
  | .ok a h => ∃ r T', res = .ok (.ret r) (h :: T') ∧ FrR ts δ T T' ∧ Vt c k T' r (er a)
  | .exc x h => ∃ T', res = .exc x (h :: T') ∧ FrR ts δ T T'
  | .bad => True
def nxt (m : M σ) : M (Fw σ ρ) := bnd m fun s => rtn (.nxt s)
def out (m : M ρ) : M (Fw σ ρ) := bnd m fun s => rtn (.out s)
def bndF (m : M (Fw σ ρ)) (f : σ → M (Fw τ ρ)) : M (Fw τ ρ) := bnd m fun w => match w with
  | .nxt s => f s
  | .out a => rtn (.out a)
def bndR (m : M (Fw σ ρ)) (f : σ → M ρ) : M ρ := bnd m fun w => match w with
  | .nxt s => f s
  | .out a => rtn a
@[simp] theorem nxt_ret (s : σ) : (nxt (rtn s) : M (Fw σ ρ)) = rtn (.nxt s) := rfl
@[simp] theorem out_ret (s : ρ) : (out (rtn s) : M (Fw σ ρ)) = rtn (.out s) := rfl
@[simp] theorem nxt_bad : (nxt bad : M (Fw σ ρ)) = bad := rfl
@[simp] theorem out_bad : (out bad : M (Fw σ ρ)) = bad := rfl
@[simp] theorem bndF_nxt (s : σ) (f : σ → M (Fw τ ρ)) : bndF (rtn (.nxt s)) f = f s := rfl
@[simp] theorem bndF_out (a : ρ) (f : σ → M (Fw τ ρ)) : bndF (rtn (.out a)) f = rtn (.out a) := rfl
@[simp] theorem bndR_nxt (s : σ) (f : σ → M ρ) : bndR (rtn (.nxt s)) f = f s := rfl
@[simp] theorem bndR_out (a : ρ) (f : σ → M ρ) : bndR (rtn (.out a)) f = rtn a := rfl
@[simp] theorem nxt_bnd (m : M α) (f : α → M σ) : (nxt (bnd m f) : M (Fw σ ρ)) = bnd m fun a => nxt (f a) := bnd_assoc _ _ _
@[simp] theorem out_bnd (m : M α) (f : α → M ρ) : (out (bnd m f) : M (Fw σ ρ)) = bnd m fun a => out (f a) := bnd_assoc _ _ _
@[simp] theorem bndF_bnd (m : M α) (g : α → M (Fw σ ρ)) (f : σ → M (Fw τ ρ)) : bndF (bnd m g) f = bnd m fun a => bndF (g a) f := bnd_assoc _ _ _
@[simp] theorem bndR_bnd (m : M α) (g : α → M (Fw σ ρ)) (f : σ → M ρ) : bndR (bnd m g) f = bnd m fun a => bndR (g a) f := bnd_assoc _ _ _
@[simp] theorem bndF_ite {c : Prop} [Decidable c] (a b : M (Fw σ ρ)) (f : σ → M (Fw τ ρ)) : bndF (if c then a else b) f = if c then bndF a f else bndF b f := by split <;> rfl
@[simp] theorem bndR_ite {c : Prop} [Decidable c] (a b : M (Fw σ ρ)) (f : σ → M ρ) : bndR (if c then a else b) f = if c then bndR a f else bndR b f := by split <;> rfl
@[simp] theorem nxt_ite {c : Prop} [Decidable c] (a b : M σ) : (nxt (if c then a else b) : M (Fw σ ρ)) = if c then nxt a else nxt b := by split <;> rfl
@[simp] theorem out_ite {c : Prop} [Decidable c] (a b : M ρ) : (out (if c then a else b) : M (Fw σ ρ)) = if c then out a else out b := by split <;> rfl
@[simp] theorem bndF_ofnxt (m : M σ) (f : σ → M (Fw τ ρ)) : bndF (nxt m) f = bnd m f := by
  unfold nxt bndF
  rw [bnd_assoc]
  rfl
@[simp] theorem bndR_ofnxt (m : M σ) (f : σ → M ρ) : bndR (nxt m) f = bnd m f := by
  unfold nxt bndR
  rw [bnd_assoc]
  rfl
def JF (X : Cx) (run : Env → Sto → Res Fl) (ts : Ts) (m : M (Fw σ ρ)) (post : σ → Ts) (k : K) (er : ρ → D) : Prop := ∀ c δ T H, At X.n c ts δ T → OkF X.n c ts δ T post k er (m H) (run δ (H :: T))
def JN (X : Cx) (run : Env → Sto → Res Fl) (ts : Ts) (m : M σ) (post : σ → Ts) : Prop := ∀ c δ T H, At X.n c ts δ T → OkN X.n c ts δ T post (m H) (run δ (H :: T))
def Jr (X : Cx) (run : Env → Sto → Res Fl) (ts : Ts) (m : M ρ) (k : K) (er : ρ → D) : Prop := ∀ c δ T H, At X.n c ts δ T → OkR c ts δ T k er (m H) (run δ (H :: T))
abbrev r1 (X : Cx) (s : St) : Env → Sto → Res Fl := exec X.z X.cl X.Φ s
abbrev rs (X : Cx) (s : Sts) : Env → Sto → Res Fl := execs X.z X.cl X.Φ s
variable {run : Env → Sto → Res Fl} {ts ts' : Ts} {k k' k1 k2 k3 : K} {er : ρ → D} {post p1 : σ → Ts} {s : St} {ss : Sts} {n c : Nat} {δ : Env} {T : Sto} {H : O} {res : Res Fl} {m : M σ} {mr : M ρ} {mf : M (Fw σ ρ)} {e : E} {em : α → D} {ma : M α} {a b : Sts}
theorem OkN.toF {q : Q σ} (h : OkN n c ts δ T post q res) : OkF n c ts δ T post k er (bndQ (fun s => rtn (.nxt s)) q) res := by
  cases q <;> exact h
theorem OkR.toF {q : Q ρ} (h : OkR c ts δ T k er q res) : OkF n c ts δ T post k er (bndQ (fun s => rtn (.out s)) q) res := by
  cases q <;> exact h
theorem JN.toF (h : JN X run ts m post) : JF X run ts (nxt m) post k er := fun c δ T H A => (h c δ T H A).toF
theorem Jr.toF (h : Jr X run ts mr k er) : JF X run ts (out mr) post k er := fun c δ T H A => (h c δ T H A).toF
theorem JF.toN {er : Unit → D} (h : JF X run ts (nxt m) post .d er) : JN X run ts m post := fun c δ T H A => by
  have q := h c δ T H A
  have e : (nxt m : M (Fw σ Unit)) H = bndQ (fun s => rtn (.nxt s)) (m H) := rfl
  rw [e] at q
  cases e : m H <;> rw [e] at q <;> exact q
theorem JF.toR {post : Unit → Ts} (h : JF X run ts (out mr) post k er) : Jr X run ts mr k er := fun c δ T H A => by
  have q := h c δ T H A
  have e : (out mr : M (Fw Unit ρ)) H = bndQ (fun s => rtn (.out s)) (mr H) := rfl
  rw [e] at q
  cases e : mr H <;> rw [e] at q <;> exact q
theorem Ok.bindF {P : α → β → Prop} {rv : Res β} {f : α → M (Fw σ ρ)} {kk : β → Sto → Res Fl} (h : Ok T P (ma H) rv) (hk : ∀ a h r, P a r → OkF n c ts δ T post k er (f a h) (kk r (h :: T))) : OkF n c ts δ T post k er (bnd ma f H) (rv.andThen kk) := by
  show OkF n c ts δ T post k er (bndQ f (ma H)) _
  cases e : ma H with
  | ok a h' =>
    rw [e] at h
    obtain ⟨r, rfl, p⟩ := h
    exact hk a h' r p
  | exc x h' =>
    rw [e] at h
    have h : rv = .exc x (h' :: T) := h
    rw [h]
    exact ⟨T, rfl, FrR.refl⟩
  | bad => trivial
theorem Ok.bindN {P : α → β → Prop} {rv : Res β} {f : α → M σ} {kk : β → Sto → Res Fl} (h : Ok T P (ma H) rv) (hk : ∀ a h r, P a r → OkN n c ts δ T post (f a h) (kk r (h :: T))) : OkN n c ts δ T post (bnd ma f H) (rv.andThen kk) := by
  show OkN n c ts δ T post (bndQ f (ma H)) _
  cases e : ma H with
  | ok a h' =>
    rw [e] at h
    obtain ⟨r, rfl, p⟩ := h
    exact hk a h' r p
  | exc x h' =>
    rw [e] at h
    have h : rv = .exc x (h' :: T) := h
    rw [h]
    exact ⟨T, rfl, FrR.refl⟩
  | bad => trivial
theorem Ok.bindR {P : α → β → Prop} {rv : Res β} {f : α → M ρ} {kk : β → Sto → Res Fl} (h : Ok T P (ma H) rv) (hk : ∀ a h r, P a r → OkR c ts δ T k er (f a h) (kk r (h :: T))) : OkR c ts δ T k er (bnd ma f H) (rv.andThen kk) := by
  show OkR c ts δ T k er (bndQ f (ma H)) _
  cases e : ma H with
  | ok a h' =>
    rw [e] at h
    obtain ⟨r, rfl, p⟩ := h
    exact hk a h' r p
  | exc x h' =>
    rw [e] at h
    have h : rv = .exc x (h' :: T) := h
    rw [h]
    exact ⟨T, rfl, FrR.refl⟩
  | bad => trivial
theorem OkF.ext {ts1 : Ts} {δ1 : Env} {T1 : Sto} {q : Q (Fw σ ρ)} (f : Fr ts δ T ts1 δ1 T1) (h : OkF n c ts1 δ1 T1 post k er q res) : OkF n c ts δ T post k er q res := by
  cases q with
  | ok w h' => cases w with
    | nxt s => obtain ⟨δ', T', e, A, g⟩ := h; exact ⟨δ', T', e, A, f.trans g⟩
    | out a => obtain ⟨r, T', e, g, v⟩ := h; exact ⟨r, T', e, f.transR g, v⟩
  | exc x h' => obtain ⟨T', e, g⟩ := h; exact ⟨T', e, f.transR g⟩
  | bad => trivial
theorem OkF.bind {f : σ → M (Fw τ ρ)} {post2 : τ → Ts} {kk : Env → Sto → Res Fl} (h : OkF n c ts δ T p1 k er (mf H) res) (hk : ∀ s h δ' T', At n c (p1 s) δ' T' → OkF n c (p1 s) δ' T' post2 k er (f s h) (kk δ' (h :: T'))) :
    OkF n c ts δ T post2 k er (bndF mf f H) (res.andThen fun fl S => match fl with
      | .next δ => kk δ S
      | .ret r => .ok (.ret r) S) := by
  show OkF n c ts δ T post2 k er (bndQ _ (mf H)) _
  cases e : mf H with
  | ok w h' =>
    rw [e] at h
    cases w with
    | nxt s =>
      obtain ⟨δ', T', rfl, A, g⟩ := h
      exact (hk s h' δ' T' A).ext g
    | out a =>
      obtain ⟨r, T', rfl, g, v⟩ := h
      exact ⟨r, T', rfl, g, v⟩
  | exc x h' =>
    rw [e] at h
    obtain ⟨T', rfl, g⟩ := h
    exact ⟨T', rfl, g⟩
  | bad => trivial
theorem thenS_match {ss : Sts} (fl : Fl) (S : Sto) : thenS X.z X.cl X.Φ ss fl S = match fl with
    | .next δ => execs X.z X.cl X.Φ ss δ S
    | .ret r => .ok (.ret r) S := by
  cases fl <;> rfl
/-! ### rows of statements -/
theorem JF.seq {f : σ → M (Fw τ ρ)} {post2 : τ → Ts} (h : JF X (r1 X s) ts mf p1 k er) (g : ∀ x, JF X (rs X ss) (p1 x) (f x) post2 k er) : JF X (rs X (.cons s ss)) ts (bndF mf f) post2 k er := fun c δ T H A => by
  show OkF _ _ _ _ _ _ _ _ _ (execs X.z X.cl X.Φ (.cons s ss) δ (H :: T))
  rw [execs_cons_eq]
  have e : thenS X.z X.cl X.Φ ss = fun fl S => match fl with
    | .next δ => execs X.z X.cl X.Φ ss δ S
    | .ret r => .ok (.ret r) S := by
    funext fl S
    exact thenS_match fl S
  rw [e]
  exact (h c δ T H A).bind fun x h' δ' T' B => g x c δ' T' h' B
theorem JF.cons {f : σ → M (Fw τ ρ)} {post2 : τ → Ts} (h : JN X (r1 X s) ts m p1) (g : ∀ x, JF X (rs X ss) (p1 x) (f x) post2 k er) : JF X (rs X (.cons s ss)) ts (bnd m f) post2 k er := by
  have q := JF.seq (h.toF (k := k) (er := er)) g
  rwa [bndF_ofnxt] at q
theorem JN.cons {f : σ → M τ} {post2 : τ → Ts} (h : JN X (r1 X s) ts m p1) (g : ∀ x, JN X (rs X ss) (p1 x) (f x) post2) : JN X (rs X (.cons s ss)) ts (bnd m f) post2 := by
  have q := JF.cons (k := .d) (er := eU) h fun x => (g x).toF
  refine JF.toN (er := eU) ?_
  rw [nxt_bnd]
  exact q
theorem Jr.cons {f : σ → M ρ} (h : JN X (r1 X s) ts m p1) (g : ∀ x, Jr X (rs X ss) (p1 x) (f x) k er) : Jr X (rs X (.cons s ss)) ts (bnd m f) k er := by
  have q := JF.cons (k := k) (er := er) (post2 := fun _ : Unit => []) h fun x => (g x).toF
  refine JF.toR (post := fun _ => []) ?_
  rw [out_bnd]
  exact q
theorem Jr.seq {f : σ → M ρ} (h : JF X (r1 X s) ts mf p1 k er) (g : ∀ x, Jr X (rs X ss) (p1 x) (f x) k er) : Jr X (rs X (.cons s ss)) ts (bndR mf f) k er := by
  have q := JF.seq (post2 := fun _ : Unit => []) h fun x => (g x).toF
  refine JF.toR (post := fun _ => []) ?_
  have e : (out (bndR mf f) : M (Fw Unit ρ)) = bndF mf fun x => out (f x) := by
    show bnd (bnd mf _) _ = bnd mf _
    rw [bnd_assoc]
    congr 1
    funext w
    cases w <;> rfl
  rw [e]
  exact q
/-! ### less is known -/
inductive Le : Sl → Sl → Prop where
  | refl {s : Sl} : Le s s
  | no {s : Sl} : Le .no s
  | fo {ds : List D} : Le (.frz ds) (.own ds)
  | df {ds : List D} : Le (.d (.lst ds)) (.frz ds)
  | eo {ds : List D} : Le (.d (.lst ds)) (.own ds)
  | dv {x : D} : Le (.d x) (.v x)
  | dw {x : D} : Le (.d x) (.w x)
  | wv {x : D} : Le (.w x) (.v x)
  | wf {ds : List D} : Le (.w (.lst ds)) (.frz ds)
  | wo {ds : List D} : Le (.w (.lst ds)) (.own ds)
def SubL : Ts → Ts → Prop
  | [], _ => True
  | (i, s) :: r, ts => Le s (tsAt ts i) ∧ SubL r ts
theorem SubL.at {ts : Ts} : ∀ {ts' : Ts}, SubL ts' ts → ∀ i, Le (tsAt ts' i) (tsAt ts i)
  | [], _, i => .no
  | (j, s) :: r, h, i => by
    by_cases e : j = i
    · subst e; rw [tsAt_cons_same]; exact h.1
    · rw [tsAt_cons_ne e]; exact SubL.at h.2 i
theorem Le.ow {s s' : Sl} (h : Le s s') (o : s.ow = true) : s = s' := by
  cases h with
  | refl => rfl
  | no => cases o
  | fo => cases o
  | df => cases o
  | eo => cases o
  | dv => cases o
  | dw => cases o
  | wv => cases o
  | wf => cases o
  | wo => cases o
theorem Le.isno {s : Sl} (h : Le s .no) : s = .no := by
  generalize e : Sl.no = s' at h
  cases h <;> first | rfl | (cases e; rfl) | cases e
theorem Le.ok {s s' : Sl} {o : Option R} (h : Le s s') (q : SlOk T c s' o) : SlOk T c s o := by
  cases h with
  | refl => exact q
  | no => trivial
  | fo => exact q
  | df => obtain ⟨l, e, hl, e2⟩ := q; exact ⟨_, e, .inr ⟨_, l, rfl, rfl, e2⟩⟩
  | eo => obtain ⟨l, e, hl, e2⟩ := q; exact ⟨_, e, .inr ⟨_, l, rfl, rfl, e2⟩⟩
  | dv => exact ⟨_, q, .inl rfl⟩
  | dw =>
    rcases q with q | ⟨ds, l, e1, q, _, e2⟩
    · exact ⟨_, q, .inl rfl⟩
    · exact ⟨_, q, .inr ⟨ds, l, e1, rfl, e2⟩⟩
  | wv => exact .inl q
  | wf => obtain ⟨l, e, hl, e2⟩ := q; exact .inr ⟨_, l, rfl, e, hl, e2⟩
  | wo => obtain ⟨l, e, hl, e2⟩ := q; exact .inr ⟨_, l, rfl, e, hl, e2⟩
theorem At.wk (h : SubL ts' ts) (A : At n c ts δ T) : At n c ts' δ T :=
  ⟨A.len, A.cT, fun i => (h.at i).ok (A.sl i), fun i j l hne e1 e2 ho => by
    have q := (h.at i).ow ho
    rw [q] at ho
    have q2 := A.dis i j l hne e1 e2 ho
    have q3 := h.at j
    rw [q2] at q3
    exact q3.isno⟩
theorem Own.wk (h : SubL ts' ts) {l : Nat} (o : Own ts' δ l) : Own ts δ l := by
  obtain ⟨i, ho, e⟩ := o
  refine ⟨i, ?_, e⟩
  rw [← (h.at i).ow ho]
  exact ho
theorem JF.wk (h : SubL ts' ts) (g : JF X run ts' mf post k er) : JF X run ts mf post k er := fun c δ T H A => (g c δ T H (A.wk h)).ext (Fr.of fun l o => o.wk h)
theorem JN.wk (h : SubL ts' ts) (g : JN X run ts' m post) : JN X run ts m post := JF.toN (er := eU) ((g.toF).wk h)
theorem Jr.wk (h : SubL ts' ts) (g : Jr X run ts' mr k er) : Jr X run ts mr k er := JF.toR (post := fun _ => []) ((g.toF).wk h)
theorem JN.nil {x : σ} (h : SubL (post x) ts) : JN X (rs X .nil) ts (rtn x) post := fun c δ T H A => ⟨δ, T, rfl, A.wk h, Fr.of fun l o => o.wk h⟩
theorem JF.nil {x : σ} (h : SubL (post x) ts) : JF X (rs X .nil) ts (rtn (.nxt x)) post k er := fun c δ T H A => ⟨δ, T, rfl, A.wk h, Fr.of fun l o => o.wk h⟩
theorem JF.nil0 : JF X (rs X .nil) ts (rtn (.nxt ())) (fun _ => ts) k er := fun c δ T H A => ⟨δ, T, rfl, A, Fr.refl⟩
/-! ### single statements -/
theorem setF {i : Nat} {x : D} {h : O} (hi : i < n) (A : At n c ts δ T) : ∃ δ' T', Res.ok (Fl.next (δ.set i (some (.d x)))) (h :: T) = .ok (.next δ') (h :: T') ∧ At n c ((i, .d x) :: ts) δ' T' ∧ Fr ts δ T ((i, .d x) :: ts) δ' T' :=
  ⟨_, T, rfl, A.setD hi, Fr.of fun l o => o.setD rfl⟩
theorem JN.asg {i : Nat} (hi : Nat.blt i X.n = true) (hk : k.nl = true) (h : Jv X k e ts ma em) : JN X (r1 X (.asg i false e)) ts ma (fun x => (i, .d (em x)) :: ts) := fun c δ T H A => by
  have q := (h c δ T H A).bindN (f := rtn) (n := X.n) (c := c) (ts := ts) (δ := δ) (post := fun x => (i, .d (em x)) :: ts) (kk := fun r S => (bindR i false r δ S).andThen fun δ S => Res.ok (Fl.next δ) S) fun x h r v => by
    have e : (bindR i false r δ (h :: T)).andThen (fun δ S => Res.ok (Fl.next δ) S) = .ok (.next (δ.set i (some (.d (em x))))) (h :: T) := by
      show ((toA r (h :: T)).andThen fun a S => Res.ok (δ.set i (some a)) S).andThen (fun δ S => Res.ok (Fl.next δ) S) = _
      have e : toA r (h :: T) = .ok (.d (em x)) (h :: T) := by
        show (match r.frz with
          | .d x => Res.ok (R.d x) (h :: T)
          | .loc l => .ok (.loc l) (h :: T)
          | _ => .bad) = _
        rw [v.frz hk]
      rw [e]
      rfl
    rw [e]
    exact setF (Nat.le_of_ble_eq_true hi) A
  rw [bnd_ret] at q
  exact q
/-- a list that is no place -/
theorem JN.asgW {i : Nat} (hi : Nat.blt i X.n = true) (hk : k.nl = true) (h : Jv X k e ts ma em) : JN X (r1 X (.asg i false e)) ts ma (fun x => (i, .v (em x)) :: ts) := fun c δ T H A => by
  have q := (h c δ T H A).bindN (f := rtn) (n := X.n) (c := c) (ts := ts) (δ := δ) (post := fun x => (i, .v (em x)) :: ts) (kk := fun r S => (bindR i false r δ S).andThen fun δ S => Res.ok (Fl.next δ) S) fun x h r v => by
    have e : (bindR i false r δ (h :: T)).andThen (fun δ S => Res.ok (Fl.next δ) S) = .ok (.next (δ.set i (some (.d (em x))))) (h :: T) := by
      show ((toA r (h :: T)).andThen fun a S => Res.ok (δ.set i (some a)) S).andThen (fun δ S => Res.ok (Fl.next δ) S) = _
      have e : toA r (h :: T) = .ok (.d (em x)) (h :: T) := by
        show (match r.frz with
          | .d x => Res.ok (R.d x) (h :: T)
          | .loc l => .ok (.loc l) (h :: T)
          | _ => .bad) = _
        rw [v.frz hk]
      rw [e]
      rfl
    rw [e]
    exact ⟨_, T, rfl, A.setV (Nat.le_of_ble_eq_true hi), Fr.of fun l o => o.setD rfl⟩
  rw [bnd_ret] at q
  exact q
/-- a new place at the store's end -/
theorem At.grow (A : At n c ts δ T) (o : O) : At n c ts δ (T ++ [o]) := by
  have g : ∀ {l : Nat} {p : O}, T[l]? = some p → (T ++ [o])[l]? = some p := fun {l p} e => by
    rw [List.getElem?_append_left (List.getElem?_eq_some_iff.mp e).1]; exact e
  refine ⟨A.len, by rw [List.length_append]; have := A.cT; omega, fun i => ?_, A.dis⟩
  have q := A.sl i
  revert q
  cases tsAt ts i with
  | no => exact fun _ => trivial
  | d x =>
    rintro ⟨r, e, v⟩
    refine ⟨r, e, ?_⟩
    rcases v with v | ⟨ds, l, e1, e2, e3⟩
    · exact .inl v
    · exact .inr ⟨ds, l, e1, e2, g e3⟩
  | v x => exact fun q => q
  | w x =>
    rintro (q | ⟨ds, l, e1, e2, e3, e4⟩)
    · exact .inl q
    · exact .inr ⟨ds, l, e1, e2, e3, g e4⟩
  | frz ds => rintro ⟨l, e, hl, e2⟩; exact ⟨l, e, hl, g e2⟩
  | own ds => rintro ⟨l, e, hl, e2⟩; exact ⟨l, e, hl, g e2⟩
  | dic t kvs => rintro ⟨l, e, hl, e2⟩; exact ⟨l, e, hl, g e2⟩
  | bdic t kvs => rintro ⟨l, e, e2⟩; exact ⟨l, e, g e2⟩
  | hand => exact fun q => q
theorem FrR.grow (o : O) : FrR ts δ T (T ++ [o]) := ⟨by rw [List.length_append]; omega, fun l hl _ => List.getElem?_append_left hl⟩
/-- a slot gets a new place -/
theorem At.new {i : Nat} {o : O} {sl : Sl} (hi : i < n) (A : At n c ts δ T) (hs : SlOk (T ++ [o]) c sl (some (.loc (T.length + 1)))) (hn : sl ≠ .no) :
    At n c ((i, sl) :: ts) (δ.set i (some (.loc (T.length + 1)))) (T ++ [o]) ∧ Fr ts δ T ((i, sl) :: ts) (δ.set i (some (.loc (T.length + 1)))) (T ++ [o]) := by
  refine ⟨(A.grow o).set hi hs fun l j e hj ej => ?_, ⟨FrR.grow o, fun l ow => ?_⟩⟩
  · cases e
    have q : tsAt ts j = .no := by
      by_cases q : tsAt ts j = .no
      · exact q
      · exact absurd (A.lt ej q) (Nat.lt_irrefl _)
    exact ⟨fun ho => by (rw [q] at ho; cases ho), fun _ => q⟩
  · obtain ⟨j, ho, e⟩ := ow
    by_cases q : i = j
    · subst q
      rw [get_set_same (by rw [A.len]; exact hi)] at e
      cases e
      exact .inr (Nat.le_refl _)
    · rw [tsAt_cons_ne q] at ho
      rw [get_set_ne q] at e
      exact .inl ⟨j, ho, e⟩
theorem last_app {o : O} : (T ++ [o])[T.length]? = some o := by simp
theorem JN.asgL {i : Nat} {mx : M (List α)} (hi : Nat.blt i X.n = true) (h : Jv X .f e ts mx (eL em)) : JN X (r1 X (.asg i true e)) ts mx (fun x => (i, .own (x.map em)) :: ts) := fun c δ T H A => by
  have q := (h c δ T H A).bindN (f := rtn) (n := X.n) (c := c) (ts := ts) (δ := δ) (post := fun x => (i, .own (x.map em)) :: ts) (kk := fun r S => (bindR i true r δ S).andThen fun δ S => Res.ok (Fl.next δ) S) fun x h r v => by
    have v : ∃ ds, eL em x = .lst ds ∧ r = .fl ds := v
    obtain ⟨ds, e, e'⟩ := v
    subst e'
    cases e
    obtain ⟨B, f⟩ := A.new (o := .lst (x.map em)) (sl := .own (x.map em)) (Nat.le_of_ble_eq_true hi) ⟨T.length, rfl, A.cT, last_app⟩ (fun e => nomatch e)
    exact ⟨_, _, rfl, B, f⟩
  rw [bnd_ret] at q
  exact q
theorem JN.asgDic {i : Nat} {t : Bool} (hz : (X.z && t) = false) (hi : Nat.blt i X.n = true) : JN X (r1 X (.asg i true (.dic0 t))) ts (rtn ()) (fun _ => (i, .dic t []) :: ts) := fun c δ T H A => by
  obtain ⟨B, f⟩ := A.new (o := .dic t []) (sl := .dic t []) (Nat.le_of_ble_eq_true hi) ⟨T.length, rfl, A.cT, last_app⟩ (fun e => nomatch e)
  refine ⟨_, _, ?_, B, f⟩
  show ((if (X.z && t) = true then Res.bad else Res.ok (R.fd t []) (H :: T)).andThen fun r S => (bindR i true r δ S).andThen fun δ S => Res.ok (Fl.next δ) S) = _
  rw [hz]
  rfl
theorem At.wkp (h : ∀ i, Le (tsAt ts' i) (tsAt ts i)) (A : At n c ts δ T) : At n c ts' δ T :=
  ⟨A.len, A.cT, fun i => (h i).ok (A.sl i), fun i j l hne e1 e2 ho => by
    have q := (h i).ow ho
    rw [q] at ho
    have q2 := A.dis i j l hne e1 e2 ho
    have q3 := h j
    rw [q2] at q3
    exact q3.isno⟩
theorem Own.wkp (h : ∀ i, Le (tsAt ts' i) (tsAt ts i)) {l : Nat} (o : Own ts' δ l) : Own ts δ l := by
  obtain ⟨i, ho, e⟩ := o
  refine ⟨i, ?_, e⟩
  rw [← (h i).ow ho]
  exact ho
theorem Le.cons {j : Nat} {s : Sl} (h : Le s (tsAt ts j)) (i : Nat) : Le (tsAt ((j, s) :: ts) i) (tsAt ts i) := by
  by_cases e : j = i
  · subst e; rw [tsAt_cons_same]; exact h
  · rw [tsAt_cons_ne e]; exact .refl
theorem asg_loc {i j l : Nat} {bx : Bool} (e : δ.get j = some (.loc l)) : exec X.z X.cl X.Φ (.asg i bx (.var j)) δ (H :: T) = .ok (.next (δ.set i (some (.loc l)))) (H :: T) := by
  show ((ofO (H :: T) (δ.get j)).andThen fun r S => (bindR i bx r δ S).andThen fun δ S => Res.ok (Fl.next δ) S) = _
  rw [e]
  cases bx <;> rfl
/-- one list under two names: frozen -/
theorem JN.asgO {i j : Nat} {bx : Bool} {ds : List D} (hi : Nat.blt i X.n = true) (h : tsAt ts j = .own ds) : JN X (r1 X (.asg i bx (.var j))) ts (rtn ()) (fun _ => (i, .frz ds) :: (j, .frz ds) :: ts) := fun c δ T H A => by
  have lp : ∀ i, Le (tsAt ((j, .frz ds) :: ts) i) (tsAt ts i) := Le.cons (by rw [h]; exact .fo)
  have q := A.sl j
  rw [h] at q
  obtain ⟨l, e, hl, e2⟩ := q
  refine ⟨δ.set i (some (.loc (l + 1))), T, asg_loc e, (A.wkp lp).set (Nat.le_of_ble_eq_true hi) ⟨l, rfl, hl, e2⟩ fun l' j' e' hj ej => ?_, Fr.of fun l o => (o.setD rfl).wkp lp⟩
  cases e'
  refine ⟨fun ho => ?_, fun o => nomatch o⟩
  exfalso
  by_cases q : j = j'
  · subst q; rw [tsAt_cons_same] at ho; cases ho
  · rw [tsAt_cons_ne q] at ho
    have := A.dis j j' l q e ej (by rw [h]; rfl)
    rw [this] at ho; cases ho
theorem JN.asgF {i j : Nat} {bx : Bool} {ds : List D} (hi : Nat.blt i X.n = true) (h : tsAt ts j = .frz ds) : JN X (r1 X (.asg i bx (.var j))) ts (rtn ()) (fun _ => (i, .frz ds) :: ts) := fun c δ T H A => by
  have q := A.sl j
  rw [h] at q
  obtain ⟨l, e, hl, e2⟩ := q
  refine ⟨δ.set i (some (.loc (l + 1))), T, asg_loc e, A.set (Nat.le_of_ble_eq_true hi) ⟨l, rfl, hl, e2⟩ fun l' j' e' hj ej => ?_, Fr.of fun l o => (o.setD rfl)⟩
  cases e'
  refine ⟨fun ho => ?_, fun o => nomatch o⟩
  exfalso
  by_cases q : j = j'
  · subst q; rw [h] at ho; cases ho
  · have := A.dis j' j l (fun e => q e.symm) ej e ho
    rw [h] at this; cases this
theorem JN.asgV {i j : Nat} {x : D} (hi : Nat.blt i X.n = true) (h : tsAt ts j = .d x) : JN X (r1 X (.asg i false (.var j))) ts (rtn ()) (fun _ => (i, .d x) :: ts) := fun c δ T H A => by
  obtain ⟨r, e, v⟩ := A.get h
  have hs : SlOk T c (.d x) (some r) := ⟨r, rfl, v⟩
  have ex : exec X.z X.cl X.Φ (.asg i false (.var j)) δ (H :: T) = .ok (.next (δ.set i (some r))) (H :: T) := by
    show ((ofO (H :: T) (δ.get j)).andThen fun r S => (bindR i false r δ S).andThen fun δ S => Res.ok (Fl.next δ) S) = _
    rw [e]
    rcases v with rfl | ⟨ds, l, _, rfl, _⟩ <;> rfl
  refine ⟨δ.set i (some r), T, ex, A.set (Nat.le_of_ble_eq_true hi) hs fun l' j' e' hj ej => ⟨fun ho => ?_, fun o => nomatch o⟩, Fr.of fun l o => (o.setD rfl)⟩
  exfalso
  by_cases q : j = j'
  · subst q; rw [h] at ho; cases ho
  · have := A.dis j' j l' (fun e => q e.symm) ej (by rw [e, e']) ho
    rw [h] at this; cases this
theorem JN.aug {i : Nat} {o : BO} {f : Int → Int → Int} {x : Int} {me : M Int} (hi : Nat.blt i X.n = true) (ho : augF o = some f) (hx : tsAt ts i = .d (eI x)) (h : Jv X k e ts me eI) : JN X (r1 X (.aug i o e)) ts (bnd me fun y => rtn (f x y)) (fun y => (i, .d (eI y)) :: ts) := fun c δ T H A => by
  obtain ⟨r, er, v⟩ := A.get hx
  rw [v.int] at er
  show OkN _ _ _ _ _ _ _ (exec X.z X.cl X.Φ (.aug i o e) δ (H :: T))
  rw [exec_aug_eq, ho, er]
  refine (h c δ T H A).bindN fun y h2 r v => ?_
  rw [v.int]
  exact setF (Nat.le_of_ble_eq_true hi) A
theorem JN.exE (h : Jv X k e ts ma em) : JN X (r1 X (.ex e)) ts ma (fun _ => ts) := fun c δ T H A => by
  have q := (h c δ T H A).bindN (f := rtn) (n := X.n) (c := c) (ts := ts) (δ := δ) (post := fun _ => ts) (kk := fun r S => Res.ok (Fl.next δ) S) fun x h r v => ⟨δ, T, rfl, A, Fr.refl⟩
  rw [bnd_ret] at q
  exact q
theorem JN.pass : JN X (r1 X .pass) ts (rtn ()) (fun _ => ts) := fun c δ T H A => ⟨δ, T, rfl, A, Fr.refl⟩
theorem JN.rse : JN X (r1 X .rse) ts (bad : M σ) post := fun c δ T H A => trivial
theorem JN.unp {tg : Tg} {ents : α → Ts} (ht : Jt X.n tg em ents) (hn : NL em) (h : Jv X k e ts ma em) : JN X (r1 X (.unp tg e)) ts ma (fun x => ents x ++ ts) := fun c δ T H A => by
  have q := (h c δ T H A).bindN (f := rtn) (n := X.n) (c := c) (ts := ts) (δ := δ) (post := fun x => ents x ++ ts) (kk := fun r S => match r with
    | .d x => (match tg.set x δ with
      | some δ => Res.ok (Fl.next δ) S
      | none => .bad)
    | _ => .bad) fun x h r v => by
    rw [v.notlst (hn x)]
    obtain ⟨δ', e, B, o⟩ := ht x c ts δ T A
    show OkN _ _ _ _ _ _ _ (match tg.set (em x) δ with
      | some δ => .ok (.next δ) (h :: T)
      | none => .bad)
    rw [e]
    exact ⟨δ', T, rfl, B, Fr.of o⟩
  rw [bnd_ret] at q
  exact q
/-! ### choices -/
theorem JF.iff {mc : M Bool} {mb : M (Fw σ ρ)} {cE : E} (hc : Jv X k1 cE ts mc eB) (ha : JF X (rs X a) ts mf post k er) (hb : JF X (rs X b) ts mb post k er) : JF X (r1 X (.iff cE a b)) ts (mIf mc mf mb) post k er := fun c δ T H A =>
  (hc c δ T H A).bindF fun x h r v => by
    rw [v.bl, toB_bl, andThen_ok]
    cases x with
    | true => exact ha c δ T h A
    | false => exact hb c δ T h A
theorem JN.iff {mc : M Bool} {mb : M σ} {cE : E} (hc : Jv X k1 cE ts mc eB) (ha : JN X (rs X a) ts m post) (hb : JN X (rs X b) ts mb post) : JN X (r1 X (.iff cE a b)) ts (mIf mc m mb) post := by
  refine JF.toN (er := eU) ?_
  have q := JF.iff (k := .d) (er := eU) hc ha.toF hb.toF
  have e : (nxt (mIf mc m mb) : M (Fw σ Unit)) = mIf mc (nxt m) (nxt mb) := by
    simp [mIf]
  rw [e]
  exact q
/-- back in the one case, on in the other -/
theorem Jr.iffR {mc : M Bool} {mb : M ρ} {cE : E} (hc : Jv X k1 cE ts mc eB) (ha : Jr X (rs X a) ts mr k er) (hb : Jr X (rs X ss) ts mb k er) : Jr X (rs X (.cons (.iff cE a .nil) ss)) ts (mIf mc mr mb) k er := by
  have q := JF.iff (σ := Unit) (post := fun _ => ts) (k := k) (er := er) hc ha.toF JF.nil0
  have q2 := Jr.seq q fun _ => hb
  have e : bndR (mIf mc (out mr) (rtn (.nxt ()))) (fun _ : Unit => mb) = mIf mc mr mb := by
    simp only [mIf, bndR_bnd, bndR_ite, bndR_nxt]
    congr 1
    funext w
    cases w with
    | true =>
      show bnd (bnd mr _) _ = _
      rw [bnd_assoc]
      exact bnd_ret mr
    | false => rfl
  rw [e] at q2
  exact q2
theorem OkR.ret1 {q : Q α} {rv : Res R} (h : Ok T (fun x r => Vr k T r (em x)) q rv) (hk : k.nl = true) : OkR c ts δ T k em q ((rv.andThen fun r S => .ok (Fl.ret r) S).andThen (thenS X.z X.cl X.Φ ss)) := by
  cases q with
  | ok x h' =>
    obtain ⟨r, rfl, v⟩ := h
    refine ⟨r, T, rfl, FrR.refl, ?_⟩
    cases k with
    | d => exact v
    | f => obtain ⟨ds, e, v⟩ := v; exact ⟨ds, e, .inl v⟩
    | n =>
      rcases v with v | ⟨ds, e, v⟩
      · exact .inl v
      · exact .inr ⟨ds, e, .inl v⟩
    | a => cases hk
  | exc x h' =>
    have h : rv = .exc x (h' :: T) := h
    rw [h]
    exact ⟨T, rfl, FrR.refl⟩
  | bad => trivial
theorem Jr.ret1 (hk : k.nl = true) (h : Jv X k e ts ma em) : Jr X (rs X (.cons (.ret e) ss)) ts ma k em := fun c δ T H A => by
  show OkR _ _ _ _ _ _ _ (execs X.z X.cl X.Φ (.cons (.ret e) ss) δ (H :: T))
  rw [execs_cons_eq]
  exact OkR.ret1 (h c δ T H A) hk
theorem Jr.retO {j : Nat} {xs : List α} (h : tsAt ts j = .own (xs.map em)) : Jr X (rs X (.cons (.ret (.var j)) ss)) ts (rtn xs) .f (eL em) := fun c δ T H A => by
  show OkR _ _ _ _ _ _ _ (execs X.z X.cl X.Φ (.cons (.ret (.var j)) ss) δ (H :: T))
  have q := A.sl j
  rw [h] at q
  obtain ⟨l, e, hl, e2⟩ := q
  rw [execs_cons_eq, exec_ret_eq, ev_var_eq, e]
  exact ⟨_, T, rfl, FrR.refl, _, rfl, .inr ⟨l, rfl, hl, e2⟩⟩
theorem Jr.retF {j : Nat} {xs : List α} (h : tsAt ts j = .frz (xs.map em)) : Jr X (rs X (.cons (.ret (.var j)) ss)) ts (rtn xs) .f (eL em) := fun c δ T H A => by
  show OkR _ _ _ _ _ _ _ (execs X.z X.cl X.Φ (.cons (.ret (.var j)) ss) δ (H :: T))
  have q := A.sl j
  rw [h] at q
  obtain ⟨l, e, hl, e2⟩ := q
  rw [execs_cons_eq, exec_ret_eq, ev_var_eq, e]
  exact ⟨_, T, rfl, FrR.refl, _, rfl, .inr ⟨l, rfl, hl, e2⟩⟩
theorem Jr.retW {j : Nat} {x : α} (h : tsAt ts j = .w (em x)) : Jr X (rs X (.cons (.ret (.var j)) ss)) ts (rtn x) .n em := fun c δ T H A => by
  show OkR _ _ _ _ _ _ _ (execs X.z X.cl X.Φ (.cons (.ret (.var j)) ss) δ (H :: T))
  have q := A.sl j
  rw [h] at q
  rw [execs_cons_eq, exec_ret_eq, ev_var_eq]
  rcases q with q | ⟨ds, l, e1, q, hl, e2⟩
  · rw [q]; exact ⟨_, T, rfl, FrR.refl, .inl rfl⟩
  · rw [q]; exact ⟨_, T, rfl, FrR.refl, .inr ⟨ds, e1, .inr ⟨l, rfl, hl, e2⟩⟩⟩
/-- of any kind that is no place -/
theorem Vt.toN {T : Sto} {r : R} {x : D} {c : Nat} (h : Vt c k T r x) : Vt c .n T r x := by
  cases k with
  | d => exact .inl h
  | f => exact .inr h
  | n => exact h
  | a => exact h.elim
theorem Jr.toK (h : Jr X run ts mr k er) : Jr X run ts mr .n er := fun c δ T H A => by
  have q := h c δ T H A
  revert q
  cases mr H with
  | ok a h' => rintro ⟨r, T', e, f, v⟩; exact ⟨r, T', e, f, v.toN⟩
  | exc x h' => exact id
  | bad => exact id
theorem Jr.iffRR {mc : M Bool} {mb : M ρ} {cE : E} (hc : Jv X k1 cE ts mc eB) (ha : Jr X (rs X a) ts mr k er) (hb : Jr X (rs X b) ts mb k er) : Jr X (rs X (.cons (.iff cE a b) ss)) ts (mIf mc mr mb) k er := by
  have q := JF.iff (σ := Empty) (post := fun _ => ts) (k := k) (er := er) hc ha.toF hb.toF
  have q2 := Jr.seq (ss := ss) (f := fun x : Empty => x.elim) q fun x => x.elim
  have e : bndR (mIf mc (out mr) (out mb)) (fun x : Empty => x.elim) = mIf mc mr mb := by
    simp only [mIf, bndR_bnd, bndR_ite]
    congr 1
    funext w
    have o : ∀ m : M ρ, bndR (out m) (fun x : Empty => (x.elim : M ρ)) = m := fun m => by
      show bnd (bnd m _) _ = _
      rw [bnd_assoc]
      exact bnd_ret m
    rw [o, o]
  rw [e] at q2
  exact q2
/-- in a loop: back in the one case, on in the other -/
theorem JF.iffR {mc : M Bool} {mb : M (Fw σ ρ)} {cE : E} (hc : Jv X k1 cE ts mc eB) (ha : Jr X (rs X a) ts mr k er) (hb : JF X (rs X ss) ts mb post k er) : JF X (rs X (.cons (.iff cE a .nil) ss)) ts (mIf mc (out mr) mb) post k er := by
  have q := JF.iff (σ := Unit) (post := fun _ => ts) (k := k) (er := er) hc ha.toF JF.nil0
  have q2 := JF.seq q fun _ => hb
  have e : bndF (mIf mc (out mr) (rtn (.nxt ()))) (fun _ : Unit => mb) = mIf mc (out mr) mb := by
    simp only [mIf, bndF_bnd, bndF_ite, bndF_nxt]
    congr 1
    funext w
    cases w with
    | true =>
      show bnd (bnd mr _) _ = bnd mr _
      rw [bnd_assoc]
      rfl
    | false => rfl
  rw [e] at q2
  exact q2
/-! ### loops -/
def mFoldF (F : α → σ → M (Fw σ ρ)) : List α → σ → M (Fw σ ρ)
  | [], s => rtn (.nxt s)
  | x :: xs, s => bndF (F x s) (mFoldF F xs)
def Sr2 (ts : Ts) (δ : Env) (T : Sto) (src : Src) (ds : List D) : Prop := src = .fix ds ∨ ∃ k, src = .dyn k ∧ ∀ H T', (∀ l, l < T.length → ¬ Own ts δ l → T'[l]? = T[l]?) → k.items (H :: T') = some ds
def JS (X : Cx) (it : It) (ts : Ts) (m : M (List α)) (em : α → D) : Prop := ∀ c δ T H, At X.n c ts δ T → Ok T (fun xs src => Sr2 ts δ T src (xs.map em)) (m H) (evI X.z X.cl X.Φ it δ (H :: T))
theorem for_ok {inv : σ → Ts} {F : α → σ → M (Fw σ ρ)} {f : D → Env → Sto → Res Fl} {ts0 : Ts} {δ0 : Env} {T0 : Sto} {src : Src} {xs : List α} (hs : Sr2 ts0 δ0 T0 src (xs.map em)) (hf : ∀ x s, JF X (f (em x)) (inv s) (F x s) inv k er)
    (s : σ) (H : O) (δ : Env) (T : Sto) (A : At X.n c (inv s) δ T) (fr : Fr ts0 δ0 T0 (inv s) δ T) : OkF X.n c (inv s) δ T inv k er (mFoldF F xs s H) (forS src f δ (H :: T)) := by
  rcases hs with rfl | ⟨kk, rfl, hk⟩
  · show OkF _ _ _ _ _ _ _ _ _ (forD f (xs.map em) δ (H :: T))
    clear fr
    induction xs generalizing s H δ T with
    | nil => exact ⟨δ, T, rfl, A, Fr.refl⟩
    | cons x xs ih => exact (hf x s c δ T H A).bind fun s' h δ' T' B => ih s' h δ' T' B
  · have hk' : ∀ (s : σ) (H : O) (δ : Env) (T : Sto), Fr ts0 δ0 T0 (inv s) δ T → kk.items (H :: T) = some (xs.map em) := fun s H δ T fr => hk H T fr.r.same
    have e : (Src.dyn kk).len (H :: T) = xs.length := by
      show ((kk.items (H :: T)).getD []).length = _
      rw [hk' s H δ T fr]
      exact List.length_map ..
    show OkF _ _ _ _ _ _ _ _ _ (forN (.dyn kk) f ((Src.dyn kk).len (H :: T)) 0 δ (H :: T))
    rw [e]
    have q : ∀ (n i : Nat) (s : σ) (H : O) (δ : Env) (T : Sto), At X.n c (inv s) δ T → Fr ts0 δ0 T0 (inv s) δ T → i + n = xs.length → OkF X.n c (inv s) δ T inv k er (mFoldF F (xs.drop i) s H) (forN (.dyn kk) f n i δ (H :: T)) := by
      intro n
      induction n with
      | zero =>
        intro i s H δ T A fr hi
        have h1 : (Src.dyn kk).here (H :: T) = true := by
          show (kk.items (H :: T)).isSome = true
          rw [hk' s H δ T fr]; rfl
        have h2 : (Src.dyn kk).at? (H :: T) i = none := by
          show (kk.items (H :: T)).bind _ = none
          rw [hk' s H δ T fr]
          show (xs.map em)[i]? = none
          rw [List.getElem?_eq_none (by rw [List.length_map]; omega)]
        rw [List.drop_of_length_le (by omega)]
        show OkF _ _ _ _ _ _ _ _ _ (if (Src.dyn kk).here (H :: T) = true ∧ (Src.dyn kk).at? (H :: T) i = none then .ok (.next δ) (H :: T) else .bad)
        rw [if_pos ⟨h1, h2⟩]
        exact ⟨δ, T, rfl, A, Fr.refl⟩
      | succ n ih =>
        intro i s H δ T A fr hi
        have h1 : (Src.dyn kk).here (H :: T) = true := by
          show (kk.items (H :: T)).isSome = true
          rw [hk' s H δ T fr]; rfl
        have hlt : i < xs.length := by omega
        have h2 : (Src.dyn kk).at? (H :: T) i = some (em xs[i]) := by
          show (kk.items (H :: T)).bind _ = _
          rw [hk' s H δ T fr]
          show (xs.map em)[i]? = _
          rw [List.getElem?_map, List.getElem?_eq_getElem hlt]
          rfl
        rw [List.drop_eq_getElem_cons hlt]
        show OkF _ _ _ _ _ _ _ _ _ (if (Src.dyn kk).here (H :: T) = true then (match (Src.dyn kk).at? (H :: T) i with
          | some x => (f x δ (H :: T)).andThen fun a S => (match a with
            | .next δ => forN (.dyn kk) f n (i + 1) δ S
            | .ret r => .ok (.ret r) S)
          | none => .ok (.next δ) (H :: T)) else .bad)
        rw [if_pos h1, h2]
        have hb := hf xs[i] s c δ T H A
        show OkF _ _ _ _ _ _ _ _ (bndQ _ (F xs[i] s H)) _
        revert hb
        generalize F xs[i] s H = qq
        intro hb
        cases qq with
        | ok w h' =>
          cases w with
          | nxt s' =>
            obtain ⟨δ', T', e, B, g⟩ := hb
            show OkF _ _ _ _ _ _ _ _ _ ((f (em xs[i]) δ (H :: T)).andThen _)
            rw [e]
            exact (ih (i + 1) s' h' δ' T' B (fr.trans g) (by omega)).ext g
          | out a =>
            obtain ⟨r, T', e, g, v⟩ := hb
            show OkF _ _ _ _ _ _ _ _ _ ((f (em xs[i]) δ (H :: T)).andThen _)
            rw [e]
            exact ⟨r, T', rfl, g, v⟩
        | exc x h' =>
          obtain ⟨T', e, g⟩ := hb
          show OkF _ _ _ _ _ _ _ _ _ ((f (em xs[i]) δ (H :: T)).andThen _)
          rw [e]
          exact ⟨T', rfl, g⟩
        | bad => trivial
    exact q xs.length 0 s H δ T A fr (by omega)
theorem JF.tgt {tg : Tg} {ents : α → Ts} {x : α} (ht : Jt X.n tg em ents) (h : JF X run (ents x ++ ts) mf post k er) : JF X (fun δ S => match tg.set (em x) δ with
    | some δ => run δ S
    | none => .bad) ts mf post k er := fun c δ T H A => by
  obtain ⟨δ', e, B, o⟩ := ht x c ts δ T A
  show OkF _ _ _ _ _ _ _ _ _ (match tg.set (em x) δ with
    | some δ => run δ (H :: T)
    | none => Res.bad)
  rw [e]
  exact (h c δ' T H B).ext (Fr.of o)
theorem JF.for {tg : Tg} {it : It} {inv : σ → Ts} {ents : α → Ts} {mx : M (List α)} {F : α → σ → M (Fw σ ρ)} (s0 : σ) (hs : JS X it ts mx em) (ht : Jt X.n tg em ents) (h0 : SubL (inv s0) ts) (hb : ∀ x s, JF X (rs X b) (ents x ++ inv s) (F x s) inv k er) :
    JF X (r1 X (.for tg it b)) ts (bnd mx fun xs => mFoldF F xs s0) inv k er := fun c δ T H A => by
  show OkF _ _ _ _ _ _ _ _ _ (exec X.z X.cl X.Φ (.for tg it b) δ (H :: T))
  rw [exec_for_eq]
  refine (hs c δ T H A).bindF fun xs h src q => ?_
  exact (for_ok q (fun x s => JF.tgt ht (hb x s)) s0 h δ T (A.wk h0) (Fr.of fun l o => o.wk h0)).ext (Fr.of fun l o => o.wk h0)
theorem mFoldF_nxt (F : α → σ → M σ) (xs : List α) (s : σ) : mFoldF (ρ := ρ) (fun x s => nxt (F x s)) xs s = nxt (mFold F xs s) := by
  induction xs generalizing s with
  | nil => rfl
  | cons x xs ih =>
    show bndF (nxt (F x s)) _ = nxt (bnd (F x s) (mFold F xs))
    rw [bndF_ofnxt, nxt_bnd]
    congr 1
    funext s'
    exact ih s'
theorem JN.for {tg : Tg} {it : It} {inv : σ → Ts} {ents : α → Ts} {mx : M (List α)} {F : α → σ → M σ} (s0 : σ) (hs : JS X it ts mx em) (ht : Jt X.n tg em ents) (h0 : SubL (inv s0) ts) (hb : ∀ x s, JN X (rs X b) (ents x ++ inv s) (F x s) inv) :
    JN X (r1 X (.for tg it b)) ts (bnd mx fun xs => mFold F xs s0) inv := by
  refine JF.toN (er := eU) ?_
  have q := JF.for (k := .d) (er := eU) s0 hs ht h0 fun x s => (hb x s).toF
  rw [nxt_bnd]
  have e : (fun xs => mFoldF (ρ := Unit) (fun x s => nxt (F x s)) xs s0) = fun xs => nxt (mFold F xs s0) := by
    funext xs
    exact mFoldF_nxt F xs s0
  rw [e] at q
  exact q
/-! sources of loops -/
theorem JS.seqE {el : List α → D} {xs : M (List α)} (hs : ∀ xs, seqD (el xs) = some (xs.map em)) (hk : k.nl = true) (ha : Jv X k e ts xs el) : JS X (.seq e) ts xs em := fun c δ T H A => by
  have q := (ha c δ T H A).bind (f := rtn) (P' := fun x src => Sr2 ts δ T src (x.map em)) (k := fun x S => (toA x S).andThen fun x S => srcOf x S) fun x h r v => by
    have e : toA r (h :: T) = .ok (.d (el x)) (h :: T) := by
      show (match r.frz with
        | .d x => Res.ok (R.d x) (h :: T)
        | .loc l => .ok (.loc l) (h :: T)
        | _ => .bad) = _
      rw [v.frz hk]
    rw [e]
    have hs := hs x
    show Ok T _ _ (srcOf (.d (el x)) (h :: T))
    cases e3 : el x <;> rw [e3] at hs <;> cases hs
    · exact ⟨_, rfl, .inl rfl⟩
    · exact ⟨_, rfl, .inl rfl⟩
  rw [bnd_ret] at q
  exact q
/-- a name's list that no one owns -/
def Fz (s : Sl) (ds : List D) : Prop := s = .d (.lst ds) ∨ s = .d (.tup ds) ∨ s = .frz ds ∨ s = .v (.lst ds) ∨ s = .w (.lst ds)
theorem Fz.get {i : Nat} {ds : List D} (h : Fz (tsAt ts i) ds) (A : At n c ts δ T) : ∃ r, δ.get i = some r ∧ (r = .d (.lst ds) ∨ r = .d (.tup ds) ∨ ∃ l, r = .loc (l + 1) ∧ l < T.length ∧ T[l]? = some (.lst ds) ∧ ¬ Own ts δ l) := by
  have no : ∀ {l : Nat}, δ.get i = some (.loc (l + 1)) → (tsAt ts i).ow = false → tsAt ts i ≠ .no → ¬ Own ts δ l := fun {l} e ho hn => by
    rintro ⟨j, oj, ej⟩
    by_cases q : j = i
    · subst q; rw [ho] at oj; cases oj
    · exact hn (A.dis j i l q ej e oj)
  have q := A.sl i
  rcases h with h | h | h | h | h
  · have ho : (tsAt ts i).ow = false := by rw [h]; rfl
    have hn : tsAt ts i ≠ .no := by rw [h]; exact fun e => nomatch e
    rw [h] at q
    obtain ⟨r, e, v⟩ := q
    rcases v with rfl | ⟨ds', l, e1, rfl, e2⟩
    · exact ⟨_, e, .inl rfl⟩
    · cases e1
      exact ⟨_, e, .inr (.inr ⟨l, rfl, (List.getElem?_eq_some_iff.mp e2).1, e2, no e ho hn⟩)⟩
  · rw [h] at q
    obtain ⟨r, e, v⟩ := q
    rw [v.tup] at e
    exact ⟨_, e, .inr (.inl rfl)⟩
  · have ho : (tsAt ts i).ow = false := by rw [h]; rfl
    have hn : tsAt ts i ≠ .no := by rw [h]; exact fun e => nomatch e
    rw [h] at q
    obtain ⟨l, e, hl, e2⟩ := q
    exact ⟨_, e, .inr (.inr ⟨l, rfl, (List.getElem?_eq_some_iff.mp e2).1, e2, no e ho hn⟩)⟩
  · rw [h] at q
    exact ⟨_, q, .inl rfl⟩
  · have ho : (tsAt ts i).ow = false := by rw [h]; rfl
    have hn : tsAt ts i ≠ .no := by rw [h]; exact fun e => nomatch e
    rw [h] at q
    rcases q with q | ⟨ds', l, e1, e, hl, e2⟩
    · exact ⟨_, q, .inl rfl⟩
    · cases e1
      exact ⟨_, e, .inr (.inr ⟨l, rfl, (List.getElem?_eq_some_iff.mp e2).1, e2, no e ho hn⟩)⟩
theorem JS.seqV {i : Nat} {xs : List α} (h : Fz (tsAt ts i) (xs.map em)) : JS X (.seq (.var i)) ts (rtn xs) em := fun c δ T H A => by
  obtain ⟨r, e, v⟩ := h.get A
  show Ok T _ _ (evI X.z X.cl X.Φ (.seq (.var i)) δ (H :: T))
  rw [evI_seq_eq, ev_var_eq, e]
  rcases v with rfl | rfl | ⟨l, rfl, hl, e2, no⟩
  · exact ⟨_, rfl, .inl rfl⟩
  · exact ⟨_, rfl, .inl rfl⟩
  · refine ⟨.dyn (.lst (l + 1)), ?_, .inr ⟨_, rfl, fun H' T' hT => ?_⟩⟩
    · show (match T[l]? with
        | some (.lst _) => Res.ok (Src.dyn (.lst (l + 1))) (H :: T)
        | _ => .bad) = _
      rw [e2]
    · show (match T'[l]? with
        | some (.lst ds) => some ds
        | _ => none) = _
      rw [hT l hl no, e2]
theorem JS.enumV {i : Nat} {xs : List α} (h : Fz (tsAt ts i) (xs.map em)) : JS X (.enum (.var i)) ts (rtn (enumZ xs)) (e2 eI em) := fun c δ T H A => by
  obtain ⟨r, e, v⟩ := h.get A
  show Ok T _ _ (evI X.z X.cl X.Φ (.enum (.var i)) δ (H :: T))
  rw [evI_enum_eq, ev_var_eq, e]
  rcases v with rfl | rfl | ⟨l, rfl, hl, e2, no⟩
  · exact ⟨.fix (enumD (xs.map em)), rfl, .inl (by rw [enumD_map])⟩
  · exact ⟨.fix (enumD (xs.map em)), rfl, .inl (by rw [enumD_map])⟩
  · have st : ∀ H T', T'[l]? = T[l]? → stoL (H :: T') (l + 1) = some (xs.map em) := fun H T' e3 => by
      show (match T'[l]? with
        | some (.lst ds) => some ds
        | _ => none) = _
      rw [e3, e2]
    refine ⟨.dyn (.en (l + 1)), ?_, .inr ⟨_, rfl, fun H' T' hT => ?_⟩⟩
    · show (if (stoL (H :: T) (l + 1)).isSome = true then Res.ok (Src.dyn (.en (l + 1))) (H :: T) else .bad) = _
      rw [st H T rfl]; rfl
    · show (stoL (H' :: T') (l + 1)).map enumD = _
      rw [st H' T' (hT l hl no), ← enumD_map]
      rfl
theorem JS.rng {ai bi : M Int} {a b : E} (ha : Jv X k1 a ts ai eI) (hb : Jv X k2 b ts bi eI) : JS X (.rng a b) ts (m2 (fun x y => mRng x y) ai bi) eI := fun c δ T H A =>
  (ha c δ T H A).bind fun x h r v => (hb c δ T h A).bind fun y h2 s w => by
    have q := (rng_ok (T := T) (H := h2) v w).bind (f := rtn) (P' := fun (xs : List Int) src => Sr2 ts δ T src (xs.map eI)) (k := fun ds S => .ok (.fix ds) S) fun xs h3 ds q => ⟨_, rfl, .inl (by rw [q])⟩
    rw [bnd_ret] at q
    exact q
theorem JS.enumE {el : List α → D} {xs : M (List α)} (hs : ∀ xs, seqD (el xs) = some (xs.map em)) (hk : k.nl = true) (ha : Jv X k e ts xs el) : JS X (.enum e) ts (m1 (fun x => rtn (enumZ x)) xs) (e2 eI em) := fun c δ T H A => by
  refine (ha c δ T H A).bind fun x h r v => ?_
  have e : toA r (h :: T) = .ok (.d (el x)) (h :: T) := by
    show (match r.frz with
      | .d x => Res.ok (R.d x) (h :: T)
      | .loc l => .ok (.loc l) (h :: T)
      | _ => .bad) = _
    rw [v.frz hk]
  rw [e]
  have hs := hs x
  cases e3 : el x <;> rw [e3] at hs <;> cases hs
  · exact ⟨.fix (enumD (x.map em)), rfl, .inl (by rw [enumD_map])⟩
  · exact ⟨.fix (enumD (x.map em)), rfl, .inl (by rw [enumD_map])⟩
theorem JS.zipT {ea : α → D} {eb : β → D} {a b : E} {xs : M (List α)} {ys : M (List β)} (ha : Jv X k1 a ts xs (eT ea)) (hb : Jv X k2 b ts ys (eT eb)) : JS X (.zip a b) ts (m2 (fun x y => rtn (x.zip y)) xs ys) (e2 ea eb) := fun c δ T H A =>
  (ha c δ T H A).bind fun x h r v => Ok.toA v fun r' v' => (hb c δ T h A).bind fun y h2 s w => Ok.toA w fun s' w' => by
    rw [v'.tup, w'.tup]
    exact ⟨.fix (zipD (x.map ea) (y.map eb)), rfl, .inl (by rw [zipD_map])⟩
/-! while -/
/-- that many, not to be computed -/
noncomputable def mostN : Nat := opq most
theorem mostN_eq : mostN = most := opq_eq most
def mWhlF (cn : σ → M Bool) (b : σ → M (Fw σ ρ)) : Nat → σ → M (Fw σ ρ)
  | 0, _ => bad
  | n + 1, s => bnd (cn s) fun k => if k = true then bndF (b s) (mWhlF cn b n) else rtn (.nxt s)
def mWhl (cn : σ → M Bool) (b : σ → M σ) : Nat → σ → M σ
  | 0, _ => bad
  | n + 1, s => bnd (cn s) fun k => if k = true then bnd (b s) (mWhl cn b n) else rtn s
theorem JF.whl {inv : σ → Ts} {cn : σ → M Bool} {F : σ → M (Fw σ ρ)} {cE : E} (s0 : σ) (h0 : SubL (inv s0) ts) (hc : ∀ s, Jv X k1 cE (inv s) (cn s) eB) (hb : ∀ s, JF X (rs X b) (inv s) (F s) inv k er) : JF X (r1 X (.whl cE b)) ts (mWhlF cn F mostN s0) inv k er := by
  refine JF.wk h0 ?_
  have q : ∀ n s, JF X (fun δ S => whileN (fun δ S => (ev X.z X.cl X.Φ cE δ S).andThen fun x S => toB x S) (execs X.z X.cl X.Φ b) n δ S) (inv s) (mWhlF cn F n s) inv k er := by
    intro n
    induction n with
    | zero => exact fun s c δ T H A => trivial
    | succ n ih =>
      intro s c δ T H A
      show OkF _ _ _ _ _ _ _ _ _ (((ev X.z X.cl X.Φ cE δ (H :: T)).andThen fun x S => toB x S).andThen fun k S => if k = true then (execs X.z X.cl X.Φ b δ S).andThen fun f S => match f with
        | .next δ => whileN (fun δ S => (ev X.z X.cl X.Φ cE δ S).andThen fun x S => toB x S) (execs X.z X.cl X.Φ b) n δ S
        | .ret r => .ok (.ret r) S else .ok (.next δ) S)
      have hcb := (hc s c δ T H A).bind (f := rtn) (P' := fun (x : Bool) r => r = x) (k := fun x S => toB x S) fun x h r v => by
        rw [v.bl]; exact ⟨x, rfl, rfl⟩
      rw [bnd_ret] at hcb
      refine hcb.bindF fun x h r v => ?_
      subst v
      cases r with
      | true => exact (hb s c δ T h A).bind fun s' h' δ' T' B => ih s' c δ' T' h' B
      | false => exact ⟨δ, T, rfl, A, Fr.refl⟩
  have e : mostN = most := mostN_eq
  rw [e]
  exact q most s0
theorem mWhlF_nxt (cn : σ → M Bool) (b : σ → M σ) (n : Nat) (s : σ) : mWhlF (ρ := ρ) cn (fun s => nxt (b s)) n s = nxt (mWhl cn b n s) := by
  induction n generalizing s with
  | zero => rfl
  | succ n ih =>
    show bnd (cn s) _ = nxt (bnd (cn s) _)
    rw [nxt_bnd]
    congr 1
    funext k
    cases k with
    | false => rfl
    | true =>
      show bndF (nxt (b s)) _ = nxt (bnd (b s) _)
      rw [bndF_ofnxt, nxt_bnd]
      congr 1
      funext s'
      exact ih s'
theorem JN.whl {inv : σ → Ts} {cn : σ → M Bool} {F : σ → M σ} {cE : E} (s0 : σ) (h0 : SubL (inv s0) ts) (hc : ∀ s, Jv X k1 cE (inv s) (cn s) eB) (hb : ∀ s, JN X (rs X b) (inv s) (F s) inv) : JN X (r1 X (.whl cE b)) ts (mWhl cn F mostN s0) inv := by
  refine JF.toN (er := eU) ?_
  have q := JF.whl (k := .d) (er := eU) s0 h0 hc fun s => (hb s).toF
  rw [mWhlF_nxt] at q
  exact q
end
end Mi.J

set_option Elab.async false
set_option linter.all false
set_option maxRecDepth 100000
set_option maxHeartbeats 1000000
/-! Mj7: lists that change, several names at once, defs. -/
namespace Mi.J
open PySem
section
variable {σ τ ρ α β γ : Type} {X : Cx} {run : Env → Sto → Res Fl} {ts ts' : Ts} {k k' k1 k2 k3 : K} {er : ρ → D} {post p1 : σ → Ts} {s : St} {ss : Sts} {n c : Nat} {δ : Env} {T : Sto} {H : O} {res : Res Fl} {m : M σ} {mr : M ρ} {mf : M (Fw σ ρ)} {e : E} {em : α → D} {eb : β → D} {ma : M α} {a b : Sts}
/-- the list at an owned place changes -/
theorem At.upd {i l : Nat} {o : O} {sl : Sl} (A : At n c ts δ T) (ho : (tsAt ts i).ow = true) (e : δ.get i = some (.loc (l + 1))) (hs : SlOk (T.set l o) c sl (some (.loc (l + 1)))) :
    At n c ((i, sl) :: ts) δ (T.set l o) ∧ Fr ts δ T ((i, sl) :: ts) δ (T.set l o) := by
  have hi : i < δ.length := by
    by_cases q : i < δ.length
    · exact q
    · exfalso
      unfold Env.get at e
      rw [List.getElem?_eq_none (by omega)] at e
      cases e
  have ne : ∀ j, j ≠ i → tsAt ts j ≠ .no → δ.get j ≠ some (.loc (l + 1)) := fun j hj hn ej => hn (A.dis i j l (fun q => hj q.symm) e ej ho)
  have sm : ∀ {l' : Nat} {p : O}, l' ≠ l → T[l']? = some p → (T.set l o)[l']? = some p := fun {l' p} hl q => by rw [List.getElem?_set_ne (fun q => hl q.symm)]; exact q
  refine ⟨⟨A.len, by rw [List.length_set]; exact A.cT, fun j => ?_, fun j1 j2 l' hne e1 e2 ho' => ?_⟩, ⟨⟨by rw [List.length_set]; omega, fun l' hl no => ?_⟩, fun l' ow => ?_⟩⟩
  · by_cases q : i = j
    · subst q; rw [tsAt_cons_same, e]; exact hs
    · rw [tsAt_cons_ne q]
      have h1 := A.sl j
      have h2 := ne j (fun e => q e.symm)
      revert h1 h2
      cases tsAt ts j with
      | no => exact fun _ _ => trivial
      | d x =>
        rintro ⟨r, e1, v⟩ h2
        refine ⟨r, e1, ?_⟩
        rcases v with v | ⟨ds, l', e3, e4, e5⟩
        · exact .inl v
        · exact .inr ⟨ds, l', e3, e4, sm (fun q => h2 (fun e => nomatch e) (by rw [e1, e4, q])) e5⟩
      | v x => exact fun q _ => q
      | w x =>
        rintro (q | ⟨ds, l', e1, e2, e3, e4⟩) h2
        · exact .inl q
        · exact .inr ⟨ds, l', e1, e2, e3, sm (fun q => h2 (fun e => nomatch e) (by rw [e2, q])) e4⟩
      | frz ds => rintro ⟨l', e1, hl, e5⟩ h2; exact ⟨l', e1, hl, sm (fun q => h2 (fun e => nomatch e) (by rw [e1, q])) e5⟩
      | own ds => rintro ⟨l', e1, hl, e5⟩ h2; exact ⟨l', e1, hl, sm (fun q => h2 (fun e => nomatch e) (by rw [e1, q])) e5⟩
      | dic t kvs => rintro ⟨l', e1, hl, e5⟩ h2; exact ⟨l', e1, hl, sm (fun q => h2 (fun e => nomatch e) (by rw [e1, q])) e5⟩
      | bdic t kvs => rintro ⟨l', e1, e5⟩ h2; exact ⟨l', e1, sm (fun q => h2 (fun e => nomatch e) (by rw [e1, q])) e5⟩
      | hand => exact fun q _ => q
  · by_cases q : i = j1
    · subst q
      rw [tsAt_cons_ne hne]
      exact A.dis i j2 l' hne e1 e2 ho
    · rw [tsAt_cons_ne q] at ho'
      by_cases q2 : i = j2
      · subst q2
        have := A.dis j1 i l' hne e1 e2 ho'
        rw [this] at ho; cases ho
      · rw [tsAt_cons_ne q2]; exact A.dis j1 j2 l' hne e1 e2 ho'
  · have hl' : l ≠ l' := fun q => no ⟨i, ho, by rw [← q]; exact e⟩
    exact List.getElem?_set_ne hl'
  · obtain ⟨j, oj, ej⟩ := ow
    by_cases q : i = j
    · subst q; exact .inl ⟨i, ho, ej⟩
    · rw [tsAt_cons_ne q] at oj; exact .inl ⟨j, oj, ej⟩
theorem stoL_at {l : Nat} {ds : List D} (h : T[l]? = some (.lst ds)) : stoL (H :: T) (l + 1) = some ds := by
  show (match T[l]? with
    | some (.lst ds) => some ds
    | _ => none) = _
  rw [h]
theorem kind_at {l : Nat} {ds : List D} (h : T[l]? = some (.lst ds)) : (R.loc (l + 1)).kind (H :: T) = some .lst := by
  have v : Va T (.loc (l + 1)) (.lst ds) := .inr ⟨ds, l, rfl, rfl, h⟩
  exact v.kind
theorem At.own {i : Nat} {ds : List D} (A : At n c ts δ T) (h : tsAt ts i = .own ds) : ∃ l, δ.get i = some (.loc (l + 1)) ∧ c ≤ l ∧ T[l]? = some (.lst ds) := by
  have q := A.sl i
  rw [h] at q
  exact q
/-- the owned list of name i becomes another -/
theorem At.lst {i l : Nat} {ds ds' : List D} (A : At n c ts δ T) (h : tsAt ts i = .own ds) (e : δ.get i = some (.loc (l + 1))) (hc : c ≤ l) (e2 : T[l]? = some (.lst ds)) :
    At n c ((i, .own ds') :: ts) δ (T.set l (.lst ds')) ∧ Fr ts δ T ((i, .own ds') :: ts) δ (T.set l (.lst ds')) :=
  A.upd (by rw [h]; rfl) e ⟨l, rfl, hc, by rw [List.getElem?_set_self (List.getElem?_eq_some_iff.mp e2).1]⟩
@[irreducible] noncomputable def mApp {α : Type} (xs : List α) (x : α) : M (List α) := opq (grd (decide (xs.length < lim)) (rtn (xs ++ [x])))
theorem mApp_def {α : Type} (xs : List α) (x : α) : mApp xs x = grd (decide (xs.length < lim)) (rtn (xs ++ [x])) := by
  unfold mApp
  exact opq_eq _
@[irreducible] noncomputable def mExt {α : Type} (xs ys : List α) : M (List α) := opq (grd (decide (xs.length + ys.length ≤ lim)) (rtn (xs ++ ys)))
theorem mExt_def {α : Type} (xs ys : List α) : mExt xs ys = grd (decide (xs.length + ys.length ≤ lim)) (rtn (xs ++ ys)) := by
  unfold mExt
  exact opq_eq _
theorem meth1 {i l : Nat} {ds : List D} {mth : M1} {q : E} (e : δ.get i = some (.loc (l + 1))) (e2 : T[l]? = some (.lst ds)) (hm : m1ok X.z mth .lst = true) :
    ev X.z X.cl X.Φ (.m1 mth (.var i) q) δ (H :: T) = (ev X.z X.cl X.Φ q δ (H :: T)).andThen fun y S => (toA y S).andThen fun y S => m1op X.z .lst mth (.loc (l + 1)) y S := by
  rw [ev_m1_eq, ev_var_eq, e]
  show (match (R.loc (l + 1)).kind (H :: T) with
    | some k => if m1ok X.z mth k = true then (ev X.z X.cl X.Φ q δ (H :: T)).andThen fun y S => (toA y S).andThen fun y S => m1op X.z k mth (.loc (l + 1)) y S else .bad
    | none => .bad) = _
  rw [kind_at e2]
  show (if m1ok X.z mth .lst = true then _ else _) = _
  rw [if_pos hm]
theorem toA_nl {r : R} {x : D} {S : Sto} (hk : k.nl = true) (v : Vr k T r x) : toA r S = .ok (.d x) S := by
  show (match r.frz with
    | .d x => Res.ok (R.d x) S
    | .loc l => .ok (.loc l) S
    | _ => .bad) = _
  rw [v.frz hk]
theorem JN.app {i : Nat} {xs : List α} (hi : tsAt ts i = .own (xs.map em)) (hk : k.nl = true) (h : Jv X k e ts ma em) : JN X (r1 X (.ex (.m1 .append (.var i) e))) ts (bnd ma fun x => mApp xs x) (fun ys => (i, .own (ys.map em)) :: ts) := fun c δ T H A => by
  obtain ⟨l, el, hc, e2⟩ := A.own hi
  show OkN _ _ _ _ _ _ _ (exec X.z X.cl X.Φ (.ex (.m1 .append (.var i) e)) δ (H :: T))
  rw [exec_ex_eq, meth1 el e2 rfl]
  have q := (h c δ T H A).bindN (f := fun x => mApp xs x) (n := X.n) (c := c) (ts := ts) (δ := δ) (post := fun ys => (i, .own (ys.map em)) :: ts) (kk := fun r S => ((toA r S).andThen fun y S => m1op X.z .lst .append (.loc (l + 1)) y S).andThen fun _ S => .ok (Fl.next δ) S) fun x h r v => by
    rw [toA_nl hk v, andThen_ok]
    have em1 : m1op X.z .lst .append (.loc (l + 1)) (.d (em x)) (h :: T) = if (xs.map em).length < lim then .ok (.d .non) (h :: T.set l (.lst (xs.map em ++ [em x]))) else .bad := by
      show (match stoL (h :: T) (l + 1), R.d (em x) with
        | some ds, .d y => if ds.length < lim then Res.ok (R.d .non) ((h :: T).set (l + 1) (.lst (ds ++ [y]))) else .bad
        | _, _ => .bad) = _
      rw [stoL_at e2]
      rfl
    rw [em1, List.length_map]
    rw [mApp_def]
    by_cases q : xs.length < lim
    · rw [if_pos q, decide_eq_true q]
      have e3 : xs.map em ++ [em x] = (xs ++ [x]).map em := by rw [List.map_append]; rfl
      rw [e3]
      obtain ⟨B, f⟩ := A.lst (ds' := (xs ++ [x]).map em) hi el hc e2
      exact ⟨δ, _, rfl, B, f⟩
    · rw [decide_eq_false q]; trivial
  revert q
  cases ev X.z X.cl X.Φ e δ (H :: T) <;> exact id
theorem JN.ext {i : Nat} {xs : List α} {mx : M (List α)} (hi : tsAt ts i = .own (xs.map em)) (hk : k.nl = true) (h : Jv X k e ts mx (eL em)) : JN X (r1 X (.ex (.m1 .extend (.var i) e))) ts (bnd mx fun x => mExt xs x) (fun ys => (i, .own (ys.map em)) :: ts) := fun c δ T H A => by
  obtain ⟨l, el, hc, e2⟩ := A.own hi
  show OkN _ _ _ _ _ _ _ (exec X.z X.cl X.Φ (.ex (.m1 .extend (.var i) e)) δ (H :: T))
  rw [exec_ex_eq, meth1 el e2 rfl]
  have q := (h c δ T H A).bindN (f := fun x => mExt xs x) (n := X.n) (c := c) (ts := ts) (δ := δ) (post := fun ys => (i, .own (ys.map em)) :: ts) (kk := fun r S => ((toA r S).andThen fun y S => m1op X.z .lst .extend (.loc (l + 1)) y S).andThen fun _ S => .ok (Fl.next δ) S) fun x h r v => by
    rw [toA_nl hk v, andThen_ok]
    have em1 : m1op X.z .lst .extend (.loc (l + 1)) (.d (eL em x)) (h :: T) = if (xs.map em).length + (x.map em).length ≤ lim then .ok (.d .non) (h :: T.set l (.lst (xs.map em ++ x.map em))) else .bad := by
      show (match stoL (h :: T) (l + 1), R.d (eL em x) with
        | some ds, .d (.lst es) => if ds.length + es.length ≤ lim then Res.ok (R.d .non) ((h :: T).set (l + 1) (.lst (ds ++ es))) else .bad
        | _, _ => .bad) = _
      rw [stoL_at e2]
      rfl
    rw [em1, List.length_map, List.length_map]
    rw [mExt_def]
    by_cases q : xs.length + x.length ≤ lim
    · rw [if_pos q, decide_eq_true q, ← List.map_append]
      obtain ⟨B, f⟩ := A.lst (ds' := (xs ++ x).map em) hi el hc e2
      exact ⟨δ, _, rfl, B, f⟩
    · rw [decide_eq_false q]; trivial
  revert q
  cases ev X.z X.cl X.Φ e δ (H :: T) <;> exact id
def mPop {α : Type} (xs : List α) : M (α × List α) := match xs.getLast? with
  | some x => rtn (x, xs.dropLast)
  | none => bad
theorem pop_at {i l : Nat} {xs : List α} {ds : List D} (e : δ.get i = some (.loc (l + 1))) (e2 : T[l]? = some (.lst (xs.map em))) :
    Ok T (fun (_ : Unit) (_ : Unit) => True) (.bad : Q Unit) .bad ∧ ev X.z X.cl X.Φ (.m0 .pop (.var i)) δ (H :: T) = match xs.getLast? with
      | some x => .ok (.d (em x)) (H :: T.set l (.lst (xs.dropLast.map em)))
      | none => .bad := by
  refine ⟨trivial, ?_⟩
  rw [ev_m0_eq, ev_var_eq, e]
  show (match (R.loc (l + 1)).kind (H :: T) with
    | some k => if m0ok .pop k = true then m0op k .pop (.loc (l + 1)) (H :: T) else .bad
    | none => .bad) = _
  rw [kind_at e2]
  show (match stoL (H :: T) (l + 1) with
    | some ds => (match ds.getLast? with
      | some x => Res.ok (R.d x) ((H :: T).set (l + 1) (.lst ds.dropLast))
      | none => .bad)
    | none => .bad) = _
  rw [stoL_at e2]
  show (match (xs.map em).getLast? with
    | some x => Res.ok (R.d x) ((H :: T).set (l + 1) (.lst (xs.map em).dropLast))
    | none => .bad) = _
  rw [List.getLast?_map]
  cases xs.getLast? with
  | none => rfl
  | some x => rw [← List.map_dropLast]; rfl
theorem own_cons {i j : Nat} {s : Sl} (h : tsAt ts i = .own ds) (hj : i ≠ j) : tsAt ((j, s) :: ts) i = .own ds := by rw [tsAt_cons_ne (fun e => hj e.symm)]; exact h
theorem JN.pop {i j : Nat} {xs : List α} (hi : tsAt ts i = .own (xs.map em)) (hj : Nat.blt j X.n = true) : JN X (r1 X (.asg j false (.m0 .pop (.var i)))) ts (mPop xs) (fun p => (j, .d (em p.1)) :: (i, .own (p.2.map em)) :: ts) := fun c δ T H A => by
  obtain ⟨l, el, hc, e2⟩ := A.own hi
  show OkN _ _ _ _ _ _ _ (exec X.z X.cl X.Φ (.asg j false (.m0 .pop (.var i))) δ (H :: T))
  rw [exec_asg_eq, (pop_at (ds := []) el e2).2]
  unfold mPop
  cases xs.getLast? with
  | none => trivial
  | some x =>
    obtain ⟨B, f⟩ := A.lst (ds' := xs.dropLast.map em) hi el hc e2
    exact ⟨_, _, rfl, B.setD (Nat.le_of_ble_eq_true hj), f.trans (Fr.of fun l o => o.setD rfl)⟩
def mPopAt {α : Type} (xs : List α) (i : Int) : M (α × List α) := match L2.ixN xs.length i with
  | some j => (match xs[j]? with
    | some x => rtn (x, xs.eraseIdx j)
    | none => bad)
  | none => bad
theorem erase_map (xs : List α) (j : Nat) : (xs.map em).eraseIdx j = (xs.eraseIdx j).map em := by
  induction xs generalizing j with
  | nil => rfl
  | cons x xs ih =>
    cases j with
    | zero => rfl
    | succ j =>
      show em x :: (xs.map em).eraseIdx j = em x :: (xs.eraseIdx j).map em
      rw [ih]
theorem m1pop {l : Nat} {xs : List α} {x : Int} (e2 : T[l]? = some (.lst (xs.map em))) : m1op X.z .lst .pop (.loc (l + 1)) (.d (.int x)) (H :: T) = match L2.ixN xs.length x with
    | some j => (match xs[j]? with
      | some y => .ok (.d (em y)) (H :: T.set l (.lst ((xs.eraseIdx j).map em)))
      | none => .bad)
    | none => .bad := by
  show (match stoL (H :: T) (l + 1), R.d (.int x) with
    | some ds, .d (.int i) => (match L2.ixN ds.length i with
      | some j => (match ds[j]? with
        | some y => Res.ok (R.d y) ((H :: T).set (l + 1) (.lst (ds.eraseIdx j)))
        | none => .bad)
      | none => .bad)
    | _, _ => .bad) = _
  rw [stoL_at e2]
  show (match L2.ixN (xs.map em).length x with
    | some j => (match (xs.map em)[j]? with
      | some y => Res.ok (R.d y) ((H :: T).set (l + 1) (.lst ((xs.map em).eraseIdx j)))
      | none => .bad)
    | none => .bad) = _
  rw [List.length_map]
  cases L2.ixN xs.length x with
  | none => rfl
  | some j =>
    cases e : xs[j]? with
    | none => simp [e]
    | some y => simp [e, erase_map]
theorem JN.popAt {i j : Nat} {xs : List α} {mi : M Int} (hi : tsAt ts i = .own (xs.map em)) (hj : Nat.blt j X.n = true) (h : Jv X k e ts mi eI) : JN X (r1 X (.asg j false (.m1 .pop (.var i) e))) ts (bnd mi fun x => mPopAt xs x) (fun p => (j, .d (em p.1)) :: (i, .own (p.2.map em)) :: ts) := fun c δ T H A => by
  obtain ⟨l, el, hc, e2⟩ := A.own hi
  show OkN _ _ _ _ _ _ _ (exec X.z X.cl X.Φ (.asg j false (.m1 .pop (.var i) e)) δ (H :: T))
  rw [exec_asg_eq, meth1 el e2 rfl]
  have q := (h c δ T H A).bindN (f := fun x => mPopAt xs x) (n := X.n) (c := c) (ts := ts) (δ := δ) (post := fun p => (j, .d (em p.1)) :: (i, .own (p.2.map em)) :: ts) (kk := fun r S => ((toA r S).andThen fun y S => m1op X.z .lst .pop (.loc (l + 1)) y S).andThen fun r S => (bindR j false r δ S).andThen fun δ S => Res.ok (Fl.next δ) S) fun x h r v => by
    rw [v.int]
    show OkN _ _ _ _ _ _ _ ((m1op X.z .lst .pop (.loc (l + 1)) (.d (.int x)) (h :: T)).andThen _)
    rw [m1pop e2]
    unfold mPopAt
    cases L2.ixN xs.length x with
    | none => trivial
    | some jj =>
      simp only
      cases xs[jj]? with
      | none => trivial
      | some y =>
        obtain ⟨B, f⟩ := A.lst (ds' := (xs.eraseIdx jj).map em) hi el hc e2
        exact ⟨_, _, rfl, B.setD (Nat.le_of_ble_eq_true hj), f.trans (Fr.of fun l o => o.setD rfl)⟩
  revert q
  cases ev X.z X.cl X.Φ e δ (H :: T) <;> exact id
/-- found.append(pool.pop(i)) -/
theorem JN.appPop {i j : Nat} {xs ys : List α} {mi : M Int} (hij : Nat.beq i j = false) (hi : tsAt ts i = .own (xs.map em)) (hj : tsAt ts j = .own (ys.map em)) (h : Jv X k e ts mi eI) :
    JN X (r1 X (.ex (.m1 .append (.var i) (.m1 .pop (.var j) e)))) ts (bnd mi fun x => bnd (mPopAt ys x) fun p => bnd (mApp xs p.1) fun zs => rtn (zs, p.2)) (fun q => (i, .own (q.1.map em)) :: (j, .own (q.2.map em)) :: ts) := fun c δ T H A => by
  have hne : i ≠ j := fun e => by rw [e, Nat.beq_refl] at hij; cases hij
  obtain ⟨l, el, hc, e2⟩ := A.own hi
  obtain ⟨l2, el2, hc2, e3⟩ := A.own hj
  have hl : l ≠ l2 := fun q => by
    subst q
    have := A.dis i j l hne el el2 (by rw [hi]; rfl)
    rw [hj] at this; cases this
  show OkN _ _ _ _ _ _ _ (exec X.z X.cl X.Φ (.ex (.m1 .append (.var i) (.m1 .pop (.var j) e))) δ (H :: T))
  rw [exec_ex_eq, meth1 el e2 rfl, meth1 el2 e3 rfl]
  have q := (h c δ T H A).bindN (f := fun x => bnd (mPopAt ys x) fun p => bnd (mApp xs p.1) fun zs => rtn (zs, p.2)) (n := X.n) (c := c) (ts := ts) (δ := δ) (post := fun q => (i, .own (q.1.map em)) :: (j, .own (q.2.map em)) :: ts) (kk := fun r S => (((toA r S).andThen fun y S => m1op X.z .lst .pop (.loc (l2 + 1)) y S).andThen fun r S => (toA r S).andThen fun y S => m1op X.z .lst .append (.loc (l + 1)) y S).andThen fun r S => Res.ok (Fl.next δ) S) fun x h r v => by
    rw [v.int]
    show OkN _ _ _ _ _ _ _ (((m1op X.z .lst .pop (.loc (l2 + 1)) (.d (.int x)) (h :: T)).andThen fun r S => (toA r S).andThen fun y S => m1op X.z .lst .append (.loc (l + 1)) y S).andThen fun r S => Res.ok (Fl.next δ) S)
    rw [m1pop e3]
    unfold mPopAt
    cases L2.ixN ys.length x with
    | none => trivial
    | some jj =>
      simp only
      cases ys[jj]? with
      | none => trivial
      | some y =>
        obtain ⟨B, f⟩ := A.lst (ds' := (ys.eraseIdx jj).map em) hj el2 hc2 e3
        have e2' : (T.set l2 (.lst ((ys.eraseIdx jj).map em)))[l]? = some (.lst (xs.map em)) := by rw [List.getElem?_set_ne (fun q => hl q.symm)]; exact e2
        have hi' : tsAt ((j, .own ((ys.eraseIdx jj).map em)) :: ts) i = .own (xs.map em) := own_cons hi hne
        have em1 : m1op X.z .lst .append (.loc (l + 1)) (.d (em y)) (h :: T.set l2 (.lst ((ys.eraseIdx jj).map em))) = if (xs.map em).length < lim then .ok (.d .non) (h :: (T.set l2 (.lst ((ys.eraseIdx jj).map em))).set l (.lst (xs.map em ++ [em y]))) else .bad := by
          show (match stoL (h :: T.set l2 (.lst ((ys.eraseIdx jj).map em))) (l + 1), R.d (em y) with
            | some ds, .d y => if ds.length < lim then Res.ok (R.d .non) ((h :: T.set l2 (.lst ((ys.eraseIdx jj).map em))).set (l + 1) (.lst (ds ++ [y]))) else .bad
            | _, _ => .bad) = _
          rw [stoL_at e2']
          rfl
        show OkN _ _ _ _ _ _ _ ((m1op X.z .lst .append (.loc (l + 1)) (.d (em y)) (h :: T.set l2 (.lst ((ys.eraseIdx jj).map em)))).andThen fun r S => Res.ok (Fl.next δ) S)
        rw [em1, List.length_map, ret_bnd]
        rw [mApp_def]
        by_cases q : xs.length < lim
        · rw [if_pos q, decide_eq_true q]
          have e4 : xs.map em ++ [em y] = (xs ++ [y]).map em := by rw [List.map_append]; rfl
          rw [e4]
          obtain ⟨B2, f2⟩ := B.lst (ds' := (xs ++ [y]).map em) hi' el hc e2'
          exact ⟨δ, _, rfl, B2, f.trans f2⟩
        · rw [decide_eq_false q]; trivial
  revert q
  cases ev X.z X.cl X.Φ e δ (H :: T) <;> exact id
def mSet {α : Type} (xs : List α) (i : Int) (x : α) : M (List α) := match L2.ixN xs.length i with
  | some j => rtn (xs.set j x)
  | none => bad
theorem JN.setL {i : Nat} {xs : List α} {mi : M Int} {ie : E} (hi : tsAt ts i = .own (xs.map em)) (hk : k.nl = true) (hv : Jv X k e ts ma em) (hx : Jv X k2 ie ts mi eI) : JN X (r1 X (.setix (.var i) ie e)) ts (bnd ma fun v => bnd mi fun j => mSet xs j v) (fun ys => (i, .own (ys.map em)) :: ts) := fun c δ T H A => by
  obtain ⟨l, el, hc, e2⟩ := A.own hi
  show OkN _ _ _ _ _ _ _ (exec X.z X.cl X.Φ (.setix (.var i) ie e) δ (H :: T))
  rw [exec_setix_eq]
  refine (hv c δ T H A).bindN fun v h r q => ?_
  rw [toA_nl hk q, andThen_ok, ev_var_eq, el]
  show OkN _ _ _ _ _ _ _ ((ev X.z X.cl X.Φ ie δ (h :: T)).andThen fun i S => (toA i S).andThen fun i S => (setop (.loc (l + 1)) i (.d (em v)) S).andThen fun _ S => Res.ok (Fl.next δ) S)
  refine (hx c δ T h A).bindN fun j h2 r q => ?_
  rw [q.int]
  show OkN _ _ _ _ _ _ _ ((setop (.loc (l + 1)) (.d (.int j)) (.d (em v)) (h2 :: T)).andThen fun _ S => Res.ok (Fl.next δ) S)
  have e3 : setop (.loc (l + 1)) (.d (.int j)) (.d (em v)) (h2 :: T) = match L2.ixN xs.length j with
      | some j => .ok () (h2 :: T.set l (.lst ((xs.set j v).map em)))
      | none => .bad := by
    show (match T[l]?, R.d (em v) with
      | some (.lst ds), .d y => (match R.d (.int j) with
        | .d (.int k) => (match L2.ixN ds.length k with
          | some j => Res.ok () ((h2 :: T).set (l + 1) (.lst (ds.set j y)))
          | none => .bad)
        | _ => .bad)
      | some (.dic t kvs), .d y => (match R.d (.int j) with
        | .d k => if keyB t k = true ∧ kvs.length < lim then Res.ok () ((h2 :: T).set (l + 1) (.dic t (put k y kvs))) else .bad
        | _ => .bad)
      | _, _ => .bad) = _
    rw [e2]
    show (match L2.ixN (xs.map em).length j with
      | some j => Res.ok () ((h2 :: T).set (l + 1) (.lst ((xs.map em).set j (em v))))
      | none => .bad) = _
    rw [List.length_map]
    cases L2.ixN xs.length j with
    | none => rfl
    | some j =>
      show Res.ok () (h2 :: T.set l (.lst ((xs.map em).set j (em v)))) = .ok () (h2 :: T.set l (.lst ((xs.set j v).map em)))
      rw [List.map_set]
  rw [e3]
  unfold mSet
  cases L2.ixN xs.length j with
  | none => trivial
  | some j =>
    obtain ⟨B, f⟩ := A.lst (ds' := (xs.set j v).map em) hi el hc e2
    exact ⟨δ, _, rfl, B, f⟩
/-! ### several names at once -/
def Grow (T T' : Sto) : Prop := T.length ≤ T'.length ∧ ∀ l, l < T.length → T'[l]? = T[l]?
theorem Grow.refl : Grow T T := ⟨Nat.le_refl _, fun _ _ => rfl⟩
theorem Grow.trans {T1 T2 : Sto} (h : Grow T T1) (g : Grow T1 T2) : Grow T T2 := ⟨Nat.le_trans h.1 g.1, fun l hl => by
  have := h.1
  rw [g.2 l (by omega), h.2 l hl]⟩
theorem Grow.at {T' : Sto} (g : Grow T T') {l : Nat} {o : O} (h : T[l]? = some o) : T'[l]? = some o := by
  rw [g.2 l (List.getElem?_eq_some_iff.mp h).1]; exact h
theorem At.grows {T' : Sto} (g : Grow T T') (A : At n c ts δ T) : At n c ts δ T' := by
  refine ⟨A.len, by have := A.cT; have := g.1; omega, fun i => ?_, A.dis⟩
  have q := A.sl i
  revert q
  cases tsAt ts i with
  | no => exact fun _ => trivial
  | d x =>
    rintro ⟨r, e, v⟩
    refine ⟨r, e, ?_⟩
    rcases v with v | ⟨ds, l, e1, e2, e3⟩
    · exact .inl v
    · exact .inr ⟨ds, l, e1, e2, g.at e3⟩
  | v x => exact fun q => q
  | w x =>
    rintro (q | ⟨ds, l, e1, e2, e3, e4⟩)
    · exact .inl q
    · exact .inr ⟨ds, l, e1, e2, e3, g.at e4⟩
  | frz ds => rintro ⟨l, e, hl, e2⟩; exact ⟨l, e, hl, g.at e2⟩
  | own ds => rintro ⟨l, e, hl, e2⟩; exact ⟨l, e, hl, g.at e2⟩
  | dic t kvs => rintro ⟨l, e, hl, e2⟩; exact ⟨l, e, hl, g.at e2⟩
  | bdic t kvs => rintro ⟨l, e, e2⟩; exact ⟨l, e, g.at e2⟩
  | hand => exact fun q => q
/-- values that wait for their names -/
def Pend (n : Nat) (T' : Sto) : Nat → List (Nat × Bool) → List R → Ts → Prop
  | _, [], [], [] => True
  | lo, (i, _) :: xs, r :: rs, (j, s) :: es => i = j ∧ i < n ∧ ((∃ x, r = .d x ∧ s = .d x ∧ Pend n T' lo xs rs es) ∨ ∃ l ds, r = .loc (l + 1) ∧ s = .own ds ∧ lo ≤ l ∧ T'[l]? = some (.lst ds) ∧ Pend n T' (l + 1) xs rs es)
  | _, _, _, _ => False
theorem Pend.set {T0 T' : Sto} : ∀ {xs : List (Nat × Bool)} {rs : List R} {es : Ts} {lo : Nat} {ts : Ts} {δ : Env}, Pend n T' lo xs rs es → At n c ts δ T' → c ≤ lo → (∀ i l, tsAt ts i ≠ .no → δ.get i = some (.loc (l + 1)) → l < lo) → T0.length ≤ lo →
    At n c (es.reverse ++ ts) (setAll xs rs δ) T' ∧ ∀ l, Own (es.reverse ++ ts) (setAll xs rs δ) l → Own ts δ l ∨ T0.length ≤ l
  | [], [], [], lo, ts, δ, h, A, _, _, _ => ⟨by rw [setAll_nil]; exact A, fun l o => .inl (by rw [setAll_nil] at o; exact o)⟩
  | (i, bx) :: xs, r :: rs, (j, s) :: es, lo, ts, δ, h, A, hc, hlo, h0 => by
    obtain ⟨rfl, hi, h⟩ := h
    rw [setAll_cons, List.reverse_cons, List.append_assoc]
    rcases h with ⟨x, rfl, rfl, h⟩ | ⟨l, ds, rfl, rfl, hl, e, h⟩
    · obtain ⟨B, o⟩ := Pend.set (T0 := T0) h (A.setD (x := x) hi) hc (fun j l hn e => by
        by_cases q : i = j
        · subst q; rw [get_set_same (by rw [A.len]; exact hi)] at e; cases e
        · rw [tsAt_cons_ne q] at hn; rw [get_set_ne q] at e; exact hlo j l hn e) h0
      refine ⟨B, fun l ow => ?_⟩
      rcases o l ow with o | o
      · exact .inl (o.setD rfl)
      · exact .inr o
    · have A2 : At n c ((i, .own ds) :: ts) (δ.set i (some (.loc (l + 1)))) T' := A.set hi ⟨l, rfl, by omega, e⟩ fun l' j e hj ej => by
        cases e
        have q : tsAt ts j = .no := by
          by_cases q : tsAt ts j = .no
          · exact q
          · exact absurd (hlo j l q ej) (by omega)
        exact ⟨fun ho => by (rw [q] at ho; cases ho), fun _ => q⟩
      obtain ⟨B, o⟩ := Pend.set (T0 := T0) h A2 (by omega) (fun j l' hn e => by
        by_cases q : i = j
        · subst q; rw [get_set_same (by rw [A.len]; exact hi)] at e; cases e; omega
        · rw [tsAt_cons_ne q] at hn; rw [get_set_ne q] at e; have := hlo j l' hn e; omega) (by omega)
      refine ⟨B, fun l' ow => ?_⟩
      rcases o l' ow with ⟨j, oj, ej⟩ | o
      · by_cases q : i = j
        · subst q; rw [get_set_same (by rw [A.len]; exact hi)] at ej; cases ej; right; omega
        · rw [tsAt_cons_ne q] at oj; rw [get_set_ne q] at ej; exact .inl ⟨j, oj, ej⟩
      · exact .inr o
def OkP (n : Nat) (T : Sto) (xs : List (Nat × Bool)) (ents : α → Ts) (q : Q α) (res : Res (List R)) : Prop := match q with
  | .ok a h => ∃ rs T', res = .ok rs (h :: T') ∧ Grow T T' ∧ Pend n T' T.length xs rs (ents a)
  | .exc x h => ∃ T', res = .exc x (h :: T') ∧ Grow T T'
  | .bad => True
def Jp (X : Cx) (xs : List (Nat × Bool)) (es : Es) (ts : Ts) (m : M α) (ents : α → Ts) : Prop := ∀ c δ T H, At X.n c ts δ T → OkP X.n T xs ents (m H) (evp X.z X.cl X.Φ xs es δ (H :: T))
theorem Jp.nil : Jp X [] .nil ts (rtn ()) (fun _ => []) := fun c δ T H A => ⟨[], T, rfl, Grow.refl, trivial⟩
theorem Jp.consD {i : Nat} {xs : List (Nat × Bool)} {es : Es} {mb : M β} {ents : β → Ts} (hi : Nat.blt i X.n = true) (hk : k.nl = true) (h : Jv X k e ts ma em) (g : Jp X xs es ts mb ents) : Jp X ((i, false) :: xs) (.cons e es) ts (m2 (fun x y => rtn (x, y)) ma mb) (fun p => (i, .d (em p.1)) :: ents p.2) := fun c δ T H A => by
  rw [evp_cons]
  show OkP _ _ _ _ (bndQ _ (ma H)) _
  have h := h c δ T H A
  cases e1 : ma H with
  | bad => trivial
  | exc x h' =>
    rw [e1] at h
    have h : ev X.z X.cl X.Φ e δ (H :: T) = .exc x (h' :: T) := h
    rw [h]
    exact ⟨T, rfl, Grow.refl⟩
  | ok a h' =>
    rw [e1] at h
    obtain ⟨r, e2, v⟩ := h
    rw [e2, andThen_ok, boxR_f, toA_nl hk v, andThen_ok]
    show OkP _ _ _ _ (bndQ _ (mb h')) _
    have g := g c δ T h' A
    cases e3 : mb h' with
    | bad => trivial
    | exc x h2 =>
      rw [e3] at g
      obtain ⟨T', e4, gr⟩ := g
      rw [e4]
      exact ⟨T', rfl, gr⟩
    | ok b h2 =>
      rw [e3] at g
      obtain ⟨rs, T', e4, gr, p⟩ := g
      rw [e4]
      exact ⟨_, T', rfl, gr, rfl, Nat.le_of_ble_eq_true hi, .inl ⟨_, rfl, rfl, p⟩⟩
theorem Jp.consL {i : Nat} {xs : List (Nat × Bool)} {es : Es} {mx : M (List α)} {mb : M β} {ents : β → Ts} (hi : Nat.blt i X.n = true) (h : Jv X .f e ts mx (eL em)) (g : Jp X xs es ts mb ents) : Jp X ((i, true) :: xs) (.cons e es) ts (m2 (fun x y => rtn (x, y)) mx mb) (fun p => (i, .own (p.1.map em)) :: ents p.2) := fun c δ T H A => by
  rw [evp_cons]
  show OkP _ _ _ _ (bndQ _ (mx H)) _
  have h := h c δ T H A
  cases e1 : mx H with
  | bad => trivial
  | exc x h' =>
    rw [e1] at h
    have h : ev X.z X.cl X.Φ e δ (H :: T) = .exc x (h' :: T) := h
    rw [h]
    exact ⟨T, rfl, Grow.refl⟩
  | ok a h' =>
    rw [e1] at h
    obtain ⟨r, e2, ds, v1, v2⟩ := h
    subst v2
    cases v1
    rw [e2, andThen_ok]
    have gw : Grow T (T ++ [.lst (a.map em)]) := ⟨by rw [List.length_append]; omega, fun l hl => List.getElem?_append_left hl⟩
    have g := g c δ (T ++ [.lst (a.map em)]) h' (A.grows gw)
    show OkP _ _ _ _ (bndQ _ (mb h')) ((evp X.z X.cl X.Φ xs es δ (h' :: (T ++ [.lst (a.map em)]))).andThen fun as S => .ok (R.loc (T.length + 1) :: as) S)
    cases e3 : mb h' with
    | bad => trivial
    | exc x h2 =>
      rw [e3] at g
      obtain ⟨T', e4, gr⟩ := g
      rw [e4]
      exact ⟨T', rfl, gw.trans gr⟩
    | ok b h2 =>
      rw [e3] at g
      obtain ⟨rs, T', e4, gr, p⟩ := g
      rw [e4]
      refine ⟨_, T', rfl, gw.trans gr, rfl, Nat.le_of_ble_eq_true hi, .inr ⟨T.length, _, rfl, rfl, Nat.le_refl _, gr.at last_app, ?_⟩⟩
      rw [List.length_append] at p
      exact p
theorem JN.par {xs : List (Nat × Bool)} {es : Es} {ents : α → Ts} (h : Jp X xs es ts ma ents) : JN X (r1 X (.par xs es)) ts ma (fun x => (ents x).reverse ++ ts) := fun c δ T H A => by
  show OkN _ _ _ _ _ _ _ (exec X.z X.cl X.Φ (.par xs es) δ (H :: T))
  rw [exec_par_eq]
  have h := h c δ T H A
  cases e1 : ma H with
  | bad => trivial
  | exc x h' =>
    rw [e1] at h
    obtain ⟨T', e, g⟩ := h
    rw [e]
    exact ⟨T', rfl, g.1, fun l hl _ => g.2 l hl⟩
  | ok a h' =>
    rw [e1] at h
    obtain ⟨rs, T', e, g, p⟩ := h
    rw [e]
    obtain ⟨B, o⟩ := p.set (T0 := T) (A.grows g) A.cT (fun i l hn e => A.lt e hn) (Nat.le_refl _)
    exact ⟨_, T', rfl, B, ⟨g.1, fun l hl _ => g.2 l hl⟩, o⟩
/-! ### defs -/
def prm : Nat → List Sl → Ts
  | _, [] => []
  | i, s :: r => (i, s) :: prm (i + 1) r
theorem Aok.sl {r : R} {s : Sl} (h : Aok T r s) : SlOk T c s (some r) ∧ s.ow = false := by
  cases s with
  | d x => exact ⟨⟨r, rfl, h⟩, rfl⟩
  | hand => have h : r = .loc 0 := h; subst h; exact ⟨rfl, rfl⟩
  | bdic t kvs => obtain ⟨l, rfl, e⟩ := h; exact ⟨⟨l, rfl, e⟩, rfl⟩
  | no => exact h.elim
  | w x => exact h.elim
  | v x => exact h.elim
  | frz ds => exact h.elim
  | own ds => exact h.elim
  | dic t kvs => exact h.elim
theorem Args.len : ∀ {rs : List R} {sls : List Sl}, Args T rs sls → rs.length = sls.length
  | [], [], _ => rfl
  | r :: rs, s :: ss, h => by rw [List.length_cons, List.length_cons, Args.len h.2]
theorem Args.at : ∀ {rs : List R} {sls : List Sl} {j : Nat}, Args T rs sls → ∀ i, (i < j ∧ tsAt (prm j sls) i = .no) ∨ (j ≤ i ∧ SlOk T c (tsAt (prm j sls) i) (rs[i - j]?) ∧ (tsAt (prm j sls) i).ow = false)
  | [], [], j, _, i => by
    by_cases q : i < j
    · exact .inl ⟨q, rfl⟩
    · exact .inr ⟨by omega, trivial, rfl⟩
  | r :: rs, s :: ss, j, h, i => by
    by_cases q : j = i
    · subst q
      right
      show _ ∧ SlOk T c (tsAt ((j, s) :: prm (j + 1) ss) j) _ ∧ (tsAt ((j, s) :: prm (j + 1) ss) j).ow = false
      rw [tsAt_cons_same, Nat.sub_self]
      exact ⟨Nat.le_refl _, h.1.sl⟩
    · show _ ∨ _ ∧ SlOk T c (tsAt ((j, s) :: prm (j + 1) ss) i) _ ∧ (tsAt ((j, s) :: prm (j + 1) ss) i).ow = false
      have e : tsAt (prm j (s :: ss)) i = tsAt (prm (j + 1) ss) i := tsAt_cons_ne q
      have e' : tsAt ((j, s) :: prm (j + 1) ss) i = tsAt (prm (j + 1) ss) i := e
      rw [e']
      rcases Args.at (j := j + 1) h.2 i with ⟨h1, h2⟩ | ⟨h1, h2, h3⟩
      · exact .inl ⟨by omega, e.trans h2⟩
      · refine .inr ⟨by omega, ?_, h3⟩
        have e2 : i - j = (i - (j + 1)) + 1 := by omega
        rw [e2]
        exact h2
theorem At.start {rs : List R} {sls : List Sl} (hn : sls.length ≤ n) (h : Args T rs sls) : At n T.length (prm 0 sls) (rs.map some ++ List.replicate (n - sls.length) none) T := by
  have hl := h.len
  refine ⟨by simp; omega, Nat.le_refl _, fun i => ?_, fun i j l hne e1 e2 ho => ?_⟩
  · rcases Args.at (c := T.length) (j := 0) h i with ⟨h1, _⟩ | ⟨_, h2, _⟩
    · omega
    · rw [Nat.sub_zero] at h2
      have e : Env.get (rs.map some ++ List.replicate (n - sls.length) none) i = rs[i]? := by
        unfold Env.get
        by_cases q : i < rs.length
        · rw [List.getElem?_append_left (by rw [List.length_map]; exact q), List.getElem?_map, List.getElem?_eq_getElem q]; rfl
        · rw [List.getElem?_append_right (by rw [List.length_map]; omega), List.getElem?_replicate, List.getElem?_eq_none (by omega)]
          split <;> rfl
      rw [e]
      exact h2
  · rcases Args.at (c := T.length) (j := 0) h i with ⟨h1, _⟩ | ⟨_, _, h3⟩
    · omega
    · rw [h3] at ho; cases ho
theorem noOwn {rs : List R} {sls : List Sl} (h : Args T rs sls) {δ : Env} {l : Nat} : ¬ Own (prm 0 sls) δ l := by
  rintro ⟨i, ho, _⟩
  rcases Args.at (c := T.length) (j := 0) h i with ⟨h1, _⟩ | ⟨_, _, h3⟩
  · omega
  · rw [h3] at ho; cases ho
theorem take_eq {sls : List Sl} {rs : List R} {δ : Env} {T' : Sto} {h : O} (ha : Args T rs sls) (f : FrR (prm 0 sls) δ T T') : (h :: T').take (H :: T).length = h :: T := by
  rw [List.length_cons, List.take_succ_cons]
  congr 1
  refine List.ext_getElem? fun l => ?_
  by_cases q : l < T.length
  · rw [List.getElem?_take_of_lt q, f.same l q (noOwn ha)]
  · rw [List.getElem?_eq_none (by rw [List.length_take]; omega), List.getElem?_eq_none (by omega)]
theorem Jf.ofR {sls : List Sl} {p : Nat} (hp : sls.length = p) (hn : Nat.ble sls.length X.n = true) (h : Jr X (rs X ss) (prm 0 sls) mr k er) : Jf (callF X.z X.cl X.Φ X.n p ss) sls mr k er := fun rs0 T H ha => by
  subst hp
  have hl := ha.len
  rw [callF_eq hl]
  have q : OkR T.length (prm 0 sls) (rs0.map some ++ List.replicate (X.n - sls.length) none) T k er (mr H) (execs X.z X.cl X.Φ ss (rs0.map some ++ List.replicate (X.n - sls.length) none) (H :: T)) := h _ _ T H (At.start (Nat.le_of_ble_eq_true hn) ha)
  revert q
  generalize execs X.z X.cl X.Φ ss (rs0.map some ++ List.replicate (X.n - sls.length) none) (H :: T) = res
  cases mr H with
  | bad => exact fun _ => trivial
  | exc x h' =>
    rintro ⟨T', e, f⟩
    have e : res = .exc x (h' :: T') := e
    subst e
    show Res.exc x ((h' :: T').take (H :: T).length) = .exc x (h' :: T)
    rw [take_eq ha f]
  | ok a h' =>
    rintro ⟨r, T', e, f, v⟩
    have e : res = .ok (.ret r) (h' :: T') := e
    subst e
    show ∃ r', backR r (H :: T).length (h' :: T') = .ok r' (h' :: T) ∧ _
    have t := take_eq (H := H) (h := h') ha f
    cases k with
    | d =>
      have v : r = .d (er a) := v
      subst v
      exact ⟨.d (er a), by show Res.ok _ ((h' :: T').take (H :: T).length) = _; rw [t], rfl⟩
    | f =>
      obtain ⟨ds, e1, v⟩ := v
      rcases v with rfl | ⟨l, rfl, hc, e2⟩
      · exact ⟨.fl ds, by show Res.ok _ ((h' :: T').take (H :: T).length) = _; rw [t], ds, e1, rfl⟩
      · refine ⟨.fl ds, ?_, ds, e1, rfl⟩
        show (if l + 1 < (H :: T).length then Res.ok (R.loc (l + 1)) ((h' :: T').take (H :: T).length) else match T'[l]? with
          | some (.lst ds) => .ok (.fl ds) ((h' :: T').take (H :: T).length)
          | some (.dic t kvs) => .ok (.fd t kvs) ((h' :: T').take (H :: T).length)
          | _ => .bad) = _
        rw [if_neg (by rw [List.length_cons]; omega), e2, t]
    | n =>
      rcases v with v | ⟨ds, e1, v⟩
      · subst v
        exact ⟨.d (er a), by show Res.ok _ ((h' :: T').take (H :: T).length) = _; rw [t], .inl rfl⟩
      · rcases v with rfl | ⟨l, rfl, hc, e2⟩
        · exact ⟨.fl ds, by show Res.ok _ ((h' :: T').take (H :: T).length) = _; rw [t], .inr ⟨ds, e1, rfl⟩⟩
        · refine ⟨.fl ds, ?_, .inr ⟨ds, e1, rfl⟩⟩
          show (if l + 1 < (H :: T).length then Res.ok (R.loc (l + 1)) ((h' :: T').take (H :: T).length) else match T'[l]? with
            | some (.lst ds) => .ok (.fl ds) ((h' :: T').take (H :: T).length)
            | some (.dic t kvs) => .ok (.fd t kvs) ((h' :: T').take (H :: T).length)
            | _ => .bad) = _
          rw [if_neg (by rw [List.length_cons]; omega), e2, t]
    | a => exact v.elim
theorem Jf.ofN {sls : List Sl} {p : Nat} (hp : sls.length = p) (hn : Nat.ble sls.length X.n = true) (h : JN X (rs X ss) (prm 0 sls) m post) : Jf (callF X.z X.cl X.Φ X.n p ss) sls (bnd m fun _ => rtn ()) .d eU := fun rs0 T H ha => by
  subst hp
  have hl := ha.len
  rw [callF_eq hl]
  have q : OkN X.n T.length (prm 0 sls) (rs0.map some ++ List.replicate (X.n - sls.length) none) T post (m H) (execs X.z X.cl X.Φ ss (rs0.map some ++ List.replicate (X.n - sls.length) none) (H :: T)) := h _ _ T H (At.start (Nat.le_of_ble_eq_true hn) ha)
  revert q
  generalize execs X.z X.cl X.Φ ss (rs0.map some ++ List.replicate (X.n - sls.length) none) (H :: T) = res
  show OkN _ _ _ _ _ _ (m H) _ → Ok T _ (bndQ _ (m H)) _
  cases m H with
  | bad => exact fun _ => trivial
  | exc x h' =>
    rintro ⟨T', e, f⟩
    have e : res = .exc x (h' :: T') := e
    subst e
    show Res.exc x ((h' :: T').take (H :: T).length) = .exc x (h' :: T)
    rw [take_eq ha f]
  | ok a h' =>
    rintro ⟨δ', T', e, A, f⟩
    have e : res = .ok (.next δ') (h' :: T') := e
    subst e
    refine ⟨.d .non, ?_, rfl⟩
    show Res.ok _ ((h' :: T').take (H :: T).length) = _
    rw [take_eq ha f.r]
theorem Jf.eq {F : List R → Sto → Res R} {sls : List Sl} {m m' : M α} (h : Jf F sls m k em) (e : m = m') : Jf F sls m' k em := e ▸ h
/-- what def n computes, k calls deep; not to be unfolded -/
@[irreducible] def ph (L : Law) (k : Nat) : Phi := L.phi k
theorem ph_eq (L : Law) (k : Nat) : ph L k = L.phi k := by unfold ph; rfl
/-- a law's def at a level -/
def cx (L : Law) (k : Nat) (q : Dn) : Cx := ⟨L.z, fun _ => [], ph L k, q.N.length⟩
theorem Jf.law {L : Law} {kk n : Nat} {q : Dn} {sls : List Sl} {ma : M α} (h : L.ds[n]? = some q) (hb : Jf (callF (cx L kk q).z (cx L kk q).cl (cx L kk q).Φ (cx L kk q).n q.ps.length q.b) sls ma k em) : Jf (ph L (kk + 1) n) sls ma k em := by
  have e : ph L (kk + 1) n = callF L.z (fun _ => []) (ph L kk) q.N.length q.ps.length q.b := by
    rw [ph_eq, ph_eq]
    show (match L.ds[n]? with
      | some q => callF L.z (fun _ => []) (L.phi kk) q.N.length q.ps.length q.b
      | none => fun _ _ => .bad) = _
    rw [h]
  rw [e]
  exact hb
end
end Mi.J

set_option Elab.async false
set_option linter.all false
set_option maxRecDepth 100000
set_option maxHeartbeats 1000000
/-! Mj8: calls by the number of arguments; lists that no one owns. Printed by a small program, in part. -/
namespace Mi.J
open PySem
section
variable {α β γ ε σ ρ : Type} {X : Cx} {ts : Ts} {k k' : K} {eb : β → D} {n : Nat}

theorem Jv.call1 {α0 : Type} {k0 : K} {e0 : E} {mm0 : M α0} {em0 : α0 → D} {f : α0 → M β} (h0 : Jv X k0 e0 ts mm0 em0) (hf : ∀ x0, Jf (X.Φ n) [.d (em0 x0)] (f x0) k eb) : Jv X k (.call n (.cons e0 .nil)) ts (bnd mm0 fun x0 => f x0) eb := by
  have q := Jv.call (f := fun p : α0 × Unit => f p.1) (Ja.cons h0 Ja.nil) (fun p => hf p.1)
  simpa [m2] using q
theorem Jv.call2 {α0 α1 : Type} {k0 : K} {e0 : E} {mm0 : M α0} {em0 : α0 → D} {k1 : K} {e1 : E} {mm1 : M α1} {em1 : α1 → D} {f : α0 → α1 → M β} (h0 : Jv X k0 e0 ts mm0 em0) (h1 : Jv X k1 e1 ts mm1 em1) (hf : ∀ x0 x1, Jf (X.Φ n) [.d (em0 x0), .d (em1 x1)] (f x0 x1) k eb) : Jv X k (.call n (.cons e0 (.cons e1 .nil))) ts (bnd mm0 fun x0 => bnd mm1 fun x1 => f x0 x1) eb := by
  have q := Jv.call (f := fun p : α0 × α1 × Unit => f p.1 p.2.1) (Ja.cons h0 (Ja.cons h1 Ja.nil)) (fun p => hf p.1 p.2.1)
  simpa [m2] using q
theorem Jv.call3 {α0 α1 α2 : Type} {k0 : K} {e0 : E} {mm0 : M α0} {em0 : α0 → D} {k1 : K} {e1 : E} {mm1 : M α1} {em1 : α1 → D} {k2 : K} {e2 : E} {mm2 : M α2} {em2 : α2 → D} {f : α0 → α1 → α2 → M β} (h0 : Jv X k0 e0 ts mm0 em0) (h1 : Jv X k1 e1 ts mm1 em1) (h2 : Jv X k2 e2 ts mm2 em2) (hf : ∀ x0 x1 x2, Jf (X.Φ n) [.d (em0 x0), .d (em1 x1), .d (em2 x2)] (f x0 x1 x2) k eb) : Jv X k (.call n (.cons e0 (.cons e1 (.cons e2 .nil)))) ts (bnd mm0 fun x0 => bnd mm1 fun x1 => bnd mm2 fun x2 => f x0 x1 x2) eb := by
  have q := Jv.call (f := fun p : α0 × α1 × α2 × Unit => f p.1 p.2.1 p.2.2.1) (Ja.cons h0 (Ja.cons h1 (Ja.cons h2 Ja.nil))) (fun p => hf p.1 p.2.1 p.2.2.1)
  simpa [m2] using q
theorem Jv.call4 {α0 α1 α2 α3 : Type} {k0 : K} {e0 : E} {mm0 : M α0} {em0 : α0 → D} {k1 : K} {e1 : E} {mm1 : M α1} {em1 : α1 → D} {k2 : K} {e2 : E} {mm2 : M α2} {em2 : α2 → D} {k3 : K} {e3 : E} {mm3 : M α3} {em3 : α3 → D} {f : α0 → α1 → α2 → α3 → M β} (h0 : Jv X k0 e0 ts mm0 em0) (h1 : Jv X k1 e1 ts mm1 em1) (h2 : Jv X k2 e2 ts mm2 em2) (h3 : Jv X k3 e3 ts mm3 em3) (hf : ∀ x0 x1 x2 x3, Jf (X.Φ n) [.d (em0 x0), .d (em1 x1), .d (em2 x2), .d (em3 x3)] (f x0 x1 x2 x3) k eb) : Jv X k (.call n (.cons e0 (.cons e1 (.cons e2 (.cons e3 .nil))))) ts (bnd mm0 fun x0 => bnd mm1 fun x1 => bnd mm2 fun x2 => bnd mm3 fun x3 => f x0 x1 x2 x3) eb := by
  have q := Jv.call (f := fun p : α0 × α1 × α2 × α3 × Unit => f p.1 p.2.1 p.2.2.1 p.2.2.2.1) (Ja.cons h0 (Ja.cons h1 (Ja.cons h2 (Ja.cons h3 Ja.nil)))) (fun p => hf p.1 p.2.1 p.2.2.1 p.2.2.2.1)
  simpa [m2] using q
theorem Jv.call5 {α0 α1 α2 α3 α4 : Type} {k0 : K} {e0 : E} {mm0 : M α0} {em0 : α0 → D} {k1 : K} {e1 : E} {mm1 : M α1} {em1 : α1 → D} {k2 : K} {e2 : E} {mm2 : M α2} {em2 : α2 → D} {k3 : K} {e3 : E} {mm3 : M α3} {em3 : α3 → D} {k4 : K} {e4 : E} {mm4 : M α4} {em4 : α4 → D} {f : α0 → α1 → α2 → α3 → α4 → M β} (h0 : Jv X k0 e0 ts mm0 em0) (h1 : Jv X k1 e1 ts mm1 em1) (h2 : Jv X k2 e2 ts mm2 em2) (h3 : Jv X k3 e3 ts mm3 em3) (h4 : Jv X k4 e4 ts mm4 em4) (hf : ∀ x0 x1 x2 x3 x4, Jf (X.Φ n) [.d (em0 x0), .d (em1 x1), .d (em2 x2), .d (em3 x3), .d (em4 x4)] (f x0 x1 x2 x3 x4) k eb) : Jv X k (.call n (.cons e0 (.cons e1 (.cons e2 (.cons e3 (.cons e4 .nil)))))) ts (bnd mm0 fun x0 => bnd mm1 fun x1 => bnd mm2 fun x2 => bnd mm3 fun x3 => bnd mm4 fun x4 => f x0 x1 x2 x3 x4) eb := by
  have q := Jv.call (f := fun p : α0 × α1 × α2 × α3 × α4 × Unit => f p.1 p.2.1 p.2.2.1 p.2.2.2.1 p.2.2.2.2.1) (Ja.cons h0 (Ja.cons h1 (Ja.cons h2 (Ja.cons h3 (Ja.cons h4 Ja.nil))))) (fun p => hf p.1 p.2.1 p.2.2.1 p.2.2.2.1 p.2.2.2.2.1)
  simpa [m2] using q
theorem Jv.call6 {α0 α1 α2 α3 α4 α5 : Type} {k0 : K} {e0 : E} {mm0 : M α0} {em0 : α0 → D} {k1 : K} {e1 : E} {mm1 : M α1} {em1 : α1 → D} {k2 : K} {e2 : E} {mm2 : M α2} {em2 : α2 → D} {k3 : K} {e3 : E} {mm3 : M α3} {em3 : α3 → D} {k4 : K} {e4 : E} {mm4 : M α4} {em4 : α4 → D} {k5 : K} {e5 : E} {mm5 : M α5} {em5 : α5 → D} {f : α0 → α1 → α2 → α3 → α4 → α5 → M β} (h0 : Jv X k0 e0 ts mm0 em0) (h1 : Jv X k1 e1 ts mm1 em1) (h2 : Jv X k2 e2 ts mm2 em2) (h3 : Jv X k3 e3 ts mm3 em3) (h4 : Jv X k4 e4 ts mm4 em4) (h5 : Jv X k5 e5 ts mm5 em5) (hf : ∀ x0 x1 x2 x3 x4 x5, Jf (X.Φ n) [.d (em0 x0), .d (em1 x1), .d (em2 x2), .d (em3 x3), .d (em4 x4), .d (em5 x5)] (f x0 x1 x2 x3 x4 x5) k eb) : Jv X k (.call n (.cons e0 (.cons e1 (.cons e2 (.cons e3 (.cons e4 (.cons e5 .nil))))))) ts (bnd mm0 fun x0 => bnd mm1 fun x1 => bnd mm2 fun x2 => bnd mm3 fun x3 => bnd mm4 fun x4 => bnd mm5 fun x5 => f x0 x1 x2 x3 x4 x5) eb := by
  have q := Jv.call (f := fun p : α0 × α1 × α2 × α3 × α4 × α5 × Unit => f p.1 p.2.1 p.2.2.1 p.2.2.2.1 p.2.2.2.2.1 p.2.2.2.2.2.1) (Ja.cons h0 (Ja.cons h1 (Ja.cons h2 (Ja.cons h3 (Ja.cons h4 (Ja.cons h5 Ja.nil)))))) (fun p => hf p.1 p.2.1 p.2.2.1 p.2.2.2.1 p.2.2.2.2.1 p.2.2.2.2.2.1)
  simpa [m2] using q
theorem Jv.call7 {α0 α1 α2 α3 α4 α5 α6 : Type} {k0 : K} {e0 : E} {mm0 : M α0} {em0 : α0 → D} {k1 : K} {e1 : E} {mm1 : M α1} {em1 : α1 → D} {k2 : K} {e2 : E} {mm2 : M α2} {em2 : α2 → D} {k3 : K} {e3 : E} {mm3 : M α3} {em3 : α3 → D} {k4 : K} {e4 : E} {mm4 : M α4} {em4 : α4 → D} {k5 : K} {e5 : E} {mm5 : M α5} {em5 : α5 → D} {k6 : K} {e6 : E} {mm6 : M α6} {em6 : α6 → D} {f : α0 → α1 → α2 → α3 → α4 → α5 → α6 → M β} (h0 : Jv X k0 e0 ts mm0 em0) (h1 : Jv X k1 e1 ts mm1 em1) (h2 : Jv X k2 e2 ts mm2 em2) (h3 : Jv X k3 e3 ts mm3 em3) (h4 : Jv X k4 e4 ts mm4 em4) (h5 : Jv X k5 e5 ts mm5 em5) (h6 : Jv X k6 e6 ts mm6 em6) (hf : ∀ x0 x1 x2 x3 x4 x5 x6, Jf (X.Φ n) [.d (em0 x0), .d (em1 x1), .d (em2 x2), .d (em3 x3), .d (em4 x4), .d (em5 x5), .d (em6 x6)] (f x0 x1 x2 x3 x4 x5 x6) k eb) : Jv X k (.call n (.cons e0 (.cons e1 (.cons e2 (.cons e3 (.cons e4 (.cons e5 (.cons e6 .nil)))))))) ts (bnd mm0 fun x0 => bnd mm1 fun x1 => bnd mm2 fun x2 => bnd mm3 fun x3 => bnd mm4 fun x4 => bnd mm5 fun x5 => bnd mm6 fun x6 => f x0 x1 x2 x3 x4 x5 x6) eb := by
  have q := Jv.call (f := fun p : α0 × α1 × α2 × α3 × α4 × α5 × α6 × Unit => f p.1 p.2.1 p.2.2.1 p.2.2.2.1 p.2.2.2.2.1 p.2.2.2.2.2.1 p.2.2.2.2.2.2.1) (Ja.cons h0 (Ja.cons h1 (Ja.cons h2 (Ja.cons h3 (Ja.cons h4 (Ja.cons h5 (Ja.cons h6 Ja.nil))))))) (fun p => hf p.1 p.2.1 p.2.2.1 p.2.2.2.1 p.2.2.2.2.1 p.2.2.2.2.2.1 p.2.2.2.2.2.2.1)
  simpa [m2] using q
theorem Jv.callH0  {f : M β} {ih : Nat} (hh : tsAt ts ih = .hand)  (hf : Jf (X.Φ n) [.hand] f k eb) : Jv X k (.call n (.cons (.var ih) .nil)) ts (f) eb := by
  have q := Jv.call (f := fun p : Unit => f) (Ja.hand hh Ja.nil) (fun p => hf)
  simpa [m2] using q
theorem Jv.callH1 {α0 : Type} {k0 : K} {e0 : E} {mm0 : M α0} {em0 : α0 → D} {f : α0 → M β} {ih : Nat} (hh : tsAt ts ih = .hand) (h0 : Jv X k0 e0 ts mm0 em0) (hf : ∀ x0, Jf (X.Φ n) [.hand, .d (em0 x0)] (f x0) k eb) : Jv X k (.call n (.cons (.var ih) (.cons e0 .nil))) ts (bnd mm0 fun x0 => f x0) eb := by
  have q := Jv.call (f := fun p : α0 × Unit => f p.1) (Ja.hand hh (Ja.cons h0 Ja.nil)) (fun p => hf p.1)
  simpa [m2] using q
theorem Jv.callH2 {α0 α1 : Type} {k0 : K} {e0 : E} {mm0 : M α0} {em0 : α0 → D} {k1 : K} {e1 : E} {mm1 : M α1} {em1 : α1 → D} {f : α0 → α1 → M β} {ih : Nat} (hh : tsAt ts ih = .hand) (h0 : Jv X k0 e0 ts mm0 em0) (h1 : Jv X k1 e1 ts mm1 em1) (hf : ∀ x0 x1, Jf (X.Φ n) [.hand, .d (em0 x0), .d (em1 x1)] (f x0 x1) k eb) : Jv X k (.call n (.cons (.var ih) (.cons e0 (.cons e1 .nil)))) ts (bnd mm0 fun x0 => bnd mm1 fun x1 => f x0 x1) eb := by
  have q := Jv.call (f := fun p : α0 × α1 × Unit => f p.1 p.2.1) (Ja.hand hh (Ja.cons h0 (Ja.cons h1 Ja.nil))) (fun p => hf p.1 p.2.1)
  simpa [m2] using q
theorem Jv.callH3 {α0 α1 α2 : Type} {k0 : K} {e0 : E} {mm0 : M α0} {em0 : α0 → D} {k1 : K} {e1 : E} {mm1 : M α1} {em1 : α1 → D} {k2 : K} {e2 : E} {mm2 : M α2} {em2 : α2 → D} {f : α0 → α1 → α2 → M β} {ih : Nat} (hh : tsAt ts ih = .hand) (h0 : Jv X k0 e0 ts mm0 em0) (h1 : Jv X k1 e1 ts mm1 em1) (h2 : Jv X k2 e2 ts mm2 em2) (hf : ∀ x0 x1 x2, Jf (X.Φ n) [.hand, .d (em0 x0), .d (em1 x1), .d (em2 x2)] (f x0 x1 x2) k eb) : Jv X k (.call n (.cons (.var ih) (.cons e0 (.cons e1 (.cons e2 .nil))))) ts (bnd mm0 fun x0 => bnd mm1 fun x1 => bnd mm2 fun x2 => f x0 x1 x2) eb := by
  have q := Jv.call (f := fun p : α0 × α1 × α2 × Unit => f p.1 p.2.1 p.2.2.1) (Ja.hand hh (Ja.cons h0 (Ja.cons h1 (Ja.cons h2 Ja.nil)))) (fun p => hf p.1 p.2.1 p.2.2.1)
  simpa [m2] using q
theorem Jv.callH4 {α0 α1 α2 α3 : Type} {k0 : K} {e0 : E} {mm0 : M α0} {em0 : α0 → D} {k1 : K} {e1 : E} {mm1 : M α1} {em1 : α1 → D} {k2 : K} {e2 : E} {mm2 : M α2} {em2 : α2 → D} {k3 : K} {e3 : E} {mm3 : M α3} {em3 : α3 → D} {f : α0 → α1 → α2 → α3 → M β} {ih : Nat} (hh : tsAt ts ih = .hand) (h0 : Jv X k0 e0 ts mm0 em0) (h1 : Jv X k1 e1 ts mm1 em1) (h2 : Jv X k2 e2 ts mm2 em2) (h3 : Jv X k3 e3 ts mm3 em3) (hf : ∀ x0 x1 x2 x3, Jf (X.Φ n) [.hand, .d (em0 x0), .d (em1 x1), .d (em2 x2), .d (em3 x3)] (f x0 x1 x2 x3) k eb) : Jv X k (.call n (.cons (.var ih) (.cons e0 (.cons e1 (.cons e2 (.cons e3 .nil)))))) ts (bnd mm0 fun x0 => bnd mm1 fun x1 => bnd mm2 fun x2 => bnd mm3 fun x3 => f x0 x1 x2 x3) eb := by
  have q := Jv.call (f := fun p : α0 × α1 × α2 × α3 × Unit => f p.1 p.2.1 p.2.2.1 p.2.2.2.1) (Ja.hand hh (Ja.cons h0 (Ja.cons h1 (Ja.cons h2 (Ja.cons h3 Ja.nil))))) (fun p => hf p.1 p.2.1 p.2.2.1 p.2.2.2.1)
  simpa [m2] using q
theorem Jv.callH5 {α0 α1 α2 α3 α4 : Type} {k0 : K} {e0 : E} {mm0 : M α0} {em0 : α0 → D} {k1 : K} {e1 : E} {mm1 : M α1} {em1 : α1 → D} {k2 : K} {e2 : E} {mm2 : M α2} {em2 : α2 → D} {k3 : K} {e3 : E} {mm3 : M α3} {em3 : α3 → D} {k4 : K} {e4 : E} {mm4 : M α4} {em4 : α4 → D} {f : α0 → α1 → α2 → α3 → α4 → M β} {ih : Nat} (hh : tsAt ts ih = .hand) (h0 : Jv X k0 e0 ts mm0 em0) (h1 : Jv X k1 e1 ts mm1 em1) (h2 : Jv X k2 e2 ts mm2 em2) (h3 : Jv X k3 e3 ts mm3 em3) (h4 : Jv X k4 e4 ts mm4 em4) (hf : ∀ x0 x1 x2 x3 x4, Jf (X.Φ n) [.hand, .d (em0 x0), .d (em1 x1), .d (em2 x2), .d (em3 x3), .d (em4 x4)] (f x0 x1 x2 x3 x4) k eb) : Jv X k (.call n (.cons (.var ih) (.cons e0 (.cons e1 (.cons e2 (.cons e3 (.cons e4 .nil))))))) ts (bnd mm0 fun x0 => bnd mm1 fun x1 => bnd mm2 fun x2 => bnd mm3 fun x3 => bnd mm4 fun x4 => f x0 x1 x2 x3 x4) eb := by
  have q := Jv.call (f := fun p : α0 × α1 × α2 × α3 × α4 × Unit => f p.1 p.2.1 p.2.2.1 p.2.2.2.1 p.2.2.2.2.1) (Ja.hand hh (Ja.cons h0 (Ja.cons h1 (Ja.cons h2 (Ja.cons h3 (Ja.cons h4 Ja.nil)))))) (fun p => hf p.1 p.2.1 p.2.2.1 p.2.2.2.1 p.2.2.2.2.1)
  simpa [m2] using q
theorem Jv.callH6 {α0 α1 α2 α3 α4 α5 : Type} {k0 : K} {e0 : E} {mm0 : M α0} {em0 : α0 → D} {k1 : K} {e1 : E} {mm1 : M α1} {em1 : α1 → D} {k2 : K} {e2 : E} {mm2 : M α2} {em2 : α2 → D} {k3 : K} {e3 : E} {mm3 : M α3} {em3 : α3 → D} {k4 : K} {e4 : E} {mm4 : M α4} {em4 : α4 → D} {k5 : K} {e5 : E} {mm5 : M α5} {em5 : α5 → D} {f : α0 → α1 → α2 → α3 → α4 → α5 → M β} {ih : Nat} (hh : tsAt ts ih = .hand) (h0 : Jv X k0 e0 ts mm0 em0) (h1 : Jv X k1 e1 ts mm1 em1) (h2 : Jv X k2 e2 ts mm2 em2) (h3 : Jv X k3 e3 ts mm3 em3) (h4 : Jv X k4 e4 ts mm4 em4) (h5 : Jv X k5 e5 ts mm5 em5) (hf : ∀ x0 x1 x2 x3 x4 x5, Jf (X.Φ n) [.hand, .d (em0 x0), .d (em1 x1), .d (em2 x2), .d (em3 x3), .d (em4 x4), .d (em5 x5)] (f x0 x1 x2 x3 x4 x5) k eb) : Jv X k (.call n (.cons (.var ih) (.cons e0 (.cons e1 (.cons e2 (.cons e3 (.cons e4 (.cons e5 .nil)))))))) ts (bnd mm0 fun x0 => bnd mm1 fun x1 => bnd mm2 fun x2 => bnd mm3 fun x3 => bnd mm4 fun x4 => bnd mm5 fun x5 => f x0 x1 x2 x3 x4 x5) eb := by
  have q := Jv.call (f := fun p : α0 × α1 × α2 × α3 × α4 × α5 × Unit => f p.1 p.2.1 p.2.2.1 p.2.2.2.1 p.2.2.2.2.1 p.2.2.2.2.2.1) (Ja.hand hh (Ja.cons h0 (Ja.cons h1 (Ja.cons h2 (Ja.cons h3 (Ja.cons h4 (Ja.cons h5 Ja.nil))))))) (fun p => hf p.1 p.2.1 p.2.2.1 p.2.2.2.1 p.2.2.2.2.1 p.2.2.2.2.2.1)
  simpa [m2] using q
theorem Jv.callH7 {α0 α1 α2 α3 α4 α5 α6 : Type} {k0 : K} {e0 : E} {mm0 : M α0} {em0 : α0 → D} {k1 : K} {e1 : E} {mm1 : M α1} {em1 : α1 → D} {k2 : K} {e2 : E} {mm2 : M α2} {em2 : α2 → D} {k3 : K} {e3 : E} {mm3 : M α3} {em3 : α3 → D} {k4 : K} {e4 : E} {mm4 : M α4} {em4 : α4 → D} {k5 : K} {e5 : E} {mm5 : M α5} {em5 : α5 → D} {k6 : K} {e6 : E} {mm6 : M α6} {em6 : α6 → D} {f : α0 → α1 → α2 → α3 → α4 → α5 → α6 → M β} {ih : Nat} (hh : tsAt ts ih = .hand) (h0 : Jv X k0 e0 ts mm0 em0) (h1 : Jv X k1 e1 ts mm1 em1) (h2 : Jv X k2 e2 ts mm2 em2) (h3 : Jv X k3 e3 ts mm3 em3) (h4 : Jv X k4 e4 ts mm4 em4) (h5 : Jv X k5 e5 ts mm5 em5) (h6 : Jv X k6 e6 ts mm6 em6) (hf : ∀ x0 x1 x2 x3 x4 x5 x6, Jf (X.Φ n) [.hand, .d (em0 x0), .d (em1 x1), .d (em2 x2), .d (em3 x3), .d (em4 x4), .d (em5 x5), .d (em6 x6)] (f x0 x1 x2 x3 x4 x5 x6) k eb) : Jv X k (.call n (.cons (.var ih) (.cons e0 (.cons e1 (.cons e2 (.cons e3 (.cons e4 (.cons e5 (.cons e6 .nil))))))))) ts (bnd mm0 fun x0 => bnd mm1 fun x1 => bnd mm2 fun x2 => bnd mm3 fun x3 => bnd mm4 fun x4 => bnd mm5 fun x5 => bnd mm6 fun x6 => f x0 x1 x2 x3 x4 x5 x6) eb := by
  have q := Jv.call (f := fun p : α0 × α1 × α2 × α3 × α4 × α5 × α6 × Unit => f p.1 p.2.1 p.2.2.1 p.2.2.2.1 p.2.2.2.2.1 p.2.2.2.2.2.1 p.2.2.2.2.2.2.1) (Ja.hand hh (Ja.cons h0 (Ja.cons h1 (Ja.cons h2 (Ja.cons h3 (Ja.cons h4 (Ja.cons h5 (Ja.cons h6 Ja.nil)))))))) (fun p => hf p.1 p.2.1 p.2.2.1 p.2.2.2.1 p.2.2.2.2.1 p.2.2.2.2.2.1 p.2.2.2.2.2.2.1)
  simpa [m2] using q
end
end Mi.J

set_option Elab.async false
set_option linter.all false
set_option maxRecDepth 100000
set_option maxHeartbeats 4000000
/-! Mj9: the laws' own drawing: the hand, a draw, any, mixed. -/
namespace Mi.J
open PySem
/-- the hand's cell -/
structure HS where
  cs : List Int
  p : Int
  l : Int
  x : Int
  c : Int
def eH (s : HS) : O := .lst [.lst (s.cs.map .int), .int s.p, .int s.l, .int s.x, .int s.c]
/-- constants of a draw -/
structure DC where
  a : Int
  b : Int
  c : Int
  m : Int
  k1 : Int
  k2 : Int
  m2 : Int
  k3 : Int
  k4 : Int
  m3 : Int
  k5 : Int
  k6 : Int
  m4 : Int
def DC.ok (K : DC) : Bool := decide (0 < K.a ∧ K.a < 1000000000 ∧ 0 < K.b ∧ K.b < 1000000000 ∧ 0 < K.m ∧ 0 < K.k1 ∧ K.k1 < 1000000000 ∧ 0 < K.k2 ∧ K.k2 < 1000000000 ∧ 0 < K.m2 ∧ K.m2 < 2147483648 ∧ 0 < K.k3 ∧ K.k3 < 1000000 ∧ 0 < K.m3 ∧ K.m3 < 2147483648 ∧ 0 < K.k5 ∧ K.k5 < 1000000 ∧ 0 < K.m4)
def b_draw (K : DC) : Sts := (.cons (.iff (.and (.cmp .eq (.ix (.var 0) (.lit (.int 2))) (.lit (.int 0))) (.cmp .lt (.ix (.var 0) (.lit (.int 1))) (.b1 .len (.ix (.var 0) (.lit (.int 0)))))) (.cons (.asg 3 false (.ix (.ix (.var 0) (.lit (.int 0))) (.ix (.var 0) (.lit (.int 1))))) (.cons (.setix (.var 0) (.lit (.int 1)) (.bin .add (.ix (.var 0) (.lit (.int 1))) (.lit (.int 1)))) (.cons (.setix (.var 0) (.lit (.int 3)) (.bin .mod (.b1 .int (.bin .add (.bin .add (.bin .mul (.ix (.var 0) (.lit (.int 3))) (.lit (.int K.a))) (.bin .mul (.var 3) (.lit (.int K.b)))) (.lit (.int K.c)))) (.lit (.int K.m)))) (.cons (.iff (.cmp .ge (.var 3) (.bin .pow (.lit (.int 10)) (.lit (.int 18)))) (.cons (.setix (.var 0) (.lit (.int 2)) (.var 3)) .nil) .nil) .nil)))) .nil) (.cons (.iff (.cmp .gt (.ix (.var 0) (.lit (.int 2))) (.lit (.int 0))) (.cons (.asg 4 false (.bin .mod (.b1 .int (.ix (.var 0) (.lit (.int 2)))) (.var 1))) (.cons (.setix (.var 0) (.lit (.int 2)) (.bin .fdiv (.ix (.var 0) (.lit (.int 2))) (.var 1))) (.cons (.ret (.var 4)) .nil))) .nil) (.cons (.setix (.var 0) (.lit (.int 4)) (.bin .add (.ix (.var 0) (.lit (.int 4))) (.lit (.int 1)))) (.cons (.asg 2 false (.bin .mod (.b1 .int (.bin .mul (.b1 .int (.bin .add (.ix (.var 0) (.lit (.int 3))) (.bin .mul (.lit (.int K.k1)) (.ix (.var 0) (.lit (.int 4)))))) (.lit (.int K.k2)))) (.lit (.int K.m2)))) (.cons (.asg 2 false (.bin .mod (.b1 .int (.bin .mul (.var 2) (.bin .add (.bin .fdiv (.var 2) (.lit (.int K.k3))) (.lit (.int K.k4))))) (.lit (.int K.m3)))) (.cons (.asg 2 false (.bin .mod (.b1 .int (.bin .mul (.var 2) (.bin .add (.bin .fdiv (.var 2) (.lit (.int K.k5))) (.lit (.int K.k6))))) (.lit (.int K.m4)))) (.cons (.ret (.bin .mod (.b1 .int (.bin .fdiv (.var 2) (.lit (.int 16)))) (.var 1))) .nil)))))))
/-- the first part: a cell is taken, perhaps -/
def take1 (K : DC) (s : HS) : HS := if s.l = 0 ∧ s.p < s.cs.length then
    (let cell := s.cs.getD s.p.toNat 0
    { s with p := s.p + 1, x := (s.x * K.a + cell * K.b + K.c).fmod K.m, l := if 10 ^ 18 ≤ cell then cell else s.l }) else s
def mix (K : DC) (s : HS) : Int :=
  let u := ((s.x + K.k1 * (s.c + 1)) * K.k2).fmod K.m2
  let v := (u * (u.fdiv K.k3 + K.k4)).fmod K.m3
  let w := (v * (v.fdiv K.k5 + K.k6)).fmod K.m4
  w.fdiv 16
def drawZ (K : DC) (s : HS) (many : Int) : Int × HS :=
  let s := take1 K s
  if 0 < s.l then (s.l.fmod many, { s with l := s.l.fdiv many }) else ((mix K s).fmod many, { s with c := s.c + 1 })
section
variable {z : Bool} {cl : Cl} {Φ : Phi} {T : Sto} {a b c d e : D} {u v w : Option R}
theorem ixH {n : Int} {ds : List D} {x : D} (h : L2.atI ds n = some x) : ixop (.loc 0) (.d (.int n)) (.lst ds :: T) = .ok (.d x) (.lst ds :: T) := by
  show ofO _ ((ixD ds n).map R.d) = _
  show ofO _ ((L2.atI ds n).map R.d) = _
  rw [h]; rfl
theorem stH {n : Int} {j : Nat} {ds : List D} {y : D} (h : L2.ixN ds.length n = some j) : setop (.loc 0) (.d (.int n)) (.d y) (.lst ds :: T) = .ok () (.lst (ds.set j y) :: T) := by
  show (match L2.ixN ds.length n with
    | some j => Res.ok () ((O.lst ds :: T).set 0 (.lst (ds.set j y)))
    | none => .bad) = _
  rw [h]; rfl
theorem ofO_ok' {S : Sto} {α : Type} (a : α) : ofO S (some a) = .ok a S := rfl
theorem mulOk_r {i j : Int} (h : 0 < j ∧ j < 18446744073709551616) : mulOk i j = true := by
  unfold mulOk
  have e : (2 : Int) ^ 64 = 18446744073709551616 := by decide
  rw [e, decide_eq_true_eq]
  right; omega
theorem mulOk_l {i j : Int} (h : 0 ≤ i ∧ i < 18446744073709551616) : mulOk i j = true := by
  unfold mulOk
  have e : (2 : Int) ^ 64 = 18446744073709551616 := by decide
  rw [e, decide_eq_true_eq]
  left; omega
theorem divOk_of {j : Int} (h : 0 < j ∧ j < 1000000000) : divOk j = true := by
  unfold divOk
  rw [decide_eq_true_eq]
  omega
variable {s : HS} {i many : Int} {K : DC}
@[simp] theorem ixH0 : ixop (.loc 0) (.d (.int 0)) (eH s :: T) = .ok (.d (.lst (s.cs.map .int))) (eH s :: T) := rfl
@[simp] theorem ixH1 : ixop (.loc 0) (.d (.int 1)) (eH s :: T) = .ok (.d (.int s.p)) (eH s :: T) := rfl
@[simp] theorem ixH2 : ixop (.loc 0) (.d (.int 2)) (eH s :: T) = .ok (.d (.int s.l)) (eH s :: T) := rfl
@[simp] theorem ixH3 : ixop (.loc 0) (.d (.int 3)) (eH s :: T) = .ok (.d (.int s.x)) (eH s :: T) := rfl
@[simp] theorem ixH4 : ixop (.loc 0) (.d (.int 4)) (eH s :: T) = .ok (.d (.int s.c)) (eH s :: T) := rfl
@[simp] theorem stH1 : setop (.loc 0) (.d (.int 1)) (.d (.int i)) (eH s :: T) = .ok () (eH { s with p := i } :: T) := rfl
@[simp] theorem stH2 : setop (.loc 0) (.d (.int 2)) (.d (.int i)) (eH s :: T) = .ok () (eH { s with l := i } :: T) := rfl
@[simp] theorem stH3 : setop (.loc 0) (.d (.int 3)) (.d (.int i)) (eH s :: T) = .ok () (eH { s with x := i } :: T) := rfl
@[simp] theorem stH4 : setop (.loc 0) (.d (.int 4)) (.d (.int i)) (eH s :: T) = .ok () (eH { s with c := i } :: T) := rfl
@[simp] theorem int_b1 {S : Sto} : b1op .int (.d (.int i)) S = .ok (.d (.int i)) S := rfl
theorem binI_mul {x y : Int} (h : mulOk x y = true) : binI .mul x y = some (x * y) := if_pos h
theorem binI_div {x y : Int} (h : divOk y = true) : binI .fdiv x y = some (x.fdiv y) := if_pos h
theorem binI_mod {x y : Int} (h : y ≠ 0) : binI .mod x y = some (x.fmod y) := if_pos (decide_eq_true h)
@[simp] theorem binI_add {x y : Int} : binI .add x y = some (x + y) := rfl
@[simp] theorem binI_sub {x y : Int} : binI .sub x y = some (x - y) := rfl
theorem binI_pow18 : binI .pow 10 18 = some (10 ^ 18) := rfl
theorem fmod_rng {x m : Int} (h : 0 < m) : 0 ≤ x.fmod m ∧ x.fmod m < m := ⟨Int.fmod_nonneg_of_pos x h, Int.fmod_lt_of_pos x h⟩
theorem DC.ok_all (h : K.ok = true) : 0 < K.a ∧ K.a < 1000000000 ∧ 0 < K.b ∧ K.b < 1000000000 ∧ 0 < K.m ∧ 0 < K.k1 ∧ K.k1 < 1000000000 ∧ 0 < K.k2 ∧ K.k2 < 1000000000 ∧ 0 < K.m2 ∧ K.m2 < 2147483648 ∧ 0 < K.k3 ∧ K.k3 < 1000000 ∧ 0 < K.m3 ∧ K.m3 < 2147483648 ∧ 0 < K.k5 ∧ K.k5 < 1000000 ∧ 0 < K.m4 := of_decide_eq_true h
theorem draw_ok (hK : K.ok = true) (hp : 0 ≤ s.p) (hm : 0 < many ∧ many ≤ 1000000) : callF z cl Φ 5 2 (b_draw K) [.loc 0, .d (.int many)] (eH s :: T) = .ok (.d (.int (drawZ K s many).1)) (eH (drawZ K s many).2 :: T) := by
  obtain ⟨a1, a2, a3, a4, a5, a6, a7, a8, a9, a10, a11, a12, a13, a14, a15, a16, a17, a18⟩ := DC.ok_all hK
  rw [callF_eq (p := 2) (rs := [.loc 0, .d (.int many)]) rfl]
  have A : ∃ o : Option R, exec z cl Φ (.iff (.and (.cmp .eq (.ix (.var 0) (.lit (.int 2))) (.lit (.int 0))) (.cmp .lt (.ix (.var 0) (.lit (.int 1))) (.b1 .len (.ix (.var 0) (.lit (.int 0)))))) (.cons (.asg 3 false (.ix (.ix (.var 0) (.lit (.int 0))) (.ix (.var 0) (.lit (.int 1))))) (.cons (.setix (.var 0) (.lit (.int 1)) (.bin .add (.ix (.var 0) (.lit (.int 1))) (.lit (.int 1)))) (.cons (.setix (.var 0) (.lit (.int 3)) (.bin .mod (.b1 .int (.bin .add (.bin .add (.bin .mul (.ix (.var 0) (.lit (.int 3))) (.lit (.int K.a))) (.bin .mul (.var 3) (.lit (.int K.b)))) (.lit (.int K.c)))) (.lit (.int K.m)))) (.cons (.iff (.cmp .ge (.var 3) (.bin .pow (.lit (.int 10)) (.lit (.int 18)))) (.cons (.setix (.var 0) (.lit (.int 2)) (.var 3)) .nil) .nil) .nil)))) .nil) [some (.loc 0), some (.d (.int many)), none, none, none] (eH s :: T) = .ok (.next [some (.loc 0), some (.d (.int many)), none, o, none]) (eH (take1 K s) :: T) := by
    by_cases h1 : s.l = 0
    · by_cases h2 : s.p < s.cs.length
      · obtain ⟨C, hC⟩ : ∃ C, C = s.cs.getD s.p.toNat 0 := ⟨_, rfl⟩
        have e : (s.cs.map D.int)[s.p.toNat]? = some (.int C) := by
          rw [hC, List.getElem?_map, List.getElem?_eq_getElem (by omega), List.getD_eq_getElem?_getD, List.getElem?_eq_getElem (by omega)]
          rfl
        have e3 : ∀ S, ixop (.d (.lst (s.cs.map .int))) (.d (.int s.p)) S = .ok (.d (.int C)) S := fun S => by
          have q := ix_lst (S := S) e
          have e4 : ((s.p.toNat : Nat) : Int) = s.p := by omega
          rw [e4] at q
          exact q
        have f1 : binI .mul s.x K.a = some (s.x * K.a) := binI_mul (mulOk_r (by omega))
        have f2 : binI .mul C K.b = some (C * K.b) := binI_mul (mulOk_r (by omega))
        have f3 : binI .mod (s.x * K.a + C * K.b + K.c) K.m = some ((s.x * K.a + C * K.b + K.c).fmod K.m) := binI_mod (by omega)
        refine ⟨some (.d (.int C)), ?_⟩
        by_cases h3 : (1000000000000000000 : Int) ≤ C
        · have ht : take1 K s = { s with p := s.p + 1, x := (s.x * K.a + C * K.b + K.c).fmod K.m, l := C } := by
            unfold take1
            rw [if_pos ⟨h1, h2⟩, ← hC]
            simp [h3]
          simp [Env.get, h1, h2, e3, f1, f2, f3, binI_pow18, h3, ht]
        · have ht : take1 K s = { s with p := s.p + 1, x := (s.x * K.a + C * K.b + K.c).fmod K.m } := by
            unfold take1
            rw [if_pos ⟨h1, h2⟩, ← hC]
            simp [h3]
          simp [Env.get, h1, h2, e3, f1, f2, f3, binI_pow18, h3, ht]
      · exact ⟨none, by simp [Env.get, h1, h2, take1]⟩
    · exact ⟨none, by simp [Env.get, h1, take1]⟩
  obtain ⟨o, A⟩ := A
  show finF _ (execs z cl Φ (b_draw K) [some (.loc 0), some (.d (.int many)), none, none, none] (eH s :: T)) = _
  unfold b_draw
  rw [execs_cons_eq, A, andThen_ok, thenS_next]
  by_cases h : 0 < (take1 K s).l
  · simp [Env.get, h, binI_mod (x := (take1 K s).l) (y := many) (by omega), binI_div (x := (take1 K s).l) (y := many) (divOk_of (by omega)), drawZ]
  · obtain ⟨U, hU⟩ : ∃ U, U = (((take1 K s).x + K.k1 * ((take1 K s).c + 1)) * K.k2).fmod K.m2 := ⟨_, rfl⟩
    obtain ⟨V, hV⟩ : ∃ V, V = (U * (U.fdiv K.k3 + K.k4)).fmod K.m3 := ⟨_, rfl⟩
    obtain ⟨W, hW⟩ : ∃ W, W = (V * (V.fdiv K.k5 + K.k6)).fmod K.m4 := ⟨_, rfl⟩
    have hmix : mix K (take1 K s) = W.fdiv 16 := by subst hW; subst hV; subst hU; rfl
    have u1 : 0 ≤ U ∧ U < K.m2 := by rw [hU]; exact fmod_rng a10
    have v1 : 0 ≤ V ∧ V < K.m3 := by rw [hV]; exact fmod_rng a14
    have e1 : binI .mul K.k1 ((take1 K s).c + 1) = some (K.k1 * ((take1 K s).c + 1)) := binI_mul (mulOk_l (by omega))
    have e2 : binI .mul ((take1 K s).x + K.k1 * ((take1 K s).c + 1)) K.k2 = some (((take1 K s).x + K.k1 * ((take1 K s).c + 1)) * K.k2) := binI_mul (mulOk_r (by omega))
    have e3 : binI .mod (((take1 K s).x + K.k1 * ((take1 K s).c + 1)) * K.k2) K.m2 = some U := by rw [hU]; exact binI_mod (by omega)
    have e4 : binI .fdiv U K.k3 = some (U.fdiv K.k3) := binI_div (divOk_of (by omega))
    have e5 : binI .mul U (U.fdiv K.k3 + K.k4) = some (U * (U.fdiv K.k3 + K.k4)) := binI_mul (mulOk_l (by omega))
    have e6 : binI .mod (U * (U.fdiv K.k3 + K.k4)) K.m3 = some V := by rw [hV]; exact binI_mod (by omega)
    have e7 : binI .fdiv V K.k5 = some (V.fdiv K.k5) := binI_div (divOk_of (by omega))
    have e8 : binI .mul V (V.fdiv K.k5 + K.k6) = some (V * (V.fdiv K.k5 + K.k6)) := binI_mul (mulOk_l (by omega))
    have e9 : binI .mod (V * (V.fdiv K.k5 + K.k6)) K.m4 = some W := by rw [hW]; exact binI_mod (by omega)
    have e10 : binI .fdiv W 16 = some (W.fdiv 16) := binI_div (divOk_of (by omega))
    have e11 : binI .mod (W.fdiv 16) many = some ((W.fdiv 16).fmod many) := binI_mod (by omega)
    simp [Env.get, h, drawZ, e1, e2, e3, e4, e5, e6, e7, e8, e9, e10, e11, hmix]
/-- the hand is as it should be -/
def WF (h : O) : Prop := ∃ s : HS, h = eH s ∧ 0 ≤ s.p
def deInts : List D → Option (List Int)
  | [] => some []
  | .int i :: r => (deInts r).map (i :: ·)
  | _ :: _ => none
def deH : O → Option HS
  | .lst [.lst cs, .int p, .int l, .int x, .int c] => (deInts cs).map fun cs => ⟨cs, p, l, x, c⟩
  | _ => none
theorem deInts_map (cs : List Int) : deInts (cs.map .int) = some cs := by
  induction cs with
  | nil => rfl
  | cons c cs ih =>
    show (deInts (cs.map .int)).map (c :: ·) = _
    rw [ih]; rfl
theorem deH_eH (s : HS) : deH (eH s) = some s := by
  show (deInts (s.cs.map .int)).map _ = _
  rw [deInts_map]; rfl
theorem deInts_inv : ∀ {ds : List D} {cs : List Int}, deInts ds = some cs → ds = cs.map .int
  | [], cs, h => by cases h; rfl
  | d :: ds, cs, h => by
    cases d <;> first | cases h | skip
    rename_i i
    have h : (deInts ds).map (i :: ·) = some cs := h
    cases e : deInts ds with
    | none => rw [e] at h; cases h
    | some c => rw [e] at h; cases h; rw [deInts_inv e]; rfl
theorem deH_inv {h : O} {s : HS} (e : deH h = some s) : h = eH s := by
  unfold deH at e
  split at e
  · rename_i cs p l x c
    cases e2 : deInts cs with
    | none => rw [e2] at e; cases e
    | some c' => rw [e2] at e; cases e; rw [deInts_inv e2]; rfl
  · cases e
/-- a draw below many -/
@[irreducible] def mDraw (K : DC) (many : Int) : M Int := fun h => match deH h with
  | some s => if 0 ≤ s.p ∧ 0 < many ∧ many ≤ 1000000 then .ok (drawZ K s many).1 (eH (drawZ K s many).2) else .bad
  | none => .bad
theorem drawZ_lt (hm : 0 < many) : 0 ≤ (drawZ K s many).1 ∧ (drawZ K s many).1 < many := by
  unfold drawZ
  simp only
  split <;> exact fmod_rng hm
theorem drawZ_p (hp : 0 ≤ s.p) : 0 ≤ (drawZ K s many).2.p := by
  have q : 0 ≤ (take1 K s).p := by
    unfold take1
    split
    · show 0 ≤ s.p + 1
      omega
    · exact hp
  unfold drawZ
  simp only
  split <;> exact q
theorem J_draw {L : Law} {n : Nat} {q : Dn} (h : L.ds[n]? = some q) (hb : q.b = b_draw K) (hn : q.N.length = 5) (hps : q.ps.length = 2) (hK : K.ok = true) (k : Nat) (many : Int) : Jf (ph L (k + 1) n) [.hand, .d (eI many)] (mDraw K many) .d eI := by
  refine Jf.law h ?_
  intro rs T H ha
  match rs, ha with
  | [r1, r2], ⟨h1, h2, _⟩ =>
    have h1 : r1 = .loc 0 := h1
    have h2 : r2 = .d (.int many) := Va.int h2
    subst h1 h2
    have e : (cx L k q).n = 5 := hn
    rw [hb, e, hps]
    unfold mDraw
    cases e2 : deH H with
    | none => trivial
    | some s =>
      rw [deH_inv e2]
      simp only [deH_eH]
      by_cases q : 0 ≤ s.p ∧ 0 < many ∧ many ≤ 1000000
      · rw [if_pos q, draw_ok hK q.1 q.2]
        exact ⟨_, rfl, rfl⟩
      · rw [if_neg q]; trivial
/-! ### what always ends well: every hand, every draw -/
/-- from each hand, m ends with a value of P and a hand -/
def Tot {α : Type} (m : M α) (P : α → Prop) : Prop := ∀ h, WF h → ∃ a h', m h = .ok a h' ∧ WF h' ∧ P a
section
variable {α β σ : Type} {P : α → Prop} {Q' : β → Prop} {m : M α} {f : α → M β}
theorem Tot.ret {a : α} (h : P a) : Tot (rtn a) P := fun H w => ⟨a, H, rfl, w, h⟩
theorem Tot.bind (h : Tot m P) (g : ∀ a, P a → Tot (f a) Q') : Tot (bnd m f) Q' := fun H w => by
  obtain ⟨a, h', e, w', p⟩ := h H w
  obtain ⟨b, h2, e2, w2, p2⟩ := g a p h' w'
  refine ⟨b, h2, ?_, w2, p2⟩
  show bndQ f (m H) = _
  rw [e]
  exact e2
theorem Tot.imp {P2 : α → Prop} (h : Tot m P) (g : ∀ a, P a → P2 a) : Tot m P2 := fun H w => by
  obtain ⟨a, h', e, w', p⟩ := h H w
  exact ⟨a, h', e, w', g a p⟩
theorem Tot.draw (hm : 0 < many ∧ many ≤ 1000000) : Tot (mDraw K many) fun r => 0 ≤ r ∧ r < many := fun H w => by
  obtain ⟨s, rfl, hp⟩ := w
  refine ⟨(drawZ K s many).1, eH (drawZ K s many).2, ?_, ⟨_, rfl, drawZ_p hp⟩, drawZ_lt hm.1⟩
  unfold mDraw
  simp only [deH_eH]
  rw [if_pos ⟨hp, hm⟩]
theorem Tot.ite {c : Bool} {a b : M α} (ha : c = true → Tot a P) (hb : c = false → Tot b P) : Tot (if c = true then a else b) P := by
  cases c with
  | true => rw [if_pos rfl]; exact ha rfl
  | false => rw [if_neg (by decide)]; exact hb rfl
theorem Tot.nx (h : Tot m P) : Tot (nx m) P := fun H w => by
  obtain ⟨a, h', e, w', p⟩ := h H w
  refine ⟨a, h', ?_, w', p⟩
  show (match m H with
    | .ok a h => Q.ok a h
    | _ => .bad) = _
  rw [e]
/-- a fold with a law that stands all along -/
theorem Tot.fold {F : α → σ → M σ} (I : List α → σ → Prop) : ∀ {xs done : List α} {s : σ}, I done s → (∀ done x s, x ∈ xs → I done s → Tot (F x s) fun s' => I (done ++ [x]) s') → Tot (mFold F xs s) fun s' => I (done ++ xs) s'
  | [], done, s, hI, _ => Tot.ret (by rw [List.append_nil]; exact hI)
  | x :: xs, done, s, hI, h => by
    refine Tot.bind (h done x s List.mem_cons_self hI) fun s' hs => ?_
    have q := Tot.fold I (xs := xs) (done := done ++ [x]) hs fun dn y s hy hi => h dn y s (List.mem_cons_of_mem _ hy) hi
    exact q.imp fun s' h => by rw [List.append_assoc] at h; exact h
inductive All2 {α β : Type} (R : α → β → Prop) : List α → List β → Prop where
  | nil : All2 R [] []
  | cons {x : α} {y : β} {xs : List α} {ys : List β} : R x y → All2 R xs ys → All2 R (x :: xs) (y :: ys)
/-- a comprehension, item by item -/
theorem Tot.lc {c : α → M Bool} {f : α → M β} {R : α → β → Prop} : ∀ {xs : List α}, (∀ x ∈ xs, Tot (c x) fun _ => True) → (∀ x ∈ xs, Tot (f x) (R x)) → Tot (mLc c f xs) fun ys => ys.length ≤ xs.length ∧ ∃ zs : List α, zs.Sublist xs ∧ All2 R zs ys
  | [], _, _ => Tot.ret ⟨Nat.le_refl _, [], .slnil, .nil⟩
  | x :: xs, hc, hf => by
    refine Tot.bind (hc x List.mem_cons_self) fun k _ => Tot.ite (fun _ => ?_) fun _ => ?_
    · refine Tot.bind (hf x List.mem_cons_self) fun y hy => ?_
      refine Tot.bind (Tot.lc (fun z hz => hc z (List.mem_cons_of_mem _ hz)) fun z hz => hf z (List.mem_cons_of_mem _ hz)) fun ys ⟨hl, zs, hz, hr⟩ => Tot.ret ⟨by simp; omega, x :: zs, hz.cons₂ x, .cons hy hr⟩
    · refine (Tot.lc (fun z hz => hc z (List.mem_cons_of_mem _ hz)) fun z hz => hf z (List.mem_cons_of_mem _ hz)).imp fun ys ⟨hl, zs, hz, hr⟩ => ⟨by simp; omega, zs, hz.cons x, hr⟩
end
end
end Mi.J

set_option Elab.async false
set_option linter.all false
set_option maxRecDepth 100000
set_option maxHeartbeats 4000000
/-! Mj10: equal through and through: the laws' own _law_same. -/
namespace Mi.J
open PySem
section
variable {α β γ ε : Type} {X : Cx} {k k' k1 k2 k3 : K} {a b c i e : E} {ts : Ts} {ma mb : M D}
/-- its kind of sequence and its items -/
def seqK : D → Option (Bool × List D)
  | .tup ds => some (false, ds)
  | .lst ds => some (true, ds)
  | _ => none
theorem Va.seqK {T : Sto} {H : O} {r : R} {x : D} (v : Va T r x) : r.seq (H :: T) = J.seqK x := by
  rw [v.seq]
  cases x <;> rfl
theorem Jv.eqD (ha : Jv X k1 a ts ma eD) (hb : Jv X k2 b ts mb eD) : Jv X .d (.cmp .eq a b) ts (m2 (fun x y => grd (x.ok && y.ok) (rtn (D.eqv x y))) ma mb) eB :=
  op2 (fun _ _ => rfl) ha hb _ fun x y r s T H v w => by
    show Ok T _ _ (ofO _ ((match r.dat (H :: T), s.dat (H :: T) with
      | some a, some b => if (a.ok && b.ok) = true then some (D.eqv a b) else none
      | _, _ => none).map _))
    rw [v.dat, w.dat]
    show Ok T _ (grd ((eD x).ok && (eD y).ok) _ H) (ofO _ ((if ((eD x).ok && (eD y).ok) = true then some (D.eqv (eD x) (eD y)) else none).map fun b => R.d (.bl b)))
    cases ((eD x).ok && (eD y).ok) with
    | true => exact ⟨_, rfl, rfl⟩
    | false => trivial
theorem Jv.lenD (ha : Jv X k a ts ma eD) : Jv X .d (.b1 .len a) ts (m1 (fun x => match seqK x with
    | some p => rtn (p.2.length : Int)
    | none => bad) ma) eI :=
  op1 (fun _ _ => rfl) ha _ fun x r T H v => by
    have e : r.seq (H :: T) = seqK x := by
      rcases v.any with v | ⟨ds, e, rfl⟩
      · exact v.seqK
      · have e : x = .lst ds := e
        subst e; rfl
    cases q : seqK x with
    | none => trivial
    | some p =>
      rw [q] at e
      refine ⟨.d (.int p.2.length), ?_, rfl⟩
      show ofO _ ((lenR r (H :: T)).map fun n => R.d (.int n)) = _
      rw [lenR_seq (t := p.1) (ds := p.2) e]
      rfl
def mZip (x y : D) : M (List (D × D)) := match seqK x, seqK y with
  | some p, some q => if p.1 = q.1 then rtn (p.2.zip q.2) else bad
  | _, _ => bad
theorem map_eD (xs : List D) : xs.map eD = xs := by
  induction xs with
  | nil => rfl
  | cons x xs ih => rw [List.map_cons, ih]; rfl
theorem JI.zpD (ha : Jv X k1 a ts ma eD) (hb : Jv X k2 b ts mb eD) : JI X (.zip a b) ts (m2 mZip ma mb) (e2 eD eD) := fun c δ T H A =>
  (ha c δ T H A).bind fun x h r v => Ok.toA v fun r' v' => (hb c δ T h A).bind fun y h2 s w => Ok.toA w fun s' w' => by
    have v' : Va T r' x := v'
    have w' : Va T s' y := w'
    unfold mZip
    cases g1 : seqK x with
    | none => trivial
    | some p =>
      cases g2 : seqK y with
      | none => trivial
      | some q =>
        by_cases e3 : p.1 = q.1
        · simp only [e3, if_true]
          have it : ∀ H, Dyn.items (H :: T) (.zp r' s') = some ((p.2.zip q.2).map (e2 eD eD)) := fun H => by
            show ((r'.seq (H :: T)).bind fun a => (s'.seq (H :: T)).bind fun b => if (a.1 == b.1) = true then some (zipD a.2 b.2) else none) = _
            rw [v'.seqK, w'.seqK, g1, g2, ← zipD_map, map_eD, map_eD]
            show (if (p.1 == q.1) = true then _ else _) = _
            rw [e3]
            simp
          have cs : (∃ ds es, r' = .d (.tup ds) ∧ s' = .d (.tup es) ∧ p.2 = ds ∧ q.2 = es) ∨ (∃ ds es, r' = .d (.lst ds) ∧ s' = .d (.lst es) ∧ p.2 = ds ∧ q.2 = es) ∨ zipop r' s' (h2 :: T) = if (Dyn.items (h2 :: T) (.zp r' s')).isSome = true then .ok (.dyn (.zp r' s')) (h2 :: T) else .bad := by
            rcases v' with rfl | ⟨ds', l, e0, rfl, e⟩ <;> rcases w' with rfl | ⟨ds'', l', e0', rfl, e'⟩
            · cases x <;> cases g1 <;> cases y <;> cases g2
              · exact .inl ⟨_, _, rfl, rfl, rfl, rfl⟩
              · cases e3
              · cases e3
              · exact .inr (.inl ⟨_, _, rfl, rfl, rfl, rfl⟩)
            · cases x <;> first | exact .inr (.inr rfl) | cases g1
            · cases y <;> first | exact .inr (.inr rfl) | cases g2
            · exact .inr (.inr rfl)
          rcases cs with ⟨ds, es, rfl, rfl, e4, e5⟩ | ⟨ds, es, rfl, rfl, e4, e5⟩ | cs
          · exact ⟨.fix (zipD ds es), rfl, .inl (by rw [← zipD_map, map_eD, map_eD, e4, e5])⟩
          · exact ⟨.fix (zipD ds es), rfl, .inl (by rw [← zipD_map, map_eD, map_eD, e4, e5])⟩
          · rw [cs, it h2]
            exact ⟨_, rfl, .inr ⟨_, rfl, it⟩⟩
        · simp only [e3, if_false]
          trivial
end
def b_same (n : Nat) : Sts := (.cons (.iff (.or (.isi (.var 1) .tuple) (.isi (.var 1) .list)) (.cons (.iff (.or (.cmp .ne (.isi (.var 0) .tuple) (.isi (.var 1) .tuple)) (.cmp .ne (.isi (.var 0) .list) (.isi (.var 1) .list))) (.cons (.ret (.lit (.bl false))) .nil) .nil) (.cons (.ret (.and (.cmp .eq (.b1 .len (.var 0)) (.b1 .len (.var 1))) (.b1 .all (.lc1 [2, 3] (.call n (.cons (.var 2) (.cons (.var 3) .nil))) (.two (.nm 2) (.nm 3)) (.zip (.var 0) (.var 1)) (.lit (.bl true)))))) .nil)) .nil) (.cons (.iff (.or (.cmp .ne (.isi (.var 0) .bool) (.isi (.var 1) .bool)) (.cmp .ne (.cmp .is (.var 0) (.lit .non)) (.cmp .is (.var 1) (.lit .non)))) (.cons (.ret (.lit (.bl false))) .nil) .nil) (.cons (.ret (.and (.cmp .eq (.isi (.var 0) .int) (.isi (.var 1) .int)) (.cmp .eq (.var 0) (.var 1)))) .nil)))
def mLenD (x : D) : M Int := match seqK x with
  | some p => rtn (p.2.length : Int)
  | none => bad
/-- the body, what the calls give being given -/
noncomputable def mSameB (f : D → D → M Bool) (x y : D) : M Bool :=
  mIf (mOr (mTy .tuple y) (mTy .list y))
    (mIf (mOr (m2 (fun x y => rtn (!decide (x = y))) (mTy .tuple x) (mTy .tuple y)) (m2 (fun x y => rtn (!decide (x = y))) (mTy .list x) (mTy .list y))) (rtn false)
      (mAnd (m2 (fun x y => rtn (decide (x = y))) (mLenD x) (mLenD y)) (m1 (fun x => rtn (x.all id)) (m1 (mLst (fun _ => rtn true) (fun p => f p.1 p.2)) (mZip x y)))))
    (mIf (mOr (m2 (fun x y => rtn (!decide (x = y))) (mTy .bool x) (mTy .bool y)) (rtn (!decide (isNon x = isNon y)))) (rtn false)
      (mAnd (m2 (fun x y => rtn (decide (x = y))) (mTy .int x) (mTy .int y)) (grd (x.ok && y.ok) (rtn (D.eqv x y)))))
noncomputable def mSame : Nat → D → D → M Bool
  | 0 => fun _ _ => bad
  | k + 1 => mSameB (mSame k)
theorem J_same {L : Law} {n : Nat} {q : Dn} (h : L.ds[n]? = some q) (hb : q.b = b_same n) (hn : q.N.length = 4) (hps : q.ps.length = 2) (k0 : Nat) : ∀ (k : Nat) (x y : D), Jf (ph L (k0 + k) n) [.d (eD x), .d (eD y)] (mSame k x y) .d eB
  | 0, x, y => fun rs T H ha => trivial
  | k + 1, x, y => by
    refine Jf.law h ?_
    have e : (cx L (k0 + k) q).n = 4 := hn
    rw [hb, hps]
    refine Jf.ofR rfl (show Nat.ble 2 (cx L (k0 + k) q).n = true by rw [e]; rfl) ?_
    have v0 : ∀ {ts : Ts} {i : Nat} {x : D}, tsAt ts i = .d (eD x) → Jv (cx L (k0 + k) q) .a (.var i) ts (rtn x) eD := fun h => Jv.var _ h
    have t2 : Jt (cx L (k0 + k) q).n (.two (.nm 2) (.nm 3)) (e2 eD eD) (fun p => [(3, .d (eD p.2))] ++ [(2, .d (eD p.1))]) := by
      rw [e]; exact Jt.two (Jt.nm rfl) (Jt.nm rfl)
    have main := Jr.iffR (X := cx L (k0 + k) q) (ts := prm 0 [.d (eD x), .d (eD y)]) (k := .d) (er := eB) (ss := (.cons (.iff (.or (.cmp .ne (.isi (.var 0) .bool) (.isi (.var 1) .bool)) (.cmp .ne (.cmp .is (.var 0) (.lit .non)) (.cmp .is (.var 1) (.lit .non)))) (.cons (.ret (.lit (.bl false))) .nil) .nil) (.cons (.ret (.and (.cmp .eq (.isi (.var 0) .int) (.isi (.var 1) .int)) (.cmp .eq (.var 0) (.var 1)))) .nil)))
      (Jv.or (Jv.isi (t := .tuple) (ea := eD) rfl (v0 (i := 1) (x := y) rfl)) (Jv.isi (t := .list) (ea := eD) rfl (v0 (i := 1) (x := y) rfl)))
      (Jr.iffR
        (Jv.or (Jv.ne lwB (by decide) (Jv.isi (t := .tuple) (ea := eD) rfl (v0 (i := 0) (x := x) rfl)) (Jv.isi (t := .tuple) (ea := eD) rfl (v0 (i := 1) (x := y) rfl))) (Jv.ne lwB (by decide) (Jv.isi (t := .list) (ea := eD) rfl (v0 (i := 0) (x := x) rfl)) (Jv.isi (t := .list) (ea := eD) rfl (v0 (i := 1) (x := y) rfl))))
        (Jr.ret1 (ss := .nil) rfl (Jv.litB false))
        (Jr.ret1 (ss := .nil) rfl (Jv.and (Jv.eq lwI (by decide) (Jv.lenD (v0 (i := 0) (x := x) rfl)) (Jv.lenD (v0 (i := 1) (x := y) rfl)))
          (Jv.all (Jv.lc1 (own := [2, 3]) (JI.zpD (v0 (i := 0) (x := x) rfl) (v0 (i := 1) (x := y) rfl)) t2 rfl (fun p => Jv.litB true) (fun p => Jv.call2 (em0 := eD) (em1 := eD) (v0 (i := 2) (x := p.1) rfl) (v0 (i := 3) (x := p.2) rfl) (fun u v => J_same h hb hn hps k0 k u v)))))))
      (Jr.iffR
        (Jv.or (Jv.ne lwB (by decide) (Jv.isi (t := .bool) (ea := eD) rfl (v0 (i := 0) (x := x) rfl)) (Jv.isi (t := .bool) (ea := eD) rfl (v0 (i := 1) (x := y) rfl))) (Jv.ne lwB (by decide) (Jv.isN (ea := eD) (v0 (i := 0) (x := x) rfl)) (Jv.isN (ea := eD) (v0 (i := 1) (x := y) rfl))))
        (Jr.ret1 (ss := .nil) rfl (Jv.litB false))
        (Jr.ret1 (ss := .nil) rfl (Jv.and (Jv.eq lwB (by decide) (Jv.isi (t := .int) (ea := eD) rfl (v0 (i := 0) (x := x) rfl)) (Jv.isi (t := .int) (ea := eD) rfl (v0 (i := 1) (x := y) rfl))) (Jv.eqD (v0 (i := 0) (x := x) rfl) (v0 (i := 1) (x := y) rfl)))))
    exact main
/-! ### what it says of data of one kind -/
/-- data of B: the same exactly if equal -/
structure Sm {α : Type} [DecidableEq α] (em : α → D) (d : Nat) (B : α → Prop) : Prop where
  same : ∀ k x y, B y → mSame (k + d) (em x) (em y) = rtn (decide (x = y))
theorem smI : Sm eI 1 (fun _ => True) := ⟨fun k x y _ => by
  show mSameB (mSame k) (eI x) (eI y) = _
  have e : D.eqv (eI x) (eI y) = decide (x = y) := lwI.eq x y
  have e2 : ((eI x).ok && (eI y).ok) = true := rfl
  simp [mSameB, mIf, mOr, mAnd, m2, e, e2]⟩
theorem smB : Sm eB 1 (fun _ => True) := ⟨fun k x y _ => by
  show mSameB (mSame k) (eB x) (eB y) = _
  have e : D.eqv (eB x) (eB y) = decide (x = y) := lwB.eq x y
  have e2 : ((eB x).ok && (eB y).ok) = true := rfl
  have e3 : isNon (eB x) = false := rfl
  have e4 : isNon (eB y) = false := rfl
  simp [mSameB, mIf, mOr, mAnd, m2, e, e2, e3, e4]⟩
theorem mLc_ok {α β : Type} {p : α → Bool} {c : α → M Bool} {f : α → M β} {g : α → β} : ∀ {xs : List α}, (∀ x ∈ xs, c x = rtn (p x)) → (∀ x ∈ xs, p x = true → f x = rtn (g x)) → mLc c f xs = rtn ((xs.filter p).map g)
  | [], _, _ => rfl
  | x :: xs, hc, hf => by
    have ih := mLc_ok (xs := xs) (fun y hy => hc y (List.mem_cons_of_mem _ hy)) (fun y hy => hf y (List.mem_cons_of_mem _ hy))
    show bnd (c x) _ = _
    rw [hc x List.mem_cons_self, ret_bnd]
    cases q : p x with
    | true => rw [if_pos rfl, hf x List.mem_cons_self q, ret_bnd, ih, ret_bnd, List.filter_cons_of_pos q]; rfl
    | false => rw [if_neg (by decide), ih, List.filter_cons_of_neg (by rw [q]; decide)]
theorem mCut_ok {α : Type} {xs : List α} (h : xs.length ≤ lim) : mCut xs = rtn xs := by
  rw [mCut_def]
  rw [decide_eq_true h]; rfl
/-- [g x for x in xs if p x] -/
theorem mLst_ok {α β : Type} {p : α → Bool} {c : α → M Bool} {f : α → M β} {g : α → β} {xs : List α} (hl : xs.length ≤ lim) (hc : ∀ x ∈ xs, c x = rtn (p x)) (hf : ∀ x ∈ xs, p x = true → f x = rtn (g x)) : mLst c f xs = rtn ((xs.filter p).map g) := by
  unfold mLst
  rw [mLc_ok hc hf, nx_ret, ret_bnd, mCut_ok]
  have := List.length_filter_le p xs
  rw [List.length_map]
  omega
/-- [g x for x in xs] -/
theorem mLst_all {α β : Type} {f : α → M β} {g : α → β} {xs : List α} (hl : xs.length ≤ lim) (hf : ∀ x ∈ xs, f x = rtn (g x)) : mLst (fun _ => rtn true) f xs = rtn (xs.map g) := by
  rw [mLst_ok (p := fun _ => true) hl (fun _ _ => rfl) fun x hx _ => hf x hx, List.filter_eq_self.mpr fun _ _ => rfl]
theorem same_seq {ω : Type} {d : Nat} {ds es : List D} (zs : List ω) (u v : ω → D) (p : ω → Bool) (t : Bool) (hz0 : ds.zip es = zs.map fun w => (u w, v w)) (hl : es.length ≤ lim) (hp : ∀ w ∈ zs, mSame d (u w) (v w) = rtn (p w)) :
    mSame (d + 1) (if t = true then .lst ds else .tup ds) (if t = true then .lst es else .tup es) = rtn (decide (ds.length = es.length) && zs.all p) := by
  have hz : (ds.zip es).length ≤ lim := by rw [List.length_zip]; omega
  have hz1 : zs.length ≤ lim := by rw [hz0, List.length_map] at hz; exact hz
  have e : mLst (fun _ => rtn true) (fun q : D × D => mSame d q.1 q.2) (ds.zip es) = rtn (zs.map p) := by
    have q : ∀ zs : List ω, (∀ w ∈ zs, mSame d (u w) (v w) = rtn (p w)) → mLc (fun _ => rtn true) (fun q : D × D => mSame d q.1 q.2) (zs.map fun w => (u w, v w)) = rtn (zs.map p) := by
      intro zs
      induction zs with
      | nil => exact fun _ => rfl
      | cons w zs ih =>
        intro hp
        show bnd (rtn true) _ = _
        rw [ret_bnd, if_pos rfl]
        show bnd (mSame d (u w) (v w)) _ = _
        rw [hp w List.mem_cons_self, ret_bnd, ih fun x hx => hp x (List.mem_cons_of_mem _ hx)]
        rfl
    unfold mLst
    rw [hz0, q zs hp, nx_ret, ret_bnd, mCut_ok (by rw [List.length_map]; exact hz1)]
  have ea : (zs.map p).all id = zs.all p := by rw [List.all_map]; rfl
  have el : decide ((ds.length : Int) = (es.length : Int)) = decide (ds.length = es.length) := by
    by_cases q : ds.length = es.length
    · simp [q]
    · have q2 : ¬ ((ds.length : Int) = (es.length : Int)) := by omega
      rw [decide_eq_false q, decide_eq_false q2]
  cases t with
  | true =>
    show mSameB (mSame d) (.lst ds) (.lst es) = _
    have z1 : mZip (.lst ds) (.lst es) = rtn (ds.zip es) := rfl
    have t1 : ∀ x, mTy .tuple (.lst x) = rtn false := fun _ => rfl
    have t2 : ∀ x, mTy .list (.lst x) = rtn true := fun _ => rfl
    have t3 : ∀ x, mLenD (.lst x) = rtn (x.length : Int) := fun _ => rfl
    simp only [mSameB, mIf, mOr, mAnd, m2, m1, z1, t1, t2, t3, ret_bnd, e, ea, el, if_true, Bool.false_eq_true, if_false, decide_true, Bool.not_true, ret_ite]
    cases decide (ds.length = es.length) <;> rfl
  | false =>
    show mSameB (mSame d) (.tup ds) (.tup es) = _
    have z1 : mZip (.tup ds) (.tup es) = rtn (ds.zip es) := rfl
    have t1 : ∀ x, mTy .tuple (.tup x) = rtn true := fun _ => rfl
    have t2 : ∀ x, mTy .list (.tup x) = rtn false := fun _ => rfl
    have t3 : ∀ x, mLenD (.tup x) = rtn (x.length : Int) := fun _ => rfl
    simp only [mSameB, mIf, mOr, mAnd, m2, m1, z1, t1, t2, t3, ret_bnd, e, ea, el, if_true, Bool.false_eq_true, if_false, decide_true, Bool.not_true, ret_ite]
    cases decide (ds.length = es.length) <;> rfl
section
variable {α β γ ε : Type} [DecidableEq α] [DecidableEq β] [DecidableEq γ] [DecidableEq ε] {e : α → D} {f : β → D} {g : γ → D} {h : ε → D} {d d1 d2 d3 d4 : Nat} {A : α → Prop} {B : β → Prop} {C : γ → Prop} {E' : ε → Prop}
theorem zip_all (xs ys : List α) : (decide (xs.length = ys.length) && (xs.zip ys).all fun q => decide (q.1 = q.2)) = decide (xs = ys) := by
  induction xs generalizing ys with
  | nil => cases ys <;> simp
  | cons x xs ih =>
    cases ys with
    | nil => simp
    | cons y ys =>
      have q := ih ys
      simp only [List.length_cons, List.zip_cons_cons, List.all_cons]
      have e1 : decide (xs.length + 1 = ys.length + 1) = decide (xs.length = ys.length) := by simp
      rw [e1, Bool.and_left_comm, q]
      simp
theorem Sm.at (hs : Sm e d1 A) (hd : d1 ≤ d) (x y : α) (h : A y) : mSame d (e x) (e y) = rtn (decide (x = y)) := by
  have q := hs.same (d - d1) x y h
  have e : d - d1 + d1 = d := by omega
  rw [e] at q
  exact q
theorem lim2 {n : Nat} (h : n ≤ 1000000) : n ≤ lim := Nat.le_trans h (by decide)
theorem same_TL (t : Bool) (hs : Sm e d1 A) (hd : d1 ≤ d) (xs ys : List α) (hl : ys.length ≤ lim) (ha : ∀ y ∈ ys, A y) : mSame (d + 1) (if t = true then .lst (xs.map e) else .tup (xs.map e)) (if t = true then .lst (ys.map e) else .tup (ys.map e)) = rtn (decide (xs = ys)) := by
  rw [same_seq (d := d) (xs.zip ys) (fun w => e w.1) (fun w => e w.2) (fun w => decide (w.1 = w.2)) t (by rw [List.zip_map]; rfl) (by rw [List.length_map]; exact hl) fun w hw => hs.at hd _ _ (ha _ (List.of_mem_zip hw).2), List.length_map, List.length_map, zip_all]
theorem smT (hs : Sm e d A) : Sm (eT e) (d + 1) (fun ys => ys.length ≤ lim ∧ ∀ y ∈ ys, A y) := ⟨fun k xs ys h => same_TL (d := k + d) false hs (by omega) xs ys h.1 h.2⟩
theorem smL (hs : Sm e d A) : Sm (eL e) (d + 1) (fun ys => ys.length ≤ lim ∧ ∀ y ∈ ys, A y) := ⟨fun k xs ys h => same_TL (d := k + d) true hs (by omega) xs ys h.1 h.2⟩
theorem same_2 (t : Bool) (hs : Sm e d1 A) (hf : Sm f d2 B) (h1 : d1 ≤ d) (h2 : d2 ≤ d) (x y : α × β) (ha : A y.1) (hb : B y.2) : mSame (d + 1) (if t = true then .lst [e x.1, f x.2] else .tup [e x.1, f x.2]) (if t = true then .lst [e y.1, f y.2] else .tup [e y.1, f y.2]) = rtn (decide (x = y)) := by
  rw [same_seq (d := d) [0, 1] (fun w : Nat => match w with | 0 => e x.1 | _ => f x.2) (fun w : Nat => match w with | 0 => e y.1 | _ => f y.2) (fun w : Nat => match w with | 0 => decide (x.1 = y.1) | _ => decide (x.2 = y.2)) t rfl (lim2 (by show 2 ≤ _; omega)) fun w _ => by
    match w with
    | 0 => exact hs.at h1 _ _ ha
    | n + 1 => exact hf.at h2 _ _ hb]
  obtain ⟨a, b⟩ := x
  obtain ⟨a', b'⟩ := y
  simp
theorem sm2 (hs : Sm e d1 A) (hf : Sm f d2 B) : Sm (e2 e f) (max d1 d2 + 1) (fun y => A y.1 ∧ B y.2) := ⟨fun k x y h => same_2 (d := k + max d1 d2) false hs hf (by omega) (by omega) x y h.1 h.2⟩
theorem sml2 (hs : Sm e d1 A) (hf : Sm f d2 B) : Sm (l2 e f) (max d1 d2 + 1) (fun y => A y.1 ∧ B y.2) := ⟨fun k x y h => same_2 (d := k + max d1 d2) true hs hf (by omega) (by omega) x y h.1 h.2⟩
theorem same_3 (t : Bool) (hs : Sm e d1 A) (hf : Sm f d2 B) (hg : Sm g d3 C) (h1 : d1 ≤ d) (h2 : d2 ≤ d) (h3 : d3 ≤ d) (x y : α × β × γ) (ha : A y.1) (hb : B y.2.1) (hc : C y.2.2) : mSame (d + 1) (if t = true then .lst [e x.1, f x.2.1, g x.2.2] else .tup [e x.1, f x.2.1, g x.2.2]) (if t = true then .lst [e y.1, f y.2.1, g y.2.2] else .tup [e y.1, f y.2.1, g y.2.2]) = rtn (decide (x = y)) := by
  rw [same_seq (d := d) [0, 1, 2] (fun w : Nat => match w with | 0 => e x.1 | 1 => f x.2.1 | _ => g x.2.2) (fun w : Nat => match w with | 0 => e y.1 | 1 => f y.2.1 | _ => g y.2.2) (fun w : Nat => match w with | 0 => decide (x.1 = y.1) | 1 => decide (x.2.1 = y.2.1) | _ => decide (x.2.2 = y.2.2)) t rfl (lim2 (by show 3 ≤ _; omega)) fun w _ => by
    match w with
    | 0 => exact hs.at h1 _ _ ha
    | 1 => exact hf.at h2 _ _ hb
    | n + 2 => exact hg.at h3 _ _ hc]
  obtain ⟨a, b, c⟩ := x
  obtain ⟨a', b', c'⟩ := y
  simp
theorem sm3 (hs : Sm e d1 A) (hf : Sm f d2 B) (hg : Sm g d3 C) : Sm (e3 e f g) (max d1 (max d2 d3) + 1) (fun y => A y.1 ∧ B y.2.1 ∧ C y.2.2) := ⟨fun k x y h => same_3 (d := k + max d1 (max d2 d3)) false hs hf hg (by omega) (by omega) (by omega) x y h.1 h.2.1 h.2.2⟩
theorem sml3 (hs : Sm e d1 A) (hf : Sm f d2 B) (hg : Sm g d3 C) : Sm (l3 e f g) (max d1 (max d2 d3) + 1) (fun y => A y.1 ∧ B y.2.1 ∧ C y.2.2) := ⟨fun k x y h => same_3 (d := k + max d1 (max d2 d3)) true hs hf hg (by omega) (by omega) (by omega) x y h.1 h.2.1 h.2.2⟩
theorem same_4 (t : Bool) (hs : Sm e d1 A) (hf : Sm f d2 B) (hg : Sm g d3 C) (hh : Sm h d4 E') (h1 : d1 ≤ d) (h2 : d2 ≤ d) (h3 : d3 ≤ d) (h4 : d4 ≤ d) (x y : α × β × γ × ε) (ha : A y.1) (hb : B y.2.1) (hc : C y.2.2.1) (he : E' y.2.2.2) : mSame (d + 1) (if t = true then .lst [e x.1, f x.2.1, g x.2.2.1, h x.2.2.2] else .tup [e x.1, f x.2.1, g x.2.2.1, h x.2.2.2]) (if t = true then .lst [e y.1, f y.2.1, g y.2.2.1, h y.2.2.2] else .tup [e y.1, f y.2.1, g y.2.2.1, h y.2.2.2]) = rtn (decide (x = y)) := by
  rw [same_seq (d := d) [0, 1, 2, 3] (fun w : Nat => match w with | 0 => e x.1 | 1 => f x.2.1 | 2 => g x.2.2.1 | _ => h x.2.2.2) (fun w : Nat => match w with | 0 => e y.1 | 1 => f y.2.1 | 2 => g y.2.2.1 | _ => h y.2.2.2) (fun w : Nat => match w with | 0 => decide (x.1 = y.1) | 1 => decide (x.2.1 = y.2.1) | 2 => decide (x.2.2.1 = y.2.2.1) | _ => decide (x.2.2.2 = y.2.2.2)) t rfl (lim2 (by show 4 ≤ _; omega)) fun w _ => by
    match w with
    | 0 => exact hs.at h1 _ _ ha
    | 1 => exact hf.at h2 _ _ hb
    | 2 => exact hg.at h3 _ _ hc
    | n + 3 => exact hh.at h4 _ _ he]
  obtain ⟨a, b, c, w⟩ := x
  obtain ⟨a', b', c', w'⟩ := y
  simp
theorem sm4 (hs : Sm e d1 A) (hf : Sm f d2 B) (hg : Sm g d3 C) (hh : Sm h d4 E') : Sm (e4 e f g h) (max d1 (max d2 (max d3 d4)) + 1) (fun y => A y.1 ∧ B y.2.1 ∧ C y.2.2.1 ∧ E' y.2.2.2) := ⟨fun k x y q => same_4 (d := k + max d1 (max d2 (max d3 d4))) false hs hf hg hh (by omega) (by omega) (by omega) (by omega) x y q.1 q.2.1 q.2.2.1 q.2.2.2⟩
theorem sml4 (hs : Sm e d1 A) (hf : Sm f d2 B) (hg : Sm g d3 C) (hh : Sm h d4 E') : Sm (l4 e f g h) (max d1 (max d2 (max d3 d4)) + 1) (fun y => A y.1 ∧ B y.2.1 ∧ C y.2.2.1 ∧ E' y.2.2.2) := ⟨fun k x y q => same_4 (d := k + max d1 (max d2 (max d3 d4))) true hs hf hg hh (by omega) (by omega) (by omega) (by omega) x y q.1 q.2.1 q.2.2.1 q.2.2.2⟩
/-- a value or None -/
structure SmN {α : Type} [DecidableEq α] (em : α → D) (d : Nat) : Prop where
  l : ∀ k x, mSame (k + d) (em x) .non = rtn false
  r : ∀ k x, mSame (k + d) .non (em x) = rtn false
theorem smnI : SmN eI 1 := ⟨fun k x => by
  show mSameB (mSame k) (eI x) .non = _
  have t1 : mTy .tuple (.non) = rtn false := rfl
  have t2 : mTy .list (.non) = rtn false := rfl
  have t3 : mTy .bool (.non) = rtn false := rfl
  have n1 : isNon .non = true := rfl
  simp [mSameB, mIf, mOr, mAnd, m2, t1, t2, t3, n1], fun k x => by
  show mSameB (mSame k) .non (eI x) = _
  have t3 : mTy .bool (.non) = rtn false := rfl
  have n1 : isNon .non = true := rfl
  simp [mSameB, mIf, mOr, mAnd, m2, t3, n1]⟩
theorem smn_seq (t : Bool) (ds : List D) (k : Nat) : mSame (k + 1) (if t = true then .lst ds else .tup ds) .non = rtn false ∧ mSame (k + 1) .non (if t = true then .lst ds else .tup ds) = rtn false := by
  have t1 : mTy .tuple (.non) = rtn false := rfl
  have t2 : mTy .list (.non) = rtn false := rfl
  have t3 : mTy .bool (.non) = rtn false := rfl
  have n1 : isNon .non = true := rfl
  have u1 : ∀ x, mTy .tuple (.lst x) = rtn false := fun _ => rfl
  have u2 : ∀ x, mTy .list (.lst x) = rtn true := fun _ => rfl
  have u3 : ∀ x, mTy .bool (.lst x) = rtn false := fun _ => rfl
  have n2 : ∀ x, isNon (.lst x) = false := fun _ => rfl
  have w1 : ∀ x, mTy .tuple (.tup x) = rtn true := fun _ => rfl
  have w2 : ∀ x, mTy .list (.tup x) = rtn false := fun _ => rfl
  have w3 : ∀ x, mTy .bool (.tup x) = rtn false := fun _ => rfl
  have n3 : ∀ x, isNon (.tup x) = false := fun _ => rfl
  cases t with
  | true =>
    constructor
    · show mSameB (mSame k) (.lst ds) .non = _
      simp [mSameB, mIf, mOr, mAnd, m2, t1, t2, t3, n1, u1, u2, u3, n2]
    · show mSameB (mSame k) .non (.lst ds) = _
      simp [mSameB, mIf, mOr, mAnd, m2, t1, t2, t3, n1, u1, u2, u3, n2]
  | false =>
    constructor
    · show mSameB (mSame k) (.tup ds) .non = _
      simp [mSameB, mIf, mOr, mAnd, m2, t1, t2, t3, n1, w1, w2, w3, n3]
    · show mSameB (mSame k) .non (.tup ds) = _
      simp [mSameB, mIf, mOr, mAnd, m2, t1, t2, t3, n1, w1, w2, w3, n3]
theorem smnT : SmN (eT e) 1 := ⟨fun k x => (smn_seq false _ k).1, fun k x => (smn_seq false _ k).2⟩
theorem smnL : SmN (eL e) 1 := ⟨fun k x => (smn_seq true _ k).1, fun k x => (smn_seq true _ k).2⟩
theorem smn2 : SmN (e2 e f) 1 := ⟨fun k x => (smn_seq false _ k).1, fun k x => (smn_seq false _ k).2⟩
theorem smn3 : SmN (e3 e f g) 1 := ⟨fun k x => (smn_seq false _ k).1, fun k x => (smn_seq false _ k).2⟩
theorem smn4 : SmN (e4 e f g h) 1 := ⟨fun k x => (smn_seq false _ k).1, fun k x => (smn_seq false _ k).2⟩
theorem smO (hs : Sm e (d + 1) A) (hn : SmN e 1) : Sm (eO e) (d + 1) (fun y => ∀ a, y = some a → A a) := ⟨fun k x y q => by
  have nn : mSame (k + (d + 1)) .non .non = rtn true := by
    show mSameB (mSame (k + d)) .non .non = _
    have t1 : mTy .tuple (.non) = rtn false := rfl
    have t2 : mTy .list (.non) = rtn false := rfl
    have t3 : mTy .bool (.non) = rtn false := rfl
    have t4 : mTy .int (.non) = rtn false := rfl
    have e : D.eqv .non .non = true := rfl
    have e2 : ((D.non).ok && (D.non).ok) = true := rfl
    simp [mSameB, mIf, mOr, mAnd, m2, t1, t2, t3, t4, e]
  cases x with
  | none => cases y with
    | none => exact nn
    | some b => exact hn.r (k + d) b
  | some a => cases y with
    | none => exact hn.l (k + d) a
    | some b => exact (hs.same k a b (q b rfl)).trans (by simp)⟩
end
/-- the same, not to be computed -/
noncomputable def mSm (d : Nat) (x y : D) : M Bool := opq (mSame d x y)
theorem mSm_eq (d : Nat) (x y : D) : mSm d x y = mSame d x y := opq_eq _
end Mi.J

set_option Elab.async false
set_option linter.all false
set_option maxRecDepth 100000
set_option maxHeartbeats 4000000
/-! Mj11: a law's own def: the hand is made, the rest follows. -/
namespace Mi.J
open PySem
/-- one of some, drawn -/
@[irreducible] def mAny (K : DC) {α : Type} (xs : List α) : M α := m2 (fun x i => opt (L2.atI x i)) (rtn xs) (bnd (m1 (fun x => rtn (x.length : Int)) (rtn xs)) fun a => mDraw K a)
/-- all, in a drawn order -/
@[irreducible] noncomputable def mMixed (K : DC) {α : Type} (xs : List α) : M (List α) :=
  (bnd (m2 (fun x y => rtn (x, y)) (rtn xs) (m2 (fun x y => rtn (x, y)) (rtn ([] : List α)) (rtn ()))) fun v1 => (bnd (mWhl (fun (s2 : List α × List α) => (m2 (fun x y => rtn (decide (y < x))) (m1 (fun x => rtn (x.length : Int)) (rtn s2.1)) (rtn (0 : Int)))) (fun (s2 : List α × List α) => (bnd (bnd (bnd (m1 (fun x => rtn (x.length : Int)) (rtn s2.1)) fun a => mDraw K a) fun x => bnd (mPopAt s2.1 x) fun p => bnd (mApp s2.2 p.1) fun zs => rtn (zs, p.2)) fun v3 => rtn (v3.2, v3.1))) mostN (v1.1, v1.2.1)) fun s2 => rtn s2.2))
def b_hand (c0 c1 : Int) : Sts := (.cons (.asg 1 false (.lc1 [2] (.b1 .abs (.b1 .int (.var 2))) (.nm 2) (.seq (.sl (.var 0) (.lit .non) (.lit (.int 63)))) (.lit (.bl true)))) (.cons (.ret (.lst (.cons (.var 1) (.cons (.lit (.int 0)) (.cons (.lit (.int 0)) (.cons (.bin .add (.lit (.int c0)) (.bin .mul (.lit (.int c1)) (.b1 .len (.var 1)))) (.cons (.lit (.int 0)) .nil))))))) .nil))
theorem hand_ok {z : Bool} {cl : Cl} {Φ : Phi} {c0 c1 : Int} (hc : 0 ≤ c1 ∧ c1 < 1000000) {ns : List Int} (hn : ns.length ≤ 63) (S : Sto) : ∃ s : HS, 0 ≤ s.p ∧ callF z cl Φ 3 1 (b_hand c0 c1) [.d (.scr ns)] S = .ok (.fl [.lst (s.cs.map .int), .int s.p, .int s.l, .int s.x, .int s.c]) S := by
  have hl : (cutT ns none (some 63)).length ≤ 63 := by
    unfold cutT
    rw [List.length_take, List.length_drop]
    omega
  refine ⟨⟨(cutT ns none (some 63)).map absZ, 0, 0, c0 + c1 * ((cutT ns none (some 63)).map absZ).length, 0⟩, Int.le_refl _, ?_⟩
  rw [callF_eq (p := 1) (rs := [.d (.scr ns)]) rfl]
  show finF _ (execs z cl Φ (b_hand c0 c1) [some (.d (.scr ns)), none, none] S) = _
  unfold b_hand
  have e1 : evI z cl Φ (.seq (.sl (.var 0) (.lit .non) (.lit (.int 63)))) [some (.d (.scr ns)), none, none] S = .ok (.fix ((cutT ns none (some 63)).map .int)) S := by
    have q : cutD (ns.map D.int) none (some 63) = (cutT ns none (some 63)).map .int := cutD_map (em := D.int) ns none (some 63)
    show Res.ok (Src.fix (cutD (ns.map D.int) none (some 63))) S = _
    rw [q]
  have e2 : ev z cl Φ (.lc1 [2] (.b1 .abs (.b1 .int (.var 2))) (.nm 2) (.seq (.sl (.var 0) (.lit .non) (.lit (.int 63)))) (.lit (.bl true))) [some (.d (.scr ns)), none, none] S = .ok (.fl ((cutT ns none (some 63)).map fun i => D.int (absZ i))) S := by
    refine ev_lc1_all (xs := cutT ns none (some 63)) D.int (fun i => D.int (absZ i)) e1 (by omega) fun x hx => ⟨_, rfl, ?_⟩
    rfl
  have e3 : binI .mul c1 ((cutT ns none (some 63)).length : Int) = some (c1 * ((cutT ns none (some 63)).length : Int)) := binI_mul (mulOk_l (by omega))
  rw [execs_cons_eq, exec_asg_eq, e2]
  simp [Env.get, e3]
theorem law_end {L : Law} {n nh ih lev : Nat} {q qh : Dn} {rest : Sts} {c0 c1 : Int} {m : M Bool} (hq : L.ds[n]? = some q) (hqh : L.ds[nh]? = some qh) (hb : q.b = .cons (.asg ih true (.call nh (.cons (.var 0) .nil))) rest) (hps : q.ps.length = 1)
    (hhb : qh.b = b_hand c0 c1) (hhn : qh.N.length = 3) (hhps : qh.ps.length = 1) (hc : 0 ≤ c1 ∧ c1 < 1000000) (hi : ih < q.N.length) (hi0 : 1 ≤ q.N.length)
    (hr : Jr (cx L (lev + 1) q) (rs (cx L (lev + 1) q) rest) [(ih, .hand)] m .d eB) (ht : Tot m fun b => b = true) (ns : List Int) (hn : ns.length ≤ 63) : ∃ S', L.phi (lev + 2) n [.d (.scr ns)] [] = .ok (.d (.bl true)) S' := by
  have e : L.phi (lev + 2) n = callF L.z (fun _ => []) (L.phi (lev + 1)) q.N.length q.ps.length q.b := by
    show (match L.ds[n]? with
      | some q => callF L.z (fun _ => []) (L.phi (lev + 1)) q.N.length q.ps.length q.b
      | none => fun _ _ => .bad) = _
    rw [hq]
  have eh : L.phi (lev + 1) nh = callF L.z (fun _ => []) (L.phi lev) 3 1 (b_hand c0 c1) := by
    show (match L.ds[nh]? with
      | some q => callF L.z (fun _ => []) (L.phi lev) q.N.length q.ps.length q.b
      | none => fun _ _ => .bad) = _
    rw [hqh]
    show callF L.z _ _ qh.N.length qh.ps.length qh.b = _
    rw [hhb, hhn, hhps]
  obtain ⟨s, hp, es⟩ := hand_ok (z := L.z) (cl := fun _ => []) (Φ := L.phi lev) (c0 := c0) hc hn []
  rw [e, hps, callF_eq (p := 1) (rs := [.d (.scr ns)]) rfl, hb, execs_cons_eq]
  obtain ⟨m', hm'⟩ : ∃ m', q.N.length = m' + 1 := ⟨q.N.length - 1, by omega⟩
  have ex : exec L.z (fun _ => []) (L.phi (lev + 1)) (.asg ih true (.call nh (.cons (.var 0) .nil))) ([R.d (.scr ns)].map some ++ List.replicate (q.N.length - 1) none) [] = .ok (.next (([R.d (.scr ns)].map some ++ List.replicate (q.N.length - 1) none).set ih (some (.loc 0)))) [eH s] := by
    rw [exec_asg_eq, ev_call_eq]
    show ((L.phi (lev + 1) nh [.d (.scr ns)] []).andThen _) = _
    rw [eh, es]
    rfl
  rw [ex, andThen_ok, thenS_next]
  have hr2 := hr 0 (([R.d (.scr ns)].map some ++ List.replicate (q.N.length - 1) none).set ih (some (.loc 0))) [] (eH s) ⟨by
      show _ = q.N.length
      simp; omega, Nat.le_refl _, fun i => by
      by_cases q2 : ih = i
      · subst q2
        show SlOk [] 0 (tsAt [(ih, .hand)] ih) (Env.get (List.set _ ih _) ih)
        rw [tsAt_cons_same, get_set_same (by simp; omega)]
        rfl
      · rw [tsAt_cons_ne q2]; trivial, fun i j l hne e1 e2 ho => by
      by_cases q2 : ih = i
      · subst q2; rw [tsAt_cons_same] at ho; cases ho
      · rw [tsAt_cons_ne q2] at ho; cases ho⟩
  obtain ⟨b, h', em, w', hbt⟩ := ht (eH s) ⟨s, rfl, hp⟩
  rw [em] at hr2
  obtain ⟨r, T', er, _, v⟩ := hr2
  subst hbt
  have v : r = .d (.bl true) := v
  subst v
  have er : execs L.z (fun _ => []) (ph L (lev + 1)) rest _ [eH s] = .ok (.ret (.d (.bl true))) (h' :: T') := er
  rw [ph_eq] at er
  rw [er]
  exact ⟨_, rfl⟩
end Mi.J

set_option Elab.async false
set_option linter.all false
set_option maxRecDepth 100000
set_option maxHeartbeats 1000000
/-! Mk1: what the typed mirrors come to: plain lemmas. -/
namespace Mi.J
open PySem
/-! ### ints in a row -/
theorem mem_rangeZ {a b x : Int} : x ∈ rangeZ a b ↔ a ≤ x ∧ x < b := by
  unfold rangeZ
  rw [List.mem_map]
  constructor
  · rintro ⟨i, hi, rfl⟩
    have := List.mem_range.mp hi
    omega
  · rintro ⟨h1, h2⟩
    exact ⟨(x - a).toNat, List.mem_range.mpr (by omega), by omega⟩
theorem length_rangeZ {a b : Int} : (rangeZ a b).length = (b - a).toNat := by
  unfold rangeZ
  rw [List.length_map, List.length_range]
theorem sorted_rangeZ {a b : Int} : (rangeZ a b).Pairwise (· < ·) := by
  unfold rangeZ
  rw [List.pairwise_map]
  exact List.Pairwise.imp (fun {x y} h => by omega) (List.pairwise_lt_range (n := (b - a).toNat))
theorem nodup_rangeZ {a b : Int} : (rangeZ a b).Nodup := List.Pairwise.imp (fun {x y} h => by omega) sorted_rangeZ
theorem get_rangeZ {a b : Int} {i : Nat} (h : i < (b - a).toNat) : (rangeZ a b)[i]? = some (a + (i : Int)) := by
  unfold rangeZ
  rw [List.getElem?_map, List.getElem?_range h]
  rfl
theorem mRng_ok {a b : Int} (h : -1000000 ≤ a ∧ a ≤ 1000000) (h' : -1000000 ≤ b ∧ b ≤ 1000000) : mRng a b = rtn (rangeZ a b) := by
  rw [mRng_def]
  rw [small62_int h.1 h.2, small62_int h'.1 h'.2]
  rfl
/-! ### operations that may fail -/
section
variable {α β γ σ ρ : Type}
theorem mApp_ok {xs : List α} {x : α} (h : xs.length < 1000000) : mApp xs x = rtn (xs ++ [x]) := by
  rw [mApp_def]
  rw [decide_eq_true (Nat.lt_of_lt_of_le h (by decide : 1000000 ≤ lim))]
  rfl
theorem mExt_ok {xs ys : List α} (h : xs.length + ys.length ≤ 1000000) : mExt xs ys = rtn (xs ++ ys) := by
  rw [mExt_def]
  rw [decide_eq_true (lim2 h)]
  rfl
theorem mCat_ok {xs ys : List α} (h : xs.length + ys.length ≤ 1000000) : mCat xs ys = rtn (xs ++ ys) := by
  rw [mCat_def]
  rw [decide_eq_true (lim2 h)]
  rfl
theorem atI_nat {xs : List α} {i : Int} (h : 0 ≤ i) : L2.atI xs i = xs[i.toNat]? := by
  unfold L2.atI L2.ixN
  rw [if_pos h]
  by_cases q : i < xs.length
  · rw [if_pos q]; rfl
  · rw [if_neg q, List.getElem?_eq_none (by omega)]; rfl
theorem atI_of {xs : List α} {i : Int} (h : 0 ≤ i) (h2 : i < xs.length) : L2.atI xs i = some (xs[i.toNat]'(by omega)) := by
  rw [atI_nat h, List.getElem?_eq_getElem (by omega)]
theorem atI_last {xs : List α} : L2.atI xs (-1) = xs.getLast? := by
  unfold L2.atI L2.ixN
  rw [if_neg (by omega)]
  cases xs with
  | nil => rfl
  | cons x xs =>
    rw [if_pos (by simp; omega), Option.bind_some]
    have e : (-1 + ((x :: xs).length : Int)).toNat = (x :: xs).length - 1 := by omega
    rw [e, ← List.getLast?_eq_getElem?]
theorem ixN_nat {n : Nat} {i : Int} (h : 0 ≤ i) (h2 : i < n) : L2.ixN n i = some i.toNat := by
  unfold L2.ixN
  rw [if_pos h, if_pos h2]
/-! ### folds -/
theorem mFold_ok {F : α → σ → M σ} {g : σ → α → σ} (I : σ → Prop) : ∀ {xs : List α} {s : σ}, I s → (∀ x ∈ xs, ∀ s, I s → F x s = rtn (g s x) ∧ I (g s x)) → mFold F xs s = rtn (xs.foldl g s)
  | [], s, _, _ => rfl
  | x :: xs, s, hI, h => by
    obtain ⟨e, i⟩ := h x List.mem_cons_self s hI
    show bnd (F x s) (mFold F xs) = _
    rw [e, ret_bnd]
    exact mFold_ok I i fun y hy s hs => h y (List.mem_cons_of_mem _ hy) s hs
theorem mFold_rtn {F : α → σ → M σ} {g : σ → α → σ} {xs : List α} {s : σ} (h : ∀ x ∈ xs, ∀ s, F x s = rtn (g s x)) : mFold F xs s = rtn (xs.foldl g s) :=
  mFold_ok (fun _ => True) trivial fun x hx s _ => ⟨h x hx s, trivial⟩
/-- with what was done so far -/
theorem mFold_pre {F : α → σ → M σ} (G : List α → σ) : ∀ {xs done : List α}, (∀ done x rest, done ++ x :: rest = done ++ x :: rest → x ∈ xs → F x (G done) = rtn (G (done ++ [x]))) → mFold F xs (G done) = rtn (G (done ++ xs))
  | [], done, _ => by rw [List.append_nil]; rfl
  | x :: xs, done, h => by
    show bnd (F x (G done)) (mFold F xs) = _
    rw [h done x xs rfl List.mem_cons_self, ret_bnd, mFold_pre G (xs := xs) (done := done ++ [x]) fun d y r e hy => h d y r e (List.mem_cons_of_mem _ hy), List.append_assoc]
    rfl
/-- with a law over what was done -/
theorem mFold_inv {F : α → σ → M σ} (I : List α → σ → Prop) : ∀ {xs done : List α} {s : σ}, I done s → (∀ done x s, x ∈ xs → I done s → ∃ s', F x s = rtn s' ∧ I (done ++ [x]) s') → ∃ s', mFold F xs s = rtn s' ∧ I (done ++ xs) s'
  | [], done, s, hI, _ => ⟨s, rfl, by rw [List.append_nil]; exact hI⟩
  | x :: xs, done, s, hI, h => by
    obtain ⟨s1, e, h1⟩ := h done x s List.mem_cons_self hI
    obtain ⟨s2, e2, h2⟩ := mFold_inv I (xs := xs) (done := done ++ [x]) h1 fun d y s hy hi => h d y s (List.mem_cons_of_mem _ hy) hi
    refine ⟨s2, ?_, by rw [List.append_assoc] at h2; exact h2⟩
    show bnd (F x s) (mFold F xs) = _
    rw [e, ret_bnd, e2]
theorem mFoldF_nx {F : α → σ → M (Fw σ ρ)} (I : σ → Prop) : ∀ {xs : List α} {s : σ}, I s → (∀ x ∈ xs, ∀ s, I s → ∃ s', F x s = rtn (.nxt s') ∧ I s') → ∃ s', mFoldF F xs s = rtn (.nxt s') ∧ I s'
  | [], s, hI, _ => ⟨s, rfl, hI⟩
  | x :: xs, s, hI, h => by
    obtain ⟨s1, e, h1⟩ := h x List.mem_cons_self s hI
    obtain ⟨s2, e2, h2⟩ := mFoldF_nx I (xs := xs) h1 fun y hy s hs => h y (List.mem_cons_of_mem _ hy) s hs
    refine ⟨s2, ?_, h2⟩
    show bndF (F x s) (mFoldF F xs) = _
    rw [e, bndF_nxt, e2]
/-- a search that leaves with the first hit -/
theorem mFoldF_find {F : α → Unit → M (Fw Unit ρ)} {p : α → Bool} {r : α → ρ} : ∀ {xs : List α}, (∀ x ∈ xs, F x () = rtn (if p x = true then .out (r x) else .nxt ())) → mFoldF F xs () = rtn (match xs.find? p with
    | some x => .out (r x)
    | none => .nxt ())
  | [], _ => rfl
  | x :: xs, h => by
    show bndF (F x ()) (mFoldF F xs) = _
    rw [h x List.mem_cons_self, List.find?_cons]
    cases p x with
    | true => rfl
    | false =>
      show bndF (rtn (.nxt ())) _ = _
      rw [bndF_nxt]
      exact mFoldF_find fun y hy => h y (List.mem_cons_of_mem _ hy)
theorem mLst2_ok {c : α → M Bool} {it2 : α → M (List γ)} {c2 : α → γ → M Bool} {f : α → γ → M β} {p : α → Bool} {zs : α → List γ} {p2 : α → γ → Bool} {g : α → γ → β} {xs : List α} (hl : (((xs.filter p).map fun x => ((zs x).filter (p2 x)).map (g x)).flatten).length ≤ 1000000)
    (hc : ∀ x ∈ xs, c x = rtn (p x)) (hz : ∀ x ∈ xs, p x = true → it2 x = rtn (zs x)) (hc2 : ∀ x ∈ xs, p x = true → ∀ y ∈ zs x, c2 x y = rtn (p2 x y)) (hf : ∀ x ∈ xs, p x = true → ∀ y ∈ zs x, p2 x y = true → f x y = rtn (g x y)) :
    mLst2 c it2 c2 f xs = rtn (((xs.filter p).map fun x => ((zs x).filter (p2 x)).map (g x)).flatten) := by
  have q : ∀ xs : List α, (∀ x ∈ xs, c x = rtn (p x)) → (∀ x ∈ xs, p x = true → it2 x = rtn (zs x)) → (∀ x ∈ xs, p x = true → ∀ y ∈ zs x, c2 x y = rtn (p2 x y)) → (∀ x ∈ xs, p x = true → ∀ y ∈ zs x, p2 x y = true → f x y = rtn (g x y)) →
      mLc2 c it2 c2 f xs = rtn (((xs.filter p).map fun x => ((zs x).filter (p2 x)).map (g x)).flatten) := by
    intro xs
    induction xs with
    | nil => exact fun _ _ _ _ => rfl
    | cons x xs ih =>
      intro hc hz hc2 hf
      have ih := ih (fun y hy => hc y (List.mem_cons_of_mem _ hy)) (fun y hy => hz y (List.mem_cons_of_mem _ hy)) (fun y hy => hc2 y (List.mem_cons_of_mem _ hy)) (fun y hy => hf y (List.mem_cons_of_mem _ hy))
      show bnd (c x) _ = _
      rw [hc x List.mem_cons_self, ret_bnd]
      cases q : p x with
      | true =>
        rw [if_pos rfl, hz x List.mem_cons_self q, ret_bnd, mLc_ok (hc2 x List.mem_cons_self q) (hf x List.mem_cons_self q), ret_bnd, ih, ret_bnd, List.filter_cons_of_pos q]
        rfl
      | false => rw [if_neg (by decide), ih, List.filter_cons_of_neg (by rw [q]; decide)]
  unfold mLst2
  rw [q xs hc hz hc2 hf, nx_ret, ret_bnd, mCut_ok (lim2 hl)]
/-! ### while -/
theorem mWhl_ok {cn : σ → M Bool} {b : σ → M σ} (I : σ → Prop) (μ : σ → Nat) : ∀ {n : Nat} {s : σ}, I s → μ s < n → (∀ s, I s → cn s = rtn false ∨ cn s = rtn true ∧ ∃ s', b s = rtn s' ∧ I s' ∧ μ s' < μ s) → ∃ s', mWhl cn b n s = rtn s' ∧ I s' ∧ cn s' = rtn false
  | 0, s, _, h, _ => absurd h (Nat.not_lt_zero _)
  | n + 1, s, hI, hn, h => by
    rcases h s hI with e | ⟨e, s', e2, i', hl⟩
    · refine ⟨s, ?_, hI, e⟩
      show bnd (cn s) _ = _
      rw [e]; rfl
    · obtain ⟨s2, e3, i2, e4⟩ := mWhl_ok I μ (n := n) i' (by omega) h
      refine ⟨s2, ?_, i2, e4⟩
      show bnd (cn s) _ = _
      rw [e, ret_bnd, if_pos rfl, e2, ret_bnd, e3]
theorem mostN_big {n : Nat} (h : n ≤ 100000000) : n < mostN := by
  rw [mostN_eq]
  unfold most
  omega
theorem Tot.whl {cn : σ → M Bool} {b : σ → M σ} (I : σ → Prop) (μ : σ → Nat) : ∀ {n : Nat} {s : σ}, I s → μ s < n → (∀ s, I s → cn s = rtn false ∨ cn s = rtn true ∧ Tot (b s) fun s' => I s' ∧ μ s' < μ s) → Tot (mWhl cn b n s) fun s' => I s' ∧ cn s' = rtn false
  | 0, s, _, h, _ => absurd h (Nat.not_lt_zero _)
  | n + 1, s, hI, hn, h => by
    rcases h s hI with e | ⟨e, t⟩
    · show Tot (bnd (cn s) _) _
      rw [e]
      exact Tot.ret ⟨hI, e⟩
    · show Tot (bnd (cn s) _) _
      rw [e, ret_bnd, if_pos rfl]
      exact Tot.bind t fun s' hs => Tot.whl I μ (n := n) hs.1 (by omega) h
/-! ### draws -/
theorem Tot.eq {m m' : M α} {P : α → Prop} (e : m = m') (h : Tot m' P) : Tot m P := e ▸ h
theorem Tot.any {K : DC} {xs : List α} (h : xs ≠ []) (hl : xs.length ≤ 1000000) : Tot (mAny K xs) fun a => a ∈ xs := by
  have h0 : 0 < xs.length := List.length_pos_iff.mpr h
  unfold mAny
  simp only [m2, m1, ret_bnd]
  refine Tot.bind (Tot.draw (K := K) (many := (xs.length : Int)) (by omega)) fun i hi => ?_
  rw [atI_of hi.1 hi.2]
  exact Tot.ret (List.getElem_mem _)
theorem perm_erase {xs : List α} {j : Nat} (h : j < xs.length) : (xs[j] :: xs.eraseIdx j).Perm xs := by
  induction xs generalizing j with
  | nil => exact absurd h (Nat.not_lt_zero _)
  | cons x xs ih =>
    cases j with
    | zero => exact List.Perm.refl _
    | succ j =>
      have hj : j < xs.length := by simpa using h
      show (xs[j]'hj :: x :: xs.eraseIdx j).Perm (x :: xs)
      exact (List.Perm.swap _ _ _).trans ((ih hj).cons x)
theorem Tot.mixed {K : DC} {xs : List α} (hl : xs.length ≤ 100000) : Tot (mMixed K xs) fun ys => ys.Perm xs := by
  unfold mMixed
  simp only [m2, m1, ret_bnd, bnd_assoc]
  refine Tot.bind (Tot.whl (fun s : List α × List α => (s.1 ++ s.2).Perm xs) (fun s => s.1.length) (by simp) (mostN_big (by simp; omega)) fun s hs => ?_) fun s hs => ?_
  · cases e : s.1 with
    | nil => left; simp
    | cons y ys =>
      right
      refine ⟨by simp, ?_⟩
      have hlen : s.1.length + s.2.length = xs.length := by rw [← List.length_append, hs.length_eq]
      rw [← e]
      have h0 : 0 < s.1.length := by rw [e]; simp
      refine Tot.bind (Tot.draw (K := K) (many := (s.1.length : Int)) (by omega)) fun i hi => ?_
      have e2 : mPopAt s.1 i = rtn (s.1[i.toNat]'(by omega), s.1.eraseIdx i.toNat) := by
        unfold mPopAt
        rw [ixN_nat hi.1 hi.2]
        simp only
        rw [List.getElem?_eq_getElem (by omega)]
      rw [e2, ret_bnd, mApp_ok (by omega), ret_bnd]
      refine Tot.ret ⟨?_, ?_⟩
      · show (s.1.eraseIdx i.toNat ++ (s.2 ++ [s.1[i.toNat]'(by omega)])).Perm xs
        refine List.Perm.trans ?_ hs
        have p := (perm_erase (xs := s.1) (j := i.toNat) (by omega))
        have p2 := p.append_right s.2
        refine List.Perm.trans ?_ p2
        rw [← List.append_assoc]
        exact (List.perm_append_comm (l₁ := s.1.eraseIdx i.toNat ++ s.2) (l₂ := [s.1[i.toNat]'(by omega)]))
      · show (s.1.eraseIdx i.toNat).length < s.1.length
        rw [List.length_eraseIdx]
        split <;> omega
  · refine Tot.ret ?_
    obtain ⟨h1, h2⟩ := hs
    cases e : s.1 with
    | nil => rw [e] at h1; exact h1
    | cons y ys =>
      exfalso
      rw [e] at h2
      have h2 := ret_inj h2
      simp at h2
theorem Tot.foldF {F : α → σ → M (Fw σ ρ)} (I : σ → Prop) : ∀ {xs : List α} {s : σ}, I s → (∀ x ∈ xs, ∀ s, I s → Tot (F x s) fun w => ∃ s', w = .nxt s' ∧ I s') → Tot (mFoldF F xs s) fun w => ∃ s', w = .nxt s' ∧ I s'
  | [], s, hI, _ => Tot.ret ⟨s, rfl, hI⟩
  | x :: xs, s, hI, h => by
    refine Tot.bind (h x List.mem_cons_self s hI) fun w hw => ?_
    obtain ⟨s', rfl, hs⟩ := hw
    exact Tot.foldF I hs fun y hy s hs => h y (List.mem_cons_of_mem _ hy) s hs
/-- some of the items, drawn -/
theorem Tot.lst {c : α → M Bool} {f : α → M β} {g : α → β} {xs : List α} (hl : xs.length ≤ 1000000) (hc : ∀ x ∈ xs, Tot (c x) fun _ => True) (hf : ∀ x ∈ xs, f x = rtn (g x)) : Tot (mLst c f xs) fun ys => ∃ zs : List α, zs.Sublist xs ∧ ys = zs.map g := by
  unfold mLst
  refine Tot.bind (Tot.nx (Tot.lc (R := fun x y => y = g x) hc fun x hx => by rw [hf x hx]; exact Tot.ret rfl)) fun ys q => ?_
  obtain ⟨h1, zs, hz, ha⟩ := q
  rw [mCut_ok (lim2 (by omega))]
  refine Tot.ret ⟨zs, hz, ?_⟩
  clear hz h1 hc hf hl
  induction ha with
  | nil => rfl
  | cons h _ ih => rw [h, ih]; rfl
end
end Mi.J

set_option Elab.async false
set_option linter.all false
set_option maxRecDepth 100000
set_option maxHeartbeats 1000000
/-! Mk2: sorting, orders, searches: plain mathematics for the laws. -/
namespace Mi.J
open PySem
@[simp] theorem all_const {α : Type} {xs : List α} : (xs.all fun _ => true) = true := List.all_eq_true.mpr fun _ _ => rfl
/-! ### sorted lists of ints -/
theorem perm_sorted_eq : ∀ {xs ys : List Int}, xs.Pairwise (· ≤ ·) → ys.Pairwise (· ≤ ·) → xs.Perm ys → xs = ys
  | [], ys, _, _, h => by rw [List.nil_perm.mp h]
  | x :: xs, [], _, _, h => by have := h.length_eq; simp at this
  | x :: xs, y :: ys, h1, h2, h => by
    have a1 := List.pairwise_cons.mp h1
    have a2 := List.pairwise_cons.mp h2
    have e : x = y := by
      have m1 : x ∈ y :: ys := h.mem_iff.mp List.mem_cons_self
      have m2 : y ∈ x :: xs := h.mem_iff.mpr List.mem_cons_self
      rcases List.mem_cons.mp m1 with e | m1
      · exact e
      · rcases List.mem_cons.mp m2 with e | m2
        · exact e.symm
        · have := a1.1 y m2
          have := a2.1 x m1
          omega
    subst e
    rw [perm_sorted_eq a1.2 a2.2 (List.Perm.cons_inv h)]
theorem lt_le {xs : List Int} (h : xs.Pairwise (· < ·)) : xs.Pairwise (· ≤ ·) := h.imp fun {a b} q => by omega
theorem insT_perm {α : Type} {lt : α → α → Bool} (x : α) (xs : List α) : (insT lt x xs).Perm (x :: xs) := by
  induction xs with
  | nil => exact List.Perm.refl _
  | cons y ys ih =>
    show (if lt y x = true then y :: insT lt x ys else x :: y :: ys).Perm _
    split
    · exact (ih.cons y).trans (List.Perm.swap _ _ _)
    · exact List.Perm.refl _
theorem sortT_perm {α : Type} {lt : α → α → Bool} (xs : List α) : (sortT lt xs).Perm xs := by
  induction xs with
  | nil => exact List.Perm.refl _
  | cons x xs ih => exact (insT_perm x _).trans (ih.cons x)
theorem insT_sorted {x : Int} {xs : List Int} (h : xs.Pairwise (· ≤ ·)) : (insT ltZ x xs).Pairwise (· ≤ ·) := by
  induction xs with
  | nil => exact List.pairwise_singleton _ _
  | cons y ys ih =>
    have a := List.pairwise_cons.mp h
    show (if ltZ y x = true then y :: insT ltZ x ys else x :: y :: ys).Pairwise _
    by_cases q : y < x
    · rw [if_pos (show ltZ y x = true from decide_eq_true q)]
      refine List.pairwise_cons.mpr ⟨fun z hz => ?_, ih a.2⟩
      rcases List.mem_cons.mp ((insT_perm x ys).mem_iff.mp hz) with e | hz
      · omega
      · exact a.1 z hz
    · rw [if_neg (show ¬ ltZ y x = true by unfold ltZ; rw [decide_eq_true_eq]; exact q)]
      refine List.pairwise_cons.mpr ⟨fun z hz => ?_, h⟩
      rcases List.mem_cons.mp hz with e | hz
      · omega
      · have := a.1 z hz
        omega
theorem sortT_sorted (xs : List Int) : (sortT ltZ xs).Pairwise (· ≤ ·) := by
  induction xs with
  | nil => exact List.Pairwise.nil
  | cons x xs ih => exact insT_sorted ih
@[simp] theorem sortOk_I (xs : List Int) : sortOk eI xs = true := by
  have e : ∀ i, neT (eI i) = true := fun _ => rfl
  simp [sortOk, e]
/-- an order of the things 0 .. n - 1 -/
def Ord (n : Int) (o : List Int) : Prop := o.Perm (rangeZ 0 n)
theorem Ord.sort {n : Int} {o : List Int} (h : Ord n o) : sortT ltZ o = rangeZ 0 n := perm_sorted_eq (sortT_sorted o) (lt_le sorted_rangeZ) ((sortT_perm o).trans h)
theorem Ord.mem {n : Int} {o : List Int} (h : Ord n o) {x : Int} : x ∈ o ↔ 0 ≤ x ∧ x < n := (List.Perm.mem_iff h).trans mem_rangeZ
theorem Ord.len {n : Int} {o : List Int} (h : Ord n o) : o.length = n.toNat := by rw [h.length_eq, length_rangeZ]; simp
theorem Ord.nodup {n : Int} {o : List Int} (h : Ord n o) : o.Nodup := h.nodup_iff.mpr nodup_rangeZ
/-! ### all orders -/
/-- what can come behind a row -/
def left (n : Int) (row : List Int) : List Int := (rangeZ 0 n).filter fun c => !decide (c ∈ row)
/-- the ways to go on, k more, each step let by g -/
def sufs (n : Int) (g : List Int → Int → Bool) : Nat → List Int → List (List Int)
  | 0, _ => [[]]
  | k + 1, row => ((left n row).filter (g row)).flatMap fun c => (sufs n g k (row ++ [c])).map (c :: ·)
def okS (g : List Int → Int → Bool) : List Int → List Int → Bool
  | _, [] => true
  | row, c :: cs => g row c && okS g (row ++ [c]) cs
theorem sufs_filter (n : Int) (g : List Int → Int → Bool) : ∀ (k : Nat) (row : List Int), sufs n g k row = (sufs n (fun _ _ => true) k row).filter (okS g row)
  | 0, row => rfl
  | k + 1, row => by
    show ((left n row).filter (g row)).flatMap _ = (((left n row).filter fun _ => true).flatMap _).filter _
    rw [List.filter_eq_self.mpr fun _ _ => rfl]
    induction left n row with
    | nil => rfl
    | cons c cs ih =>
      rw [List.flatMap_cons, List.filter_append, ← ih, List.filter_map]
      have e : (okS g row ∘ fun x => c :: x) = fun x => g row c && okS g (row ++ [c]) x := rfl
      rw [e]
      cases q : g row c with
      | true =>
        rw [List.filter_cons_of_pos q, List.flatMap_cons, sufs_filter n g k]
        simp
      | false =>
        rw [List.filter_cons_of_neg (by rw [q]; decide)]
        simp
/-- the ascending list of all orders -/
def ordersT (n : Int) : List (List Int) := sufs n (fun _ _ => true) n.toNat []
theorem mem_left {n c : Int} {row : List Int} : c ∈ left n row ↔ (0 ≤ c ∧ c < n) ∧ c ∉ row := by
  unfold left
  rw [List.mem_filter, mem_rangeZ]
  simp
theorem mem_sufs {n : Int} : ∀ {k : Nat} {row s : List Int}, s ∈ sufs n (fun _ _ => true) k row ↔ s.length = k ∧ s.Nodup ∧ (∀ c ∈ s, (0 ≤ c ∧ c < n) ∧ c ∉ row)
  | 0, row, s => by
    show s ∈ [[]] ↔ _
    rw [List.mem_singleton]
    constructor
    · rintro rfl; exact ⟨rfl, List.nodup_nil, fun _ h => nomatch h⟩
    · intro h; exact List.length_eq_zero_iff.mp h.1
  | k + 1, row, s => by
    show s ∈ ((left n row).filter fun _ => true).flatMap _ ↔ _
    rw [List.filter_eq_self.mpr fun _ _ => rfl, List.mem_flatMap]
    constructor
    · rintro ⟨c, hc, hs⟩
      obtain ⟨t, ht, rfl⟩ := List.mem_map.mp hs
      obtain ⟨h1, h2, h3⟩ := mem_sufs.mp ht
      have hc := mem_left.mp hc
      refine ⟨by simp [h1], List.nodup_cons.mpr ⟨fun h => ?_, h2⟩, fun d hd => ?_⟩
      · exact (h3 c h).2 (by simp)
      · rcases List.mem_cons.mp hd with rfl | hd
        · exact hc
        · have := h3 d hd
          exact ⟨this.1, fun h => this.2 (by simp [h])⟩
    · rintro ⟨h1, h2, h3⟩
      cases s with
      | nil => cases h1
      | cons c t =>
        have a := List.nodup_cons.mp h2
        refine ⟨c, mem_left.mpr (h3 c List.mem_cons_self), List.mem_map.mpr ⟨t, mem_sufs.mpr ⟨by simpa using h1, a.2, fun d hd => ?_⟩, rfl⟩⟩
        have := h3 d (List.mem_cons_of_mem _ hd)
        refine ⟨this.1, fun h => ?_⟩
        rcases List.mem_append.mp h with h | h
        · exact this.2 h
        · rw [List.mem_singleton] at h; subst h; exact a.1 hd
theorem nodup_subset_perm : ∀ {xs ys : List Int}, xs.Nodup → (∀ x ∈ xs, x ∈ ys) → ys.length ≤ xs.length → xs.Perm ys
  | [], ys, _, _, h => by
    have : ys = [] := List.length_eq_zero_iff.mp (by simpa using h)
    rw [this]
  | x :: xs, ys, hn, hs, h => by
    have a := List.nodup_cons.mp hn
    have hx := hs x List.mem_cons_self
    have p := List.perm_cons_erase hx
    have l : (ys.erase x).length = ys.length - 1 := List.length_erase_of_mem hx
    have q := nodup_subset_perm (xs := xs) (ys := ys.erase x) a.2 (fun y hy => by
      have := hs y (List.mem_cons_of_mem _ hy)
      rw [List.mem_erase_of_ne (fun e => a.1 (by rw [← e]; exact hy))]
      exact this) (by simp at h; omega)
    exact (q.cons x).trans p.symm
theorem mem_ordersT {n : Int} {o : List Int} : o ∈ ordersT n ↔ Ord n o := by
  unfold ordersT
  rw [mem_sufs]
  constructor
  · rintro ⟨h1, h2, h3⟩
    exact nodup_subset_perm h2 (fun x hx => mem_rangeZ.mpr (h3 x hx).1) (by rw [length_rangeZ]; omega)
  · intro h
    exact ⟨h.len, h.nodup, fun c hc => ⟨h.mem.mp hc, by simp⟩⟩
/-! lexicographic order -/
theorem ltL_app (row : List Int) (a b : List Int) : ltL ltZ (row ++ a) (row ++ b) = ltL ltZ a b := by
  induction row with
  | nil => rfl
  | cons x row ih =>
    show (if x = x then ltL ltZ (row ++ a) (row ++ b) else ltZ x x) = _
    rw [if_pos rfl, ih]
theorem sufs_sorted (n : Int) (g : List Int → Int → Bool) : ∀ (k : Nat) (row : List Int), (sufs n g k row).Pairwise fun a b => ltL ltZ a b = true
  | 0, row => List.pairwise_singleton _ _
  | k + 1, row => by
    show (((left n row).filter (g row)).flatMap fun c => (sufs n g k (row ++ [c])).map (c :: ·)).Pairwise _
    have hs : ((left n row).filter (g row)).Pairwise (· < ·) := List.Pairwise.filter _ (List.Pairwise.filter _ sorted_rangeZ)
    revert hs
    generalize (left n row).filter (g row) = cs
    intro hs
    rw [List.pairwise_flatMap]
    refine ⟨fun c _ => ?_, ?_⟩
    · rw [List.pairwise_map]
      refine (sufs_sorted n g k (row ++ [c])).imp fun {a b} h => ?_
      show (if c = c then ltL ltZ a b else ltZ c c) = true
      rw [if_pos rfl]; exact h
    · refine hs.imp fun {c d} h => ?_
      intro a ha b hb
      obtain ⟨a', _, rfl⟩ := List.mem_map.mp ha
      obtain ⟨b', _, rfl⟩ := List.mem_map.mp hb
      show (if c = d then ltL ltZ a' b' else ltZ c d) = true
      rw [if_neg (by omega)]
      exact decide_eq_true h
theorem ordersT_sorted (n : Int) : (ordersT n).Pairwise fun a b => ltL ltZ a b = true := sufs_sorted n _ _ _
theorem length_left {n : Int} {row : List Int} : (left n row).length ≤ n.toNat := by
  have := List.length_filter_le (fun c => !decide (c ∈ row)) (rangeZ 0 n)
  rw [length_rangeZ] at this
  unfold left
  simpa using this
theorem length_flatMap_le {α β : Type} {f : α → List β} {m : Nat} : ∀ {xs : List α}, (∀ x ∈ xs, (f x).length ≤ m) → (xs.flatMap f).length ≤ xs.length * m
  | [], _ => by simp
  | x :: xs, h => by
    have h1 := h x List.mem_cons_self
    have h2 := length_flatMap_le (xs := xs) fun y hy => h y (List.mem_cons_of_mem _ hy)
    rw [List.flatMap_cons, List.length_append, List.length_cons, Nat.succ_mul]
    omega
theorem length_sufs {n : Int} {g : List Int → Int → Bool} : ∀ {k : Nat} {row : List Int}, (sufs n g k row).length ≤ n.toNat ^ k
  | 0, row => Nat.le_refl _
  | k + 1, row => by
    show (((left n row).filter (g row)).flatMap fun c => (sufs n g k (row ++ [c])).map (c :: ·)).length ≤ _
    refine Nat.le_trans (length_flatMap_le (m := n.toNat ^ k) fun c _ => by rw [List.length_map]; exact length_sufs) ?_
    rw [Nat.pow_succ, Nat.mul_comm]
    refine Nat.mul_le_mul_left _ (Nat.le_trans (List.length_filter_le _ _) length_left)
/-! ### level by level: as the programs make them -/
def stepO (n : Int) (found : List (List Int)) : List (List Int) := found.flatMap fun row => (left n row).map fun c => row ++ [c]
theorem iter_stepO {α : Type} (n : Int) : ∀ (ls : List α) (found : List (List Int)), ls.foldl (fun f _ => stepO n f) found = found.flatMap fun row => (sufs n (fun _ _ => true) ls.length row).map (row ++ ·)
  | [], found => by
    show found = found.flatMap fun row => [row ++ []]
    induction found with
    | nil => rfl
    | cons x xs ih => rw [List.flatMap_cons, ← ih, List.append_nil]; rfl
  | l :: ls, found => by
    show ls.foldl _ (stepO n found) = _
    rw [iter_stepO n ls (stepO n found)]
    unfold stepO
    rw [List.flatMap_assoc]
    congr 1
    funext row
    show _ = (((((left n row).filter fun _ => true)).flatMap fun c => (sufs n (fun _ _ => true) ls.length (row ++ [c])).map (c :: ·))).map _
    rw [List.filter_eq_self.mpr fun _ _ => rfl, List.map_flatMap, List.flatMap_map]
    congr 1
    funext c
    rw [List.map_map]
    congr 1
    funext s
    show (row ++ [c]) ++ s = row ++ c :: s
    simp
theorem iter_orders (n : Int) : (rangeZ 0 n).foldl (fun f _ => stepO n f) [[]] = ordersT n := by
  rw [iter_stepO, length_rangeZ]
  unfold ordersT
  simp
/-! ### a search with a stack: the leaves of a tree, the least first -/
/-- what stands under a row -/
def under (n : Int) (g : List Int → Int → Bool) (row : List Int) : List (List Int) := (sufs n g (n.toNat - row.length) row).map (row ++ ·)
/-- how many rows are under one, itself too -/
def size (n : Int) (g : List Int → Int → Bool) : Nat → List Int → Nat
  | 0, _ => 1
  | k + 1, row => 1 + ((((left n row).filter (g row)).map fun c => size n g k (row ++ [c])).sum)
theorem sum_le {m : Nat} : ∀ {xs : List Nat}, (∀ x ∈ xs, x ≤ m) → xs.sum ≤ xs.length * m
  | [], _ => by simp
  | x :: xs, h => by
    have h1 := h x List.mem_cons_self
    have h2 := sum_le (xs := xs) fun y hy => h y (List.mem_cons_of_mem _ hy)
    rw [List.sum_cons, List.length_cons, Nat.succ_mul]
    omega
theorem size_le {n : Int} {g : List Int → Int → Bool} : ∀ {k : Nat} {row : List Int}, size n g k row ≤ (n.toNat + 1) ^ k
  | 0, row => Nat.le_refl _
  | k + 1, row => by
    show 1 + _ ≤ _
    have h1 : (((left n row).filter (g row)).map fun c => size n g k (row ++ [c])).sum ≤ (((left n row).filter (g row)).map fun c => size n g k (row ++ [c])).length * (n.toNat + 1) ^ k := sum_le fun x hx => by
      obtain ⟨c, _, rfl⟩ := List.mem_map.mp hx
      exact size_le
    have h2 : (((left n row).filter (g row)).map fun c => size n g k (row ++ [c])).length ≤ n.toNat := by
      rw [List.length_map]
      exact Nat.le_trans (List.length_filter_le _ _) length_left
    have h3 := Nat.mul_le_mul_right ((n.toNat + 1) ^ k) h2
    have h4 : 1 ≤ (n.toNat + 1) ^ k := Nat.one_le_pow _ _ (by omega)
    rw [Nat.pow_succ, Nat.mul_comm, Nat.add_mul, Nat.one_mul]
    omega
end Mi.J

set_option Elab.async false
set_option linter.all false
set_option maxRecDepth 100000
set_option maxHeartbeats 1000000
/-! Mk3: a search with a stack; places that stand together. -/
namespace Mi.J
open PySem
/-- a beginning of an order -/
def RowOk (n : Int) (row : List Int) : Prop := row.length ≤ n.toNat ∧ row.Nodup ∧ ∀ c ∈ row, 0 ≤ c ∧ c < n
theorem RowOk.snoc {n c : Int} {row : List Int} (h : RowOk n row) (hc : c ∈ left n row) : RowOk n (row ++ [c]) := by
  obtain ⟨h1, h2, h3⟩ := h
  have hc := mem_left.mp hc
  have nd : (row ++ [c]).Nodup := by
    rw [List.nodup_append]
    exact ⟨h2, by simp, fun a ha b hb => by rw [List.mem_singleton] at hb; subst hb; intro e; subst e; exact hc.2 ha⟩
  have hm : ∀ d ∈ row ++ [c], 0 ≤ d ∧ d < n := fun d hd => by
    rcases List.mem_append.mp hd with h | h
    · exact h3 d h
    · rw [List.mem_singleton] at h; subst h; exact hc.1
  refine ⟨?_, nd, hm⟩
  have p := nd.length_le_of_subset (l₂ := rangeZ 0 n) fun d hd => mem_rangeZ.mpr (hm d hd)
  rw [length_rangeZ] at p
  simpa using p
theorem RowOk.lt {n c : Int} {row : List Int} (h : RowOk n row) (hc : c ∈ left n row) : row.length < n.toNat := by
  have := (h.snoc hc).1
  simp at this
  omega
theorem under_full {n : Int} {g : List Int → Int → Bool} {row : List Int} (h : row.length = n.toNat) : under n g row = [row] := by
  unfold under
  rw [h, Nat.sub_self]
  show [row ++ []] = _
  rw [List.append_nil]
theorem under_step {n : Int} {g : List Int → Int → Bool} {row : List Int} (h : row.length < n.toNat) : under n g row = (((left n row).filter (g row)).map fun c => row ++ [c]).flatMap (under n g) := by
  unfold under
  obtain ⟨k, hk⟩ : ∃ k, n.toNat - row.length = k + 1 := ⟨n.toNat - row.length - 1, by omega⟩
  rw [hk]
  show (((left n row).filter (g row)).flatMap fun c => (sufs n g k (row ++ [c])).map (c :: ·)).map _ = _
  rw [List.map_flatMap, List.flatMap_map]
  congr 1
  funext c
  have e : n.toNat - (row ++ [c]).length = k := by rw [List.length_append, List.length_singleton]; omega
  rw [e, List.map_map]
  congr 1
  funext s
  show row ++ c :: s = (row ++ [c]) ++ s
  simp
def sizeR (n : Int) (g : List Int → Int → Bool) (row : List Int) : Nat := size n g (n.toNat - row.length) row
theorem sizeR_pos {n : Int} {g : List Int → Int → Bool} {row : List Int} : 1 ≤ sizeR n g row := by
  unfold sizeR
  cases n.toNat - row.length with
  | zero => exact Nat.le_refl _
  | succ k => show 1 ≤ 1 + _; omega
theorem sizeR_step {n : Int} {g : List Int → Int → Bool} {row : List Int} (h : row.length < n.toNat) : sizeR n g row = 1 + (((left n row).filter (g row)).map fun c => sizeR n g (row ++ [c])).sum := by
  unfold sizeR
  obtain ⟨k, hk⟩ : ∃ k, n.toNat - row.length = k + 1 := ⟨n.toNat - row.length - 1, by omega⟩
  rw [hk]
  have e : ∀ c : Int, n.toNat - (row ++ [c]).length = k := fun c => by rw [List.length_append, List.length_singleton]; omega
  simp only [e]
  rfl
theorem length_le_sum {α : Type} {f : α → Nat} : ∀ {xs : List α}, (∀ x ∈ xs, 1 ≤ f x) → xs.length ≤ (xs.map f).sum
  | [], _ => Nat.le_refl _
  | x :: xs, h => by
    have h1 := h x List.mem_cons_self
    have h2 := length_le_sum (xs := xs) fun y hy => h y (List.mem_cons_of_mem _ hy)
    rw [List.map_cons, List.sum_cons, List.length_cons]
    omega
/-- the rows found, the rows that wait (the last is taken) -/
abbrev DS := List (List Int) × List (List Int)
theorem dfs {n : Int} {most : Int} {g : List Int → Int → Bool} {cn : DS → M Bool} {b : DS → M DS} (hm : 0 ≤ most) (hB : (n.toNat + 1) ^ n.toNat ≤ 500000)
    (hc : ∀ s : DS, cn s = rtn (decide (0 < s.2.length) && decide ((s.1.length : Int) < most)))
    (hb : ∀ (f w : List (List Int)) (row : List Int), RowOk n row → w.length ≤ 500000 → f.length ≤ 500000 → b (f, w ++ [row]) = rtn (if row.length = n.toNat then (f ++ [row], w) else (f, w ++ ((left n row).filter (g row)).reverse.map fun c => row ++ [c]))) :
    ∃ w, mWhl cn b mostN ([], [[]]) = rtn ((sufs n g n.toNat []).take most.toNat, w) := by
  have hs0 : sizeR n g [] ≤ 500000 := Nat.le_trans (by unfold sizeR; exact size_le) hB
  have hl0 : (sufs n g n.toNat []).length ≤ 500000 := by
    refine Nat.le_trans length_sufs (Nat.le_trans ?_ hB)
    exact Nat.pow_le_pow_left (by omega) _
  obtain ⟨s, e, hI, hend⟩ := mWhl_ok (cn := cn) (b := b) (n := mostN) (s := (([], [[]]) : DS))
    (fun s => (∀ row ∈ s.2, RowOk n row) ∧ s.1 ++ s.2.reverse.flatMap (under n g) = sufs n g n.toNat [] ∧ (s.1.length : Int) ≤ most ∧ (s.2.map (sizeR n g)).sum ≤ 500000)
    (fun s => (s.2.map (sizeR n g)).sum)
    (by
      refine ⟨fun row hr => ?_, ?_, by simpa using hm, by simpa using hs0⟩
      · rw [List.mem_singleton] at hr; subst hr
        exact ⟨Nat.zero_le _, List.nodup_nil, fun _ h => nomatch h⟩
      · show [] ++ ([[]] : List (List Int)).reverse.flatMap (under n g) = _
        simp [under])
    (by
      refine mostN_big ?_
      show (([[]] : List (List Int)).map (sizeR n g)).sum ≤ _
      simp
      omega)
    (by
      rintro ⟨f, w⟩ ⟨h1, h2, h3, h4⟩
      rw [hc]
      by_cases c1 : 0 < w.length
      · by_cases c2 : (f.length : Int) < most
        · right
          refine ⟨by simp [c1, c2], ?_⟩
          have hne : w ≠ [] := List.length_pos_iff.mp c1
          obtain ⟨w', row, rfl⟩ : ∃ w' row, w = w' ++ [row] := ⟨w.dropLast, w.getLast hne, (List.dropLast_concat_getLast hne).symm⟩
          have hr : RowOk n row := h1 row (by simp)
          have hw : w'.length ≤ 500000 := by
            have q := length_le_sum (xs := w' ++ [row]) (f := sizeR n g) fun x _ => sizeR_pos
            have q2 : (List.map (sizeR n g) (w' ++ [row])).sum ≤ 500000 := h4
            rw [List.length_append] at q
            omega
          have hf : f.length ≤ 500000 := by
            have q := congrArg List.length h2
            rw [List.length_append] at q
            have q : f.length + _ = _ := q
            omega
          rw [hb f w' row hr hw hf]
          by_cases c3 : row.length = n.toNat
          · rw [if_pos c3]
            refine ⟨_, rfl, ⟨fun r hr => h1 r (by simp [hr]), ?_, ?_, ?_⟩, ?_⟩
            · show (f ++ [row]) ++ _ = _
              rw [← h2, List.append_assoc]
              congr 1
              show _ = (w' ++ [row]).reverse.flatMap _
              rw [List.reverse_append, List.reverse_singleton, List.flatMap_append, List.flatMap_singleton, under_full c3]
            · show ((f ++ [row]).length : Int) ≤ most
              simp; omega
            · have q2 : (List.map (sizeR n g) (w' ++ [row])).sum ≤ 500000 := h4
              rw [List.map_append, List.sum_append] at q2
              show (w'.map (sizeR n g)).sum ≤ _
              omega
            · show (w'.map (sizeR n g)).sum < (List.map (sizeR n g) (w' ++ [row])).sum
              rw [List.map_append, List.sum_append]
              have := sizeR_pos (n := n) (g := g) (row := row)
              simp
              omega
          · rw [if_neg c3]
            have c4 : row.length < n.toNat := by have := hr.1; omega
            have hsum : (List.map (sizeR n g) (w' ++ ((left n row).filter (g row)).reverse.map fun c => row ++ [c])).sum + 1 = (List.map (sizeR n g) (w' ++ [row])).sum := by
              rw [List.map_append, List.sum_append, List.map_append, List.sum_append, List.map_map, List.map_reverse, List.sum_reverse]
              have := sizeR_step (g := g) c4
              simp only [List.map_cons, List.map_nil, List.sum_cons, List.sum_nil]
              rw [this]
              have e : (sizeR n g ∘ fun c => row ++ [c]) = fun c => sizeR n g (row ++ [c]) := rfl
              rw [e]
              simp
              omega
            refine ⟨_, rfl, ⟨fun r hr' => ?_, ?_, h3, ?_⟩, ?_⟩
            · rcases List.mem_append.mp hr' with q | q
              · exact h1 r (by simp [q])
              · obtain ⟨c, hc', rfl⟩ := List.mem_map.mp q
                have hc' := List.mem_reverse.mp hc'
                exact hr.snoc (List.mem_filter.mp hc').1
            · show f ++ (w' ++ ((left n row).filter (g row)).reverse.map fun c => row ++ [c]).reverse.flatMap (under n g) = _
              rw [← h2]
              congr 1
              show _ = (w' ++ [row]).reverse.flatMap _
              rw [show (w' ++ [row]).reverse = row :: w'.reverse by simp, List.flatMap_cons, under_step c4, List.reverse_append, List.flatMap_append, ← List.map_reverse, List.reverse_reverse]
            · have q2 : (List.map (sizeR n g) (w' ++ [row])).sum ≤ 500000 := h4
              show (List.map (sizeR n g) (w' ++ ((left n row).filter (g row)).reverse.map fun c => row ++ [c])).sum ≤ _
              omega
            · show (List.map (sizeR n g) (w' ++ ((left n row).filter (g row)).reverse.map fun c => row ++ [c])).sum < (List.map (sizeR n g) (w' ++ [row])).sum
              omega
        · left; simp [c2]
      · left; simp [c1])
  obtain ⟨f, w⟩ := s
  refine ⟨w, ?_⟩
  rw [e]
  obtain ⟨h1, h2, h3, h4⟩ := hI
  have h2 : f ++ w.reverse.flatMap (under n g) = sufs n g n.toNat [] := h2
  have h3 : (f.length : Int) ≤ most := h3
  have e2 : f = (sufs n g n.toNat []).take most.toNat := by
    rw [hc] at hend
    have hend := ret_inj hend
    rw [Bool.and_eq_false_iff] at hend
    rw [← h2]
    rcases hend with q | q
    · have q : w = [] := by
        have := of_decide_eq_false q
        exact List.length_eq_zero_iff.mp (by simpa using this)
      subst q
      simp
      exact (List.take_of_length_le (by omega)).symm
    · have q := of_decide_eq_false q
      have q : ¬ (f.length : Int) < most := q
      rw [List.take_append_of_le_length (by omega), List.take_of_length_le (by omega)]
  rw [e2]
theorem dfs_bnd {cn : DS → M Bool} {b : DS → M DS} {l : List (List Int)} {L : DS} (hL : L = ([], [[]])) (h : ∃ w, mWhl cn b mostN ([], [[]]) = rtn (l, w)) : bnd (mWhl cn b mostN L) (fun s => rtn s.1) = rtn l := by
  obtain ⟨w, e⟩ := h
  rw [hL, e]
  rfl
/-- a fold whose law tells the part that is done -/
theorem mFold_split {α σ : Type} {F : α → σ → M σ} (I : List α → σ → Prop) {all : List α} : ∀ {xs done : List α} {s : σ}, all = done ++ xs → I done s → (∀ done x rest s, all = done ++ x :: rest → I done s → ∃ s', F x s = rtn s' ∧ I (done ++ [x]) s') → ∃ s', mFold F xs s = rtn s' ∧ I all s'
  | [], done, s, ha, hI, _ => ⟨s, rfl, by rw [ha, List.append_nil]; exact hI⟩
  | x :: xs, done, s, ha, hI, h => by
    obtain ⟨s1, e, h1⟩ := h done x xs s ha hI
    obtain ⟨s2, e2, h2⟩ := mFold_split I (xs := xs) (done := done ++ [x]) (by rw [ha]; simp) h1 h
    refine ⟨s2, ?_, h2⟩
    show bnd (F x s) (mFold F xs) = _
    rw [e, ret_bnd, e2]
theorem Tot.foldS {α σ : Type} {F : α → σ → M σ} (I : List α → σ → Prop) {all : List α} : ∀ {xs done : List α} {s : σ}, all = done ++ xs → I done s → (∀ done x rest s, all = done ++ x :: rest → I done s → Tot (F x s) fun s' => I (done ++ [x]) s') → Tot (mFold F xs s) fun s' => I all s'
  | [], done, s, ha, hI, _ => Tot.ret (by rw [ha, List.append_nil]; exact hI)
  | x :: xs, done, s, ha, hI, h => Tot.bind (h done x xs s ha hI) fun s' hs => Tot.foldS I (xs := xs) (done := done ++ [x]) (by rw [ha]; simp) hs h
theorem split_len {a b : Int} {done rest : List Int} {x : Int} (h : rangeZ a b = done ++ x :: rest) : done.length < (b - a).toNat ∧ x = a + done.length := by
  have e := congrArg List.length h
  rw [length_rangeZ, List.length_append, List.length_cons] at e
  have hl : done.length < (b - a).toNat := by omega
  have g := get_rangeZ (a := a) (b := b) hl
  rw [h, List.getElem?_append_right (Nat.le_refl _), Nat.sub_self] at g
  exact ⟨hl, by simpa using g⟩
theorem left_len {n : Int} {row : List Int} (h : RowOk n row) : (left n row).length ≤ n.toNat - row.length := by
  have nd : (row ++ left n row).Nodup := by
    rw [List.nodup_append]
    refine ⟨h.2.1, List.Pairwise.filter _ nodup_rangeZ, fun a ha b hb => ?_⟩
    intro e; subst e
    exact (mem_left.mp hb).2 ha
  have q := nd.length_le_of_subset (l₂ := rangeZ 0 n) fun d hd => by
    rcases List.mem_append.mp hd with q | q
    · exact mem_rangeZ.mpr (h.2.2 d q)
    · exact mem_rangeZ.mpr (mem_left.mp q).1
  rw [length_rangeZ, List.length_append] at q
  omega
/-- a falling product -/
def df : Nat → Nat → Nat
  | _, 0 => 1
  | m, k + 1 => m * df (m - 1) k
theorem sufs_len {n : Int} {g : List Int → Int → Bool} : ∀ {k : Nat} {row : List Int}, RowOk n row → (sufs n g k row).length ≤ df (n.toNat - row.length) k
  | 0, row, _ => Nat.le_refl _
  | k + 1, row, h => by
    show (((left n row).filter (g row)).flatMap fun c => (sufs n g k (row ++ [c])).map (c :: ·)).length ≤ (n.toNat - row.length) * df (n.toNat - row.length - 1) k
    refine Nat.le_trans (length_flatMap_le (m := df (n.toNat - row.length - 1) k) fun c hc => ?_) ?_
    · rw [List.length_map]
      have q := sufs_len (g := g) (k := k) (h.snoc (List.mem_filter.mp hc).1)
      have e : n.toNat - (row ++ [c]).length = n.toNat - row.length - 1 := by simp; omega
      rw [e] at q
      exact q
    · exact Nat.mul_le_mul_right _ (Nat.le_trans (List.length_filter_le _ _) (left_len h))
theorem df_mono : ∀ {k m m' : Nat}, m ≤ m' → df m k ≤ df m' k
  | 0, _, _, _ => Nat.le_refl _
  | k + 1, m, m', h => Nat.mul_le_mul h (df_mono (by omega))
theorem df_le {m k : Nat} (h : m ≤ 5) (hk : k ≤ 5) : df m k ≤ 120 := by
  refine Nat.le_trans (df_mono h) ?_
  match k, hk with
  | 0, _ => exact (by decide)
  | 1, _ => exact (by decide)
  | 2, _ => exact (by decide)
  | 3, _ => exact (by decide)
  | 4, _ => exact (by decide)
  | 5, _ => exact (by decide)
/-! ### places that stand together -/
/-- the places in 0 .. n - 1 at which p holds -/
def plc (n : Int) (p : Int → Bool) : List Int := (rangeZ 0 n).filter p
/-- the first and the last -/
def span (P : List Int) : Option (Int × Int) := match P with
  | [] => none
  | x :: xs => some (x, (x :: xs).getLast (by simp))
theorem plc_sorted {n : Int} {p : Int → Bool} : (plc n p).Pairwise (· < ·) := List.Pairwise.filter _ sorted_rangeZ
theorem mem_plc {n x : Int} {p : Int → Bool} : x ∈ plc n p ↔ (0 ≤ x ∧ x < n) ∧ p x = true := by
  unfold plc
  rw [List.mem_filter, mem_rangeZ]
theorem rev_rangeZ (n : Int) : (rangeZ 0 n).reverse = (rangeZ 0 n).map fun i => n - 1 - i := by
  refine List.ext_getElem? fun i => ?_
  by_cases h : i < n.toNat
  · rw [List.getElem?_reverse (by rw [length_rangeZ]; omega), length_rangeZ, get_rangeZ (by omega), List.getElem?_map, get_rangeZ (by omega)]
    simp
    omega
  · rw [List.getElem?_eq_none (by rw [List.length_reverse, length_rangeZ]; omega), List.getElem?_eq_none (by rw [List.length_map, length_rangeZ]; omega)]
theorem plc_rev (n : Int) (p : Int → Bool) : plc n (fun i => p (n - 1 - i)) = ((plc n p).map fun i => n - 1 - i).reverse := by
  unfold plc
  rw [← List.map_reverse, ← List.filter_reverse, rev_rangeZ, List.filter_map, List.map_map]
  have e : ((fun i => n - 1 - i) ∘ fun i : Int => n - 1 - i) = id := by
    funext i
    show n - 1 - (n - 1 - i) = i
    omega
  rw [e, List.map_id]
  rfl
theorem span_rev (P : List Int) (n : Int) : span (P.map fun i => n - 1 - i).reverse = (span P).map fun s => (n - 1 - s.2, n - 1 - s.1) := by
  cases P with
  | nil => rfl
  | cons x xs =>
    have hne : ((x :: xs).map fun i => n - 1 - i).reverse ≠ [] := by simp
    have q : ∀ Q : List Int, (h : Q ≠ []) → span Q = some (Q.head h, Q.getLast h) := fun Q h => by
      cases Q with
      | nil => exact absurd rfl h
      | cons y ys => rfl
    rw [q _ hne, q _ (by simp : x :: xs ≠ [])]
    have a : ((x :: xs).map fun i => n - 1 - i).reverse.head hne = n - 1 - (x :: xs).getLast (by simp) := by
      rw [List.head_reverse, List.getLast_map]
    have b : ((x :: xs).map fun i => n - 1 - i).reverse.getLast hne = n - 1 - x := by
      rw [List.getLast_reverse]; rfl
    rw [a, b]
    rfl
/-- how many places more than it has -/
def brk (P : List Int) : Int := match span P with
  | none => 0
  | some s => s.2 - s.1 + 1 - P.length
theorem filter_sub {P : List Int} {a b : Int} (hs : P.Pairwise (· < ·)) (hm : ∀ x ∈ P, a ≤ x ∧ x < b) : P = (rangeZ a b).filter fun x => decide (x ∈ P) := by
  refine perm_sorted_eq (lt_le hs) (lt_le (List.Pairwise.filter _ sorted_rangeZ)) ?_
  refine nodup_subset_perm (hs.imp fun {a b} h => by omega) (fun x hx => List.mem_filter.mpr ⟨mem_rangeZ.mpr (hm x hx), decide_eq_true hx⟩) ?_
  exact (List.Nodup.length_le_of_subset (List.Pairwise.filter _ nodup_rangeZ) fun x hx => of_decide_eq_true (List.mem_filter.mp hx).2)
theorem last_ge : ∀ {P : List Int} (h : P ≠ []), P.Pairwise (· < ·) → ∀ x ∈ P, x ≤ P.getLast h
  | [x], _, _, y, hy => by rw [List.mem_singleton] at hy; subst hy; exact Int.le_refl _
  | x :: y :: P, _, hs, z, hz => by
    have a := List.pairwise_cons.mp hs
    rw [List.getLast_cons (by simp)]
    rcases List.mem_cons.mp hz with rfl | hz
    · have := a.1 y List.mem_cons_self
      have := last_ge (by simp) a.2 y List.mem_cons_self
      omega
    · exact last_ge (by simp) a.2 z hz
theorem brk_len {P : List Int} (hs : P.Pairwise (· < ·)) : 0 ≤ brk P ∧ (brk P = 0 ↔ ∀ x y z, x ∈ P → z ∈ P → x ≤ y → y ≤ z → y ∈ P) := by
  cases P with
  | nil => exact ⟨Int.le_refl _, fun _ x y z h => (nomatch h), fun _ => rfl⟩
  | cons x xs =>
    have hne : x :: xs ≠ [] := by simp
    have e : brk (x :: xs) = (x :: xs).getLast hne - x + 1 - (x :: xs).length := rfl
    have hx : ∀ y ∈ x :: xs, x ≤ y := fun y hy => by
      rcases List.mem_cons.mp hy with rfl | hy
      · exact Int.le_refl _
      · exact Int.le_of_lt ((List.pairwise_cons.mp hs).1 y hy)
    have hl := last_ge hne hs
    have hlx := hx _ (List.getLast_mem hne)
    have f := filter_sub (a := x) (b := (x :: xs).getLast hne + 1) hs fun y hy => ⟨hx y hy, by have := hl y hy; omega⟩
    have fl : (x :: xs).length ≤ ((x :: xs).getLast hne - x + 1).toNat := by
      have q := List.length_filter_le (fun y => decide (y ∈ x :: xs)) (rangeZ x ((x :: xs).getLast hne + 1))
      rw [← f, length_rangeZ] at q
      have e2 : ((x :: xs).getLast hne + 1 - x) = (x :: xs).getLast hne - x + 1 := by omega
      rw [e2] at q
      exact q
    refine ⟨by rw [e]; omega, fun h u v w hu hw h1 h2 => ?_, fun h => ?_⟩
    · have el : ((rangeZ x ((x :: xs).getLast hne + 1)).filter fun y => decide (y ∈ x :: xs)).length = (rangeZ x ((x :: xs).getLast hne + 1)).length := by
        rw [← f, length_rangeZ]
        rw [e] at h
        omega
      have es := (List.filter_sublist (p := fun y => decide (y ∈ x :: xs)) (l := rangeZ x ((x :: xs).getLast hne + 1))).eq_of_length el
      have hv : v ∈ rangeZ x ((x :: xs).getLast hne + 1) := mem_rangeZ.mpr ⟨by have := hx u hu; omega, by have := hl w hw; omega⟩
      rw [← es] at hv
      exact of_decide_eq_true (List.mem_filter.mp hv).2
    · have el : (rangeZ x ((x :: xs).getLast hne + 1)).filter (fun y => decide (y ∈ x :: xs)) = rangeZ x ((x :: xs).getLast hne + 1) := List.filter_eq_self.mpr fun y hy => by
        obtain ⟨h1, h2⟩ := mem_rangeZ.mp hy
        exact decide_eq_true (h x y _ List.mem_cons_self (List.getLast_mem hne) h1 (by omega))
      have ell := congrArg List.length el
      rw [← f, length_rangeZ] at ell
      rw [e]
      omega
end Mi.J

set_option Elab.async false
set_option linter.all false
set_option maxRecDepth 100000
set_option maxHeartbeats 1000000
/-! Mk4: finds and wares. -/
namespace Mi.J
open PySem
/-- a lot of wares -/
structure Lot (w : Int) (f : List Int) : Prop where
  mem : ∀ x ∈ f, 0 ≤ x ∧ x < w
  up : f.Pairwise (· < ·)
  len : f.length ≤ 9
structure Fin (w : Int) (fs : List (List Int)) : Prop where
  w1 : 1 ≤ w
  w9 : w ≤ 9
  f1 : 1 ≤ fs.length
  f6 : fs.length ≤ 5
  lot : ∀ f ∈ fs, Lot w f
structure Told (n : Int) (told : List (Int × Int)) : Prop where
  mem : ∀ p ∈ told, (0 ≤ p.1 ∧ p.1 < n) ∧ (0 ≤ p.2 ∧ p.2 < n) ∧ p.1 ≠ p.2
  up : told.Pairwise fun a b => lt2 ltZ ltZ a b = true
  len : told.length ≤ 100
theorem Told.nil {n : Int} : Told n [] := ⟨fun _ h => (nomatch h), List.Pairwise.nil, Nat.zero_le _⟩
/-- find i -/
def fnd (fs : List (List Int)) (i : Int) : List Int := fs.getD i.toNat []
theorem at_fnd {fs : List (List Int)} {i : Int} (h : 0 ≤ i ∧ i < fs.length) : L2.atI fs i = some (fnd fs i) := by
  rw [atI_of h.1 h.2]
  unfold fnd
  rw [List.getD_eq_getElem?_getD, List.getElem?_eq_getElem (by omega)]
  rfl
theorem fnd_mem {fs : List (List Int)} {i : Int} (h : 0 ≤ i ∧ i < fs.length) : fnd fs i ∈ fs := by
  unfold fnd
  rw [List.getD_eq_getElem?_getD, List.getElem?_eq_getElem (by omega)]
  exact List.getElem_mem _
/-- whether a find can follow a row -/
def canF (fs : List (List Int)) (row : List Int) (c : Int) : Bool := match row.getLast? with
  | none => true
  | some l => !((fnd fs c).any fun w => !decide (w ∈ fnd fs l) && row.any fun o => decide (w ∈ fnd fs o))
/-- whether the told pairs let a find come -/
def tellOk (told : List (Int × Int)) (row : List Int) (c : Int) : Bool := !(told.any fun p => decide (p.2 = c) && !decide (p.1 ∈ row))
/-! ### places in a row of finds -/
theorem enumZ_eq {α : Type} (xs : List α) (d : α) : enumZ xs = (rangeZ 0 xs.length).map fun i => (i, xs.getD i.toNat d) := by
  refine List.ext_getElem? fun i => ?_
  unfold enumZ
  by_cases h : i < xs.length
  · have e : ((List.range xs.length).zip xs)[i]? = some (i, xs[i]) := by
      rw [List.getElem?_zip_eq_some]
      exact ⟨List.getElem?_range h, List.getElem?_eq_getElem h⟩
    rw [List.getElem?_map, e, List.getElem?_map, get_rangeZ (by omega)]
    show some ((i : Int), xs[i]) = some ((0 : Int) + (i : Int), xs.getD ((0 : Int) + (i : Int)).toNat d)
    have e2 : ((0 : Int) + (i : Int)).toNat = i := by omega
    rw [e2, List.getD_eq_getElem?_getD, List.getElem?_eq_getElem h, Int.zero_add]
    rfl
  · rw [List.getElem?_eq_none (by simp; omega), List.getElem?_eq_none (by rw [List.length_map, length_rangeZ]; omega)]
/-- the places of a ware in a row of finds -/
def pl (x : Int) (s : List (List Int)) : List Int := plc s.length fun i => decide (x ∈ s.getD i.toNat [])
theorem enum_pl {s : List (List Int)} (x : Int) : ((enumZ s).filter fun q => decide (x ∈ q.2)).map (·.1) = pl x s := by
  rw [enumZ_eq s [], List.filter_map, List.map_map]
  show List.map id _ = _
  rw [List.map_id]
  rfl
theorem enumZ_map {α β : Type} (f : α → β) (xs : List α) : enumZ (xs.map f) = (enumZ xs).map fun q => (q.1, f q.2) := by
  unfold enumZ
  rw [List.length_map, List.zip_map_right, List.map_map, List.map_map]
  rfl
theorem range_get {α : Type} (s : List α) (d : α) : s = (rangeZ 0 s.length).map fun i => s.getD i.toNat d := by
  refine List.ext_getElem? fun i => ?_
  by_cases h : i < s.length
  · rw [List.getElem?_map, get_rangeZ (by omega), List.getElem?_eq_getElem h]
    show _ = some (s.getD ((0 : Int) + (i : Int)).toNat d)
    have e2 : ((0 : Int) + (i : Int)).toNat = i := by omega
    rw [e2, List.getD_eq_getElem?_getD, List.getElem?_eq_getElem h]
    rfl
  · rw [List.getElem?_eq_none (by omega), List.getElem?_eq_none (by rw [List.length_map, length_rangeZ]; omega)]
theorem pl_len (x : Int) (s : List (List Int)) : (pl x s).length = (s.filter fun f => decide (x ∈ f)).length := by
  have e : s.filter (fun f => decide (x ∈ f)) = ((rangeZ 0 s.length).map fun i => s.getD i.toNat []).filter fun f => decide (x ∈ f) := by rw [← range_get]
  rw [e, List.filter_map, List.length_map]
  rfl
theorem pl_rev (x : Int) (s : List (List Int)) : pl x s.reverse = ((pl x s).map fun i : Int => (s.length : Int) - 1 - i).reverse := by
  unfold pl
  rw [List.length_reverse, ← plc_rev]
  unfold plc
  refine List.filter_congr fun i hi => ?_
  obtain ⟨h1, h2⟩ := mem_rangeZ.mp hi
  have e : s.reverse.getD i.toNat [] = s.getD ((s.length : Int) - 1 - i).toNat [] := by
    rw [List.getD_eq_getElem?_getD, List.getD_eq_getElem?_getD, List.getElem?_reverse (by omega)]
    congr 2
    omega
  rw [e]
/-- the breaks of a row of finds -/
def brks (w : Int) (s : List (List Int)) : Int := ((rangeZ 0 w).map fun x => brk (pl x s)).sum
theorem sum_map_congr {α : Type} {f g : α → Int} : ∀ {xs : List α}, (∀ x ∈ xs, f x = g x) → (xs.map f).sum = (xs.map g).sum
  | [], _ => rfl
  | x :: xs, h => by
    rw [List.map_cons, List.map_cons, List.sum_cons, List.sum_cons, h x List.mem_cons_self, sum_map_congr fun y hy => h y (List.mem_cons_of_mem _ hy)]
theorem brk_rev (P : List Int) (n : Int) : brk (P.map fun i => n - 1 - i).reverse = brk P := by
  unfold brk
  rw [span_rev]
  cases span P with
  | none => rfl
  | some s =>
    show n - 1 - s.1 - (n - 1 - s.2) + 1 - ((P.map fun i => n - 1 - i).reverse.length : Int) = s.2 - s.1 + 1 - P.length
    rw [List.length_reverse, List.length_map]
    omega
theorem brks_rev (w : Int) (s : List (List Int)) : brks w s.reverse = brks w s := sum_map_congr fun x _ => by rw [pl_rev, brk_rev]
theorem pl_sorted (x : Int) (s : List (List Int)) : (pl x s).Pairwise (· < ·) := plc_sorted
theorem brks_nonneg (w : Int) (s : List (List Int)) : 0 ≤ brks w s := by
  unfold brks
  induction rangeZ 0 w with
  | nil => exact Int.le_refl _
  | cons x xs ih =>
    rw [List.map_cons, List.sum_cons]
    have := (brk_len (pl_sorted x s)).1
    omega
theorem brks_zero {w : Int} {s : List (List Int)} : brks w s = 0 ↔ ∀ x, 0 ≤ x → x < w → brk (pl x s) = 0 := by
  have q : ∀ xs : List Int, 0 ≤ (xs.map fun x => brk (pl x s)).sum ∧ ((xs.map fun x => brk (pl x s)).sum = 0 ↔ ∀ x ∈ xs, brk (pl x s) = 0) := by
    intro xs
    induction xs with
    | nil => exact ⟨Int.le_refl _, fun _ x h => (nomatch h), fun _ => rfl⟩
    | cons x xs ih =>
      have h0 := (brk_len (pl_sorted x s)).1
      rw [List.map_cons, List.sum_cons]
      refine ⟨by omega, fun h y hy => ?_, fun h => ?_⟩
      · rcases List.mem_cons.mp hy with rfl | hy
        · omega
        · exact ih.2.mp (by omega) y hy
      · have a := h x List.mem_cons_self
        have b := ih.2.mpr fun y hy => h y (List.mem_cons_of_mem _ hy)
        omega
  constructor
  · intro h x h1 h2
    exact (q _).2.mp h x (mem_rangeZ.mpr ⟨h1, h2⟩)
  · intro h
    exact (q _).2.mpr fun x hx => h x (mem_rangeZ.mp hx).1 (mem_rangeZ.mp hx).2
/-- the finds in an order -/
theorem map_fnd_range (fs : List (List Int)) : (rangeZ 0 fs.length).map (fnd fs) = fs := (range_get fs []).symm
theorem Ord.perm {fs : List (List Int)} {o : List Int} (h : Ord fs.length o) : (o.map (fnd fs)).Perm fs := by
  have q := List.Perm.map (fnd fs) h
  rw [map_fnd_range] at q
  exact q
theorem rangeZ_succ (n : Nat) : rangeZ 0 ((n + 1 : Nat) : Int) = 0 :: (rangeZ 0 (n : Int)).map (· + 1) := by
  refine List.ext_getElem? fun i => ?_
  cases i with
  | zero => rw [get_rangeZ (by omega)]; rfl
  | succ i =>
    rw [List.getElem?_cons_succ, List.getElem?_map]
    by_cases h : i < n
    · rw [get_rangeZ (by omega), get_rangeZ (by omega)]
      simp
    · rw [List.getElem?_eq_none (by rw [length_rangeZ]; omega), List.getElem?_eq_none (by rw [length_rangeZ]; omega)]
      rfl
/-- each row of the same finds is theirs in some order -/
theorem perm_ord : ∀ {s fs : List (List Int)}, s.Perm fs → ∃ o, Ord fs.length o ∧ s = o.map (fnd fs) := by
  intro s fs h
  induction h with
  | nil => exact ⟨[], List.Perm.refl _, rfl⟩
  | @cons x l1 l2 _ ih =>
    obtain ⟨o, ho, e⟩ := ih
    have hf : ∀ i ∈ o, fnd (x :: l2) (i + 1) = fnd l2 i := fun i hi => by
      have := ho.mem.mp hi
      unfold fnd
      have e : (i + 1).toNat = i.toNat + 1 := by omega
      rw [e]
      rfl
    refine ⟨0 :: o.map (· + 1), ?_, ?_⟩
    · unfold Ord
      rw [List.length_cons, rangeZ_succ]
      exact (List.Perm.map _ ho).cons 0
    · rw [List.map_cons, List.map_map, e]
      congr 1
      exact List.map_congr_left fun i hi => (hf i hi).symm
  | swap x y l =>
    refine ⟨1 :: 0 :: (rangeZ 0 l.length).map (fun i => i + 1 + 1), ?_, ?_⟩
    · unfold Ord
      rw [List.length_cons, rangeZ_succ, List.length_cons, rangeZ_succ, List.map_cons, List.map_map]
      exact List.Perm.swap _ _ _
    · rw [List.map_cons, List.map_cons, List.map_map]
      congr 2
      rw [← map_fnd_range l]
      simp only [List.length_map, length_rangeZ]
      have e : ((l.length : Int) - 0).toNat = l.length := by omega
      rw [e]
      refine List.map_congr_left fun i hi => ?_
      have := mem_rangeZ.mp hi
      rw [map_fnd_range]
      show _ = (x :: y :: l).getD (i + 1 + 1).toNat []
      have e : (i + 1 + 1).toNat = i.toNat + 2 := by omega
      rw [e]
      rfl
  | @trans l1 l2 l3 _ _ ih1 ih2 =>
    obtain ⟨o1, h1, e1⟩ := ih1
    obtain ⟨o2, h2, e2⟩ := ih2
    refine ⟨o1.map fun i => o2.getD i.toNat 0, ?_, ?_⟩
    · have hl : l2.length = o2.length := by rw [e2, List.length_map]
      have q := List.Perm.map (fun i : Int => o2.getD i.toNat 0) h1
      rw [hl, ← range_get o2 0] at q
      exact q.trans h2
    · rw [List.map_map, e1]
      refine List.map_congr_left fun i hi => ?_
      have := h1.mem.mp hi
      have hl : l2.length = o2.length := by rw [e2, List.length_map]
      show l2.getD i.toNat [] = fnd l3 (o2.getD i.toNat 0)
      rw [e2, List.getD_eq_getElem?_getD, List.getElem?_map, List.getD_eq_getElem?_getD, List.getElem?_eq_getElem (by omega)]
      rfl
/-! ### an order by age has no breaks -/
theorem okS_iff {g : List Int → Int → Bool} : ∀ {cs row : List Int}, okS g row cs = true ↔ ∀ pre c post, cs = pre ++ c :: post → g (row ++ pre) c = true
  | [], row => ⟨fun _ pre c post h => by
      have := congrArg List.length h
      simp at this, fun _ => rfl⟩
  | d :: cs, row => by
    show (g row d && okS g (row ++ [d]) cs) = true ↔ _
    rw [Bool.and_eq_true, okS_iff (cs := cs)]
    constructor
    · rintro ⟨h1, h2⟩ pre c post e
      cases pre with
      | nil =>
        cases e
        rw [List.append_nil]; exact h1
      | cons p pre =>
        cases e
        have := h2 pre c post rfl
        rw [List.append_assoc] at this
        exact this
    · intro h
      refine ⟨by have := h [] d cs rfl; rwa [List.append_nil] at this, fun pre c post e => ?_⟩
      have := h (d :: pre) c post (by rw [e]; rfl)
      rw [List.append_assoc]
      exact this
theorem mem_pl {x j : Int} {s : List (List Int)} : j ∈ pl x s ↔ (0 ≤ j ∧ j < s.length) ∧ x ∈ s.getD j.toNat [] := by
  unfold pl
  rw [mem_plc]
  simp
theorem canF_iff {fs : List (List Int)} {pre : List Int} {l c : Int} : canF fs (pre ++ [l]) c = true ↔ ∀ x ∈ fnd fs c, x ∈ fnd fs l ∨ ∀ o ∈ pre ++ [l], x ∉ fnd fs o := by
  unfold canF
  rw [List.getLast?_concat]
  simp only [Bool.not_eq_true', List.any_eq_false, Bool.and_eq_true, Bool.not_eq_true', decide_eq_false_iff_not, List.any_eq_true, decide_eq_true_eq, not_and, not_exists]
  constructor
  · intro h x hx
    by_cases q : x ∈ fnd fs l
    · exact .inl q
    · exact .inr fun o ho => h x hx q o ho
  · intro h x hx q o ho
    rcases h x hx with h | h
    · exact absurd h q
    · exact h o ho
theorem getD_app {pre post : List Int} {c : Int} {f : Int → List Int} {j : Nat} (h : j < pre.length) : ((pre ++ c :: post).map f).getD j [] = f (pre.getD j 0) := by
  rw [List.getD_eq_getElem?_getD, List.getElem?_map, List.getElem?_append_left h, List.getD_eq_getElem?_getD, List.getElem?_eq_getElem h]
  rfl
theorem age_brks {w : Int} {fs : List (List Int)} {o : List Int} (h : Fin w fs) (ho : Ord fs.length o) : okS (canF fs) [] o = true ↔ brks w (o.map (fnd fs)) = 0 := by
  rw [okS_iff, brks_zero]
  have gd : ∀ j : Nat, (hj : j < o.length) → (o.map (fnd fs)).getD j [] = fnd fs o[j] := fun j hj => by
    rw [List.getD_eq_getElem?_getD, List.getElem?_map, List.getElem?_eq_getElem hj]
    rfl
  constructor
  · intro hc x _ _
    rw [(brk_len (pl_sorted x _)).2]
    intro a b c ha hcc hab hbc
    rw [mem_pl] at ha hcc
    obtain ⟨⟨a1, a2⟩, a3⟩ := ha
    obtain ⟨⟨c1, c2⟩, c3⟩ := hcc
    rw [List.length_map] at a2 c2
    rw [gd _ (by omega)] at a3 c3
    -- from c down to b
    have down : ∀ k : Nat, ∀ j : Int, j = c - k → a ≤ j → x ∈ (o.map (fnd fs)).getD j.toNat [] := by
      intro k
      induction k with
      | zero =>
        intro j e _
        have e : j = c := by omega
        subst e
        rw [gd _ (by omega)]; exact c3
      | succ k ih =>
        intro j e hj
        have q := ih (j + 1) (by omega) (by omega)
        rw [gd _ (by omega)] at q ⊢
        have hsplit : o = (o.take j.toNat ++ [o[j.toNat]'(by omega)]) ++ o[(j + 1).toNat]'(by omega) :: o.drop (j.toNat + 2) := by
          have e1 : (j + 1).toNat = j.toNat + 1 := by omega
          have e2 : o = o.take j.toNat ++ o.drop j.toNat := (List.take_append_drop _ _).symm
          have e3 : o.drop j.toNat = o[j.toNat]'(by omega) :: o.drop (j.toNat + 1) := List.drop_eq_getElem_cons (by omega)
          have e4 : o.drop (j.toNat + 1) = o[j.toNat + 1]'(by omega) :: o.drop (j.toNat + 1 + 1) := List.drop_eq_getElem_cons (by omega)
          simp only [e1]
          rw [List.append_assoc, List.singleton_append, ← e4, ← e3, ← e2]
        have hg := hc _ _ _ hsplit
        rw [List.nil_append] at hg
        rcases (canF_iff.mp hg) x q with q2 | q2
        · exact q2
        · exfalso
          have e5 : o[a.toNat]'(by omega) ∈ o.take j.toNat ++ [o[j.toNat]'(by omega)] := by
            have e6 : o.take j.toNat ++ [o[j.toNat]'(by omega)] = o.take (j.toNat + 1) := (List.take_succ_eq_append_getElem (by omega)).symm
            rw [e6, List.mem_take_iff_getElem]
            exact ⟨a.toNat, by omega, rfl⟩
          exact q2 _ e5 a3
    rw [mem_pl, List.length_map]
    exact ⟨⟨by omega, by omega⟩, down (c - b).toNat b (by omega) hab⟩
  · intro hb pre c post e
    rw [List.nil_append]
    rcases List.eq_nil_or_concat pre with rfl | ⟨pre', l, rfl⟩
    · rfl
    · rw [List.concat_eq_append] at e ⊢
      rw [canF_iff]
      intro x hx
      by_cases q : ∃ u ∈ pre' ++ [l], x ∈ fnd fs u
      · left
        obtain ⟨u, hu, hxu⟩ := q
        have hc : c ∈ o := by rw [e]; simp
        have hcr := ho.mem.mp hc
        have hw := (h.lot _ (fnd_mem hcr)).mem x hx
        have hz := (brk_len (pl_sorted x _)).2.mp (hb x hw.1 hw.2)
        obtain ⟨i, hi, ei⟩ := List.mem_iff_getElem.mp hu
        have hlen : (o.map (fnd fs)).length = (pre' ++ [l]).length + post.length + 1 := by rw [e]; simp; omega
        have hol : o.length = (pre' ++ [l]).length + post.length + 1 := by rw [e]; simp; omega
        have o1 : ∀ k : Nat, (hk : k < (pre' ++ [l]).length) → o[k]'(by omega) = (pre' ++ [l])[k] := fun k hk => by
          simp only [e]
          rw [List.getElem_append_left hk]
        have o2 : o[(pre' ++ [l]).length]'(by omega) = c := by
          simp only [e]
          rw [List.getElem_append_right (Nat.le_refl _)]
          simp
        have o3 : (pre' ++ [l])[pre'.length]'(by simp) = l := by simp
        have hpl : (pre' ++ [l]).length = pre'.length + 1 := by simp
        have m := hz i pre'.length (pre'.length + 1) (mem_pl.mpr ⟨⟨by omega, by omega⟩, by
          rw [gd _ (by simp only [Int.toNat_natCast]; omega)]
          simp only [Int.toNat_natCast]
          rw [o1 i hi, ei]; exact hxu⟩) (mem_pl.mpr ⟨⟨by omega, by omega⟩, by
          have e7 : ((pre'.length : Int) + 1).toNat = (pre' ++ [l]).length := by omega
          rw [e7, gd _ (by omega), o2]; exact hx⟩) (by omega) (by omega)
        obtain ⟨_, m⟩ := mem_pl.mp m
        rw [gd _ (by simp only [Int.toNat_natCast]; omega)] at m
        simp only [Int.toNat_natCast] at m
        rw [o1 _ (by omega), o3] at m
        exact m
      · right
        intro u hu hxu
        exact q ⟨u, hu, hxu⟩
/-! ### the least of all, the first of those with so many -/
theorem ltL_asymm : ∀ {a b : List Int}, ltL ltZ a b = true → ltL ltZ b a = false
  | [], [], h => by cases h
  | [], _ :: _, _ => rfl
  | _ :: _, [], h => by cases h
  | x :: xs, y :: ys, h => by
    have h : (if x = y then ltL ltZ xs ys else ltZ x y) = true := h
    show (if y = x then ltL ltZ ys xs else ltZ y x) = false
    by_cases q : x = y
    · subst q
      rw [if_pos rfl] at h ⊢
      exact ltL_asymm h
    · rw [if_neg q] at h
      rw [if_neg fun e => q e.symm]
      have h := of_decide_eq_true h
      exact decide_eq_false (by omega)
/-- the first of those with the least -/
structure IsMin (B : List Int → Int) (S : List (List Int)) (h : List Int) : Prop where
  mem : h ∈ S
  le : ∀ o ∈ S, B h ≤ B o
  first : ∀ o ∈ S, B o = B h → o = h ∨ ltL ltZ h o = true
theorem IsMin.uniq {B : List Int → Int} {S : List (List Int)} {h h' : List Int} (a : IsMin B S h) (b : IsMin B S h') : h = h' := by
  have e : B h = B h' := by
    have := a.le h' b.mem
    have := b.le h a.mem
    omega
  rcases a.first h' b.mem e.symm with q | q
  · exact q.symm
  · rcases b.first h a.mem e with q2 | q2
    · exact q2
    · rw [ltL_asymm q] at q2; cases q2
theorem IsMin.snoc {B : List Int → Int} {done : List (List Int)} {h o : List Int} (a : IsMin B done h) (hl : ∀ r ∈ done, ltL ltZ r o = true) : IsMin B (done ++ [o]) (if B o < B h then o else h) := by
  by_cases q : B o < B h
  · rw [if_pos q]
    refine ⟨by simp, fun r hr => ?_, fun r hr e => ?_⟩
    · rcases List.mem_append.mp hr with hr | hr
      · have := a.le r hr; omega
      · rw [List.mem_singleton] at hr; subst hr; exact Int.le_refl _
    · rcases List.mem_append.mp hr with hr | hr
      · have := a.le r hr; omega
      · rw [List.mem_singleton] at hr; exact .inl hr
  · rw [if_neg q]
    refine ⟨by simp [a.mem], fun r hr => ?_, fun r hr e => ?_⟩
    · rcases List.mem_append.mp hr with hr | hr
      · exact a.le r hr
      · rw [List.mem_singleton] at hr; subst hr; omega
    · rcases List.mem_append.mp hr with hr | hr
      · exact a.first r hr e
      · rw [List.mem_singleton] at hr; subst hr
        exact .inr (hl h a.mem)
theorem IsMin.one {B : List Int → Int} {o : List Int} : IsMin B [o] o := ⟨by simp, fun r hr => by rw [List.mem_singleton] at hr; subst hr; exact Int.le_refl _, fun r hr _ => .inl (List.mem_singleton.mp hr)⟩
/-- the law's min over pairs -/
theorem minT_isMin {B : List Int → Int} : ∀ {rest done : List (List Int)} {h : List Int}, (done ++ rest).Pairwise (fun a b => ltL ltZ a b = true) → IsMin B done h → ∃ h', minT (lt2 ltZ (ltL ltZ)) (B h, h) (rest.map fun o => (B o, o)) = (B h', h') ∧ IsMin B (done ++ rest) h'
  | [], done, h, _, a => ⟨h, rfl, by rw [List.append_nil]; exact a⟩
  | o :: rest, done, h, hs, a => by
    have hl : ∀ r ∈ done, ltL ltZ r o = true := fun r hr => (List.pairwise_append.mp hs).2.2 r hr o List.mem_cons_self
    have e : (if lt2 ltZ (ltL ltZ) (B o, o) (B h, h) = true then (B o, o) else (B h, h)) = (B (if B o < B h then o else h), if B o < B h then o else h) := by
      have e2 : lt2 ltZ (ltL ltZ) (B o, o) (B h, h) = decide (B o < B h) := by
        unfold lt2
        by_cases q : B o = B h
        · have q3 : ltL ltZ o h = false := ltL_asymm (hl h a.mem)
          simp [q, q3]
        · simp only [q, if_false]
          rfl
      rw [e2]
      by_cases q : B o < B h <;> simp [q]
    show ∃ h', minT (lt2 ltZ (ltL ltZ)) (if lt2 ltZ (ltL ltZ) (B o, o) (B h, h) = true then (B o, o) else (B h, h)) (rest.map fun o => (B o, o)) = _ ∧ _
    rw [e]
    have q := minT_isMin (B := B) (rest := rest) (done := done ++ [o]) (h := if B o < B h then o else h) (by rw [List.append_assoc]; exact hs) (a.snoc hl)
    rw [List.append_assoc] at q
    exact q
end Mi.J

set_option Elab.async false
set_option linter.all false
set_option maxRecDepth 100000
set_option maxHeartbeats 0
/-! the law stretchwebs_k86_whole_spans_and_breaks: its text, its head; printed by gen_law.py -/
namespace K86
open PySem PySem.Spec PyProof.Rows L2 Mi
abbrev prg : Program := PySem.Challenge.pw_stretchwebs_k86_whole_spans_and_breaks
def top (i : Nat) : Stmt := prg.main.body.getD i (.Pass ⟨0, 0, 0, 0⟩)
def b_is_integer : Sts := (.cons (.ret (.and (.isi (.var 0) .int) (.not (.isi (.var 0) .bool)))) .nil)
def q_is_integer : Dn := ⟨"is_integer", top 8, [], [("thing" : Str)], ["thing"], b_is_integer⟩
def b_is_within : Sts := (.cons (.ret (.and (.call 0 (.cons (.var 0) .nil)) (.chn .le .le (.var 1) (.var 0) (.var 2)))) .nil)
def q_is_within : Dn := ⟨"is_within", top 9, [0], [("thing" : Str), ("low" : Str), ("high" : Str)], ["thing", "low", "high"], b_is_within⟩
def b_is_lot : Sts := (.cons (.iff (.or (.not (.isi (.var 1) .tuple)) (.not (.b1 .all (.lc1 [3] (.call 1 (.cons (.var 3) (.cons (.lit (.int 0)) (.cons (.bin .sub (.var 0) (.lit (.int 1))) .nil)))) (.nm 3) (.seq (.var 1)) (.lit (.bl true)))))) (.cons (.ret (.lit (.bl false))) .nil) .nil) (.cons (.ret (.b1 .all (.lc1 [2] (.cmp .lt (.ix (.var 1) (.var 2)) (.ix (.var 1) (.bin .add (.var 2) (.lit (.int 1))))) (.nm 2) (.rng (.lit (.int 0)) (.bin .sub (.b1 .len (.var 1)) (.lit (.int 1)))) (.lit (.bl true))))) .nil))
def q_is_lot : Dn := ⟨"is_lot", top 10, [1], [("limit" : Str), ("thing" : Str), ("at" : Str), ("one" : Str)], ["limit", "thing"], b_is_lot⟩
def b_is_order : Sts := (.cons (.iff (.or (.not (.isi (.var 1) .tuple)) (.not (.b1 .all (.lc1 [2] (.call 1 (.cons (.var 2) (.cons (.lit (.int 0)) (.cons (.bin .sub (.var 0) (.lit (.int 1))) .nil)))) (.nm 2) (.seq (.var 1)) (.lit (.bl true)))))) (.cons (.ret (.lit (.bl false))) .nil) .nil) (.cons (.ret (.cmp .eq (.b1 (.sorted .i) (.var 1)) (.lrng (.lit (.int 0)) (.var 0)))) .nil))
def q_is_order : Dn := ⟨"is_order", top 11, [1], [("many" : Str), ("thing" : Str), ("one" : Str)], ["many", "thing"], b_is_order⟩
def b_check_finds : Sts := (.cons (.iff (.not (.call 1 (.cons (.var 0) (.cons (.lit (.int 1)) (.cons (.glb "MOST_WARES" (.int 9)) .nil))))) (.cons .rse .nil) .nil) (.cons (.iff (.or (.not (.isi (.var 1) .tuple)) (.not (.chn .le .le (.lit (.int 1)) (.b1 .len (.var 1)) (.glb "MOST_FINDS" (.int 8))))) (.cons .rse .nil) .nil) (.cons (.iff (.not (.b1 .all (.lc1 [2] (.call 2 (.cons (.var 0) (.cons (.var 2) .nil))) (.nm 2) (.seq (.var 1)) (.lit (.bl true))))) (.cons .rse .nil) .nil) .nil)))
def q_check_finds : Dn := ⟨"check_finds", top 17, [1, 2], [("wide" : Str), ("finds" : Str), ("find" : Str)], ["wide", "finds"], b_check_finds⟩
def b_is_told : Sts := (.cons (.iff (.or (.not (.isi (.var 1) .tuple)) (.or (.cmp .ne (.b1 .len (.var 1)) (.lit (.int 2))) (.not (.b1 .all (.lc1 [2] (.call 1 (.cons (.var 2) (.cons (.lit (.int 0)) (.cons (.bin .sub (.var 0) (.lit (.int 1))) .nil)))) (.nm 2) (.seq (.var 1)) (.lit (.bl true))))))) (.cons (.ret (.lit (.bl false))) .nil) .nil) (.cons (.ret (.cmp .ne (.ix (.var 1) (.lit (.int 0))) (.ix (.var 1) (.lit (.int 1))))) .nil))
def q_is_told : Dn := ⟨"is_told", top 18, [1], [("many" : Str), ("pair" : Str), ("one" : Str)], ["many", "pair"], b_is_told⟩
def b_check_told : Sts := (.cons (.ex (.call 4 (.cons (.var 0) (.cons (.var 1) .nil)))) (.cons (.iff (.or (.not (.isi (.var 2) .tuple)) (.not (.b1 .all (.lc1 [4] (.call 5 (.cons (.b1 .len (.var 1)) (.cons (.var 4) .nil))) (.nm 4) (.seq (.var 2)) (.lit (.bl true)))))) (.cons .rse .nil) .nil) (.cons (.iff (.not (.b1 .all (.lc1 [3] (.cmp .lt (.ix (.var 2) (.var 3)) (.ix (.var 2) (.bin .add (.var 3) (.lit (.int 1))))) (.nm 3) (.rng (.lit (.int 0)) (.bin .sub (.b1 .len (.var 2)) (.lit (.int 1)))) (.lit (.bl true))))) (.cons .rse .nil) .nil) .nil)))
def q_check_told : Dn := ⟨"check_told", top 19, [4, 5], [("wide" : Str), ("finds" : Str), ("told" : Str), ("at" : Str), ("pair" : Str)], ["wide", "finds", "told"], b_check_told⟩
def b_can_follow : Sts := (.cons (.iff (.cmp .eq (.b1 .len (.var 1)) (.lit (.int 0))) (.cons (.ret (.lit (.bl true))) .nil) .nil) (.cons (.asg 3 false (.ix (.var 0) (.ix (.var 1) (.neg (.lit (.int 1)))))) (.cons (.ret (.not (.b1 .any (.lc1 [4] (.and (.cmp .notin (.var 4) (.var 3)) (.b1 .any (.lc1 [5] (.cmp .isin (.var 4) (.ix (.var 0) (.var 5))) (.nm 5) (.seq (.var 1)) (.lit (.bl true))))) (.nm 4) (.seq (.ix (.var 0) (.var 2))) (.lit (.bl true)))))) .nil)))
def q_can_follow : Dn := ⟨"can_follow", top 20, [], [("finds" : Str), ("order" : Str), ("find" : Str), ("last" : Str), ("ware" : Str), ("one" : Str)], ["finds", "order", "find"], b_can_follow⟩
def b_orders_by_age : Sts := (.cons (.par [(3, true), (4, true)] (.cons (.lst .nil) (.cons (.lst (.cons (.tup .nil) .nil)) .nil))) (.cons (.whl (.and (.cmp .gt (.b1 .len (.var 4)) (.lit (.int 0))) (.cmp .lt (.b1 .len (.var 3)) (.var 2))) (.cons (.asg 5 false (.m0 .pop (.var 4))) (.cons (.iff (.cmp .eq (.b1 .len (.var 5)) (.b1 .len (.var 0))) (.cons (.ex (.m1 .append (.var 3) (.var 5))) .nil) (.cons (.asg 6 false (.lc1 [7] (.var 7) (.nm 7) (.rng (.lit (.int 0)) (.b1 .len (.var 0))) (.and (.cmp .notin (.var 7) (.var 5)) (.call 7 (.cons (.var 0) (.cons (.var 5) (.cons (.var 7) .nil))))))) (.cons (.asg 6 false (.lc1 [7] (.var 7) (.nm 7) (.seq (.var 6)) (.not (.b1 .any (.lc1 [8] (.and (.cmp .eq (.ix (.var 8) (.lit (.int 1))) (.var 7)) (.cmp .notin (.ix (.var 8) (.lit (.int 0))) (.var 5))) (.nm 8) (.seq (.var 1)) (.lit (.bl true))))))) (.cons (.ex (.m1 .extend (.var 4) (.lc1 [7] (.bin .add (.var 5) (.tup (.cons (.var 7) .nil))) (.nm 7) (.seq (.rev (.var 6))) (.lit (.bl true))))) .nil)))) .nil))) (.cons (.ret (.var 3)) .nil)))
def q_orders_by_age : Dn := ⟨"orders_by_age", top 21, [7], [("finds" : Str), ("told" : Str), ("most" : Str), ("found" : Str), ("waiting" : Str), ("order" : Str), ("rest" : Str), ("one" : Str), ("pair" : Str)], ["finds", "told", "most"], b_orders_by_age⟩
def b_age_orders : Sts := (.cons (.ex (.call 6 (.cons (.var 0) (.cons (.var 1) (.cons (.var 2) .nil))))) (.cons (.asg 3 false (.call 8 (.cons (.var 1) (.cons (.var 2) (.cons (.bin .add (.glb "MOST_ORDERS" (.int 3000)) (.lit (.int 1))) .nil))))) (.cons (.iff (.cmp .gt (.b1 .len (.var 3)) (.glb "MOST_ORDERS" (.int 3000))) (.cons .rse .nil) .nil) (.cons (.ret (.b1 .tuple (.var 3))) .nil))))
def q_age_orders : Dn := ⟨"age_orders", top 22, [6, 8], [("wide" : Str), ("finds" : Str), ("told" : Str), ("found" : Str)], ["wide", "finds", "told"], b_age_orders⟩
def b_raw_spans : Sts := (.cons (.asg 3 true (.lst .nil)) (.cons (.for (.nm 4) (.rng (.lit (.int 0)) (.var 0)) (.cons (.asg 5 false (.lc1 [6, 7] (.var 6) (.two (.nm 6) (.nm 7)) (.enum (.var 2)) (.cmp .isin (.var 4) (.ix (.var 1) (.var 7))))) (.cons (.ex (.m1 .append (.var 3) (.ite (.cmp .gt (.b1 .len (.var 5)) (.lit (.int 0))) (.tup (.cons (.ix (.var 5) (.lit (.int 0))) (.cons (.ix (.var 5) (.neg (.lit (.int 1)))) .nil))) (.lit .non)))) .nil))) (.cons (.ret (.b1 .tuple (.var 3))) .nil)))
def q_raw_spans : Dn := ⟨"raw_spans", top 23, [], [("wide" : Str), ("finds" : Str), ("order" : Str), ("found" : Str), ("ware" : Str), ("places" : Str), ("at" : Str), ("one" : Str)], ["wide", "finds", "order"], b_raw_spans⟩
def b_check_aged : Sts := (.cons (.ex (.call 4 (.cons (.var 0) (.cons (.var 1) .nil)))) (.cons (.iff (.not (.call 3 (.cons (.b1 .len (.var 1)) (.cons (.var 2) .nil)))) (.cons .rse .nil) .nil) .nil))
def q_check_aged : Dn := ⟨"check_aged", top 24, [3, 4], [("wide" : Str), ("finds" : Str), ("order" : Str)], ["wide", "finds", "order"], b_check_aged⟩
def b_spans_of : Sts := (.cons (.ex (.call 11 (.cons (.var 0) (.cons (.var 1) (.cons (.var 2) .nil))))) (.cons (.ret (.call 10 (.cons (.var 0) (.cons (.var 1) (.cons (.var 2) .nil))))) .nil))
def q_spans_of : Dn := ⟨"spans_of", top 25, [10, 11], [("wide" : Str), ("finds" : Str), ("order" : Str)], ["wide", "finds", "order"], b_spans_of⟩
def b_raw_breaks : Sts := (.cons (.asg 3 false (.lit (.int 0))) (.cons (.for (.two (.nm 4) (.nm 5)) (.enum (.call 10 (.cons (.var 0) (.cons (.var 1) (.cons (.var 2) .nil))))) (.cons (.iff (.cmp .isnot (.var 5) (.lit .non)) (.cons (.aug 3 .add (.bin .sub (.bin .add (.bin .sub (.ix (.var 5) (.lit (.int 1))) (.ix (.var 5) (.lit (.int 0)))) (.lit (.int 1))) (.b1 .len (.lc1 [6] (.var 6) (.nm 6) (.seq (.var 1)) (.cmp .isin (.var 4) (.var 6)))))) .nil) .nil) .nil)) (.cons (.ret (.var 3)) .nil)))
def q_raw_breaks : Dn := ⟨"raw_breaks", top 26, [10], [("wide" : Str), ("finds" : Str), ("order" : Str), ("total" : Str), ("ware" : Str), ("span" : Str), ("find" : Str)], ["wide", "finds", "order"], b_raw_breaks⟩
def b_breaks_of : Sts := (.cons (.ex (.call 11 (.cons (.var 0) (.cons (.var 1) (.cons (.var 2) .nil))))) (.cons (.ret (.call 13 (.cons (.var 0) (.cons (.var 1) (.cons (.var 2) .nil))))) .nil))
def q_breaks_of : Dn := ⟨"breaks_of", top 27, [11, 13], [("wide" : Str), ("finds" : Str), ("order" : Str)], ["wide", "finds", "order"], b_breaks_of⟩
def b_all_orders : Sts := (.cons (.asg 1 false (.lst (.cons (.tup .nil) .nil))) (.cons (.for (.nm 2) (.rng (.lit (.int 0)) (.var 0)) (.cons (.asg 1 false (.lc2 [3, 4] [4] (.bin .add (.var 3) (.tup (.cons (.var 4) .nil))) (.nm 3) (.seq (.var 1)) (.lit (.bl true)) (.nm 4) (.rng (.lit (.int 0)) (.var 0)) (.cmp .notin (.var 4) (.var 3)))) .nil)) (.cons (.ret (.var 1)) .nil)))
def q_all_orders : Dn := ⟨"all_orders", top 28, [], [("many" : Str), ("found" : Str), ("turn" : Str), ("order" : Str), ("one" : Str)], ["many"], b_all_orders⟩
def b_least_breaks : Sts := (.cons (.ex (.call 4 (.cons (.var 0) (.cons (.var 1) .nil)))) (.cons (.iff (.cmp .gt (.b1 .len (.var 1)) (.glb "MOST_BROKEN" (.int 7))) (.cons .rse .nil) .nil) (.cons (.asg 2 false (.lit .non)) (.cons (.for (.nm 3) (.seq (.call 15 (.cons (.b1 .len (.var 1)) .nil))) (.cons (.asg 4 false (.call 13 (.cons (.var 0) (.cons (.var 1) (.cons (.var 3) .nil))))) (.cons (.iff (.or (.cmp .is (.var 2) (.lit .non)) (.cmp .lt (.var 4) (.ix (.var 2) (.lit (.int 0))))) (.cons (.asg 2 false (.tup (.cons (.var 4) (.cons (.var 3) .nil)))) .nil) .nil) .nil))) (.cons (.ret (.var 2)) .nil)))))
def q_least_breaks : Dn := ⟨"least_breaks", top 29, [4, 13, 15], [("wide" : Str), ("finds" : Str), ("best" : Str), ("order" : Str), ("many" : Str)], ["wide", "finds"], b_least_breaks⟩
def b_law_hand : Sts := (.cons (.asg 1 false (.lc1 [2] (.b1 .abs (.b1 .int (.var 2))) (.nm 2) (.seq (.sl (.var 0) (.lit .non) (.lit (.int 63)))) (.lit (.bl true)))) (.cons (.ret (.lst (.cons (.var 1) (.cons (.lit (.int 0)) (.cons (.lit (.int 0)) (.cons (.bin .add (.lit (.int 1187)) (.bin .mul (.lit (.int 61)) (.b1 .len (.var 1)))) (.cons (.lit (.int 0)) .nil))))))) .nil))
def q_law_hand : Dn := ⟨"_law_hand", top 31, [], [("script" : Str), ("cells" : Str), ("cell" : Str)], ["script"], b_law_hand⟩
def b_law_draw : Sts := (.cons (.iff (.and (.cmp .eq (.ix (.var 0) (.lit (.int 2))) (.lit (.int 0))) (.cmp .lt (.ix (.var 0) (.lit (.int 1))) (.b1 .len (.ix (.var 0) (.lit (.int 0)))))) (.cons (.asg 3 false (.ix (.ix (.var 0) (.lit (.int 0))) (.ix (.var 0) (.lit (.int 1))))) (.cons (.setix (.var 0) (.lit (.int 1)) (.bin .add (.ix (.var 0) (.lit (.int 1))) (.lit (.int 1)))) (.cons (.setix (.var 0) (.lit (.int 3)) (.bin .mod (.b1 .int (.bin .add (.bin .add (.bin .mul (.ix (.var 0) (.lit (.int 3))) (.lit (.int 69621))) (.bin .mul (.var 3) (.lit (.int 48271)))) (.lit (.int 17)))) (.lit (.int 2147483629)))) (.cons (.iff (.cmp .ge (.var 3) (.bin .pow (.lit (.int 10)) (.lit (.int 18)))) (.cons (.setix (.var 0) (.lit (.int 2)) (.var 3)) .nil) .nil) .nil)))) .nil) (.cons (.iff (.cmp .gt (.ix (.var 0) (.lit (.int 2))) (.lit (.int 0))) (.cons (.asg 4 false (.bin .mod (.b1 .int (.ix (.var 0) (.lit (.int 2)))) (.var 1))) (.cons (.setix (.var 0) (.lit (.int 2)) (.bin .fdiv (.ix (.var 0) (.lit (.int 2))) (.var 1))) (.cons (.ret (.var 4)) .nil))) .nil) (.cons (.setix (.var 0) (.lit (.int 4)) (.bin .add (.ix (.var 0) (.lit (.int 4))) (.lit (.int 1)))) (.cons (.asg 2 false (.bin .mod (.b1 .int (.bin .mul (.b1 .int (.bin .add (.ix (.var 0) (.lit (.int 3))) (.bin .mul (.lit (.int 7919)) (.ix (.var 0) (.lit (.int 4)))))) (.lit (.int 40692)))) (.lit (.int 2147483647)))) (.cons (.asg 2 false (.bin .mod (.b1 .int (.bin .mul (.var 2) (.bin .add (.bin .fdiv (.var 2) (.lit (.int 1009))) (.lit (.int 69621))))) (.lit (.int 2147483647)))) (.cons (.asg 2 false (.bin .mod (.b1 .int (.bin .mul (.var 2) (.bin .add (.bin .fdiv (.var 2) (.lit (.int 2003))) (.lit (.int 40014))))) (.lit (.int 2147483563)))) (.cons (.ret (.bin .mod (.b1 .int (.bin .fdiv (.var 2) (.lit (.int 16)))) (.var 1))) .nil)))))))
def q_law_draw : Dn := ⟨"_law_draw", top 32, [], [("hand" : Str), ("many" : Str), ("amount" : Str), ("cell" : Str), ("digit" : Str)], ["hand", "many"], b_law_draw⟩
def b_law_any : Sts := (.cons (.ret (.ix (.var 1) (.call 18 (.cons (.var 0) (.cons (.b1 .len (.var 1)) .nil))))) .nil)
def q_law_any : Dn := ⟨"_law_any", top 33, [18], [("hand" : Str), ("some" : Str)], ["hand", "some"], b_law_any⟩
def b_law_mixed : Sts := (.cons (.par [(2, true), (3, true)] (.cons (.b1 .list (.var 1)) (.cons (.lst .nil) .nil))) (.cons (.whl (.cmp .gt (.b1 .len (.var 2)) (.lit (.int 0))) (.cons (.ex (.m1 .append (.var 3) (.m1 .pop (.var 2) (.call 18 (.cons (.var 0) (.cons (.b1 .len (.var 2)) .nil)))))) .nil)) (.cons (.ret (.var 3)) .nil)))
def q_law_mixed : Dn := ⟨"_law_mixed", top 34, [18], [("hand" : Str), ("things" : Str), ("pool" : Str), ("found" : Str)], ["hand", "things"], b_law_mixed⟩
def b_law_same : Sts := (.cons (.iff (.or (.isi (.var 1) .tuple) (.isi (.var 1) .list)) (.cons (.iff (.or (.cmp .ne (.isi (.var 0) .tuple) (.isi (.var 1) .tuple)) (.cmp .ne (.isi (.var 0) .list) (.isi (.var 1) .list))) (.cons (.ret (.lit (.bl false))) .nil) .nil) (.cons (.ret (.and (.cmp .eq (.b1 .len (.var 0)) (.b1 .len (.var 1))) (.b1 .all (.lc1 [2, 3] (.call 21 (.cons (.var 2) (.cons (.var 3) .nil))) (.two (.nm 2) (.nm 3)) (.zip (.var 0) (.var 1)) (.lit (.bl true)))))) .nil)) .nil) (.cons (.iff (.or (.cmp .ne (.isi (.var 0) .bool) (.isi (.var 1) .bool)) (.cmp .ne (.cmp .is (.var 0) (.lit .non)) (.cmp .is (.var 1) (.lit .non)))) (.cons (.ret (.lit (.bl false))) .nil) .nil) (.cons (.ret (.and (.cmp .eq (.isi (.var 0) .int) (.isi (.var 1) .int)) (.cmp .eq (.var 0) (.var 1)))) .nil)))
def q_law_same : Dn := ⟨"_law_same", top 35, [21], [("one" : Str), ("due" : Str), ("a" : Str), ("b" : Str)], ["one", "due"], b_law_same⟩
def b_law_orders : Sts := (.cons (.asg 1 false (.lst (.cons (.tup .nil) .nil))) (.cons (.for (.nm 2) (.rng (.lit (.int 0)) (.var 0)) (.cons (.asg 3 true (.lst .nil)) (.cons (.for (.nm 4) (.seq (.var 1)) (.cons (.ex (.m1 .extend (.var 3) (.lc1 [5] (.bin .add (.var 4) (.tup (.cons (.var 5) .nil))) (.nm 5) (.rng (.lit (.int 0)) (.var 0)) (.cmp .notin (.var 5) (.var 4))))) .nil)) (.cons (.asg 1 false (.var 3)) .nil)))) (.cons (.ret (.var 1)) .nil)))
def q_law_orders : Dn := ⟨"_law_orders", top 36, [], [("many" : Str), ("found" : Str), ("lap" : Str), ("longer" : Str), ("row" : Str), ("one" : Str)], ["many"], b_law_orders⟩
def b_law_finds : Sts := (.cons (.par [(2, false), (3, false), (4, true)] (.cons (.bin .add (.lit (.int 1)) (.call 19 (.cons (.var 0) (.cons (.lst (.cons (.lit (.int 0)) (.cons (.lit (.int 1)) (.cons (.lit (.int 2)) (.cons (.lit (.int 3)) (.cons (.lit (.int 4)) (.cons (.lit (.int 4)) .nil))))))) .nil)))) (.cons (.b2 .max (.lit (.int 1)) (.bin .sub (.var 1) (.call 19 (.cons (.var 0) (.cons (.lst (.cons (.lit (.int 0)) (.cons (.lit (.int 0)) (.cons (.lit (.int 0)) (.cons (.lit (.int 1)) (.cons (.lit (.int 1)) (.cons (.lit (.int 2)) (.cons (.lit (.int 4)) .nil)))))))) .nil))))) (.cons (.lst .nil) .nil)))) (.cons (.iff (.cmp .eq (.call 18 (.cons (.var 0) (.cons (.lit (.int 2)) .nil))) (.lit (.int 0))) (.cons (.for (.nm 8) (.rng (.lit (.int 0)) (.var 3)) (.cons (.ex (.m1 .append (.var 4) (.b1 .tuple (.lc1 [6] (.var 6) (.nm 6) (.rng (.lit (.int 0)) (.var 2)) (.cmp .eq (.call 18 (.cons (.var 0) (.cons (.lit (.int 3)) .nil))) (.lit (.int 0))))))) .nil)) (.cons (.ret (.tup (.cons (.var 2) (.cons (.b1 .tuple (.var 4)) .nil)))) .nil)) .nil) (.cons (.asg 5 true (.lst .nil)) (.cons (.for (.nm 6) (.rng (.lit (.int 0)) (.var 2)) (.cons (.asg 9 false (.call 18 (.cons (.var 0) (.cons (.var 3) .nil)))) (.cons (.ex (.m1 .append (.var 5) (.tup (.cons (.var 9) (.cons (.bin .add (.var 9) (.call 18 (.cons (.var 0) (.cons (.lit (.int 3)) .nil)))) .nil))))) .nil))) (.cons (.asg 7 false (.call 20 (.cons (.var 0) (.cons (.lrng (.lit (.int 0)) (.var 3)) .nil)))) (.cons (.for (.nm 8) (.rng (.lit (.int 0)) (.var 3)) (.cons (.ex (.m1 .append (.var 4) (.b1 .tuple (.lc1 [6] (.var 6) (.nm 6) (.rng (.lit (.int 0)) (.var 2)) (.chn .le .le (.ix (.ix (.var 5) (.var 6)) (.lit (.int 0))) (.ix (.var 7) (.var 8)) (.ix (.ix (.var 5) (.var 6)) (.lit (.int 1)))))))) .nil)) (.cons (.iff (.cmp .eq (.call 18 (.cons (.var 0) (.cons (.lit (.int 4)) .nil))) (.lit (.int 0))) (.cons (.par [(10, false), (6, false)] (.cons (.call 18 (.cons (.var 0) (.cons (.var 3) .nil))) (.cons (.call 18 (.cons (.var 0) (.cons (.var 2) .nil))) .nil))) (.cons (.setix (.var 4) (.var 10) (.b1 .tuple (.lc1 [11] (.var 11) (.nm 11) (.rng (.lit (.int 0)) (.var 2)) (.cmp .ne (.cmp .isin (.var 11) (.ix (.var 4) (.var 10))) (.cmp .eq (.var 11) (.var 6)))))) .nil)) .nil) (.cons (.ret (.tup (.cons (.var 2) (.cons (.b1 .tuple (.var 4)) .nil)))) .nil))))))))
def q_law_finds : Dn := ⟨"_law_finds", top 37, [18, 19, 20], [("hand" : Str), ("most" : Str), ("wide" : Str), ("many" : Str), ("found" : Str), ("spans" : Str), ("ware" : Str), ("order" : Str), ("find" : Str), ("low" : Str), ("at" : Str), ("one" : Str)], ["hand", "most"], b_law_finds⟩
def b_law_spans : Sts := (.cons (.asg 3 true (.lst .nil)) (.cons (.for (.nm 4) (.rng (.lit (.int 0)) (.var 0)) (.cons (.asg 5 false (.lc1 [6, 7] (.var 6) (.two (.nm 6) (.nm 7)) (.enum (.var 2)) (.cmp .isin (.var 4) (.ix (.var 1) (.var 7))))) (.cons (.ex (.m1 .append (.var 3) (.ite (.cmp .gt (.b1 .len (.var 5)) (.lit (.int 0))) (.tup (.cons (.ix (.var 5) (.lit (.int 0))) (.cons (.ix (.var 5) (.neg (.lit (.int 1)))) .nil))) (.lit .non)))) .nil))) (.cons (.ret (.b1 .tuple (.var 3))) .nil)))
def q_law_spans : Dn := ⟨"_law_spans", top 38, [], [("wide" : Str), ("finds" : Str), ("order" : Str), ("found" : Str), ("ware" : Str), ("places" : Str), ("at" : Str), ("find" : Str)], ["wide", "finds", "order"], b_law_spans⟩
def b_law_breaks : Sts := (.cons (.asg 3 false (.lit (.int 0))) (.cons (.for (.two (.nm 4) (.nm 5)) (.enum (.call 24 (.cons (.var 0) (.cons (.var 1) (.cons (.var 2) .nil))))) (.cons (.iff (.cmp .isnot (.var 5) (.lit .non)) (.cons (.asg 3 false (.bin .sub (.bin .add (.bin .sub (.bin .add (.var 3) (.ix (.var 5) (.lit (.int 1)))) (.ix (.var 5) (.lit (.int 0)))) (.lit (.int 1))) (.b1 .len (.lc1 [6] (.var 6) (.nm 6) (.seq (.var 1)) (.cmp .isin (.var 4) (.var 6)))))) .nil) .nil) .nil)) (.cons (.ret (.var 3)) .nil)))
def q_law_breaks : Dn := ⟨"_law_breaks", top 39, [24], [("wide" : Str), ("finds" : Str), ("order" : Str), ("total" : Str), ("ware" : Str), ("span" : Str), ("find" : Str)], ["wide", "finds", "order"], b_law_breaks⟩
def b_law_is_right : Sts := (.cons (.asg 3 false (.b1 .len (.var 2))) (.cons (.for (.nm 4) (.rng (.lit (.int 0)) (.lit (.int 4))) (.cons (.asg 8 false (.b1 .tuple (.call 20 (.cons (.var 0) (.cons (.lrng (.lit (.int 0)) (.var 3)) .nil))))) (.cons (.par [(9, false), (10, false)] (.cons (.call 24 (.cons (.var 1) (.cons (.var 2) (.cons (.var 8) .nil)))) (.cons (.call 25 (.cons (.var 1) (.cons (.var 2) (.cons (.var 8) .nil)))) .nil))) (.cons (.iff (.not (.call 21 (.cons (.lst (.cons (.call 12 (.cons (.var 1) (.cons (.var 2) (.cons (.var 8) .nil)))) (.cons (.call 14 (.cons (.var 1) (.cons (.var 2) (.cons (.var 8) .nil)))) .nil))) (.cons (.lst (.cons (.var 9) (.cons (.var 10) .nil))) .nil)))) (.cons (.ret (.lit (.bl false))) .nil) .nil) (.cons (.asg 11 false (.b1 .tuple (.lc1 [12] (.ite (.cmp .is (.var 12) (.lit .non)) (.lit .non) (.tup (.cons (.bin .sub (.bin .sub (.var 3) (.lit (.int 1))) (.ix (.var 12) (.lit (.int 1)))) (.cons (.bin .sub (.bin .sub (.var 3) (.lit (.int 1))) (.ix (.var 12) (.lit (.int 0)))) .nil)))) (.nm 12) (.seq (.var 9)) (.lit (.bl true))))) (.cons (.iff (.not (.call 21 (.cons (.lst (.cons (.call 12 (.cons (.var 1) (.cons (.var 2) (.cons (.rev (.var 8)) .nil)))) (.cons (.call 14 (.cons (.var 1) (.cons (.var 2) (.cons (.rev (.var 8)) .nil)))) .nil))) (.cons (.lst (.cons (.var 11) (.cons (.var 10) .nil))) .nil)))) (.cons (.ret (.lit (.bl false))) .nil) .nil) .nil)))))) (.cons (.asg 5 false (.b1 (.min (.two .i (.many .i))) (.lc1 [8] (.tup (.cons (.call 25 (.cons (.var 1) (.cons (.var 2) (.cons (.var 8) .nil)))) (.cons (.var 8) .nil))) (.nm 8) (.seq (.call 22 (.cons (.var 3) .nil))) (.lit (.bl true))))) (.cons (.iff (.not (.call 21 (.cons (.call 16 (.cons (.var 1) (.cons (.var 2) .nil))) (.cons (.var 5) .nil)))) (.cons (.ret (.lit (.bl false))) .nil) .nil) (.cons (.asg 6 false (.call 9 (.cons (.var 1) (.cons (.var 2) (.cons (.tup .nil) .nil))))) (.cons (.iff (.or (.cmp .ne (.cmp .eq (.ix (.var 5) (.lit (.int 0))) (.lit (.int 0))) (.cmp .gt (.b1 .len (.var 6)) (.lit (.int 0)))) (.and (.cmp .gt (.b1 .len (.var 6)) (.lit (.int 0))) (.cmp .ne (.ix (.var 6) (.lit (.int 0))) (.ix (.var 5) (.lit (.int 1)))))) (.cons (.ret (.lit (.bl false))) .nil) .nil) (.cons (.asg 7 false (.b1 .tuple (.call 20 (.cons (.var 0) (.cons (.b1 .list (.var 2)) .nil))))) (.cons (.ret (.cmp .eq (.ix (.call 16 (.cons (.var 1) (.cons (.var 7) .nil))) (.lit (.int 0))) (.ix (.var 5) (.lit (.int 0))))) .nil))))))))
def q_law_is_right : Dn := ⟨"_law_is_right", top 40, [9, 12, 14, 16, 20, 21, 22, 24, 25], [("hand" : Str), ("wide" : Str), ("finds" : Str), ("many" : Str), ("lap" : Str), ("least" : Str), ("own" : Str), ("mixed" : Str), ("order" : Str), ("spans" : Str), ("breaks" : Str), ("turned_spans" : Str), ("span" : Str)], ["hand", "wide", "finds"], b_law_is_right⟩
def b_law : Sts := (.cons (.asg 1 true (.call 17 (.cons (.var 0) .nil))) (.cons (.asg 2 false (.tup (.cons (.tup (.cons (.lit (.int 0)) (.cons (.lit (.int 1)) .nil))) (.cons (.tup (.cons (.lit (.int 2)) .nil)) (.cons (.tup (.cons (.lit (.int 0)) .nil)) (.cons (.tup (.cons (.lit (.int 1)) (.cons (.lit (.int 2)) .nil))) .nil)))))) (.cons (.iff (.not (.call 21 (.cons (.lst (.cons (.call 12 (.cons (.lit (.int 4)) (.cons (.var 2) (.cons (.tup (.cons (.lit (.int 2)) (.cons (.lit (.int 1)) (.cons (.lit (.int 0)) (.cons (.lit (.int 3)) .nil))))) .nil)))) (.cons (.call 14 (.cons (.lit (.int 4)) (.cons (.var 2) (.cons (.tup (.cons (.lit (.int 2)) (.cons (.lit (.int 1)) (.cons (.lit (.int 0)) (.cons (.lit (.int 3)) .nil))))) .nil)))) .nil))) (.cons (.lst (.cons (.tup (.cons (.tup (.cons (.lit (.int 0)) (.cons (.lit (.int 2)) .nil))) (.cons (.tup (.cons (.lit (.int 2)) (.cons (.lit (.int 3)) .nil))) (.cons (.tup (.cons (.lit (.int 1)) (.cons (.lit (.int 3)) .nil))) (.cons (.lit .non) .nil))))) (.cons (.lit (.int 2)) .nil))) .nil)))) (.cons (.ret (.lit (.bl false))) .nil) .nil) (.cons (.iff (.not (.call 21 (.cons (.lst (.cons (.call 16 (.cons (.lit (.int 4)) (.cons (.var 2) .nil))) (.cons (.call 16 (.cons (.lit (.int 1)) (.cons (.tup (.cons (.tup .nil) .nil)) .nil))) (.cons (.call 12 (.cons (.lit (.int 1)) (.cons (.tup (.cons (.tup .nil) (.cons (.tup (.cons (.lit (.int 0)) .nil)) .nil))) (.cons (.tup (.cons (.lit (.int 1)) (.cons (.lit (.int 0)) .nil))) .nil)))) .nil)))) (.cons (.lst (.cons (.tup (.cons (.lit (.int 0)) (.cons (.tup (.cons (.lit (.int 1)) (.cons (.lit (.int 3)) (.cons (.lit (.int 0)) (.cons (.lit (.int 2)) .nil))))) .nil))) (.cons (.tup (.cons (.lit (.int 0)) (.cons (.tup (.cons (.lit (.int 0)) .nil)) .nil))) (.cons (.tup (.cons (.tup (.cons (.lit (.int 0)) (.cons (.lit (.int 0)) .nil))) .nil)) .nil)))) .nil)))) (.cons (.ret (.lit (.bl false))) .nil) .nil) (.cons (.for (.nm 3) (.rng (.lit (.int 0)) (.lit (.int 6))) (.cons (.unp (.two (.nm 4) (.nm 2)) (.call 23 (.cons (.var 1) (.cons (.lit (.int 5)) .nil)))) (.cons (.iff (.not (.call 26 (.cons (.var 1) (.cons (.var 4) (.cons (.var 2) .nil))))) (.cons (.ret (.lit (.bl false))) .nil) .nil) .nil))) (.cons (.ret (.lit (.bl true))) .nil))))))
def q_law : Dn := ⟨"law", top 41, [12, 14, 16, 17, 21, 23, 26], [("script" : Str), ("hand" : Str), ("finds" : Str), ("lap" : Str), ("wide" : Str)], ["script"], b_law⟩
def law : Mi.Law := ⟨false, [q_is_integer, q_is_within, q_is_lot, q_is_order, q_check_finds, q_is_told, q_check_told, q_can_follow, q_orders_by_age, q_age_orders, q_raw_spans, q_check_aged, q_spans_of, q_raw_breaks, q_breaks_of, q_all_orders, q_least_breaks, q_law_hand, q_law_draw, q_law_any, q_law_mixed, q_law_same, q_law_orders, q_law_finds, q_law_spans, q_law_breaks, q_law_is_right, q_law], [("len" : Str), ("all" : Str), ("any" : Str), ("tuple" : Str), ("list" : Str), ("int" : Str), ("abs" : Str), ("sorted" : Str), ("min" : Str), ("max" : Str), ("range" : Str), ("enumerate" : Str), ("zip" : Str), ("isinstance" : Str), ("bool" : Str)], [(("MOST_WARES" : Str), (9 : Int)), (("MOST_FINDS" : Str), (8 : Int)), (("MOST_ORDERS" : Str), (3000 : Int)), (("MOST_BROKEN" : Str), (7 : Int))]⟩
theorem ok_is_integer : DnOk law q_is_integer := ⟨⟨rfl, rfl, rfl, by decide +kernel, rfl, by decide +kernel, by decide +kernel⟩, fun _ _ _ _ _ _ us hl => match us, hl with | [_], _ => rfl, by decide +kernel, by decide +kernel⟩
theorem ok_is_within : DnOk law q_is_within := ⟨⟨rfl, rfl, rfl, by decide +kernel, rfl, by decide +kernel, by decide +kernel⟩, fun _ _ _ _ _ _ us hl => match us, hl with | [_, _, _], _ => rfl, by decide +kernel, by decide +kernel⟩
theorem ok_is_lot : DnOk law q_is_lot := ⟨⟨rfl, rfl, rfl, by decide +kernel, rfl, by decide +kernel, by decide +kernel⟩, fun _ _ _ _ _ _ us hl => match us, hl with | [_, _], _ => rfl, by decide +kernel, by decide +kernel⟩
theorem ok_is_order : DnOk law q_is_order := ⟨⟨rfl, rfl, rfl, by decide +kernel, rfl, by decide +kernel, by decide +kernel⟩, fun _ _ _ _ _ _ us hl => match us, hl with | [_, _], _ => rfl, by decide +kernel, by decide +kernel⟩
theorem ok_check_finds : DnOk law q_check_finds := ⟨⟨rfl, rfl, rfl, by decide +kernel, rfl, by decide +kernel, by decide +kernel⟩, fun _ _ _ _ _ _ us hl => match us, hl with | [_, _], _ => rfl, by decide +kernel, by decide +kernel⟩
theorem ok_is_told : DnOk law q_is_told := ⟨⟨rfl, rfl, rfl, by decide +kernel, rfl, by decide +kernel, by decide +kernel⟩, fun _ _ _ _ _ _ us hl => match us, hl with | [_, _], _ => rfl, by decide +kernel, by decide +kernel⟩
theorem ok_check_told : DnOk law q_check_told := ⟨⟨rfl, rfl, rfl, by decide +kernel, rfl, by decide +kernel, by decide +kernel⟩, fun _ _ _ _ _ _ us hl => match us, hl with | [_, _, _], _ => rfl, by decide +kernel, by decide +kernel⟩
theorem ok_can_follow : DnOk law q_can_follow := ⟨⟨rfl, rfl, rfl, by decide +kernel, rfl, by decide +kernel, by decide +kernel⟩, fun _ _ _ _ _ _ us hl => match us, hl with | [_, _, _], _ => rfl, by decide +kernel, by decide +kernel⟩
theorem ok_orders_by_age : DnOk law q_orders_by_age := ⟨⟨rfl, rfl, rfl, by decide +kernel, rfl, by decide +kernel, by decide +kernel⟩, fun _ _ _ _ _ _ us hl => match us, hl with | [_, _, _], _ => rfl, by decide +kernel, by decide +kernel⟩
theorem ok_age_orders : DnOk law q_age_orders := ⟨⟨rfl, rfl, rfl, by decide +kernel, rfl, by decide +kernel, by decide +kernel⟩, fun _ _ _ _ _ _ us hl => match us, hl with | [_, _, _], _ => rfl, by decide +kernel, by decide +kernel⟩
theorem ok_raw_spans : DnOk law q_raw_spans := ⟨⟨rfl, rfl, rfl, by decide +kernel, rfl, by decide +kernel, by decide +kernel⟩, fun _ _ _ _ _ _ us hl => match us, hl with | [_, _, _], _ => rfl, by decide +kernel, by decide +kernel⟩
theorem ok_check_aged : DnOk law q_check_aged := ⟨⟨rfl, rfl, rfl, by decide +kernel, rfl, by decide +kernel, by decide +kernel⟩, fun _ _ _ _ _ _ us hl => match us, hl with | [_, _, _], _ => rfl, by decide +kernel, by decide +kernel⟩
theorem ok_spans_of : DnOk law q_spans_of := ⟨⟨rfl, rfl, rfl, by decide +kernel, rfl, by decide +kernel, by decide +kernel⟩, fun _ _ _ _ _ _ us hl => match us, hl with | [_, _, _], _ => rfl, by decide +kernel, by decide +kernel⟩
theorem ok_raw_breaks : DnOk law q_raw_breaks := ⟨⟨rfl, rfl, rfl, by decide +kernel, rfl, by decide +kernel, by decide +kernel⟩, fun _ _ _ _ _ _ us hl => match us, hl with | [_, _, _], _ => rfl, by decide +kernel, by decide +kernel⟩
theorem ok_breaks_of : DnOk law q_breaks_of := ⟨⟨rfl, rfl, rfl, by decide +kernel, rfl, by decide +kernel, by decide +kernel⟩, fun _ _ _ _ _ _ us hl => match us, hl with | [_, _, _], _ => rfl, by decide +kernel, by decide +kernel⟩
theorem ok_all_orders : DnOk law q_all_orders := ⟨⟨rfl, rfl, rfl, by decide +kernel, rfl, by decide +kernel, by decide +kernel⟩, fun _ _ _ _ _ _ us hl => match us, hl with | [_], _ => rfl, by decide +kernel, by decide +kernel⟩
theorem ok_least_breaks : DnOk law q_least_breaks := ⟨⟨rfl, rfl, rfl, by decide +kernel, rfl, by decide +kernel, by decide +kernel⟩, fun _ _ _ _ _ _ us hl => match us, hl with | [_, _], _ => rfl, by decide +kernel, by decide +kernel⟩
theorem ok_law_hand : DnOk law q_law_hand := ⟨⟨rfl, rfl, rfl, by decide +kernel, rfl, by decide +kernel, by decide +kernel⟩, fun _ _ _ _ _ _ us hl => match us, hl with | [_], _ => rfl, by decide +kernel, by decide +kernel⟩
theorem ok_law_draw : DnOk law q_law_draw := ⟨⟨rfl, rfl, rfl, by decide +kernel, rfl, by decide +kernel, by decide +kernel⟩, fun _ _ _ _ _ _ us hl => match us, hl with | [_, _], _ => rfl, by decide +kernel, by decide +kernel⟩
theorem ok_law_any : DnOk law q_law_any := ⟨⟨rfl, rfl, rfl, by decide +kernel, rfl, by decide +kernel, by decide +kernel⟩, fun _ _ _ _ _ _ us hl => match us, hl with | [_, _], _ => rfl, by decide +kernel, by decide +kernel⟩
theorem ok_law_mixed : DnOk law q_law_mixed := ⟨⟨rfl, rfl, rfl, by decide +kernel, rfl, by decide +kernel, by decide +kernel⟩, fun _ _ _ _ _ _ us hl => match us, hl with | [_, _], _ => rfl, by decide +kernel, by decide +kernel⟩
theorem ok_law_same : DnOk law q_law_same := ⟨⟨rfl, rfl, rfl, by decide +kernel, rfl, by decide +kernel, by decide +kernel⟩, fun _ _ _ _ _ _ us hl => match us, hl with | [_, _], _ => rfl, by decide +kernel, by decide +kernel⟩
theorem ok_law_orders : DnOk law q_law_orders := ⟨⟨rfl, rfl, rfl, by decide +kernel, rfl, by decide +kernel, by decide +kernel⟩, fun _ _ _ _ _ _ us hl => match us, hl with | [_], _ => rfl, by decide +kernel, by decide +kernel⟩
theorem ok_law_finds : DnOk law q_law_finds := ⟨⟨rfl, rfl, rfl, by decide +kernel, rfl, by decide +kernel, by decide +kernel⟩, fun _ _ _ _ _ _ us hl => match us, hl with | [_, _], _ => rfl, by decide +kernel, by decide +kernel⟩
theorem ok_law_spans : DnOk law q_law_spans := ⟨⟨rfl, rfl, rfl, by decide +kernel, rfl, by decide +kernel, by decide +kernel⟩, fun _ _ _ _ _ _ us hl => match us, hl with | [_, _, _], _ => rfl, by decide +kernel, by decide +kernel⟩
theorem ok_law_breaks : DnOk law q_law_breaks := ⟨⟨rfl, rfl, rfl, by decide +kernel, rfl, by decide +kernel, by decide +kernel⟩, fun _ _ _ _ _ _ us hl => match us, hl with | [_, _, _], _ => rfl, by decide +kernel, by decide +kernel⟩
theorem ok_law_is_right : DnOk law q_law_is_right := ⟨⟨rfl, rfl, rfl, by decide +kernel, rfl, by decide +kernel, by decide +kernel⟩, fun _ _ _ _ _ _ us hl => match us, hl with | [_, _, _], _ => rfl, by decide +kernel, by decide +kernel⟩
theorem ok_law : DnOk law q_law := ⟨⟨rfl, rfl, rfl, by decide +kernel, rfl, by decide +kernel, by decide +kernel⟩, fun _ _ _ _ _ _ us hl => match us, hl with | [_], _ => rfl, by decide +kernel, by decide +kernel⟩
theorem oks : ∀ q ∈ law.ds, DnOk law q := by
  intro q hq
  simp only [law, List.mem_cons, List.not_mem_nil, or_false] at hq
  rcases hq with rfl | rfl | rfl | rfl | rfl | rfl | rfl | rfl | rfl | rfl | rfl | rfl | rfl | rfl | rfl | rfl | rfl | rfl | rfl | rfl | rfl | rfl | rfl | rfl | rfl | rfl | rfl | rfl
  · exact ok_is_integer
  · exact ok_is_within
  · exact ok_is_lot
  · exact ok_is_order
  · exact ok_check_finds
  · exact ok_is_told
  · exact ok_check_told
  · exact ok_can_follow
  · exact ok_orders_by_age
  · exact ok_age_orders
  · exact ok_raw_spans
  · exact ok_check_aged
  · exact ok_spans_of
  · exact ok_raw_breaks
  · exact ok_breaks_of
  · exact ok_all_orders
  · exact ok_least_breaks
  · exact ok_law_hand
  · exact ok_law_draw
  · exact ok_law_any
  · exact ok_law_mixed
  · exact ok_law_same
  · exact ok_law_orders
  · exact ok_law_finds
  · exact ok_law_spans
  · exact ok_law_breaks
  · exact ok_law_is_right
  · exact ok_law
abbrev fn : List He.DefD := law.fn
abbrev fa : List He.Fa := law.fa
def loose : List Str := [("WebError" : Str), ("NoOrder" : Str), ("TooMany" : Str), ("NoNumber" : Str), ("NoFinds" : Str), ("NoTold" : Str), ("MOST_WARES" : Str), ("MOST_FINDS" : Str), ("MOST_ORDERS" : Str), ("MOST_BROKEN" : Str), ("is_integer" : Str), ("is_within" : Str), ("is_lot" : Str), ("is_order" : Str), ("check_finds" : Str), ("is_told" : Str), ("check_told" : Str), ("can_follow" : Str), ("orders_by_age" : Str), ("age_orders" : Str), ("raw_spans" : Str), ("check_aged" : Str), ("spans_of" : Str), ("raw_breaks" : Str), ("breaks_of" : Str), ("all_orders" : Str), ("least_breaks" : Str), ("_law_hand" : Str), ("_law_draw" : Str), ("_law_any" : Str), ("_law_mixed" : Str), ("_law_same" : Str), ("_law_orders" : Str), ("_law_finds" : Str), ("_law_spans" : Str), ("_law_breaks" : Str), ("_law_is_right" : Str)]
abbrev R : PySem.W.OpenRow := PySem.W.OpenLaw.row PySem.Challenge.rw_stretchwebs_k86_whole_spans_and_breaks
abbrev hk : PySem.W.Hook := He.hookD 4 fa fn
def ob (s : PySem.W.SharedT) : He.AlD := He.obsDG 4 fa fn (HandSHeadRun.getT s)
theorem ob_eq (s : PySem.W.SharedT) : ob s = hk.obs s.abs := He.obsDG_eq (HandSHeadRun.getT_eq s)
theorem run (w : World) : HandSHeadRun.RunEq R (PySem.W.view R.prog [41]) hk ob 4000 loose w := by
  intro os
  kernel_rfl
/-- what is left: the plain law -/
def Good : Prop := ∀ ns : List Int, ns.length ≤ 63 → ∃ S', law.phi 13 27 [.d (.scr ns)] [] = .ok (.d (.bl true)) S'
end K86

set_option Elab.async false
set_option linter.all false
set_option maxRecDepth 100000
set_option maxHeartbeats 1000000
namespace K86
open PySem Mi Mi.J
def Kd : DC := ⟨69621, 48271, 17, 2147483629, 7919, 40692, 2147483647, 1009, 69621, 2147483647, 2003, 40014, 2147483563⟩
theorem J_law_draw (k : Nat) (many : Int) : Jf (ph law (k + 1) 18) [.hand, .d (eI many)] (mDraw Kd many) .d eI :=
  J_draw (K := Kd) (q := q_law_draw) rfl rfl rfl rfl (by decide) k many

theorem J_law_any {α : Type} (em : α → D) (k : Nat) (xs : List α) : Jf (ph law (k + 2) 19) [.hand, .d (eL em xs)] (mAny Kd xs) .d em :=
  Jf.law (q := q_law_any) rfl (by unfold mAny; exact Jf.ofR rfl rfl (Jr.ret1 rfl (Jv.ix (seqD_L (em := em)) (Jv.var (em := eL em) 1 rfl) (Jv.callH1 (em0 := eI) (ih := 0) rfl (Jv.len (seqD_L (em := em)) (Jv.var (em := eL em) 1 rfl)) (fun a => J_law_draw k a)))))

theorem J_law_mixedL {α : Type} (em : α → D) (k : Nat) (xs : List α) : Jf (ph law (k + 2) 20) [.hand, .d (eL em xs)] (mMixed Kd xs) .f (eL em) :=
  Jf.law (q := q_law_mixed) rfl (by unfold mMixed; exact Jf.ofR rfl rfl (Jr.cons (JN.par (Jp.consL (em := em) rfl (Jv.list (seqD_L (em := em)) (Jv.var (em := eL em) 1 rfl)) (Jp.consL (em := em) rfl (Jv.lstH (em := em) (Je.hnil (em := em))) Jp.nil))) fun v1 => Jr.cons (JN.whl (inv := fun (s2 : List α × List α) => [(0, .hand), (1, .d (eL em xs)), (2, .own (List.map em s2.1)), (3, .own (List.map em s2.2))]) (v1.1, v1.2.1) ⟨.refl, .refl, .refl, .refl, trivial⟩ (fun s2 => Jv.gtI (Jv.len (seqD_L (em := em)) (Jv.varO (em := em) 2 rfl)) (Jv.litI 0)) fun s2 => JN.cons (JN.appPop (em := em) (i := 3) (j := 2) rfl rfl rfl (Jv.callH1 (em0 := eI) (ih := 0) rfl (Jv.len (seqD_L (em := em)) (Jv.varO (em := em) 2 rfl)) (fun a => J_law_draw k a))) fun v3 => JN.nil (x := (v3.2, v3.1)) ⟨.refl, .refl, .refl, .refl, trivial⟩) fun s2 => Jr.retO (em := em) (j := 3) rfl))
theorem J_law_mixedT {α : Type} (em : α → D) (k : Nat) (xs : List α) : Jf (ph law (k + 2) 20) [.hand, .d (eT em xs)] (mMixed Kd xs) .f (eL em) :=
  Jf.law (q := q_law_mixed) rfl (by unfold mMixed; exact Jf.ofR rfl rfl (Jr.cons (JN.par (Jp.consL (em := em) rfl (Jv.list (seqD_T (em := em)) (Jv.varD (em := eT em) 1 rfl nlT)) (Jp.consL (em := em) rfl (Jv.lstH (em := em) (Je.hnil (em := em))) Jp.nil))) fun v1 => Jr.cons (JN.whl (inv := fun (s2 : List α × List α) => [(0, .hand), (1, .d (eT em xs)), (2, .own (List.map em s2.1)), (3, .own (List.map em s2.2))]) (v1.1, v1.2.1) ⟨.refl, .refl, .refl, .refl, trivial⟩ (fun s2 => Jv.gtI (Jv.len (seqD_L (em := em)) (Jv.varO (em := em) 2 rfl)) (Jv.litI 0)) fun s2 => JN.cons (JN.appPop (em := em) (i := 3) (j := 2) rfl rfl rfl (Jv.callH1 (em0 := eI) (ih := 0) rfl (Jv.len (seqD_L (em := em)) (Jv.varO (em := em) 2 rfl)) (fun a => J_law_draw k a))) fun v3 => JN.nil (x := (v3.2, v3.1)) ⟨.refl, .refl, .refl, .refl, trivial⟩) fun s2 => Jr.retO (em := em) (j := 3) rfl))

theorem J_law_same (k d : Nat) (x y : D) : Jf (ph law (k + d) 21) [.d (eD x), .d (eD y)] (mSm d x y) .d eB := by
  rw [mSm_eq]
  exact J_same (q := q_law_same) rfl rfl rfl rfl k d x y

@[irreducible] noncomputable def m_is_integer (thing : Int) : M Bool := opq
  (mAnd (m1 (fun x => mTy .int (eI x)) (rtn thing)) (m1 (fun x => rtn (!x)) (m1 (fun x => mTy .bool (eI x)) (rtn thing))))
theorem J_is_integer (k : Nat) (thing : Int) : Jf (ph law (k + 1) 0) [.d (eI thing)] (m_is_integer thing) .d eB :=
  Jf.law (q := q_is_integer) rfl (by unfold m_is_integer; rw [opq_eq]; exact Jf.ofR rfl rfl (Jr.ret1 rfl (Jv.and (Jv.isi (ea := eI) rfl (Jv.varD (em := eI) 0 rfl nlI)) (Jv.not (Jv.isi (ea := eI) rfl (Jv.varD (em := eI) 0 rfl nlI))))))

@[irreducible] noncomputable def m_is_within (thing : Int) (low : Int) (high : Int) : M Bool := opq
  (mAnd (bnd (rtn thing) fun a1 => m_is_integer a1) (bnd (rtn low) fun x => bnd (rtn thing) fun y => if relI .le x y = true then bnd (rtn high) fun w => rtn (relI .le y w) else rtn false))
theorem J_is_within (k : Nat) (thing : Int) (low : Int) (high : Int) : Jf (ph law (k + 2) 1) [.d (eI thing), .d (eI low), .d (eI high)] (m_is_within thing low high) .d eB :=
  Jf.law (q := q_is_within) rfl (by unfold m_is_within; rw [opq_eq]; exact Jf.ofR rfl rfl (Jr.ret1 rfl (Jv.and (Jv.call1 (em0 := eI) (Jv.varD (em := eI) 0 rfl nlI) (fun a1 => J_is_integer k a1)) (Jv.chnI (o := .le) (o' := .le) rfl rfl (Jv.varD (em := eI) 1 rfl nlI) (Jv.varD (em := eI) 0 rfl nlI) (Jv.varD (em := eI) 2 rfl nlI)))))

@[irreducible] noncomputable def m_is_lot (limit : Int) (thing : (List Int)) : M Bool := opq
  (mIf (mOr (m1 (fun x => rtn (!x)) (m1 (fun x => mTy .tuple ((eT eI) x)) (rtn thing))) (m1 (fun x => rtn (!x)) (m1 (fun x => rtn (x.all id)) (m1 (mLst (fun (x1 : Int) => (rtn true)) (fun (x1 : Int) => (bnd (rtn x1) fun a2 => (bnd (rtn (0 : Int)) fun a3 => (bnd (m2 (fun x y => rtn (x - y)) (rtn limit) (rtn (1 : Int))) fun a4 => m_is_within a2 a3 a4))))) (rtn thing))))) (rtn false) (m1 (fun x => rtn (x.all id)) (m1 (mLst (fun (x5 : Int) => (rtn true)) (fun (x5 : Int) => (m2 (fun x y => rtn (decide (x < y))) (m2 (fun x i => opt (L2.atI x i)) (rtn thing) (rtn x5)) (m2 (fun x i => opt (L2.atI x i)) (rtn thing) (m2 (fun x y => rtn (x + y)) (rtn x5) (rtn (1 : Int))))))) (m2 (fun x y => mRng x y) (rtn (0 : Int)) (m2 (fun x y => rtn (x - y)) (m1 (fun x => rtn (x.length : Int)) (rtn thing)) (rtn (1 : Int)))))))
theorem J_is_lot (k : Nat) (limit : Int) (thing : (List Int)) : Jf (ph law (k + 3) 2) [.d (eI limit), .d ((eT eI) thing)] (m_is_lot limit thing) .d eB :=
  Jf.law (q := q_is_lot) rfl (by unfold m_is_lot; rw [opq_eq]; exact Jf.ofR rfl rfl (Jr.iffR (Jv.or (Jv.not (Jv.isi (ea := (eT eI)) rfl (Jv.varD (em := (eT eI)) 1 rfl nlT))) (Jv.not (Jv.all (Jv.lc1 (JI.seq (seqD_T (em := eI)) (Jv.varD (em := (eT eI)) 1 rfl nlT)) (Jt.nm rfl) rfl (fun x1 => (Jv.litB true)) (fun x1 => (Jv.call3 (em0 := eI) (em1 := eI) (em2 := eI) (Jv.varD (em := eI) 3 rfl nlI) (Jv.litI 0) (Jv.subI (Jv.varD (em := eI) 0 rfl nlI) (Jv.litI 1)) (fun a2 a3 a4 => J_is_within k a2 a3 a4))))))) (Jr.ret1 rfl (Jv.litB false)) (Jr.ret1 rfl (Jv.all (Jv.lc1 (JI.rng (Jv.litI 0) (Jv.subI (Jv.len (seqD_T (em := eI)) (Jv.varD (em := (eT eI)) 1 rfl nlT)) (Jv.litI 1))) (Jt.nm rfl) rfl (fun x5 => (Jv.litB true)) (fun x5 => (Jv.ltI (Jv.ix (seqD_T (em := eI)) (Jv.varD (em := (eT eI)) 1 rfl nlT) (Jv.varD (em := eI) 2 rfl nlI)) (Jv.ix (seqD_T (em := eI)) (Jv.varD (em := (eT eI)) 1 rfl nlT) (Jv.addI (Jv.varD (em := eI) 2 rfl nlI) (Jv.litI 1))))))))))

@[irreducible] noncomputable def m_is_order (many : Int) (thing : (List Int)) : M Bool := opq
  (mIf (mOr (m1 (fun x => rtn (!x)) (m1 (fun x => mTy .tuple ((eT eI) x)) (rtn thing))) (m1 (fun x => rtn (!x)) (m1 (fun x => rtn (x.all id)) (m1 (mLst (fun (x1 : Int) => (rtn true)) (fun (x1 : Int) => (bnd (rtn x1) fun a2 => (bnd (rtn (0 : Int)) fun a3 => (bnd (m2 (fun x y => rtn (x - y)) (rtn many) (rtn (1 : Int))) fun a4 => m_is_within a2 a3 a4))))) (rtn thing))))) (rtn false) (m2 (fun x y => rtn (decide (x = y))) (m1 (fun x => grd (sortOk eI x) (rtn (sortT ltZ x))) (rtn thing)) (m2 (fun x y => bnd (mRng x y) mCut) (rtn (0 : Int)) (rtn many))))
theorem J_is_order (k : Nat) (many : Int) (thing : (List Int)) : Jf (ph law (k + 3) 3) [.d (eI many), .d ((eT eI) thing)] (m_is_order many thing) .d eB :=
  Jf.law (q := q_is_order) rfl (by unfold m_is_order; rw [opq_eq]; exact Jf.ofR rfl rfl (Jr.iffR (Jv.or (Jv.not (Jv.isi (ea := (eT eI)) rfl (Jv.varD (em := (eT eI)) 1 rfl nlT))) (Jv.not (Jv.all (Jv.lc1 (JI.seq (seqD_T (em := eI)) (Jv.varD (em := (eT eI)) 1 rfl nlT)) (Jt.nm rfl) rfl (fun x1 => (Jv.litB true)) (fun x1 => (Jv.call3 (em0 := eI) (em1 := eI) (em2 := eI) (Jv.varD (em := eI) 2 rfl nlI) (Jv.litI 0) (Jv.subI (Jv.varD (em := eI) 0 rfl nlI) (Jv.litI 1)) (fun a2 a3 a4 => J_is_within k a2 a3 a4))))))) (Jr.ret1 rfl (Jv.litB false)) (Jr.ret1 rfl (Jv.eq (lwL lwI) (by decide) (Jv.sorted (seqD_T (em := eI)) shI lwI (by decide) loI (Jv.varD (em := (eT eI)) 1 rfl nlT)) (Jv.lrng (Jv.litI 0) (Jv.varD (em := eI) 0 rfl nlI))))))

@[irreducible] noncomputable def m_check_finds (wide : Int) (finds : (List (List Int))) : M Unit := opq
  (bnd (bnd (mIf (m1 (fun x => rtn (!x)) (bnd (rtn wide) fun a1 => (bnd (rtn (1 : Int)) fun a2 => (bnd (rtn (9 : Int)) fun a3 => m_is_within a1 a2 a3)))) (bnd (bad : M Unit) fun _ => (rtn ())) (rtn ())) fun s4 => (bnd (mIf (mOr (m1 (fun x => rtn (!x)) (m1 (fun x => mTy .tuple ((eT (eT eI)) x)) (rtn finds))) (m1 (fun x => rtn (!x)) (bnd (rtn (1 : Int)) fun x => bnd (m1 (fun x => rtn (x.length : Int)) (rtn finds)) fun y => if relI .le x y = true then bnd (rtn (8 : Int)) fun w => rtn (relI .le y w) else rtn false))) (bnd (bad : M Unit) fun _ => (rtn ())) (rtn ())) fun s5 => (bnd (mIf (m1 (fun x => rtn (!x)) (m1 (fun x => rtn (x.all id)) (m1 (mLst (fun (x6 : (List Int)) => (rtn true)) (fun (x6 : (List Int)) => (bnd (rtn wide) fun a7 => (bnd (rtn x6) fun a8 => m_is_lot a7 a8)))) (rtn finds)))) (bnd (bad : M Unit) fun _ => (rtn ())) (rtn ())) fun s9 => (rtn ())))) fun _ => rtn ())
theorem J_check_finds (k : Nat) (wide : Int) (finds : (List (List Int))) : Jf (ph law (k + 4) 4) [.d (eI wide), .d ((eT (eT eI)) finds)] (m_check_finds wide finds) .d eU :=
  Jf.law (q := q_check_finds) rfl (by unfold m_check_finds; rw [opq_eq]; exact Jf.ofN (post := fun _ => []) rfl rfl (JN.cons (p1 := fun (s4 : Unit) => [(0, .d (eI wide)), (1, .d ((eT (eT eI)) finds))]) (JN.iff (Jv.not (Jv.call3 (em0 := eI) (em1 := eI) (em2 := eI) (Jv.varD (em := eI) 0 rfl nlI) (Jv.litI 1) (Jv.glbI "MOST_WARES" 9) (fun a1 a2 a3 => J_is_within (k + 1) a1 a2 a3))) (JN.cons (JN.rse (post := fun _ => [(0, .d (eI wide)), (1, .d ((eT (eT eI)) finds))])) fun _ => (JN.nil (x := ()) ⟨.refl, .refl, trivial⟩)) (JN.nil (x := ()) ⟨.refl, .refl, trivial⟩)) fun s4 => (JN.cons (p1 := fun (s5 : Unit) => [(0, .d (eI wide)), (1, .d ((eT (eT eI)) finds))]) (JN.iff (Jv.or (Jv.not (Jv.isi (ea := (eT (eT eI))) rfl (Jv.varD (em := (eT (eT eI))) 1 rfl nlT))) (Jv.not (Jv.chnI (o := .le) (o' := .le) rfl rfl (Jv.litI 1) (Jv.len (seqD_T (em := (eT eI))) (Jv.varD (em := (eT (eT eI))) 1 rfl nlT)) (Jv.glbI "MOST_FINDS" 8)))) (JN.cons (JN.rse (post := fun _ => [(0, .d (eI wide)), (1, .d ((eT (eT eI)) finds))])) fun _ => (JN.nil (x := ()) ⟨.refl, .refl, trivial⟩)) (JN.nil (x := ()) ⟨.refl, .refl, trivial⟩)) fun s5 => (JN.cons (p1 := fun (s9 : Unit) => [(0, .d (eI wide)), (1, .d ((eT (eT eI)) finds))]) (JN.iff (Jv.not (Jv.all (Jv.lc1 (JI.seq (seqD_T (em := (eT eI))) (Jv.varD (em := (eT (eT eI))) 1 rfl nlT)) (Jt.nm rfl) rfl (fun x6 => (Jv.litB true)) (fun x6 => (Jv.call2 (em0 := eI) (em1 := (eT eI)) (Jv.varD (em := eI) 0 rfl nlI) (Jv.varD (em := (eT eI)) 2 rfl nlT) (fun a7 a8 => J_is_lot k a7 a8)))))) (JN.cons (JN.rse (post := fun _ => [(0, .d (eI wide)), (1, .d ((eT (eT eI)) finds))])) fun _ => (JN.nil (x := ()) ⟨.refl, .refl, trivial⟩)) (JN.nil (x := ()) ⟨.refl, .refl, trivial⟩)) fun s9 => (JN.nil (x := ()) trivial)))))

@[irreducible] noncomputable def m_is_told (many : Int) (pair : (List Int)) : M Bool := opq
  (mIf (mOr (m1 (fun x => rtn (!x)) (m1 (fun x => mTy .tuple ((eT eI) x)) (rtn pair))) (mOr (m2 (fun x y => rtn (!decide (x = y))) (m1 (fun x => rtn (x.length : Int)) (rtn pair)) (rtn (2 : Int))) (m1 (fun x => rtn (!x)) (m1 (fun x => rtn (x.all id)) (m1 (mLst (fun (x1 : Int) => (rtn true)) (fun (x1 : Int) => (bnd (rtn x1) fun a2 => (bnd (rtn (0 : Int)) fun a3 => (bnd (m2 (fun x y => rtn (x - y)) (rtn many) (rtn (1 : Int))) fun a4 => m_is_within a2 a3 a4))))) (rtn pair)))))) (rtn false) (m2 (fun x y => rtn (!decide (x = y))) (m2 (fun x i => opt (L2.atI x i)) (rtn pair) (rtn (0 : Int))) (m2 (fun x i => opt (L2.atI x i)) (rtn pair) (rtn (1 : Int)))))
theorem J_is_told (k : Nat) (many : Int) (pair : (List Int)) : Jf (ph law (k + 3) 5) [.d (eI many), .d ((eT eI) pair)] (m_is_told many pair) .d eB :=
  Jf.law (q := q_is_told) rfl (by unfold m_is_told; rw [opq_eq]; exact Jf.ofR rfl rfl (Jr.iffR (Jv.or (Jv.not (Jv.isi (ea := (eT eI)) rfl (Jv.varD (em := (eT eI)) 1 rfl nlT))) (Jv.or (Jv.ne lwI (by decide) (Jv.len (seqD_T (em := eI)) (Jv.varD (em := (eT eI)) 1 rfl nlT)) (Jv.litI 2)) (Jv.not (Jv.all (Jv.lc1 (JI.seq (seqD_T (em := eI)) (Jv.varD (em := (eT eI)) 1 rfl nlT)) (Jt.nm rfl) rfl (fun x1 => (Jv.litB true)) (fun x1 => (Jv.call3 (em0 := eI) (em1 := eI) (em2 := eI) (Jv.varD (em := eI) 2 rfl nlI) (Jv.litI 0) (Jv.subI (Jv.varD (em := eI) 0 rfl nlI) (Jv.litI 1)) (fun a2 a3 a4 => J_is_within k a2 a3 a4)))))))) (Jr.ret1 rfl (Jv.litB false)) (Jr.ret1 rfl (Jv.ne lwI (by decide) (Jv.ix (seqD_T (em := eI)) (Jv.varD (em := (eT eI)) 1 rfl nlT) (Jv.litI 0)) (Jv.ix (seqD_T (em := eI)) (Jv.varD (em := (eT eI)) 1 rfl nlT) (Jv.litI 1))))))

@[irreducible] noncomputable def m_check_told (wide : Int) (finds : (List (List Int))) (told : (List (Int × Int))) : M Unit := opq
  (bnd (bnd (bnd (rtn wide) fun a1 => (bnd (rtn finds) fun a2 => m_check_finds a1 a2)) fun _ => (bnd (mIf (mOr (m1 (fun x => rtn (!x)) (m1 (fun x => mTy .tuple ((eT (e2 eI eI)) x)) (rtn told))) (m1 (fun x => rtn (!x)) (m1 (fun x => rtn (x.all id)) (m1 (mLst (fun (x3 : (Int × Int)) => (rtn true)) (fun (x3 : (Int × Int)) => (bnd (m1 (fun x => rtn (x.length : Int)) (rtn finds)) fun a4 => (bnd (bnd (rtn x3) fun a => rtn [a.1, a.2]) fun a5 => m_is_told a4 a5)))) (rtn told))))) (bnd (bad : M Unit) fun _ => (rtn ())) (rtn ())) fun s6 => (bnd (mIf (m1 (fun x => rtn (!x)) (m1 (fun x => rtn (x.all id)) (m1 (mLst (fun (x7 : Int) => (rtn true)) (fun (x7 : Int) => (m2 (fun x y => rtn ((lt2 ltZ ltZ) x y)) (m2 (fun x i => opt (L2.atI x i)) (rtn told) (rtn x7)) (m2 (fun x i => opt (L2.atI x i)) (rtn told) (m2 (fun x y => rtn (x + y)) (rtn x7) (rtn (1 : Int))))))) (m2 (fun x y => mRng x y) (rtn (0 : Int)) (m2 (fun x y => rtn (x - y)) (m1 (fun x => rtn (x.length : Int)) (rtn told)) (rtn (1 : Int))))))) (bnd (bad : M Unit) fun _ => (rtn ())) (rtn ())) fun s8 => (rtn ())))) fun _ => rtn ())
theorem J_check_told (k : Nat) (wide : Int) (finds : (List (List Int))) (told : (List (Int × Int))) : Jf (ph law (k + 5) 6) [.d (eI wide), .d ((eT (eT eI)) finds), .d ((eT (e2 eI eI)) told)] (m_check_told wide finds told) .d eU :=
  Jf.law (q := q_check_told) rfl (by unfold m_check_told; rw [opq_eq]; exact Jf.ofN (post := fun _ => []) rfl rfl (JN.cons (JN.exE (Jv.call2 (em0 := eI) (em1 := (eT (eT eI))) (Jv.varD (em := eI) 0 rfl nlI) (Jv.varD (em := (eT (eT eI))) 1 rfl nlT) (fun a1 a2 => J_check_finds k a1 a2))) fun _ => (JN.cons (p1 := fun (s6 : Unit) => [(0, .d (eI wide)), (1, .d ((eT (eT eI)) finds)), (2, .d ((eT (e2 eI eI)) told))]) (JN.iff (Jv.or (Jv.not (Jv.isi (ea := (eT (e2 eI eI))) rfl (Jv.varD (em := (eT (e2 eI eI))) 2 rfl nlT))) (Jv.not (Jv.all (Jv.lc1 (JI.seq (seqD_T (em := (e2 eI eI))) (Jv.varD (em := (eT (e2 eI eI))) 2 rfl nlT)) (Jt.nm rfl) rfl (fun x3 => (Jv.litB true)) (fun x3 => (Jv.call2 (em0 := eI) (em1 := (eT eI)) (Jv.len (seqD_T (em := (eT eI))) (Jv.varD (em := (eT (eT eI))) 1 rfl nlT)) (Jv.map (eb := (eT eI)) (Jv.varD (em := (e2 eI eI)) 4 rfl nl2) (fun a => [a.1, a.2]) fun _ => rfl) (fun a4 a5 => J_is_told (k + 1) a4 a5))))))) (JN.cons (JN.rse (post := fun _ => [(0, .d (eI wide)), (1, .d ((eT (eT eI)) finds)), (2, .d ((eT (e2 eI eI)) told))])) fun _ => (JN.nil (x := ()) ⟨.refl, .refl, .refl, trivial⟩)) (JN.nil (x := ()) ⟨.refl, .refl, .refl, trivial⟩)) fun s6 => (JN.cons (p1 := fun (s8 : Unit) => [(0, .d (eI wide)), (1, .d ((eT (eT eI)) finds)), (2, .d ((eT (e2 eI eI)) told))]) (JN.iff (Jv.not (Jv.all (Jv.lc1 (JI.rng (Jv.litI 0) (Jv.subI (Jv.len (seqD_T (em := (e2 eI eI))) (Jv.varD (em := (eT (e2 eI eI))) 2 rfl nlT)) (Jv.litI 1))) (Jt.nm rfl) rfl (fun x7 => (Jv.litB true)) (fun x7 => (Jv.ltT (lw2 lwI lwI) (by decide) (lo2 lwI lwI loI loI) nl2 (Jv.ix (seqD_T (em := (e2 eI eI))) (Jv.varD (em := (eT (e2 eI eI))) 2 rfl nlT) (Jv.varD (em := eI) 3 rfl nlI)) (Jv.ix (seqD_T (em := (e2 eI eI))) (Jv.varD (em := (eT (e2 eI eI))) 2 rfl nlT) (Jv.addI (Jv.varD (em := eI) 3 rfl nlI) (Jv.litI 1)))))))) (JN.cons (JN.rse (post := fun _ => [(0, .d (eI wide)), (1, .d ((eT (eT eI)) finds)), (2, .d ((eT (e2 eI eI)) told))])) fun _ => (JN.nil (x := ()) ⟨.refl, .refl, .refl, trivial⟩)) (JN.nil (x := ()) ⟨.refl, .refl, .refl, trivial⟩)) fun s8 => (JN.nil (x := ()) trivial)))))

@[irreducible] noncomputable def m_can_follow (finds : (List (List Int))) (order : (List Int)) (find : Int) : M Bool := opq
  (mIf (m2 (fun x y => rtn (decide (x = y))) (m1 (fun x => rtn (x.length : Int)) (rtn order)) (rtn (0 : Int))) (rtn true) (bnd (m2 (fun x i => opt (L2.atI x i)) (rtn finds) (m2 (fun x i => opt (L2.atI x i)) (rtn order) (m1 (fun x => rtn (-x)) (rtn (1 : Int))))) fun v1 => (m1 (fun x => rtn (!x)) (m1 (fun x => rtn (x.any id)) (m1 (mLst (fun (x2 : Int) => (rtn true)) (fun (x2 : Int) => (mAnd (m2 (fun x y => rtn (!decide (x ∈ y))) (rtn x2) (rtn v1)) (m1 (fun x => rtn (x.any id)) (m1 (mLst (fun (x3 : Int) => (rtn true)) (fun (x3 : Int) => (m2 (fun x y => rtn (decide (x ∈ y))) (rtn x2) (m2 (fun x i => opt (L2.atI x i)) (rtn finds) (rtn x3))))) (rtn order)))))) (m2 (fun x i => opt (L2.atI x i)) (rtn finds) (rtn find)))))))
theorem J_can_follow (k : Nat) (finds : (List (List Int))) (order : (List Int)) (find : Int) : Jf (ph law (k + 1) 7) [.d ((eT (eT eI)) finds), .d ((eT eI) order), .d (eI find)] (m_can_follow finds order find) .d eB :=
  Jf.law (q := q_can_follow) rfl (by unfold m_can_follow; rw [opq_eq]; exact Jf.ofR rfl rfl (Jr.iffR (Jv.eq lwI (by decide) (Jv.len (seqD_T (em := eI)) (Jv.varD (em := (eT eI)) 1 rfl nlT)) (Jv.litI 0)) (Jr.ret1 rfl (Jv.litB true)) (Jr.cons (JN.asg (em := (eT eI)) (i := 3) rfl rfl (Jv.ix (seqD_T (em := (eT eI))) (Jv.varD (em := (eT (eT eI))) 0 rfl nlT) (Jv.ix (seqD_T (em := eI)) (Jv.varD (em := (eT eI)) 1 rfl nlT) (Jv.neg (Jv.litI 1))))) fun v1 => (Jr.ret1 rfl (Jv.not (Jv.any1 (Jv.lc1 (JI.seq (seqD_T (em := eI)) (Jv.ix (seqD_T (em := (eT eI))) (Jv.varD (em := (eT (eT eI))) 0 rfl nlT) (Jv.varD (em := eI) 2 rfl nlI))) (Jt.nm rfl) rfl (fun x2 => (Jv.litB true)) (fun x2 => (Jv.and (Jv.notin lwI (by decide) (seqD_T (em := eI)) (Jv.varD (em := eI) 4 rfl nlI) (Jv.varD (em := (eT eI)) 3 rfl nlT)) (Jv.any1 (Jv.lc1 (JI.seq (seqD_T (em := eI)) (Jv.varD (em := (eT eI)) 1 rfl nlT)) (Jt.nm rfl) rfl (fun x3 => (Jv.litB true)) (fun x3 => (Jv.isin lwI (by decide) (seqD_T (em := eI)) (Jv.varD (em := eI) 4 rfl nlI) (Jv.ix (seqD_T (em := (eT eI))) (Jv.varD (em := (eT (eT eI))) 0 rfl nlT) (Jv.varD (em := eI) 5 rfl nlI)))))))))))))))

@[irreducible] noncomputable def m_orders_by_age (finds : (List (List Int))) (told : (List (Int × Int))) (most : Int) : M (List (List Int)) := opq
  (bnd (m2 (fun x y => rtn (x, y)) (rtn ([] : List (List Int))) (m2 (fun x y => rtn (x, y)) (m2 (fun x y => rtn (x :: y)) (rtn ([] : List Int)) (rtn [])) (rtn ()))) fun v1 => (bnd (mWhl (fun (s26 : ((List (List Int)) × (List (List Int)))) => (mAnd (m2 (fun x y => rtn (decide (y < x))) (m1 (fun x => rtn (x.length : Int)) (rtn s26.2)) (rtn (0 : Int))) (m2 (fun x y => rtn (decide (x < y))) (m1 (fun x => rtn (x.length : Int)) (rtn s26.1)) (rtn most)))) (fun (s26 : ((List (List Int)) × (List (List Int)))) => (bnd (mPop s26.2) fun v27 => (bnd (mIf (m2 (fun x y => rtn (decide (x = y))) (m1 (fun x => rtn (x.length : Int)) (rtn v27.1)) (m1 (fun x => rtn (x.length : Int)) (rtn finds))) (bnd (bnd (rtn v27.1) fun x => mApp s26.1 x) fun v40 => (rtn (v40, v27.2))) (bnd (m1 (mLst (fun (x42 : Int) => (mAnd (m2 (fun x y => rtn (!decide (x ∈ y))) (rtn x42) (rtn v27.1)) (bnd (rtn finds) fun a43 => (bnd (rtn v27.1) fun a44 => (bnd (rtn x42) fun a45 => m_can_follow a43 a44 a45))))) (fun (x42 : Int) => (rtn x42))) (m2 (fun x y => mRng x y) (rtn (0 : Int)) (m1 (fun x => rtn (x.length : Int)) (rtn finds)))) fun v41 => (bnd (m1 (mLst (fun (x47 : Int) => (m1 (fun x => rtn (!x)) (m1 (fun x => rtn (x.any id)) (m1 (mLst (fun (x48 : (Int × Int)) => (rtn true)) (fun (x48 : (Int × Int)) => (mAnd (m2 (fun x y => rtn (decide (x = y))) (bnd (rtn x48) fun x => rtn x.2) (rtn x47)) (m2 (fun x y => rtn (!decide (x ∈ y))) (bnd (rtn x48) fun x => rtn x.1) (rtn v27.1))))) (rtn told))))) (fun (x47 : Int) => (rtn x47))) (rtn v41)) fun v46 => (bnd (bnd (m1 (mLst (fun (x50 : Int) => (rtn true)) (fun (x50 : Int) => (m2 mCat (rtn v27.1) (m2 (fun x y => rtn (x :: y)) (rtn x50) (rtn []))))) (m1 (fun x => rtn x.reverse) (rtn v46))) fun x => mExt v27.2 x) fun v49 => (rtn (s26.1, v49)))))) fun s28 => (rtn (s28.1, s28.2))))) mostN (v1.1, v1.2.1)) fun s26 => (rtn s26.1)))
theorem J_orders_by_age (k : Nat) (finds : (List (List Int))) (told : (List (Int × Int))) (most : Int) : Jf (ph law (k + 2) 8) [.d ((eT (eT eI)) finds), .d ((eT (e2 eI eI)) told), .d (eI most)] (m_orders_by_age finds told most) .f (eL (eT eI)) :=
  Jf.law (q := q_orders_by_age) rfl (by unfold m_orders_by_age; rw [opq_eq]; exact Jf.ofR rfl rfl (Jr.cons (JN.par (Jp.consL (em := (eT eI)) rfl (Jv.lstH (em := (eT eI)) (Je.hnil (em := (eT eI)))) (Jp.consL (em := (eT eI)) rfl (Jv.lstH (em := (eT eI)) (Je.hcons rfl (Jv.tupH (em := eI) (Je.hnil (em := eI))) (Je.hnil (em := (eT eI))))) Jp.nil))) fun v1 => (Jr.cons (JN.whl (inv := fun (s26 : ((List (List Int)) × (List (List Int)))) => [(0, .d ((eT (eT eI)) finds)), (1, .d ((eT (e2 eI eI)) told)), (2, .d (eI most)), (3, .own (List.map (eT eI) s26.1)), (4, .own (List.map (eT eI) s26.2))]) (v1.1, v1.2.1) ⟨.refl, .refl, .refl, .refl, .refl, trivial⟩ (fun s26 => (Jv.and (Jv.gtI (Jv.len (seqD_L (em := (eT eI))) (Jv.varO (em := (eT eI)) 4 rfl)) (Jv.litI 0)) (Jv.ltI (Jv.len (seqD_L (em := (eT eI))) (Jv.varO (em := (eT eI)) 3 rfl)) (Jv.varD (em := eI) 2 rfl nlI)))) fun s26 => (JN.cons (JN.pop (em := (eT eI)) (i := 4) (j := 5) rfl rfl) fun v27 => (JN.cons (p1 := fun (s28 : ((List (List Int)) × (List (List Int)))) => [(0, .d ((eT (eT eI)) finds)), (1, .d ((eT (e2 eI eI)) told)), (2, .d (eI most)), (3, .own (List.map (eT eI) s28.1)), (4, .own (List.map (eT eI) s28.2)), (5, .d ((eT eI) v27.1))]) (JN.iff (Jv.eq lwI (by decide) (Jv.len (seqD_T (em := eI)) (Jv.varD (em := (eT eI)) 5 rfl nlT)) (Jv.len (seqD_T (em := (eT eI))) (Jv.varD (em := (eT (eT eI))) 0 rfl nlT))) (JN.cons (JN.app (em := (eT eI)) (i := 3) rfl rfl (Jv.varD (em := (eT eI)) 5 rfl nlT)) fun v40 => (JN.nil (x := (v40, v27.2)) ⟨.refl, .refl, .refl, .refl, .refl, .refl, trivial⟩)) (JN.cons (JN.asgW (em := (eL eI)) (i := 6) rfl rfl (Jv.lc1 (JI.rng (Jv.litI 0) (Jv.len (seqD_T (em := (eT eI))) (Jv.varD (em := (eT (eT eI))) 0 rfl nlT))) (Jt.nm rfl) rfl (fun x42 => (Jv.and (Jv.notin lwI (by decide) (seqD_T (em := eI)) (Jv.varD (em := eI) 7 rfl nlI) (Jv.varD (em := (eT eI)) 5 rfl nlT)) (Jv.call3 (em0 := (eT (eT eI))) (em1 := (eT eI)) (em2 := eI) (Jv.varD (em := (eT (eT eI))) 0 rfl nlT) (Jv.varD (em := (eT eI)) 5 rfl nlT) (Jv.varD (em := eI) 7 rfl nlI) (fun a43 a44 a45 => J_can_follow k a43 a44 a45)))) (fun x42 => (Jv.varD (em := eI) 7 rfl nlI)))) fun v41 => (JN.cons (JN.asgW (em := (eL eI)) (i := 6) rfl rfl (Jv.lc1 (JI.seq (seqD_L (em := eI)) (Jv.varV (em := (eL eI)) 6 rfl)) (Jt.nm rfl) rfl (fun x47 => (Jv.not (Jv.any1 (Jv.lc1 (JI.seq (seqD_T (em := (e2 eI eI))) (Jv.varD (em := (eT (e2 eI eI))) 1 rfl nlT)) (Jt.nm rfl) rfl (fun x48 => (Jv.litB true)) (fun x48 => (Jv.and (Jv.eq lwI (by decide) (Jv.ixG (eb := eI) (ea := (e2 eI eI)) (Jv.varD (em := (e2 eI eI)) 8 rfl nl2) (Jv.litI 1) (fun x => x.2) fun _ => rfl) (Jv.varD (em := eI) 7 rfl nlI)) (Jv.notin lwI (by decide) (seqD_T (em := eI)) (Jv.ixG (eb := eI) (ea := (e2 eI eI)) (Jv.varD (em := (e2 eI eI)) 8 rfl nl2) (Jv.litI 0) (fun x => x.1) fun _ => rfl) (Jv.varD (em := (eT eI)) 5 rfl nlT)))))))) (fun x47 => (Jv.varD (em := eI) 7 rfl nlI)))) fun v46 => (JN.cons (JN.ext (em := (eT eI)) (i := 4) rfl rfl (Jv.lc1 (JI.seq (seqD_L (em := eI)) (Jv.revL (Jv.varV (em := (eL eI)) 6 rfl))) (Jt.nm rfl) rfl (fun x50 => (Jv.litB true)) (fun x50 => (Jv.addT (Jv.varD (em := (eT eI)) 5 rfl nlT) (Jv.tupH (em := eI) (Je.hcons rfl (Jv.varD (em := eI) 7 rfl nlI) (Je.hnil (em := eI)))))))) fun v49 => (JN.nil (x := (s26.1, v49)) ⟨.refl, .refl, .refl, .refl, .refl, .refl, trivial⟩))))) fun s28 => (JN.nil (x := (s28.1, s28.2)) ⟨.refl, .refl, .refl, .refl, .refl, trivial⟩)))) fun s26 => (Jr.retO (em := (eT eI)) (j := 3) rfl))))

@[irreducible] noncomputable def m_age_orders (wide : Int) (finds : (List (List Int))) (told : (List (Int × Int))) : M (List (List Int)) := opq
  (bnd (bnd (rtn wide) fun a1 => (bnd (rtn finds) fun a2 => (bnd (rtn told) fun a3 => m_check_told a1 a2 a3))) fun _ => (bnd (bnd (rtn finds) fun a5 => (bnd (rtn told) fun a6 => (bnd (m2 (fun x y => rtn (x + y)) (rtn (3000 : Int)) (rtn (1 : Int))) fun a7 => m_orders_by_age a5 a6 a7))) fun v4 => (bnd (mIf (m2 (fun x y => rtn (decide (y < x))) (m1 (fun x => rtn (x.length : Int)) (rtn v4)) (rtn (3000 : Int))) (bnd (bad : M Unit) fun _ => (rtn ())) (rtn ())) fun s8 => (rtn v4))))
theorem J_age_orders (k : Nat) (wide : Int) (finds : (List (List Int))) (told : (List (Int × Int))) : Jf (ph law (k + 6) 9) [.d (eI wide), .d ((eT (eT eI)) finds), .d ((eT (e2 eI eI)) told)] (m_age_orders wide finds told) .d (eT (eT eI)) :=
  Jf.law (q := q_age_orders) rfl (by unfold m_age_orders; rw [opq_eq]; exact Jf.ofR rfl rfl (Jr.cons (JN.exE (Jv.call3 (em0 := eI) (em1 := (eT (eT eI))) (em2 := (eT (e2 eI eI))) (Jv.varD (em := eI) 0 rfl nlI) (Jv.varD (em := (eT (eT eI))) 1 rfl nlT) (Jv.varD (em := (eT (e2 eI eI))) 2 rfl nlT) (fun a1 a2 a3 => J_check_told k a1 a2 a3))) fun _ => (Jr.cons (JN.asgW (em := (eL (eT eI))) (i := 3) rfl rfl (Jv.call3 (em0 := (eT (eT eI))) (em1 := (eT (e2 eI eI))) (em2 := eI) (Jv.varD (em := (eT (eT eI))) 1 rfl nlT) (Jv.varD (em := (eT (e2 eI eI))) 2 rfl nlT) (Jv.addI (Jv.glbI "MOST_ORDERS" 3000) (Jv.litI 1)) (fun a5 a6 a7 => J_orders_by_age (k + 3) a5 a6 a7))) fun v4 => (Jr.cons (p1 := fun (s8 : Unit) => [(0, .d (eI wide)), (1, .d ((eT (eT eI)) finds)), (2, .d ((eT (e2 eI eI)) told)), (3, .v ((eL (eT eI)) v4))]) (JN.iff (Jv.gtI (Jv.len (seqD_L (em := (eT eI))) (Jv.varV (em := (eL (eT eI))) 3 rfl)) (Jv.glbI "MOST_ORDERS" 3000)) (JN.cons (JN.rse (post := fun _ => [(0, .d (eI wide)), (1, .d ((eT (eT eI)) finds)), (2, .d ((eT (e2 eI eI)) told)), (3, .v ((eL (eT eI)) v4))])) fun _ => (JN.nil (x := ()) ⟨.refl, .refl, .refl, .refl, trivial⟩)) (JN.nil (x := ()) ⟨.refl, .refl, .refl, .refl, trivial⟩)) fun s8 => (Jr.ret1 rfl (Jv.tuple (seqD_L (em := (eT eI))) (Jv.varV (em := (eL (eT eI))) 3 rfl)))))))

@[irreducible] noncomputable def m_raw_spans (wide : Int) (finds : (List (List Int))) (order : (List Int)) : M (List (Option (Int × Int))) := opq
  (bnd (rtn ([] : List (Option (Int × Int)))) fun v1 => (bnd (bnd (m2 (fun x y => mRng x y) (rtn (0 : Int)) (rtn wide)) fun xs => mFold (fun (x6 : Int) (s5 : ((List (Option (Int × Int))))) => (bnd (m1 (mLst (fun (x8 : (Int × Int)) => (m2 (fun x y => rtn (decide (x ∈ y))) (rtn x6) (m2 (fun x i => opt (L2.atI x i)) (rtn finds) (rtn x8.2)))) (fun (x8 : (Int × Int)) => (rtn x8.1))) (m1 (fun x => rtn (enumZ x)) (rtn order))) fun v7 => (bnd (bnd (mIf (m2 (fun x y => rtn (decide (y < x))) (m1 (fun x => rtn (x.length : Int)) (rtn v7)) (rtn (0 : Int))) (bnd (m2 (fun x y => rtn (x, y)) (m2 (fun x i => opt (L2.atI x i)) (rtn v7) (rtn (0 : Int))) (m2 (fun x i => opt (L2.atI x i)) (rtn v7) (m1 (fun x => rtn (-x)) (rtn (1 : Int))))) fun a => rtn (some a)) (rtn (none : Option (Int × Int)))) fun x => mApp s5 x) fun v9 => (rtn v9)))) xs v1) fun s5 => (rtn s5)))
theorem J_raw_spans (k : Nat) (wide : Int) (finds : (List (List Int))) (order : (List Int)) : Jf (ph law (k + 1) 10) [.d (eI wide), .d ((eT (eT eI)) finds), .d ((eT eI) order)] (m_raw_spans wide finds order) .d (eT (eO (e2 eI eI))) :=
  Jf.law (q := q_raw_spans) rfl (by unfold m_raw_spans; rw [opq_eq]; exact Jf.ofR rfl rfl (Jr.cons (JN.asgL (em := (eO (e2 eI eI))) (i := 3) rfl (Jv.lstH (em := (eO (e2 eI eI))) (Je.hnil (em := (eO (e2 eI eI)))))) fun v1 => (Jr.cons (JN.for (inv := fun (s5 : ((List (Option (Int × Int))))) => [(0, .d (eI wide)), (1, .d ((eT (eT eI)) finds)), (2, .d ((eT eI) order)), (3, .own (List.map (eO (e2 eI eI)) s5))]) v1 (JS.rng (Jv.litI 0) (Jv.varD (em := eI) 0 rfl nlI)) (Jt.nm rfl) ⟨.refl, .refl, .refl, .refl, trivial⟩ fun x6 s5 => (JN.cons (JN.asgW (em := (eL eI)) (i := 5) rfl rfl (Jv.lc1 (JI.enum (seqD_T (em := eI)) (Jv.varD (em := (eT eI)) 2 rfl nlT)) (Jt.two (Jt.nm rfl) (Jt.nm rfl)) rfl (fun x8 => (Jv.isin lwI (by decide) (seqD_T (em := eI)) (Jv.varD (em := eI) 4 rfl nlI) (Jv.ix (seqD_T (em := (eT eI))) (Jv.varD (em := (eT (eT eI))) 1 rfl nlT) (Jv.varD (em := eI) 7 rfl nlI)))) (fun x8 => (Jv.varD (em := eI) 6 rfl nlI)))) fun v7 => (JN.cons (JN.app (em := (eO (e2 eI eI))) (i := 3) rfl rfl (Jv.ite (Jv.gtI (Jv.len (seqD_L (em := eI)) (Jv.varV (em := (eL eI)) 5 rfl)) (Jv.litI 0)) (Jv.sm (Jv.tup2 rfl rfl (Jv.ix (seqD_L (em := eI)) (Jv.varV (em := (eL eI)) 5 rfl) (Jv.litI 0)) (Jv.ix (seqD_L (em := eI)) (Jv.varV (em := (eL eI)) 5 rfl) (Jv.neg (Jv.litI 1))))) (Jv.litN (em := (e2 eI eI))))) fun v9 => (JN.nil (x := v9) ⟨.refl, .refl, .refl, .refl, trivial⟩)))) fun s5 => (Jr.ret1 rfl (Jv.tuple (seqD_L (em := (eO (e2 eI eI)))) (Jv.varO (em := (eO (e2 eI eI))) 3 rfl))))))

@[irreducible] noncomputable def m_check_aged (wide : Int) (finds : (List (List Int))) (order : (List Int)) : M Unit := opq
  (bnd (bnd (bnd (rtn wide) fun a1 => (bnd (rtn finds) fun a2 => m_check_finds a1 a2)) fun _ => (bnd (mIf (m1 (fun x => rtn (!x)) (bnd (m1 (fun x => rtn (x.length : Int)) (rtn finds)) fun a3 => (bnd (rtn order) fun a4 => m_is_order a3 a4))) (bnd (bad : M Unit) fun _ => (rtn ())) (rtn ())) fun s5 => (rtn ()))) fun _ => rtn ())
theorem J_check_aged (k : Nat) (wide : Int) (finds : (List (List Int))) (order : (List Int)) : Jf (ph law (k + 5) 11) [.d (eI wide), .d ((eT (eT eI)) finds), .d ((eT eI) order)] (m_check_aged wide finds order) .d eU :=
  Jf.law (q := q_check_aged) rfl (by unfold m_check_aged; rw [opq_eq]; exact Jf.ofN (post := fun _ => []) rfl rfl (JN.cons (JN.exE (Jv.call2 (em0 := eI) (em1 := (eT (eT eI))) (Jv.varD (em := eI) 0 rfl nlI) (Jv.varD (em := (eT (eT eI))) 1 rfl nlT) (fun a1 a2 => J_check_finds k a1 a2))) fun _ => (JN.cons (p1 := fun (s5 : Unit) => [(0, .d (eI wide)), (1, .d ((eT (eT eI)) finds)), (2, .d ((eT eI) order))]) (JN.iff (Jv.not (Jv.call2 (em0 := eI) (em1 := (eT eI)) (Jv.len (seqD_T (em := (eT eI))) (Jv.varD (em := (eT (eT eI))) 1 rfl nlT)) (Jv.varD (em := (eT eI)) 2 rfl nlT) (fun a3 a4 => J_is_order (k + 1) a3 a4))) (JN.cons (JN.rse (post := fun _ => [(0, .d (eI wide)), (1, .d ((eT (eT eI)) finds)), (2, .d ((eT eI) order))])) fun _ => (JN.nil (x := ()) ⟨.refl, .refl, .refl, trivial⟩)) (JN.nil (x := ()) ⟨.refl, .refl, .refl, trivial⟩)) fun s5 => (JN.nil (x := ()) trivial))))

@[irreducible] noncomputable def m_spans_of (wide : Int) (finds : (List (List Int))) (order : (List Int)) : M (List (Option (Int × Int))) := opq
  (bnd (bnd (rtn wide) fun a1 => (bnd (rtn finds) fun a2 => (bnd (rtn order) fun a3 => m_check_aged a1 a2 a3))) fun _ => (bnd (rtn wide) fun a4 => (bnd (rtn finds) fun a5 => (bnd (rtn order) fun a6 => m_raw_spans a4 a5 a6))))
theorem J_spans_of (k : Nat) (wide : Int) (finds : (List (List Int))) (order : (List Int)) : Jf (ph law (k + 6) 12) [.d (eI wide), .d ((eT (eT eI)) finds), .d ((eT eI) order)] (m_spans_of wide finds order) .d (eT (eO (e2 eI eI))) :=
  Jf.law (q := q_spans_of) rfl (by unfold m_spans_of; rw [opq_eq]; exact Jf.ofR rfl rfl (Jr.cons (JN.exE (Jv.call3 (em0 := eI) (em1 := (eT (eT eI))) (em2 := (eT eI)) (Jv.varD (em := eI) 0 rfl nlI) (Jv.varD (em := (eT (eT eI))) 1 rfl nlT) (Jv.varD (em := (eT eI)) 2 rfl nlT) (fun a1 a2 a3 => J_check_aged k a1 a2 a3))) fun _ => (Jr.ret1 rfl (Jv.call3 (em0 := eI) (em1 := (eT (eT eI))) (em2 := (eT eI)) (Jv.varD (em := eI) 0 rfl nlI) (Jv.varD (em := (eT (eT eI))) 1 rfl nlT) (Jv.varD (em := (eT eI)) 2 rfl nlT) (fun a4 a5 a6 => J_raw_spans (k + 4) a4 a5 a6)))))

@[irreducible] noncomputable def m_raw_breaks (wide : Int) (finds : (List (List Int))) (order : (List Int)) : M Int := opq
  (bnd (rtn (0 : Int)) fun v1 => (bnd (bnd (m1 (fun x => rtn (enumZ x)) (bnd (rtn wide) fun a11 => (bnd (rtn finds) fun a12 => (bnd (rtn order) fun a13 => m_raw_spans a11 a12 a13)))) fun xs => mFold (fun (x14 : (Int × (Option (Int × Int)))) (s10 : (Int)) => (bnd (mIf (m1 (fun x => rtn (!isNon ((eO (e2 eI eI)) x))) (rtn x14.2)) (bnd (bnd (m2 (fun x y => rtn (x - y)) (m2 (fun x y => rtn (x + y)) (m2 (fun x y => rtn (x - y)) (bnd (bnd (rtn x14.2) opt) fun x => rtn x.2) (bnd (bnd (rtn x14.2) opt) fun x => rtn x.1)) (rtn (1 : Int))) (m1 (fun x => rtn (x.length : Int)) (m1 (mLst (fun (x19 : (List Int)) => (m2 (fun x y => rtn (decide (x ∈ y))) (rtn x14.1) (rtn x19))) (fun (x19 : (List Int)) => (rtn x19))) (rtn finds)))) fun y => rtn (s10 + y)) fun v18 => (rtn v18)) (rtn s10)) fun s15 => (rtn s15))) xs v1) fun s10 => (rtn s10)))
theorem J_raw_breaks (k : Nat) (wide : Int) (finds : (List (List Int))) (order : (List Int)) : Jf (ph law (k + 2) 13) [.d (eI wide), .d ((eT (eT eI)) finds), .d ((eT eI) order)] (m_raw_breaks wide finds order) .d eI :=
  Jf.law (q := q_raw_breaks) rfl (by unfold m_raw_breaks; rw [opq_eq]; exact Jf.ofR rfl rfl (Jr.cons (JN.asg (em := eI) (i := 3) rfl rfl (Jv.litI 0)) fun v1 => (Jr.cons (JN.for (inv := fun (s10 : (Int)) => [(0, .d (eI wide)), (1, .d ((eT (eT eI)) finds)), (2, .d ((eT eI) order)), (3, .d (eI s10))]) v1 (JS.enumE (seqD_T (em := (eO (e2 eI eI)))) rfl (Jv.call3 (em0 := eI) (em1 := (eT (eT eI))) (em2 := (eT eI)) (Jv.varD (em := eI) 0 rfl nlI) (Jv.varD (em := (eT (eT eI))) 1 rfl nlT) (Jv.varD (em := (eT eI)) 2 rfl nlT) (fun a11 a12 a13 => J_raw_spans k a11 a12 a13))) (Jt.two (Jt.nm rfl) (Jt.nm rfl)) ⟨.refl, .refl, .refl, .refl, trivial⟩ fun x14 s10 => (JN.cons (p1 := fun (s15 : (Int)) => [(0, .d (eI wide)), (1, .d ((eT (eT eI)) finds)), (2, .d ((eT eI) order)), (3, .d (eI s15)), (4, .d (eI x14.1)), (5, .d ((eO (e2 eI eI)) x14.2))]) (JN.iff (Jv.isnotN (ea := (eO (e2 eI eI))) (Jv.varD (em := (eO (e2 eI eI))) 5 rfl (nlO nl2))) (JN.cons (JN.aug (i := 3) (x := s10) (f := fun x y => x + y) rfl rfl rfl (Jv.subI (Jv.addI (Jv.subI (Jv.ixG (eb := eI) (ea := (e2 eI eI)) (Jv.un (Jv.varD (em := (eO (e2 eI eI))) 5 rfl (nlO nl2))) (Jv.litI 1) (fun x => x.2) fun _ => rfl) (Jv.ixG (eb := eI) (ea := (e2 eI eI)) (Jv.un (Jv.varD (em := (eO (e2 eI eI))) 5 rfl (nlO nl2))) (Jv.litI 0) (fun x => x.1) fun _ => rfl)) (Jv.litI 1)) (Jv.len (seqD_L (em := (eT eI))) (Jv.lc1 (JI.seq (seqD_T (em := (eT eI))) (Jv.varD (em := (eT (eT eI))) 1 rfl nlT)) (Jt.nm rfl) rfl (fun x19 => (Jv.isin lwI (by decide) (seqD_T (em := eI)) (Jv.varD (em := eI) 4 rfl nlI) (Jv.varD (em := (eT eI)) 6 rfl nlT))) (fun x19 => (Jv.varD (em := (eT eI)) 6 rfl nlT)))))) fun v18 => (JN.nil (x := v18) ⟨.refl, .refl, .refl, .refl, .refl, .refl, trivial⟩)) (JN.nil (x := s10) ⟨.refl, .refl, .refl, .refl, .refl, .refl, trivial⟩)) fun s15 => (JN.nil (x := s15) ⟨.refl, .refl, .refl, .refl, trivial⟩))) fun s10 => (Jr.ret1 rfl (Jv.varD (em := eI) 3 rfl nlI)))))

@[irreducible] noncomputable def m_breaks_of (wide : Int) (finds : (List (List Int))) (order : (List Int)) : M Int := opq
  (bnd (bnd (rtn wide) fun a1 => (bnd (rtn finds) fun a2 => (bnd (rtn order) fun a3 => m_check_aged a1 a2 a3))) fun _ => (bnd (rtn wide) fun a4 => (bnd (rtn finds) fun a5 => (bnd (rtn order) fun a6 => m_raw_breaks a4 a5 a6))))
theorem J_breaks_of (k : Nat) (wide : Int) (finds : (List (List Int))) (order : (List Int)) : Jf (ph law (k + 6) 14) [.d (eI wide), .d ((eT (eT eI)) finds), .d ((eT eI) order)] (m_breaks_of wide finds order) .d eI :=
  Jf.law (q := q_breaks_of) rfl (by unfold m_breaks_of; rw [opq_eq]; exact Jf.ofR rfl rfl (Jr.cons (JN.exE (Jv.call3 (em0 := eI) (em1 := (eT (eT eI))) (em2 := (eT eI)) (Jv.varD (em := eI) 0 rfl nlI) (Jv.varD (em := (eT (eT eI))) 1 rfl nlT) (Jv.varD (em := (eT eI)) 2 rfl nlT) (fun a1 a2 a3 => J_check_aged k a1 a2 a3))) fun _ => (Jr.ret1 rfl (Jv.call3 (em0 := eI) (em1 := (eT (eT eI))) (em2 := (eT eI)) (Jv.varD (em := eI) 0 rfl nlI) (Jv.varD (em := (eT (eT eI))) 1 rfl nlT) (Jv.varD (em := (eT eI)) 2 rfl nlT) (fun a4 a5 a6 => J_raw_breaks (k + 3) a4 a5 a6)))))

@[irreducible] noncomputable def m_all_orders (many : Int) : M (List (List Int)) := opq
  (bnd (m2 (fun x y => rtn (x :: y)) (rtn ([] : List Int)) (rtn [])) fun v1 => (bnd (bnd (m2 (fun x y => mRng x y) (rtn (0 : Int)) (rtn many)) fun xs => mFold (fun (x6 : Int) (s5 : ((List (List Int)))) => (bnd (m1 (mLst2 (fun (x8 : (List Int)) => (rtn true)) (fun (x8 : (List Int)) => (m2 (fun x y => mRng x y) (rtn (0 : Int)) (rtn many))) (fun (x8 : (List Int)) (x9 : Int) => (m2 (fun x y => rtn (!decide (x ∈ y))) (rtn x9) (rtn x8))) (fun (x8 : (List Int)) (x9 : Int) => (m2 mCat (rtn x8) (m2 (fun x y => rtn (x :: y)) (rtn x9) (rtn []))))) (rtn s5)) fun v7 => (rtn v7))) xs v1) fun s5 => (rtn s5)))
theorem J_all_orders (k : Nat) (many : Int) : Jf (ph law (k + 1) 15) [.d (eI many)] (m_all_orders many) .d (eL (eT eI)) :=
  Jf.law (q := q_all_orders) rfl (by unfold m_all_orders; rw [opq_eq]; exact Jf.ofR rfl rfl (Jr.cons (JN.asgW (em := (eL (eT eI))) (i := 1) rfl rfl (Jv.lstH (em := (eT eI)) (Je.hcons rfl (Jv.tupH (em := eI) (Je.hnil (em := eI))) (Je.hnil (em := (eT eI)))))) fun v1 => (Jr.cons (JN.for (inv := fun (s5 : ((List (List Int)))) => [(0, .d (eI many)), (1, .v ((eL (eT eI)) s5))]) v1 (JS.rng (Jv.litI 0) (Jv.varD (em := eI) 0 rfl nlI)) (Jt.nm rfl) ⟨.refl, .refl, trivial⟩ fun x6 s5 => (JN.cons (JN.asgW (em := (eL (eT eI))) (i := 1) rfl rfl (Jv.lc2 (JI.seq (seqD_L (em := (eT eI))) (Jv.varV (em := (eL (eT eI))) 1 rfl)) (Jt.nm rfl) rfl (fun x8 => (Jv.litB true)) (fun x8 => (JI.rng (Jv.litI 0) (Jv.varD (em := eI) 0 rfl nlI))) (Jt.nm rfl) (fun x8 x9 => (Jv.notin lwI (by decide) (seqD_T (em := eI)) (Jv.varD (em := eI) 4 rfl nlI) (Jv.varD (em := (eT eI)) 3 rfl nlT))) (fun x8 x9 => (Jv.addT (Jv.varD (em := (eT eI)) 3 rfl nlT) (Jv.tupH (em := eI) (Je.hcons rfl (Jv.varD (em := eI) 4 rfl nlI) (Je.hnil (em := eI)))))))) fun v7 => (JN.nil (x := v7) ⟨.refl, .refl, trivial⟩))) fun s5 => (Jr.ret1 rfl (Jv.varV (em := (eL (eT eI))) 1 rfl)))))

@[irreducible] noncomputable def m_least_breaks (wide : Int) (finds : (List (List Int))) : M (Option (Int × (List Int))) := opq
  (bnd (bnd (rtn wide) fun a1 => (bnd (rtn finds) fun a2 => m_check_finds a1 a2)) fun _ => (bnd (mIf (m2 (fun x y => rtn (decide (y < x))) (m1 (fun x => rtn (x.length : Int)) (rtn finds)) (rtn (7 : Int))) (bnd (bad : M Unit) fun _ => (rtn ())) (rtn ())) fun s3 => (bnd (rtn (none : Option (Int × (List Int)))) fun v4 => (bnd (bnd (bnd (m1 (fun x => rtn (x.length : Int)) (rtn finds)) fun a14 => m_all_orders a14) fun xs => mFold (fun (x15 : (List Int)) (s13 : ((Option (Int × (List Int))))) => (bnd (bnd (rtn wide) fun a17 => (bnd (rtn finds) fun a18 => (bnd (rtn x15) fun a19 => m_raw_breaks a17 a18 a19))) fun v16 => (bnd (mIf (mOr (m1 (fun x => rtn (isNon ((eO (e2 eI (eT eI))) x))) (rtn s13)) (m2 (fun x y => rtn (decide (x < y))) (rtn v16) (bnd (bnd (rtn s13) opt) fun x => rtn x.1))) (bnd (bnd (m2 (fun x y => rtn (x, y)) (rtn v16) (rtn x15)) fun a => rtn (some a)) fun v22 => (rtn v22)) (rtn s13)) fun s20 => (rtn s20)))) xs v4) fun s13 => (rtn s13)))))
theorem J_least_breaks (k : Nat) (wide : Int) (finds : (List (List Int))) : Jf (ph law (k + 5) 16) [.d (eI wide), .d ((eT (eT eI)) finds)] (m_least_breaks wide finds) .d (eO (e2 eI (eT eI))) :=
  Jf.law (q := q_least_breaks) rfl (by unfold m_least_breaks; rw [opq_eq]; exact Jf.ofR rfl rfl (Jr.cons (JN.exE (Jv.call2 (em0 := eI) (em1 := (eT (eT eI))) (Jv.varD (em := eI) 0 rfl nlI) (Jv.varD (em := (eT (eT eI))) 1 rfl nlT) (fun a1 a2 => J_check_finds k a1 a2))) fun _ => (Jr.cons (p1 := fun (s3 : Unit) => [(0, .d (eI wide)), (1, .d ((eT (eT eI)) finds))]) (JN.iff (Jv.gtI (Jv.len (seqD_T (em := (eT eI))) (Jv.varD (em := (eT (eT eI))) 1 rfl nlT)) (Jv.glbI "MOST_BROKEN" 7)) (JN.cons (JN.rse (post := fun _ => [(0, .d (eI wide)), (1, .d ((eT (eT eI)) finds))])) fun _ => (JN.nil (x := ()) ⟨.refl, .refl, trivial⟩)) (JN.nil (x := ()) ⟨.refl, .refl, trivial⟩)) fun s3 => (Jr.cons (JN.asg (em := (eO (e2 eI (eT eI)))) (i := 2) rfl rfl (Jv.litN (em := (e2 eI (eT eI))))) fun v4 => (Jr.cons (JN.for (inv := fun (s13 : ((Option (Int × (List Int))))) => [(0, .d (eI wide)), (1, .d ((eT (eT eI)) finds)), (2, .d ((eO (e2 eI (eT eI))) s13))]) v4 (JS.seqE (seqD_L (em := (eT eI))) rfl (Jv.call1 (em0 := eI) (Jv.len (seqD_T (em := (eT eI))) (Jv.varD (em := (eT (eT eI))) 1 rfl nlT)) (fun a14 => J_all_orders (k + 3) a14))) (Jt.nm rfl) ⟨.refl, .refl, .refl, trivial⟩ fun x15 s13 => (JN.cons (JN.asg (em := eI) (i := 4) rfl rfl (Jv.call3 (em0 := eI) (em1 := (eT (eT eI))) (em2 := (eT eI)) (Jv.varD (em := eI) 0 rfl nlI) (Jv.varD (em := (eT (eT eI))) 1 rfl nlT) (Jv.varD (em := (eT eI)) 3 rfl nlT) (fun a17 a18 a19 => J_raw_breaks (k + 2) a17 a18 a19))) fun v16 => (JN.cons (p1 := fun (s20 : ((Option (Int × (List Int))))) => [(0, .d (eI wide)), (1, .d ((eT (eT eI)) finds)), (2, .d ((eO (e2 eI (eT eI))) s20)), (3, .d ((eT eI) x15)), (4, .d (eI v16))]) (JN.iff (Jv.or (Jv.isN (ea := (eO (e2 eI (eT eI)))) (Jv.varD (em := (eO (e2 eI (eT eI)))) 2 rfl (nlO nl2))) (Jv.ltI (Jv.varD (em := eI) 4 rfl nlI) (Jv.ixG (eb := eI) (ea := (e2 eI (eT eI))) (Jv.un (Jv.varD (em := (eO (e2 eI (eT eI)))) 2 rfl (nlO nl2))) (Jv.litI 0) (fun x => x.1) fun _ => rfl))) (JN.cons (JN.asg (em := (eO (e2 eI (eT eI)))) (i := 2) rfl rfl (Jv.sm (Jv.tup2 rfl rfl (Jv.varD (em := eI) 4 rfl nlI) (Jv.varD (em := (eT eI)) 3 rfl nlT)))) fun v22 => (JN.nil (x := v22) ⟨.refl, .refl, .refl, .refl, .refl, trivial⟩)) (JN.nil (x := s13) ⟨.refl, .refl, .refl, .refl, .refl, trivial⟩)) fun s20 => (JN.nil (x := s20) ⟨.refl, .refl, .refl, trivial⟩)))) fun s13 => (Jr.ret1 rfl (Jv.varD (em := (eO (e2 eI (eT eI)))) 2 rfl (nlO nl2))))))))

@[irreducible] noncomputable def m_law_orders (many : Int) : M (List (List Int)) := opq
  (bnd (m2 (fun x y => rtn (x :: y)) (rtn ([] : List Int)) (rtn [])) fun v1 => (bnd (bnd (m2 (fun x y => mRng x y) (rtn (0 : Int)) (rtn many)) fun xs => mFold (fun (x19 : Int) (s18 : ((List (List Int)))) => (bnd (rtn ([] : List (List Int))) fun v20 => (bnd (bnd (rtn s18) fun xs => mFold (fun (x24 : (List Int)) (s23 : ((List (List Int)))) => (bnd (bnd (m1 (mLst (fun (x26 : Int) => (m2 (fun x y => rtn (!decide (x ∈ y))) (rtn x26) (rtn x24))) (fun (x26 : Int) => (m2 mCat (rtn x24) (m2 (fun x y => rtn (x :: y)) (rtn x26) (rtn []))))) (m2 (fun x y => mRng x y) (rtn (0 : Int)) (rtn many))) fun x => mExt s23 x) fun v25 => (rtn v25))) xs v20) fun s23 => (bnd (rtn ()) fun _ => (rtn s23))))) xs v1) fun s18 => (rtn s18)))
theorem J_law_orders (k : Nat) (many : Int) : Jf (ph law (k + 1) 22) [.d (eI many)] (m_law_orders many) .n (eL (eT eI)) :=
  Jf.law (q := q_law_orders) rfl (by unfold m_law_orders; rw [opq_eq]; exact Jf.ofR rfl rfl (Jr.cons (JN.asgW (em := (eL (eT eI))) (i := 1) rfl rfl (Jv.lstH (em := (eT eI)) (Je.hcons rfl (Jv.tupH (em := eI) (Je.hnil (em := eI))) (Je.hnil (em := (eT eI)))))) fun v1 => (Jr.cons (JN.for (inv := fun (s18 : ((List (List Int)))) => [(0, .d (eI many)), (1, .w ((eL (eT eI)) s18))]) v1 (JS.rng (Jv.litI 0) (Jv.varD (em := eI) 0 rfl nlI)) (Jt.nm rfl) ⟨.refl, .wv, trivial⟩ fun x19 s18 => (JN.cons (JN.asgL (em := (eT eI)) (i := 3) rfl (Jv.lstH (em := (eT eI)) (Je.hnil (em := (eT eI))))) fun v20 => (JN.cons (JN.for (inv := fun (s23 : ((List (List Int)))) => [(0, .d (eI many)), (1, .w ((eL (eT eI)) s18)), (2, .d (eI x19)), (3, .own (List.map (eT eI) s23))]) v20 (JS.seqV (em := (eT eI)) (i := 1) (.inr (.inr (.inr (.inr rfl))))) (Jt.nm rfl) ⟨.refl, .refl, .refl, .refl, trivial⟩ fun x24 s23 => (JN.cons (JN.ext (em := (eT eI)) (i := 3) rfl rfl (Jv.lc1 (JI.rng (Jv.litI 0) (Jv.varD (em := eI) 0 rfl nlI)) (Jt.nm rfl) rfl (fun x26 => (Jv.notin lwI (by decide) (seqD_T (em := eI)) (Jv.varD (em := eI) 5 rfl nlI) (Jv.varD (em := (eT eI)) 4 rfl nlT))) (fun x26 => (Jv.addT (Jv.varD (em := (eT eI)) 4 rfl nlT) (Jv.tupH (em := eI) (Je.hcons rfl (Jv.varD (em := eI) 5 rfl nlI) (Je.hnil (em := eI)))))))) fun v25 => (JN.nil (x := v25) ⟨.refl, .refl, .refl, .refl, trivial⟩))) fun s23 => (JN.cons (JN.asgO (i := 1) (j := 3) rfl rfl) fun _ => (JN.nil (x := s23) ⟨.refl, .wf, trivial⟩))))) fun s18 => (Jr.retW (em := (eL (eT eI))) (j := 1) rfl))))

@[irreducible] noncomputable def m_law_finds (most : Int) : M (Int × (List (List Int))) := opq
  (bnd (m2 (fun x y => rtn (x, y)) (m2 (fun x y => rtn (x + y)) (rtn (1 : Int)) (bnd (m2 (fun x y => rtn (x :: y)) (rtn (0 : Int)) (m2 (fun x y => rtn (x :: y)) (rtn (1 : Int)) (m2 (fun x y => rtn (x :: y)) (rtn (2 : Int)) (m2 (fun x y => rtn (x :: y)) (rtn (3 : Int)) (m2 (fun x y => rtn (x :: y)) (rtn (4 : Int)) (m2 (fun x y => rtn (x :: y)) (rtn (4 : Int)) (rtn []))))))) fun a2 => mAny Kd a2)) (m2 (fun x y => rtn (x, y)) (m2 (fun x y => rtn (maxZ x y)) (rtn (1 : Int)) (m2 (fun x y => rtn (x - y)) (rtn most) (bnd (m2 (fun x y => rtn (x :: y)) (rtn (0 : Int)) (m2 (fun x y => rtn (x :: y)) (rtn (0 : Int)) (m2 (fun x y => rtn (x :: y)) (rtn (0 : Int)) (m2 (fun x y => rtn (x :: y)) (rtn (1 : Int)) (m2 (fun x y => rtn (x :: y)) (rtn (1 : Int)) (m2 (fun x y => rtn (x :: y)) (rtn (2 : Int)) (m2 (fun x y => rtn (x :: y)) (rtn (4 : Int)) (rtn [])))))))) fun a3 => mAny Kd a3))) (m2 (fun x y => rtn (x, y)) (rtn ([] : List (List Int))) (rtn ())))) fun v1 => (mIf (m2 (fun x y => rtn (decide (x = y))) (bnd (rtn (2 : Int)) fun a4 => mDraw Kd a4) (rtn (0 : Int))) (bnd (bnd (m2 (fun x y => mRng x y) (rtn (0 : Int)) (rtn v1.2.1)) fun xs => mFold (fun (x9 : Int) (s8 : ((List (List Int)))) => (bnd (bnd (m1 (mLst (fun (x11 : Int) => (m2 (fun x y => rtn (decide (x = y))) (bnd (rtn (3 : Int)) fun a12 => mDraw Kd a12) (rtn (0 : Int)))) (fun (x11 : Int) => (rtn x11))) (m2 (fun x y => mRng x y) (rtn (0 : Int)) (rtn v1.1))) fun x => mApp s8 x) fun v10 => (rtn v10))) xs v1.2.2.1) fun s8 => (m2 (fun x y => rtn (x, y)) (rtn v1.1) (rtn s8))) (bnd (rtn ([] : List (Int × Int))) fun v13 => (bnd (bnd (m2 (fun x y => mRng x y) (rtn (0 : Int)) (rtn v1.1)) fun xs => mFold (fun (x19 : Int) (s18 : ((List (Int × Int)))) => (bnd (bnd (rtn v1.2.1) fun a21 => mDraw Kd a21) fun v20 => (bnd (bnd (m2 (fun x y => rtn (x, y)) (rtn v20) (m2 (fun x y => rtn (x + y)) (rtn v20) (bnd (rtn (3 : Int)) fun a23 => mDraw Kd a23))) fun x => mApp s18 x) fun v22 => (rtn v22)))) xs v13) fun s18 => (bnd (bnd (m2 (fun x y => bnd (mRng x y) mCut) (rtn (0 : Int)) (rtn v1.2.1)) fun a25 => mMixed Kd a25) fun v24 => (bnd (bnd (m2 (fun x y => mRng x y) (rtn (0 : Int)) (rtn v1.2.1)) fun xs => mFold (fun (x29 : Int) (s28 : ((List (List Int)))) => (bnd (bnd (m1 (mLst (fun (x31 : Int) => (bnd (bnd (m2 (fun x i => opt (L2.atI x i)) (rtn s18) (rtn x31)) fun x => rtn x.1) fun x => bnd (m2 (fun x i => opt (L2.atI x i)) (rtn v24) (rtn x29)) fun y => if relI .le x y = true then bnd (bnd (m2 (fun x i => opt (L2.atI x i)) (rtn s18) (rtn x31)) fun x => rtn x.2) fun w => rtn (relI .le y w) else rtn false)) (fun (x31 : Int) => (rtn x31))) (m2 (fun x y => mRng x y) (rtn (0 : Int)) (rtn v1.1))) fun x => mApp s28 x) fun v30 => (rtn v30))) xs v1.2.2.1) fun s28 => (bnd (mIf (m2 (fun x y => rtn (decide (x = y))) (bnd (rtn (4 : Int)) fun a32 => mDraw Kd a32) (rtn (0 : Int))) (bnd (m2 (fun x y => rtn (x, y)) (bnd (rtn v1.2.1) fun a40 => mDraw Kd a40) (m2 (fun x y => rtn (x, y)) (bnd (rtn v1.1) fun a41 => mDraw Kd a41) (rtn ()))) fun v39 => (bnd (bnd (m1 (mLst (fun (x43 : Int) => (m2 (fun x y => rtn (!decide (x = y))) (m2 (fun x y => rtn (decide (x ∈ y))) (rtn x43) (m2 (fun x i => opt (L2.atI x i)) (rtn s28) (rtn v39.1))) (m2 (fun x y => rtn (decide (x = y))) (rtn x43) (rtn v39.2.1)))) (fun (x43 : Int) => (rtn x43))) (m2 (fun x y => mRng x y) (rtn (0 : Int)) (rtn v1.1))) fun v => bnd (rtn v39.1) fun j => mSet s28 j v) fun v42 => (rtn v42))) (rtn s28)) fun s33 => (m2 (fun x y => rtn (x, y)) (rtn v1.1) (rtn s33)))))))))
theorem J_law_finds (k : Nat) (most : Int) : Jf (ph law (k + 3) 23) [.hand, .d (eI most)] (m_law_finds most) .d (e2 eI (eT (eT eI))) :=
  Jf.law (q := q_law_finds) rfl (by unfold m_law_finds; rw [opq_eq]; exact Jf.ofR rfl rfl (Jr.cons (JN.par (Jp.consD (em := eI) rfl rfl (Jv.addI (Jv.litI 1) (Jv.callH1 (em0 := (eL eI)) (ih := 0) rfl (Jv.lstH (em := eI) (Je.hcons rfl (Jv.litI 0) (Je.hcons rfl (Jv.litI 1) (Je.hcons rfl (Jv.litI 2) (Je.hcons rfl (Jv.litI 3) (Je.hcons rfl (Jv.litI 4) (Je.hcons rfl (Jv.litI 4) (Je.hnil (em := eI))))))))) (fun a2 => J_law_any eI k a2))) (Jp.consD (em := eI) rfl rfl (Jv.max2 (Jv.litI 1) (Jv.subI (Jv.varD (em := eI) 1 rfl nlI) (Jv.callH1 (em0 := (eL eI)) (ih := 0) rfl (Jv.lstH (em := eI) (Je.hcons rfl (Jv.litI 0) (Je.hcons rfl (Jv.litI 0) (Je.hcons rfl (Jv.litI 0) (Je.hcons rfl (Jv.litI 1) (Je.hcons rfl (Jv.litI 1) (Je.hcons rfl (Jv.litI 2) (Je.hcons rfl (Jv.litI 4) (Je.hnil (em := eI)))))))))) (fun a3 => J_law_any eI k a3)))) (Jp.consL (em := (eT eI)) rfl (Jv.lstH (em := (eT eI)) (Je.hnil (em := (eT eI)))) Jp.nil)))) fun v1 => (Jr.iffR (Jv.eq lwI (by decide) (Jv.callH1 (em0 := eI) (ih := 0) rfl (Jv.litI 2) (fun a4 => J_law_draw (k + 1) a4)) (Jv.litI 0)) (Jr.cons (JN.for (inv := fun (s8 : ((List (List Int)))) => [(0, .hand), (1, .d (eI most)), (2, .d (eI v1.1)), (3, .d (eI v1.2.1)), (4, .own (List.map (eT eI) s8))]) v1.2.2.1 (JS.rng (Jv.litI 0) (Jv.varD (em := eI) 3 rfl nlI)) (Jt.nm rfl) ⟨.refl, .refl, .refl, .refl, .refl, trivial⟩ fun x9 s8 => (JN.cons (JN.app (em := (eT eI)) (i := 4) rfl rfl (Jv.tuple (seqD_L (em := eI)) (Jv.lc1 (JI.rng (Jv.litI 0) (Jv.varD (em := eI) 2 rfl nlI)) (Jt.nm rfl) rfl (fun x11 => (Jv.eq lwI (by decide) (Jv.callH1 (em0 := eI) (ih := 0) rfl (Jv.litI 3) (fun a12 => J_law_draw (k + 1) a12)) (Jv.litI 0))) (fun x11 => (Jv.varD (em := eI) 6 rfl nlI))))) fun v10 => (JN.nil (x := v10) ⟨.refl, .refl, .refl, .refl, .refl, trivial⟩))) fun s8 => (Jr.ret1 rfl (Jv.tup2 rfl rfl (Jv.varD (em := eI) 2 rfl nlI) (Jv.tuple (seqD_L (em := (eT eI))) (Jv.varO (em := (eT eI)) 4 rfl))))) (Jr.cons (JN.asgL (em := (e2 eI eI)) (i := 5) rfl (Jv.lstH (em := (e2 eI eI)) (Je.hnil (em := (e2 eI eI))))) fun v13 => (Jr.cons (JN.for (inv := fun (s18 : ((List (Int × Int)))) => [(0, .hand), (1, .d (eI most)), (2, .d (eI v1.1)), (3, .d (eI v1.2.1)), (4, .own (List.map (eT eI) v1.2.2.1)), (5, .own (List.map (e2 eI eI) s18))]) v13 (JS.rng (Jv.litI 0) (Jv.varD (em := eI) 2 rfl nlI)) (Jt.nm rfl) ⟨.refl, .refl, .refl, .refl, .refl, .refl, trivial⟩ fun x19 s18 => (JN.cons (JN.asg (em := eI) (i := 9) rfl rfl (Jv.callH1 (em0 := eI) (ih := 0) rfl (Jv.varD (em := eI) 3 rfl nlI) (fun a21 => J_law_draw (k + 1) a21))) fun v20 => (JN.cons (JN.app (em := (e2 eI eI)) (i := 5) rfl rfl (Jv.tup2 rfl rfl (Jv.varD (em := eI) 9 rfl nlI) (Jv.addI (Jv.varD (em := eI) 9 rfl nlI) (Jv.callH1 (em0 := eI) (ih := 0) rfl (Jv.litI 3) (fun a23 => J_law_draw (k + 1) a23))))) fun v22 => (JN.nil (x := v22) ⟨.refl, .refl, .refl, .refl, .refl, .refl, trivial⟩)))) fun s18 => (Jr.cons (JN.asgW (em := (eL eI)) (i := 7) rfl rfl (Jv.callH1 (em0 := (eL eI)) (ih := 0) rfl (Jv.lrng (Jv.litI 0) (Jv.varD (em := eI) 3 rfl nlI)) (fun a25 => J_law_mixedL eI k a25))) fun v24 => (Jr.cons (JN.for (inv := fun (s28 : ((List (List Int)))) => [(0, .hand), (1, .d (eI most)), (2, .d (eI v1.1)), (3, .d (eI v1.2.1)), (4, .own (List.map (eT eI) s28)), (5, .own (List.map (e2 eI eI) s18)), (7, .v ((eL eI) v24))]) v1.2.2.1 (JS.rng (Jv.litI 0) (Jv.varD (em := eI) 3 rfl nlI)) (Jt.nm rfl) ⟨.refl, .refl, .refl, .refl, .refl, .refl, .refl, trivial⟩ fun x29 s28 => (JN.cons (JN.app (em := (eT eI)) (i := 4) rfl rfl (Jv.tuple (seqD_L (em := eI)) (Jv.lc1 (JI.rng (Jv.litI 0) (Jv.varD (em := eI) 2 rfl nlI)) (Jt.nm rfl) rfl (fun x31 => (Jv.chnI (o := .le) (o' := .le) rfl rfl (Jv.ixG (eb := eI) (ea := (e2 eI eI)) (Jv.ix (seqD_L (em := (e2 eI eI))) (Jv.varO (em := (e2 eI eI)) 5 rfl) (Jv.varD (em := eI) 6 rfl nlI)) (Jv.litI 0) (fun x => x.1) fun _ => rfl) (Jv.ix (seqD_L (em := eI)) (Jv.varV (em := (eL eI)) 7 rfl) (Jv.varD (em := eI) 8 rfl nlI)) (Jv.ixG (eb := eI) (ea := (e2 eI eI)) (Jv.ix (seqD_L (em := (e2 eI eI))) (Jv.varO (em := (e2 eI eI)) 5 rfl) (Jv.varD (em := eI) 6 rfl nlI)) (Jv.litI 1) (fun x => x.2) fun _ => rfl))) (fun x31 => (Jv.varD (em := eI) 6 rfl nlI))))) fun v30 => (JN.nil (x := v30) ⟨.refl, .refl, .refl, .refl, .refl, .refl, .refl, trivial⟩))) fun s28 => (Jr.cons (p1 := fun (s33 : ((List (List Int)))) => [(0, .hand), (1, .d (eI most)), (2, .d (eI v1.1)), (3, .d (eI v1.2.1)), (4, .own (List.map (eT eI) s33)), (5, .own (List.map (e2 eI eI) s18)), (7, .v ((eL eI) v24))]) (JN.iff (Jv.eq lwI (by decide) (Jv.callH1 (em0 := eI) (ih := 0) rfl (Jv.litI 4) (fun a32 => J_law_draw (k + 1) a32)) (Jv.litI 0)) (JN.cons (JN.par (Jp.consD (em := eI) rfl rfl (Jv.callH1 (em0 := eI) (ih := 0) rfl (Jv.varD (em := eI) 3 rfl nlI) (fun a40 => J_law_draw (k + 1) a40)) (Jp.consD (em := eI) rfl rfl (Jv.callH1 (em0 := eI) (ih := 0) rfl (Jv.varD (em := eI) 2 rfl nlI) (fun a41 => J_law_draw (k + 1) a41)) Jp.nil))) fun v39 => (JN.cons (JN.setL (em := (eT eI)) (i := 4) rfl rfl (Jv.tuple (seqD_L (em := eI)) (Jv.lc1 (JI.rng (Jv.litI 0) (Jv.varD (em := eI) 2 rfl nlI)) (Jt.nm rfl) rfl (fun x43 => (Jv.ne lwB (by decide) (Jv.isin lwI (by decide) (seqD_T (em := eI)) (Jv.varD (em := eI) 11 rfl nlI) (Jv.ix (seqD_L (em := (eT eI))) (Jv.varO (em := (eT eI)) 4 rfl) (Jv.varD (em := eI) 10 rfl nlI))) (Jv.eq lwI (by decide) (Jv.varD (em := eI) 11 rfl nlI) (Jv.varD (em := eI) 6 rfl nlI)))) (fun x43 => (Jv.varD (em := eI) 11 rfl nlI)))) (Jv.varD (em := eI) 10 rfl nlI)) fun v42 => (JN.nil (x := v42) ⟨.refl, .refl, .refl, .refl, .refl, .refl, .refl, trivial⟩))) (JN.nil (x := s28) ⟨.refl, .refl, .refl, .refl, .refl, .refl, .refl, trivial⟩)) fun s33 => (Jr.ret1 rfl (Jv.tup2 rfl rfl (Jv.varD (em := eI) 2 rfl nlI) (Jv.tuple (seqD_L (em := (eT eI))) (Jv.varO (em := (eT eI)) 4 rfl))))))))))))

@[irreducible] noncomputable def m_law_spans (wide : Int) (finds : (List (List Int))) (order : (List Int)) : M (List (Option (Int × Int))) := opq
  (bnd (rtn ([] : List (Option (Int × Int)))) fun v1 => (bnd (bnd (m2 (fun x y => mRng x y) (rtn (0 : Int)) (rtn wide)) fun xs => mFold (fun (x6 : Int) (s5 : ((List (Option (Int × Int))))) => (bnd (m1 (mLst (fun (x8 : (Int × Int)) => (m2 (fun x y => rtn (decide (x ∈ y))) (rtn x6) (m2 (fun x i => opt (L2.atI x i)) (rtn finds) (rtn x8.2)))) (fun (x8 : (Int × Int)) => (rtn x8.1))) (m1 (fun x => rtn (enumZ x)) (rtn order))) fun v7 => (bnd (bnd (mIf (m2 (fun x y => rtn (decide (y < x))) (m1 (fun x => rtn (x.length : Int)) (rtn v7)) (rtn (0 : Int))) (bnd (m2 (fun x y => rtn (x, y)) (m2 (fun x i => opt (L2.atI x i)) (rtn v7) (rtn (0 : Int))) (m2 (fun x i => opt (L2.atI x i)) (rtn v7) (m1 (fun x => rtn (-x)) (rtn (1 : Int))))) fun a => rtn (some a)) (rtn (none : Option (Int × Int)))) fun x => mApp s5 x) fun v9 => (rtn v9)))) xs v1) fun s5 => (rtn s5)))
theorem J_law_spans (k : Nat) (wide : Int) (finds : (List (List Int))) (order : (List Int)) : Jf (ph law (k + 1) 24) [.d (eI wide), .d ((eT (eT eI)) finds), .d ((eT eI) order)] (m_law_spans wide finds order) .d (eT (eO (e2 eI eI))) :=
  Jf.law (q := q_law_spans) rfl (by unfold m_law_spans; rw [opq_eq]; exact Jf.ofR rfl rfl (Jr.cons (JN.asgL (em := (eO (e2 eI eI))) (i := 3) rfl (Jv.lstH (em := (eO (e2 eI eI))) (Je.hnil (em := (eO (e2 eI eI)))))) fun v1 => (Jr.cons (JN.for (inv := fun (s5 : ((List (Option (Int × Int))))) => [(0, .d (eI wide)), (1, .d ((eT (eT eI)) finds)), (2, .d ((eT eI) order)), (3, .own (List.map (eO (e2 eI eI)) s5))]) v1 (JS.rng (Jv.litI 0) (Jv.varD (em := eI) 0 rfl nlI)) (Jt.nm rfl) ⟨.refl, .refl, .refl, .refl, trivial⟩ fun x6 s5 => (JN.cons (JN.asgW (em := (eL eI)) (i := 5) rfl rfl (Jv.lc1 (JI.enum (seqD_T (em := eI)) (Jv.varD (em := (eT eI)) 2 rfl nlT)) (Jt.two (Jt.nm rfl) (Jt.nm rfl)) rfl (fun x8 => (Jv.isin lwI (by decide) (seqD_T (em := eI)) (Jv.varD (em := eI) 4 rfl nlI) (Jv.ix (seqD_T (em := (eT eI))) (Jv.varD (em := (eT (eT eI))) 1 rfl nlT) (Jv.varD (em := eI) 7 rfl nlI)))) (fun x8 => (Jv.varD (em := eI) 6 rfl nlI)))) fun v7 => (JN.cons (JN.app (em := (eO (e2 eI eI))) (i := 3) rfl rfl (Jv.ite (Jv.gtI (Jv.len (seqD_L (em := eI)) (Jv.varV (em := (eL eI)) 5 rfl)) (Jv.litI 0)) (Jv.sm (Jv.tup2 rfl rfl (Jv.ix (seqD_L (em := eI)) (Jv.varV (em := (eL eI)) 5 rfl) (Jv.litI 0)) (Jv.ix (seqD_L (em := eI)) (Jv.varV (em := (eL eI)) 5 rfl) (Jv.neg (Jv.litI 1))))) (Jv.litN (em := (e2 eI eI))))) fun v9 => (JN.nil (x := v9) ⟨.refl, .refl, .refl, .refl, trivial⟩)))) fun s5 => (Jr.ret1 rfl (Jv.tuple (seqD_L (em := (eO (e2 eI eI)))) (Jv.varO (em := (eO (e2 eI eI))) 3 rfl))))))

@[irreducible] noncomputable def m_law_breaks (wide : Int) (finds : (List (List Int))) (order : (List Int)) : M Int := opq
  (bnd (rtn (0 : Int)) fun v1 => (bnd (bnd (m1 (fun x => rtn (enumZ x)) (bnd (rtn wide) fun a11 => (bnd (rtn finds) fun a12 => (bnd (rtn order) fun a13 => m_law_spans a11 a12 a13)))) fun xs => mFold (fun (x14 : (Int × (Option (Int × Int)))) (s10 : (Int)) => (bnd (mIf (m1 (fun x => rtn (!isNon ((eO (e2 eI eI)) x))) (rtn x14.2)) (bnd (m2 (fun x y => rtn (x - y)) (m2 (fun x y => rtn (x + y)) (m2 (fun x y => rtn (x - y)) (m2 (fun x y => rtn (x + y)) (rtn s10) (bnd (bnd (rtn x14.2) opt) fun x => rtn x.2)) (bnd (bnd (rtn x14.2) opt) fun x => rtn x.1)) (rtn (1 : Int))) (m1 (fun x => rtn (x.length : Int)) (m1 (mLst (fun (x19 : (List Int)) => (m2 (fun x y => rtn (decide (x ∈ y))) (rtn x14.1) (rtn x19))) (fun (x19 : (List Int)) => (rtn x19))) (rtn finds)))) fun v18 => (rtn v18)) (rtn s10)) fun s15 => (rtn s15))) xs v1) fun s10 => (rtn s10)))
theorem J_law_breaks (k : Nat) (wide : Int) (finds : (List (List Int))) (order : (List Int)) : Jf (ph law (k + 2) 25) [.d (eI wide), .d ((eT (eT eI)) finds), .d ((eT eI) order)] (m_law_breaks wide finds order) .d eI :=
  Jf.law (q := q_law_breaks) rfl (by unfold m_law_breaks; rw [opq_eq]; exact Jf.ofR rfl rfl (Jr.cons (JN.asg (em := eI) (i := 3) rfl rfl (Jv.litI 0)) fun v1 => (Jr.cons (JN.for (inv := fun (s10 : (Int)) => [(0, .d (eI wide)), (1, .d ((eT (eT eI)) finds)), (2, .d ((eT eI) order)), (3, .d (eI s10))]) v1 (JS.enumE (seqD_T (em := (eO (e2 eI eI)))) rfl (Jv.call3 (em0 := eI) (em1 := (eT (eT eI))) (em2 := (eT eI)) (Jv.varD (em := eI) 0 rfl nlI) (Jv.varD (em := (eT (eT eI))) 1 rfl nlT) (Jv.varD (em := (eT eI)) 2 rfl nlT) (fun a11 a12 a13 => J_law_spans k a11 a12 a13))) (Jt.two (Jt.nm rfl) (Jt.nm rfl)) ⟨.refl, .refl, .refl, .refl, trivial⟩ fun x14 s10 => (JN.cons (p1 := fun (s15 : (Int)) => [(0, .d (eI wide)), (1, .d ((eT (eT eI)) finds)), (2, .d ((eT eI) order)), (3, .d (eI s15)), (4, .d (eI x14.1)), (5, .d ((eO (e2 eI eI)) x14.2))]) (JN.iff (Jv.isnotN (ea := (eO (e2 eI eI))) (Jv.varD (em := (eO (e2 eI eI))) 5 rfl (nlO nl2))) (JN.cons (JN.asg (em := eI) (i := 3) rfl rfl (Jv.subI (Jv.addI (Jv.subI (Jv.addI (Jv.varD (em := eI) 3 rfl nlI) (Jv.ixG (eb := eI) (ea := (e2 eI eI)) (Jv.un (Jv.varD (em := (eO (e2 eI eI))) 5 rfl (nlO nl2))) (Jv.litI 1) (fun x => x.2) fun _ => rfl)) (Jv.ixG (eb := eI) (ea := (e2 eI eI)) (Jv.un (Jv.varD (em := (eO (e2 eI eI))) 5 rfl (nlO nl2))) (Jv.litI 0) (fun x => x.1) fun _ => rfl)) (Jv.litI 1)) (Jv.len (seqD_L (em := (eT eI))) (Jv.lc1 (JI.seq (seqD_T (em := (eT eI))) (Jv.varD (em := (eT (eT eI))) 1 rfl nlT)) (Jt.nm rfl) rfl (fun x19 => (Jv.isin lwI (by decide) (seqD_T (em := eI)) (Jv.varD (em := eI) 4 rfl nlI) (Jv.varD (em := (eT eI)) 6 rfl nlT))) (fun x19 => (Jv.varD (em := (eT eI)) 6 rfl nlT)))))) fun v18 => (JN.nil (x := v18) ⟨.refl, .refl, .refl, .refl, .refl, .refl, trivial⟩)) (JN.nil (x := s10) ⟨.refl, .refl, .refl, .refl, .refl, .refl, trivial⟩)) fun s15 => (JN.nil (x := s15) ⟨.refl, .refl, .refl, .refl, trivial⟩))) fun s10 => (Jr.ret1 rfl (Jv.varD (em := eI) 3 rfl nlI)))))

@[irreducible] noncomputable def m_law_is_right (wide : Int) (finds : (List (List Int))) : M Bool := opq
  (bnd (m1 (fun x => rtn (x.length : Int)) (rtn finds)) fun v1 => (bndR (bnd (m2 (fun x y => mRng x y) (rtn (0 : Int)) (rtn (4 : Int))) fun xs => mFoldF (fun (x42 : Int) (s41 : Unit) => (bnd (bnd (m2 (fun x y => bnd (mRng x y) mCut) (rtn (0 : Int)) (rtn v1)) fun a44 => mMixed Kd a44) fun v43 => (bnd (m2 (fun x y => rtn (x, y)) (bnd (rtn wide) fun a46 => (bnd (rtn finds) fun a47 => (bnd (rtn v43) fun a48 => m_law_spans a46 a47 a48))) (m2 (fun x y => rtn (x, y)) (bnd (rtn wide) fun a49 => (bnd (rtn finds) fun a50 => (bnd (rtn v43) fun a51 => m_law_breaks a49 a50 a51))) (rtn ()))) fun v45 => (mIf (m1 (fun x => rtn (!x)) (bnd (m2 (fun x y => rtn (x, y)) (bnd (rtn wide) fun a58 => (bnd (rtn finds) fun a59 => (bnd (rtn v43) fun a60 => m_spans_of a58 a59 a60))) (bnd (rtn wide) fun a61 => (bnd (rtn finds) fun a62 => (bnd (rtn v43) fun a63 => m_breaks_of a61 a62 a63)))) fun a64 => (bnd (m2 (fun x y => rtn (x, y)) (rtn v45.1) (rtn v45.2.1)) fun a65 => mSm 4 ((l2 (eT (eO (e2 eI eI))) eI) a64) ((l2 (eT (eO (e2 eI eI))) eI) a65)))) (out (rtn false)) (bnd (m1 (mLst (fun (x67 : (Option (Int × Int))) => (rtn true)) (fun (x67 : (Option (Int × Int))) => (mIf (m1 (fun x => rtn (isNon ((eO (e2 eI eI)) x))) (rtn x67)) (rtn (none : Option (Int × Int))) (bnd (m2 (fun x y => rtn (x, y)) (m2 (fun x y => rtn (x - y)) (m2 (fun x y => rtn (x - y)) (rtn v1) (rtn (1 : Int))) (bnd (bnd (rtn x67) opt) fun x => rtn x.2)) (m2 (fun x y => rtn (x - y)) (m2 (fun x y => rtn (x - y)) (rtn v1) (rtn (1 : Int))) (bnd (bnd (rtn x67) opt) fun x => rtn x.1))) fun a => rtn (some a))))) (rtn v45.1)) fun v66 => (mIf (m1 (fun x => rtn (!x)) (bnd (m2 (fun x y => rtn (x, y)) (bnd (rtn wide) fun a74 => (bnd (rtn finds) fun a75 => (bnd (m1 (fun x => rtn x.reverse) (rtn v43)) fun a76 => m_spans_of a74 a75 a76))) (bnd (rtn wide) fun a77 => (bnd (rtn finds) fun a78 => (bnd (m1 (fun x => rtn x.reverse) (rtn v43)) fun a79 => m_breaks_of a77 a78 a79)))) fun a80 => (bnd (m2 (fun x y => rtn (x, y)) (rtn v66) (rtn v45.2.1)) fun a81 => mSm 4 ((l2 (eT (eO (e2 eI eI))) eI) a80) ((l2 (eT (eO (e2 eI eI))) eI) a81)))) (out (rtn false)) (rtn (.nxt ())))))))) xs ()) fun s41 => (bnd (m1 (mMin (lt2 ltZ (ltL ltZ))) (m1 (mLst (fun (x84 : (List Int)) => (rtn true)) (fun (x84 : (List Int)) => (m2 (fun x y => rtn (x, y)) (bnd (rtn wide) fun a85 => (bnd (rtn finds) fun a86 => (bnd (rtn x84) fun a87 => m_law_breaks a85 a86 a87))) (rtn x84)))) (bnd (rtn v1) fun a83 => m_law_orders a83))) fun v82 => (mIf (m1 (fun x => rtn (!x)) (bnd (bnd (rtn wide) fun a88 => (bnd (rtn finds) fun a89 => m_least_breaks a88 a89)) fun a90 => (bnd (bnd (rtn v82) fun a => rtn (some a)) fun a91 => mSm 3 ((eO (e2 eI (eT eI))) a90) ((eO (e2 eI (eT eI))) a91)))) (rtn false) (bnd (bnd (rtn wide) fun a93 => (bnd (rtn finds) fun a94 => (bnd (rtn ([] : List (Int × Int))) fun a95 => m_age_orders a93 a94 a95))) fun v92 => (mIf (mOr (m2 (fun x y => rtn (!decide (x = y))) (m2 (fun x y => rtn (decide (x = y))) (bnd (rtn v82) fun x => rtn x.1) (rtn (0 : Int))) (m2 (fun x y => rtn (decide (y < x))) (m1 (fun x => rtn (x.length : Int)) (rtn v92)) (rtn (0 : Int)))) (mAnd (m2 (fun x y => rtn (decide (y < x))) (m1 (fun x => rtn (x.length : Int)) (rtn v92)) (rtn (0 : Int))) (m2 (fun x y => rtn (!decide (x = y))) (m2 (fun x i => opt (L2.atI x i)) (rtn v92) (rtn (0 : Int))) (bnd (rtn v82) fun x => rtn x.2)))) (rtn false) (bnd (bnd (rtn finds) fun a97 => mMixed Kd a97) fun v96 => (m2 (fun x y => rtn (decide (x = y))) (bnd (bnd (bnd (rtn wide) fun a98 => (bnd (rtn v96) fun a99 => m_least_breaks a98 a99)) opt) fun x => rtn x.1) (bnd (rtn v82) fun x => rtn x.1)))))))))
theorem J_law_is_right (k : Nat) (wide : Int) (finds : (List (List Int))) : Jf (ph law (k + 7) 26) [.hand, .d (eI wide), .d ((eT (eT eI)) finds)] (m_law_is_right wide finds) .d eB :=
  Jf.law (q := q_law_is_right) rfl (by unfold m_law_is_right; rw [opq_eq]; exact Jf.ofR rfl rfl (Jr.cons (JN.asg (em := eI) (i := 3) rfl rfl (Jv.len (seqD_T (em := (eT eI))) (Jv.varD (em := (eT (eT eI))) 2 rfl nlT))) fun v1 => (Jr.seq (JF.for (inv := fun (s41 : Unit) => [(0, .hand), (1, .d (eI wide)), (2, .d ((eT (eT eI)) finds)), (3, .d (eI v1))]) () (JS.rng (Jv.litI 0) (Jv.litI 4)) (Jt.nm rfl) ⟨.refl, .refl, .refl, .refl, trivial⟩ fun x42 s41 => (JF.cons (JN.asg (em := (eT eI)) (i := 8) rfl rfl (Jv.tuple (seqD_L (em := eI)) (Jv.callH1 (em0 := (eL eI)) (ih := 0) rfl (Jv.lrng (Jv.litI 0) (Jv.varD (em := eI) 3 rfl nlI)) (fun a44 => J_law_mixedL eI (k + 4) a44)))) fun v43 => (JF.cons (JN.par (Jp.consD (em := (eT (eO (e2 eI eI)))) rfl rfl (Jv.call3 (em0 := eI) (em1 := (eT (eT eI))) (em2 := (eT eI)) (Jv.varD (em := eI) 1 rfl nlI) (Jv.varD (em := (eT (eT eI))) 2 rfl nlT) (Jv.varD (em := (eT eI)) 8 rfl nlT) (fun a46 a47 a48 => J_law_spans (k + 5) a46 a47 a48)) (Jp.consD (em := eI) rfl rfl (Jv.call3 (em0 := eI) (em1 := (eT (eT eI))) (em2 := (eT eI)) (Jv.varD (em := eI) 1 rfl nlI) (Jv.varD (em := (eT (eT eI))) 2 rfl nlT) (Jv.varD (em := (eT eI)) 8 rfl nlT) (fun a49 a50 a51 => J_law_breaks (k + 4) a49 a50 a51)) Jp.nil))) fun v45 => (JF.iffR (Jv.not (Jv.call2 (em0 := (l2 (eT (eO (e2 eI eI))) eI)) (em1 := (l2 (eT (eO (e2 eI eI))) eI)) (Jv.lst2 rfl rfl (Jv.call3 (em0 := eI) (em1 := (eT (eT eI))) (em2 := (eT eI)) (Jv.varD (em := eI) 1 rfl nlI) (Jv.varD (em := (eT (eT eI))) 2 rfl nlT) (Jv.varD (em := (eT eI)) 8 rfl nlT) (fun a58 a59 a60 => J_spans_of k a58 a59 a60)) (Jv.call3 (em0 := eI) (em1 := (eT (eT eI))) (em2 := (eT eI)) (Jv.varD (em := eI) 1 rfl nlI) (Jv.varD (em := (eT (eT eI))) 2 rfl nlT) (Jv.varD (em := (eT eI)) 8 rfl nlT) (fun a61 a62 a63 => J_breaks_of k a61 a62 a63))) (Jv.lst2 rfl rfl (Jv.varD (em := (eT (eO (e2 eI eI)))) 9 rfl nlT) (Jv.varD (em := eI) 10 rfl nlI)) (fun a64 a65 => J_law_same (k + 2) 4 ((l2 (eT (eO (e2 eI eI))) eI) a64) ((l2 (eT (eO (e2 eI eI))) eI) a65)))) (Jr.ret1 rfl (Jv.litB false)) (JF.cons (JN.asg (em := (eT (eO (e2 eI eI)))) (i := 11) rfl rfl (Jv.tuple (seqD_L (em := (eO (e2 eI eI)))) (Jv.lc1 (JI.seq (seqD_T (em := (eO (e2 eI eI)))) (Jv.varD (em := (eT (eO (e2 eI eI)))) 9 rfl nlT)) (Jt.nm rfl) rfl (fun x67 => (Jv.litB true)) (fun x67 => (Jv.ite (Jv.isN (ea := (eO (e2 eI eI))) (Jv.varD (em := (eO (e2 eI eI))) 12 rfl (nlO nl2))) (Jv.litN (em := (e2 eI eI))) (Jv.sm (Jv.tup2 rfl rfl (Jv.subI (Jv.subI (Jv.varD (em := eI) 3 rfl nlI) (Jv.litI 1)) (Jv.ixG (eb := eI) (ea := (e2 eI eI)) (Jv.un (Jv.varD (em := (eO (e2 eI eI))) 12 rfl (nlO nl2))) (Jv.litI 1) (fun x => x.2) fun _ => rfl)) (Jv.subI (Jv.subI (Jv.varD (em := eI) 3 rfl nlI) (Jv.litI 1)) (Jv.ixG (eb := eI) (ea := (e2 eI eI)) (Jv.un (Jv.varD (em := (eO (e2 eI eI))) 12 rfl (nlO nl2))) (Jv.litI 0) (fun x => x.1) fun _ => rfl))))))))) fun v66 => (JF.iffR (Jv.not (Jv.call2 (em0 := (l2 (eT (eO (e2 eI eI))) eI)) (em1 := (l2 (eT (eO (e2 eI eI))) eI)) (Jv.lst2 rfl rfl (Jv.call3 (em0 := eI) (em1 := (eT (eT eI))) (em2 := (eT eI)) (Jv.varD (em := eI) 1 rfl nlI) (Jv.varD (em := (eT (eT eI))) 2 rfl nlT) (Jv.revT (Jv.varD (em := (eT eI)) 8 rfl nlT)) (fun a74 a75 a76 => J_spans_of k a74 a75 a76)) (Jv.call3 (em0 := eI) (em1 := (eT (eT eI))) (em2 := (eT eI)) (Jv.varD (em := eI) 1 rfl nlI) (Jv.varD (em := (eT (eT eI))) 2 rfl nlT) (Jv.revT (Jv.varD (em := (eT eI)) 8 rfl nlT)) (fun a77 a78 a79 => J_breaks_of k a77 a78 a79))) (Jv.lst2 rfl rfl (Jv.varD (em := (eT (eO (e2 eI eI)))) 11 rfl nlT) (Jv.varD (em := eI) 10 rfl nlI)) (fun a80 a81 => J_law_same (k + 2) 4 ((l2 (eT (eO (e2 eI eI))) eI) a80) ((l2 (eT (eO (e2 eI eI))) eI) a81)))) (Jr.ret1 rfl (Jv.litB false)) (JF.nil (x := ()) ⟨.refl, .refl, .refl, .refl, trivial⟩))))))) fun s41 => (Jr.cons (JN.asg (em := (e2 eI (eT eI))) (i := 5) rfl rfl (Jv.min1 (seqD_L (em := (e2 eI (eT eI)))) (sh2 shI (shT shI)) (lw2 lwI (lwT lwI)) (by decide) (lo2 lwI (lwT lwI) loI (loT lwI loI)) (Jv.lc1 (JI.seq (seqD_L (em := (eT eI))) (Jv.call1 (em0 := eI) (Jv.varD (em := eI) 3 rfl nlI) (fun a83 => J_law_orders (k + 5) a83))) (Jt.nm rfl) rfl (fun x84 => (Jv.litB true)) (fun x84 => (Jv.tup2 rfl rfl (Jv.call3 (em0 := eI) (em1 := (eT (eT eI))) (em2 := (eT eI)) (Jv.varD (em := eI) 1 rfl nlI) (Jv.varD (em := (eT (eT eI))) 2 rfl nlT) (Jv.varD (em := (eT eI)) 8 rfl nlT) (fun a85 a86 a87 => J_law_breaks (k + 4) a85 a86 a87)) (Jv.varD (em := (eT eI)) 8 rfl nlT)))))) fun v82 => (Jr.iffR (Jv.not (Jv.call2 (em0 := (eO (e2 eI (eT eI)))) (em1 := (eO (e2 eI (eT eI)))) (Jv.call2 (em0 := eI) (em1 := (eT (eT eI))) (Jv.varD (em := eI) 1 rfl nlI) (Jv.varD (em := (eT (eT eI))) 2 rfl nlT) (fun a88 a89 => J_least_breaks (k + 1) a88 a89)) (Jv.sm (Jv.varD (em := (e2 eI (eT eI))) 5 rfl nl2)) (fun a90 a91 => J_law_same (k + 3) 3 ((eO (e2 eI (eT eI))) a90) ((eO (e2 eI (eT eI))) a91)))) (Jr.ret1 rfl (Jv.litB false)) (Jr.cons (JN.asg (em := (eT (eT eI))) (i := 6) rfl rfl (Jv.call3 (em0 := eI) (em1 := (eT (eT eI))) (em2 := (eT (e2 eI eI))) (Jv.varD (em := eI) 1 rfl nlI) (Jv.varD (em := (eT (eT eI))) 2 rfl nlT) (Jv.tupH (em := (e2 eI eI)) (Je.hnil (em := (e2 eI eI)))) (fun a93 a94 a95 => J_age_orders k a93 a94 a95))) fun v92 => (Jr.iffR (Jv.or (Jv.ne lwB (by decide) (Jv.eq lwI (by decide) (Jv.ixG (eb := eI) (ea := (e2 eI (eT eI))) (Jv.varD (em := (e2 eI (eT eI))) 5 rfl nl2) (Jv.litI 0) (fun x => x.1) fun _ => rfl) (Jv.litI 0)) (Jv.gtI (Jv.len (seqD_T (em := (eT eI))) (Jv.varD (em := (eT (eT eI))) 6 rfl nlT)) (Jv.litI 0))) (Jv.and (Jv.gtI (Jv.len (seqD_T (em := (eT eI))) (Jv.varD (em := (eT (eT eI))) 6 rfl nlT)) (Jv.litI 0)) (Jv.ne (lwT lwI) (by decide) (Jv.ix (seqD_T (em := (eT eI))) (Jv.varD (em := (eT (eT eI))) 6 rfl nlT) (Jv.litI 0)) (Jv.ixG (eb := (eT eI)) (ea := (e2 eI (eT eI))) (Jv.varD (em := (e2 eI (eT eI))) 5 rfl nl2) (Jv.litI 1) (fun x => x.2) fun _ => rfl)))) (Jr.ret1 rfl (Jv.litB false)) (Jr.cons (JN.asg (em := (eT (eT eI))) (i := 7) rfl rfl (Jv.tuple (seqD_L (em := (eT eI))) (Jv.callH1 (em0 := (eL (eT eI))) (ih := 0) rfl (Jv.list (seqD_T (em := (eT eI))) (Jv.varD (em := (eT (eT eI))) 2 rfl nlT)) (fun a97 => J_law_mixedL (eT eI) (k + 4) a97)))) fun v96 => (Jr.ret1 rfl (Jv.eq lwI (by decide) (Jv.ixG (eb := eI) (ea := (e2 eI (eT eI))) (Jv.un (Jv.call2 (em0 := eI) (em1 := (eT (eT eI))) (Jv.varD (em := eI) 1 rfl nlI) (Jv.varD (em := (eT (eT eI))) 7 rfl nlT) (fun a98 a99 => J_least_breaks (k + 1) a98 a99))) (Jv.litI 0) (fun x => x.1) fun _ => rfl) (Jv.ixG (eb := eI) (ea := (e2 eI (eT eI))) (Jv.varD (em := (e2 eI (eT eI))) 5 rfl nl2) (Jv.litI 0) (fun x => x.1) fun _ => rfl)))))))))))

def rest_law : Sts := (.cons (.asg 2 false (.tup (.cons (.tup (.cons (.lit (.int 0)) (.cons (.lit (.int 1)) .nil))) (.cons (.tup (.cons (.lit (.int 2)) .nil)) (.cons (.tup (.cons (.lit (.int 0)) .nil)) (.cons (.tup (.cons (.lit (.int 1)) (.cons (.lit (.int 2)) .nil))) .nil)))))) (.cons (.iff (.not (.call 21 (.cons (.lst (.cons (.call 12 (.cons (.lit (.int 4)) (.cons (.var 2) (.cons (.tup (.cons (.lit (.int 2)) (.cons (.lit (.int 1)) (.cons (.lit (.int 0)) (.cons (.lit (.int 3)) .nil))))) .nil)))) (.cons (.call 14 (.cons (.lit (.int 4)) (.cons (.var 2) (.cons (.tup (.cons (.lit (.int 2)) (.cons (.lit (.int 1)) (.cons (.lit (.int 0)) (.cons (.lit (.int 3)) .nil))))) .nil)))) .nil))) (.cons (.lst (.cons (.tup (.cons (.tup (.cons (.lit (.int 0)) (.cons (.lit (.int 2)) .nil))) (.cons (.tup (.cons (.lit (.int 2)) (.cons (.lit (.int 3)) .nil))) (.cons (.tup (.cons (.lit (.int 1)) (.cons (.lit (.int 3)) .nil))) (.cons (.lit .non) .nil))))) (.cons (.lit (.int 2)) .nil))) .nil)))) (.cons (.ret (.lit (.bl false))) .nil) .nil) (.cons (.iff (.not (.call 21 (.cons (.lst (.cons (.call 16 (.cons (.lit (.int 4)) (.cons (.var 2) .nil))) (.cons (.call 16 (.cons (.lit (.int 1)) (.cons (.tup (.cons (.tup .nil) .nil)) .nil))) (.cons (.call 12 (.cons (.lit (.int 1)) (.cons (.tup (.cons (.tup .nil) (.cons (.tup (.cons (.lit (.int 0)) .nil)) .nil))) (.cons (.tup (.cons (.lit (.int 1)) (.cons (.lit (.int 0)) .nil))) .nil)))) .nil)))) (.cons (.lst (.cons (.tup (.cons (.lit (.int 0)) (.cons (.tup (.cons (.lit (.int 1)) (.cons (.lit (.int 3)) (.cons (.lit (.int 0)) (.cons (.lit (.int 2)) .nil))))) .nil))) (.cons (.tup (.cons (.lit (.int 0)) (.cons (.tup (.cons (.lit (.int 0)) .nil)) .nil))) (.cons (.tup (.cons (.tup (.cons (.lit (.int 0)) (.cons (.lit (.int 0)) .nil))) .nil)) .nil)))) .nil)))) (.cons (.ret (.lit (.bl false))) .nil) .nil) (.cons (.for (.nm 3) (.rng (.lit (.int 0)) (.lit (.int 6))) (.cons (.unp (.two (.nm 4) (.nm 2)) (.call 23 (.cons (.var 1) (.cons (.lit (.int 5)) .nil)))) (.cons (.iff (.not (.call 26 (.cons (.var 1) (.cons (.var 4) (.cons (.var 2) .nil))))) (.cons (.ret (.lit (.bl false))) .nil) .nil) .nil))) (.cons (.ret (.lit (.bl true))) .nil)))))
@[irreducible] noncomputable def m_law : M Bool := opq
  (bnd (m2 (fun x y => rtn (x :: y)) (m2 (fun x y => rtn (x :: y)) (rtn (0 : Int)) (m2 (fun x y => rtn (x :: y)) (rtn (1 : Int)) (rtn []))) (m2 (fun x y => rtn (x :: y)) (m2 (fun x y => rtn (x :: y)) (rtn (2 : Int)) (rtn [])) (m2 (fun x y => rtn (x :: y)) (m2 (fun x y => rtn (x :: y)) (rtn (0 : Int)) (rtn [])) (m2 (fun x y => rtn (x :: y)) (m2 (fun x y => rtn (x :: y)) (rtn (1 : Int)) (m2 (fun x y => rtn (x :: y)) (rtn (2 : Int)) (rtn []))) (rtn []))))) fun v1 => (mIf (m1 (fun x => rtn (!x)) (bnd (m2 (fun x y => rtn (x, y)) (bnd (rtn (4 : Int)) fun a8 => (bnd (rtn v1) fun a9 => (bnd (m2 (fun x y => rtn (x :: y)) (rtn (2 : Int)) (m2 (fun x y => rtn (x :: y)) (rtn (1 : Int)) (m2 (fun x y => rtn (x :: y)) (rtn (0 : Int)) (m2 (fun x y => rtn (x :: y)) (rtn (3 : Int)) (rtn []))))) fun a10 => m_spans_of a8 a9 a10))) (bnd (rtn (4 : Int)) fun a11 => (bnd (rtn v1) fun a12 => (bnd (m2 (fun x y => rtn (x :: y)) (rtn (2 : Int)) (m2 (fun x y => rtn (x :: y)) (rtn (1 : Int)) (m2 (fun x y => rtn (x :: y)) (rtn (0 : Int)) (m2 (fun x y => rtn (x :: y)) (rtn (3 : Int)) (rtn []))))) fun a13 => m_breaks_of a11 a12 a13)))) fun a14 => (bnd (m2 (fun x y => rtn (x, y)) (m2 (fun x y => rtn (x :: y)) (bnd (m2 (fun x y => rtn (x, y)) (rtn (0 : Int)) (rtn (2 : Int))) fun a => rtn (some a)) (m2 (fun x y => rtn (x :: y)) (bnd (m2 (fun x y => rtn (x, y)) (rtn (2 : Int)) (rtn (3 : Int))) fun a => rtn (some a)) (m2 (fun x y => rtn (x :: y)) (bnd (m2 (fun x y => rtn (x, y)) (rtn (1 : Int)) (rtn (3 : Int))) fun a => rtn (some a)) (m2 (fun x y => rtn (x :: y)) (rtn (none : Option (Int × Int))) (rtn []))))) (rtn (2 : Int))) fun a15 => mSm 4 ((l2 (eT (eO (e2 eI eI))) eI) a14) ((l2 (eT (eO (e2 eI eI))) eI) a15)))) (rtn false) (mIf (m1 (fun x => rtn (!x)) (bnd (m3 (fun x y z => rtn (x, y, z)) (bnd (rtn (4 : Int)) fun a23 => (bnd (rtn v1) fun a24 => m_least_breaks a23 a24)) (bnd (rtn (1 : Int)) fun a25 => (bnd (m2 (fun x y => rtn (x :: y)) (rtn ([] : List Int)) (rtn [])) fun a26 => m_least_breaks a25 a26)) (bnd (rtn (1 : Int)) fun a27 => (bnd (m2 (fun x y => rtn (x :: y)) (rtn ([] : List Int)) (m2 (fun x y => rtn (x :: y)) (m2 (fun x y => rtn (x :: y)) (rtn (0 : Int)) (rtn [])) (rtn []))) fun a28 => (bnd (m2 (fun x y => rtn (x :: y)) (rtn (1 : Int)) (m2 (fun x y => rtn (x :: y)) (rtn (0 : Int)) (rtn []))) fun a29 => m_spans_of a27 a28 a29)))) fun a30 => (bnd (m3 (fun x y z => rtn (x, y, z)) (bnd (m2 (fun x y => rtn (x, y)) (rtn (0 : Int)) (m2 (fun x y => rtn (x :: y)) (rtn (1 : Int)) (m2 (fun x y => rtn (x :: y)) (rtn (3 : Int)) (m2 (fun x y => rtn (x :: y)) (rtn (0 : Int)) (m2 (fun x y => rtn (x :: y)) (rtn (2 : Int)) (rtn [])))))) fun a => rtn (some a)) (bnd (m2 (fun x y => rtn (x, y)) (rtn (0 : Int)) (m2 (fun x y => rtn (x :: y)) (rtn (0 : Int)) (rtn []))) fun a => rtn (some a)) (m2 (fun x y => rtn (x :: y)) (bnd (m2 (fun x y => rtn (x, y)) (rtn (0 : Int)) (rtn (0 : Int))) fun a => rtn (some a)) (rtn []))) fun a31 => mSm 4 ((l3 (eO (e2 eI (eT eI))) (eO (e2 eI (eT eI))) (eT (eO (e2 eI eI)))) a30) ((l3 (eO (e2 eI (eT eI))) (eO (e2 eI (eT eI))) (eT (eO (e2 eI eI)))) a31)))) (rtn false) (bndR (bnd (m2 (fun x y => mRng x y) (rtn (0 : Int)) (rtn (6 : Int))) fun xs => mFoldF (fun (x37 : Int) (s36 : ((List (List Int)))) => (bnd (bnd (rtn (5 : Int)) fun a38 => m_law_finds a38) fun v39 => (mIf (m1 (fun x => rtn (!x)) (bnd (rtn v39.1) fun a40 => (bnd (rtn v39.2) fun a41 => m_law_is_right a40 a41))) (out (rtn false)) (rtn (.nxt v39.2))))) xs v1) fun s36 => (rtn true)))))
theorem J_law_rest (k : Nat) : Jr (cx law (k + 7) q_law) (rs (cx law (k + 7) q_law) rest_law) [(1, .hand)] m_law .d eB := by
  unfold m_law
  rw [opq_eq]
  exact (Jr.cons (JN.asg (em := (eT (eT eI))) (i := 2) rfl rfl (Jv.tupH (em := (eT eI)) (Je.hcons rfl (Jv.tupH (em := eI) (Je.hcons rfl (Jv.litI 0) (Je.hcons rfl (Jv.litI 1) (Je.hnil (em := eI))))) (Je.hcons rfl (Jv.tupH (em := eI) (Je.hcons rfl (Jv.litI 2) (Je.hnil (em := eI)))) (Je.hcons rfl (Jv.tupH (em := eI) (Je.hcons rfl (Jv.litI 0) (Je.hnil (em := eI)))) (Je.hcons rfl (Jv.tupH (em := eI) (Je.hcons rfl (Jv.litI 1) (Je.hcons rfl (Jv.litI 2) (Je.hnil (em := eI))))) (Je.hnil (em := (eT eI))))))))) fun v1 => (Jr.iffR (Jv.not (Jv.call2 (em0 := (l2 (eT (eO (e2 eI eI))) eI)) (em1 := (l2 (eT (eO (e2 eI eI))) eI)) (Jv.lst2 rfl rfl (Jv.call3 (em0 := eI) (em1 := (eT (eT eI))) (em2 := (eT eI)) (Jv.litI 4) (Jv.varD (em := (eT (eT eI))) 2 rfl nlT) (Jv.tupH (em := eI) (Je.hcons rfl (Jv.litI 2) (Je.hcons rfl (Jv.litI 1) (Je.hcons rfl (Jv.litI 0) (Je.hcons rfl (Jv.litI 3) (Je.hnil (em := eI))))))) (fun a8 a9 a10 => J_spans_of (k + 1) a8 a9 a10)) (Jv.call3 (em0 := eI) (em1 := (eT (eT eI))) (em2 := (eT eI)) (Jv.litI 4) (Jv.varD (em := (eT (eT eI))) 2 rfl nlT) (Jv.tupH (em := eI) (Je.hcons rfl (Jv.litI 2) (Je.hcons rfl (Jv.litI 1) (Je.hcons rfl (Jv.litI 0) (Je.hcons rfl (Jv.litI 3) (Je.hnil (em := eI))))))) (fun a11 a12 a13 => J_breaks_of (k + 1) a11 a12 a13))) (Jv.lst2 rfl rfl (Jv.tupH (em := (eO (e2 eI eI))) (Je.hcons rfl (Jv.sm (Jv.tup2 rfl rfl (Jv.litI 0) (Jv.litI 2))) (Je.hcons rfl (Jv.sm (Jv.tup2 rfl rfl (Jv.litI 2) (Jv.litI 3))) (Je.hcons rfl (Jv.sm (Jv.tup2 rfl rfl (Jv.litI 1) (Jv.litI 3))) (Je.hcons rfl (Jv.litN (em := (e2 eI eI))) (Je.hnil (em := (eO (e2 eI eI))))))))) (Jv.litI 2)) (fun a14 a15 => J_law_same (k + 3) 4 ((l2 (eT (eO (e2 eI eI))) eI) a14) ((l2 (eT (eO (e2 eI eI))) eI) a15)))) (Jr.ret1 rfl (Jv.litB false)) (Jr.iffR (Jv.not (Jv.call2 (em0 := (l3 (eO (e2 eI (eT eI))) (eO (e2 eI (eT eI))) (eT (eO (e2 eI eI))))) (em1 := (l3 (eO (e2 eI (eT eI))) (eO (e2 eI (eT eI))) (eT (eO (e2 eI eI))))) (Jv.lst3 rfl rfl rfl (Jv.call2 (em0 := eI) (em1 := (eT (eT eI))) (Jv.litI 4) (Jv.varD (em := (eT (eT eI))) 2 rfl nlT) (fun a23 a24 => J_least_breaks (k + 2) a23 a24)) (Jv.call2 (em0 := eI) (em1 := (eT (eT eI))) (Jv.litI 1) (Jv.tupH (em := (eT eI)) (Je.hcons rfl (Jv.tupH (em := eI) (Je.hnil (em := eI))) (Je.hnil (em := (eT eI))))) (fun a25 a26 => J_least_breaks (k + 2) a25 a26)) (Jv.call3 (em0 := eI) (em1 := (eT (eT eI))) (em2 := (eT eI)) (Jv.litI 1) (Jv.tupH (em := (eT eI)) (Je.hcons rfl (Jv.tupH (em := eI) (Je.hnil (em := eI))) (Je.hcons rfl (Jv.tupH (em := eI) (Je.hcons rfl (Jv.litI 0) (Je.hnil (em := eI)))) (Je.hnil (em := (eT eI)))))) (Jv.tupH (em := eI) (Je.hcons rfl (Jv.litI 1) (Je.hcons rfl (Jv.litI 0) (Je.hnil (em := eI))))) (fun a27 a28 a29 => J_spans_of (k + 1) a27 a28 a29))) (Jv.lst3 rfl rfl rfl (Jv.sm (Jv.tup2 rfl rfl (Jv.litI 0) (Jv.tupH (em := eI) (Je.hcons rfl (Jv.litI 1) (Je.hcons rfl (Jv.litI 3) (Je.hcons rfl (Jv.litI 0) (Je.hcons rfl (Jv.litI 2) (Je.hnil (em := eI))))))))) (Jv.sm (Jv.tup2 rfl rfl (Jv.litI 0) (Jv.tupH (em := eI) (Je.hcons rfl (Jv.litI 0) (Je.hnil (em := eI)))))) (Jv.tupH (em := (eO (e2 eI eI))) (Je.hcons rfl (Jv.sm (Jv.tup2 rfl rfl (Jv.litI 0) (Jv.litI 0))) (Je.hnil (em := (eO (e2 eI eI))))))) (fun a30 a31 => J_law_same (k + 3) 4 ((l3 (eO (e2 eI (eT eI))) (eO (e2 eI (eT eI))) (eT (eO (e2 eI eI)))) a30) ((l3 (eO (e2 eI (eT eI))) (eO (e2 eI (eT eI))) (eT (eO (e2 eI eI)))) a31)))) (Jr.ret1 rfl (Jv.litB false)) (Jr.seq (JF.for (inv := fun (s36 : ((List (List Int)))) => [(1, .hand), (2, .d ((eT (eT eI)) s36))]) v1 (JS.rng (Jv.litI 0) (Jv.litI 6)) (Jt.nm rfl) ⟨.refl, .refl, trivial⟩ fun x37 s36 => (JF.cons (JN.unp (Jt.two (Jt.nm rfl) (Jt.nm rfl)) nl2 (Jv.callH1 (em0 := eI) (ih := 1) rfl (Jv.litI 5) (fun a38 => J_law_finds (k + 4) a38))) fun v39 => (JF.iffR (Jv.not (Jv.callH2 (em0 := eI) (em1 := (eT (eT eI))) (ih := 1) rfl (Jv.varD (em := eI) 4 rfl nlI) (Jv.varD (em := (eT (eT eI))) 2 rfl nlT) (fun a40 a41 => J_law_is_right k a40 a41))) (Jr.ret1 rfl (Jv.litB false)) (JF.nil (x := v39.2) ⟨.refl, .refl, trivial⟩)))) fun s36 => (Jr.ret1 rfl (Jv.litB true))))))
/-- what is left: from each hand the law's own mirror ends with True -/
theorem good_of (ht : Tot m_law fun b => b = true) : Good := fun ns hn =>
  law_end (lev := 11) (rest := rest_law) (c0 := 1187) (c1 := 61) (nh := 17) (ih := 1) (q := q_law) (qh := q_law_hand) rfl rfl rfl rfl rfl rfl rfl (by decide) (by decide) (by decide) (J_law_rest 5) ht ns hn

end K86

set_option Elab.async false
set_option linter.all false
set_option maxRecDepth 100000
set_option maxHeartbeats 1000000
/-! P86: the plain law of k86. -/
namespace K86
open PySem Mi Mi.J
@[simp] theorem is_integer (i : Int) : m_is_integer i = rtn true := by
  unfold m_is_integer
  rw [opq_eq]
  simp [mAnd, m1]
theorem is_within (i a b : Int) : m_is_within i a b = rtn (decide (a ≤ i) && decide (i ≤ b)) := by
  unfold m_is_within
  rw [opq_eq]
  simp [mAnd, relI]
theorem is_lot {w : Int} {f : List Int} (h : Lot w f) : m_is_lot w f = rtn true := by
  unfold m_is_lot
  rw [opq_eq]
  have hl := h.len
  have e1 : mLst (fun _ => rtn true) (fun x1 : Int => m_is_within x1 0 (w - 1)) f = rtn (f.map fun _ => true) := mLst_all (lim2 (by omega)) fun x hx => by
    have := h.mem x hx
    have e : (decide (0 ≤ x) && decide (x ≤ w - 1)) = true := by simp; omega
    rw [is_within, e]
  have e2 : mLst (fun _ => rtn true) (fun x : Int => bnd (opt (L2.atI f x)) fun a => bnd (opt (L2.atI f (x + 1))) fun b => rtn (decide (a < b))) (rangeZ 0 (f.length - 1)) = rtn ((rangeZ 0 (f.length - 1)).map fun _ => true) := mLst_all (lim2 (by rw [length_rangeZ]; omega)) fun x hx => by
    obtain ⟨h1, h2⟩ := mem_rangeZ.mp hx
    rw [atI_of h1 (by omega), atI_of (by omega) (by omega)]
    have := List.pairwise_iff_getElem.mp h.up x.toNat (x + 1).toNat (by omega) (by omega) (by omega)
    simp [this]
  simp [mOr, m1, m2, mIf, e1, mRng_ok (a := 0) (b := f.length - 1) (by omega) (by omega), e2]
theorem check_finds {w : Int} {fs : List (List Int)} (h : Fin w fs) : m_check_finds w fs = rtn () := by
  unfold m_check_finds
  rw [opq_eq]
  have h1 := h.w1
  have h2 := h.w9
  have h3 := h.f1
  have h4 := h.f6
  have e1 : mLst (fun _ => rtn true) (fun x : List Int => m_is_lot w x) fs = rtn (fs.map fun _ => true) := mLst_all (lim2 (by omega)) fun x hx => is_lot (h.lot x hx)
  have a1 : (1 : Int) ≤ fs.length := by omega
  have a2 : (fs.length : Int) ≤ 8 := by omega
  simp [mOr, m1, m2, mIf, e1, relI, h1, h2, a1, a2, is_within]
theorem is_told {n : Int} {p : Int × Int} (h1 : 0 ≤ p.1 ∧ p.1 < n) (h2 : 0 ≤ p.2 ∧ p.2 < n) (h3 : p.1 ≠ p.2) : m_is_told n [p.1, p.2] = rtn true := by
  unfold m_is_told
  rw [opq_eq]
  have e1 : mLst (fun _ => rtn true) (fun x1 : Int => m_is_within x1 0 (n - 1)) [p.1, p.2] = rtn ([p.1, p.2].map fun _ => true) := mLst_all (lim2 (by show 2 ≤ _; omega)) fun x hx => by
    have e : (decide (0 ≤ x) && decide (x ≤ n - 1)) = true := by
      simp at hx ⊢
      omega
    rw [is_within, e]
  have a1 : L2.atI [p.1, p.2] 0 = some p.1 := rfl
  have a2 : L2.atI [p.1, p.2] 1 = some p.2 := rfl
  simp [mOr, m1, m2, mIf, e1, a1, a2, h3]
theorem check_told {w : Int} {fs : List (List Int)} {told : List (Int × Int)} (h : Fin w fs) (ht : Told fs.length told) : m_check_told w fs told = rtn () := by
  unfold m_check_told
  rw [opq_eq]
  have h4 := h.f6
  have hl := ht.len
  have e1 : mLst (fun _ => rtn true) (fun x : Int × Int => m_is_told fs.length [x.1, x.2]) told = rtn (told.map fun _ => true) := mLst_all (lim2 (by omega)) fun x hx => by
    obtain ⟨a, b, c⟩ := ht.mem x hx
    exact is_told a b c
  have e2 : mLst (fun _ => rtn true) (fun x : Int => bnd (opt (L2.atI told x)) fun a => bnd (opt (L2.atI told (x + 1))) fun b => rtn (lt2 ltZ ltZ a b)) (rangeZ 0 (told.length - 1)) = rtn ((rangeZ 0 (told.length - 1)).map fun _ => true) := mLst_all (lim2 (by rw [length_rangeZ]; omega)) fun x hx => by
    obtain ⟨h1, h2⟩ := mem_rangeZ.mp hx
    rw [atI_of h1 (by omega), atI_of (by omega) (by omega)]
    have := List.pairwise_iff_getElem.mp ht.up x.toNat (x + 1).toNat (by omega) (by omega) (by omega)
    simp [this]
  simp [mOr, m1, m2, mIf, check_finds h, e1, mRng_ok (a := 0) (b := told.length - 1) (by omega) (by omega), e2]
theorem can_follow {w : Int} {fs : List (List Int)} {row : List Int} {c : Int} (h : Fin w fs) (hr : RowOk fs.length row) (hc : 0 ≤ c ∧ c < fs.length) : m_can_follow fs row c = rtn (canF fs row c) := by
  unfold m_can_follow
  rw [opq_eq]
  have h6 := h.f6
  have hl := hr.1
  cases hg : row.getLast? with
  | none =>
    have : row = [] := List.getLast?_eq_none_iff.mp hg
    subst this
    simp [m1, m2, mIf, canF]
  | some l =>
    have hm : l ∈ row := List.mem_of_getLast? hg
    have hl2 := hr.2.2 l hm
    have hne : ¬ ((row.length : Int) = 0) := by
      intro e
      have : row = [] := List.length_eq_zero_iff.mp (by omega)
      rw [this] at hm; cases hm
    have ein : ∀ x : Int, mLst (fun _ => rtn true) (fun x3 : Int => bnd (opt (L2.atI fs x3)) fun y => rtn (decide (x ∈ y))) row = rtn (row.map fun o => decide (x ∈ fnd fs o)) := fun x => mLst_all (lim2 (by omega)) fun o ho => by
      rw [at_fnd (hr.2.2 o ho)]; rfl
    have eo : mLst (fun _ => rtn true) (fun x2 : Int => if x2 ∈ fnd fs l then rtn false else bnd (mLst (fun _ => rtn true) (fun x3 : Int => bnd (opt (L2.atI fs x3)) fun y => rtn (decide (x2 ∈ y))) row) fun a => rtn (a.any id)) (fnd fs c) = rtn ((fnd fs c).map fun x => !decide (x ∈ fnd fs l) && row.any fun o => decide (x ∈ fnd fs o)) := mLst_all (lim2 (by have := (h.lot _ (fnd_mem hc)).len; omega)) fun x hx => by
      rw [ein]
      by_cases q : x ∈ fnd fs l <;> simp [q]
    have e3 : row.length ≠ 0 := by omega
    simp [m1, m2, mIf, mAnd, hne, e3, atI_last, hg, at_fnd hl2, at_fnd hc, eo, canF]
/-- the orders by age, as they are searched -/
abbrev gA (fs : List (List Int)) (told : List (Int × Int)) (row : List Int) (c : Int) : Bool := canF fs row c && tellOk told row c
theorem orders_by_age {w : Int} {fs : List (List Int)} {told : List (Int × Int)} {most : Int} (h : Fin w fs) (ht : told.length ≤ 100) (hm : 0 ≤ most) : m_orders_by_age fs told most = rtn ((sufs fs.length (gA fs told) fs.length []).take most.toNat) := by
  unfold m_orders_by_age
  rw [opq_eq]
  have h6 := h.f6
  have hB : ((fs.length : Int).toNat + 1) ^ (fs.length : Int).toNat ≤ 500000 := by
    rw [Int.toNat_natCast]
    refine Nat.le_trans (Nat.pow_le_pow_left (show fs.length + 1 ≤ 6 by omega) _) (Nat.le_trans (Nat.pow_le_pow_right (by omega) h6) (by decide))
  simp only [m1, m2, mIf, mAnd, ret_bnd, bnd_assoc]
  have hcn : ∀ s : DS, (if decide ((0 : Int) < s.2.length) = true then rtn (decide ((s.1.length : Int) < most)) else rtn false) = rtn (decide (0 < s.2.length) && decide ((s.1.length : Int) < most)) := fun s => by
    by_cases q : 0 < s.2.length
    · have q2 : (0 : Int) < s.2.length := by omega
      simp [q, q2]
    · have q2 : ¬ (0 : Int) < s.2.length := by omega
      simp [q, q2]
  have key := fun b hb => dfs_bnd (L := ([], [[]])) rfl (dfs (n := fs.length) (most := most) (g := gA fs told) (b := b) hm hB hcn hb)
  rw [Int.toNat_natCast] at key
  refine key _ ?_
  · intro f wt row hr hw hf
    have ep : mPop (wt ++ [row]) = rtn (row, wt) := by
      unfold mPop
      simp
    have hl := hr.1
    rw [Int.toNat_natCast] at hl
    have ec : mLst (fun x42 : Int => if (!decide (x42 ∈ row)) = true then m_can_follow fs row x42 else rtn false) (fun x42 : Int => rtn x42) (rangeZ 0 fs.length) = rtn (((rangeZ 0 fs.length).filter fun x => !decide (x ∈ row) && canF fs row x).map id) := mLst_ok (lim2 (by rw [length_rangeZ]; omega)) (fun x hx => by
        by_cases q : x ∈ row
        · simp [q]
        · simp [q, can_follow h hr (mem_rangeZ.mp hx)]) fun _ _ _ => rfl
    have et : ∀ x : Int, mLst (fun _ => rtn true) (fun x48 : Int × Int => if decide (x48.2 = x) = true then rtn (!decide (x48.1 ∈ row)) else rtn false) told = rtn (told.map fun p => decide (p.2 = x) && !decide (p.1 ∈ row)) := fun x => mLst_all (lim2 (by omega)) fun p _ => by
      by_cases q : p.2 = x <;> simp [q]
    have ef : mLst (fun x47 : Int => bnd (mLst (fun _ => rtn true) (fun x48 : Int × Int => if decide (x48.2 = x47) = true then rtn (!decide (x48.1 ∈ row)) else rtn false) told) fun x => rtn (!x.any id)) (fun x47 : Int => rtn x47) ((rangeZ 0 fs.length).filter fun x => !decide (x ∈ row) && canF fs row x) = rtn ((((rangeZ 0 fs.length).filter fun x => !decide (x ∈ row) && canF fs row x).filter fun x => tellOk told row x).map id) := mLst_ok (lim2 (by
        refine Nat.le_trans (List.length_filter_le _ _) ?_
        rw [length_rangeZ]; omega)) (fun x hx => by
        rw [et, ret_bnd]
        simp [tellOk]) fun _ _ _ => rfl
    have er : (((rangeZ 0 fs.length).filter fun x => !decide (x ∈ row) && canF fs row x).filter fun x => tellOk told row x) = (left fs.length row).filter (gA fs told row) := by
      unfold left
      rw [List.filter_filter, List.filter_filter]
      congr 1
      funext x
      show (tellOk told row x && (!decide (x ∈ row) && canF fs row x)) = ((canF fs row x && tellOk told row x) && !decide (x ∈ row))
      cases (!decide (x ∈ row)) <;> cases canF fs row x <;> cases tellOk told row x <;> rfl
    have hlen : ((left fs.length row).filter (gA fs told row)).length ≤ 5 := Nat.le_trans (List.length_filter_le _ _) (Nat.le_trans length_left (by omega))
    have eg : mLst (fun _ => rtn true) (fun x50 : Int => mCat row [x50]) ((left fs.length row).filter (gA fs told row)).reverse = rtn (((left fs.length row).filter (gA fs told row)).reverse.map fun c => row ++ [c]) := mLst_all (lim2 (by rw [List.length_reverse]; omega)) fun x _ => mCat_ok (by simp; omega)
    by_cases q : row.length = fs.length
    · have q2 : row.length = (fs.length : Int).toNat := by omega
      have q3 : (row.length : Int) = fs.length := by omega
      simp [ep, q, mApp_ok (xs := f) (x := row) (by omega)]
    · have q2 : ¬ row.length = (fs.length : Int).toNat := by omega
      have q3 : ¬ (row.length : Int) = fs.length := by omega
      simp only [ep, ret_bnd, q3, decide_false, Bool.false_eq_true, if_false, bnd_assoc, mRng_ok (a := 0) (b := fs.length) (by omega) (by omega), ec, List.map_id, ef, er, eg, mExt_ok (xs := wt) (ys := ((left fs.length row).filter (gA fs told row)).reverse.map fun c => row ++ [c]) (by rw [List.length_map, List.length_reverse]; omega), if_neg q2, if_neg q]
theorem age_orders {w : Int} {fs : List (List Int)} {told : List (Int × Int)} (h : Fin w fs) (ht : Told fs.length told) : m_age_orders w fs told = rtn (sufs fs.length (gA fs told) fs.length []) := by
  unfold m_age_orders
  rw [opq_eq]
  have h6 := h.f6
  have hl : (sufs fs.length (gA fs told) fs.length []).length ≤ 120 := by
    have q := sufs_len (n := fs.length) (g := gA fs told) (k := fs.length) (row := []) ⟨Nat.zero_le _, List.nodup_nil, fun _ h => (nomatch h)⟩
    exact Nat.le_trans q (df_le (by simp; omega) h6)
  have hh : ¬ (3000 : Int) < ((sufs fs.length (gA fs told) fs.length []).length : Int) := by omega
  have e := orders_by_age (most := 3001) h ht.len (by omega)
  rw [List.take_of_length_le (by show _ ≤ 3001; omega)] at e
  simp [m1, m2, mIf, check_told h ht, e, hh]
theorem law_orders {n : Int} (h0 : 0 ≤ n) (h : n ≤ 5) : m_law_orders n = rtn (ordersT n) := by
  unfold m_law_orders
  rw [opq_eq]
  simp only [m1, m2, mIf, ret_bnd, bnd_ret', mRng_ok (a := 0) (b := n) (by omega) (by omega)]
  have el : ∀ x : List Int, x.length ≤ 5 → mLst (fun x26 : Int => rtn (!decide (x26 ∈ x))) (fun x26 : Int => mCat x [x26]) (rangeZ 0 n) = rtn ((left n x).map fun c => x ++ [c]) := fun x hx => mLst_ok (p := fun c => !decide (c ∈ x)) (lim2 (by rw [length_rangeZ]; omega)) (fun _ _ => rfl) fun c _ _ => mCat_ok (by simp; omega)
  have ll : ∀ x : List Int, ((left n x).map fun c => x ++ [c]).length ≤ 5 := fun x => by rw [List.length_map]; exact Nat.le_trans length_left (by omega)
  have inner : ∀ found : List (List Int), (∀ r ∈ found, r.length ≤ 5) → found.length ≤ 625 → mFold (fun (x24 : List Int) (s23 : List (List Int)) => bnd (mLst (fun x26 : Int => rtn (!decide (x26 ∈ x24))) (fun x26 : Int => mCat x24 [x26]) (rangeZ 0 n)) fun x => mExt s23 x) found [] = rtn (stepO n found) := by
    intro found hr hf
    obtain ⟨s', e, h1, h2⟩ := mFold_split (F := fun (x24 : List Int) (s23 : List (List Int)) => bnd (mLst (fun x26 : Int => rtn (!decide (x26 ∈ x24))) (fun x26 : Int => mCat x24 [x26]) (rangeZ 0 n)) fun x => mExt s23 x) (fun done s => s = stepO n done ∧ s.length ≤ done.length * 5) (all := found) (xs := found) (done := []) (s := []) rfl ⟨rfl, Nat.le_refl _⟩ fun done x rest s ha hI => by
      obtain ⟨rfl, h1⟩ := hI
      have hx : x ∈ found := by rw [ha]; simp
      have hd : done.length ≤ 625 := by
        have := congrArg List.length ha
        rw [List.length_append] at this
        omega
      have l5 := ll x
      refine ⟨_, by rw [el x (hr x hx), ret_bnd, mExt_ok (by omega)], ?_, ?_⟩
      · unfold stepO
        rw [List.flatMap_append, List.flatMap_singleton]
      · rw [List.length_append, List.length_append, List.length_singleton]
        omega
    rw [e, h1]
  obtain ⟨s', e, h1, h2, h3⟩ := mFold_split (F := fun (x19 : Int) (s18 : List (List Int)) => mFold (fun (x24 : List Int) (s23 : List (List Int)) => bnd (mLst (fun x26 : Int => rtn (!decide (x26 ∈ x24))) (fun x26 : Int => mCat x24 [x26]) (rangeZ 0 n)) fun x => mExt s23 x) s18 []) (fun done s => s = done.foldl (fun f _ => stepO n f) [[]] ∧ (∀ r ∈ s, r.length = done.length) ∧ s.length ≤ 5 ^ done.length) (all := rangeZ 0 n) (xs := rangeZ 0 n) (done := []) (s := [[]]) rfl ⟨rfl, fun r hr => by rw [List.mem_singleton] at hr; rw [hr], Nat.le_refl _⟩ fun done x rest s ha hI => by
    obtain ⟨h1, h2, h3⟩ := hI
    have hd : done.length < n.toNat := by
      have := congrArg List.length ha
      rw [List.length_append, List.length_cons, length_rangeZ] at this
      omega
    have hp : 5 ^ done.length ≤ 625 := Nat.le_trans (Nat.pow_le_pow_right (by omega) (show done.length ≤ 4 by omega)) (by decide)
    refine ⟨_, inner s (fun r hr => by rw [h2 r hr]; omega) (by omega), ?_, ?_, ?_⟩
    · rw [List.foldl_append, ← h1]; rfl
    · intro r hr
      obtain ⟨y, hy, hr⟩ := List.mem_flatMap.mp hr
      obtain ⟨c, _, rfl⟩ := List.mem_map.mp hr
      simp [h2 y hy]
    · rw [List.length_append, List.length_singleton, Nat.pow_succ]
      exact Nat.le_trans (length_flatMap_le (m := 5) fun y _ => ll y) (Nat.mul_le_mul_right _ h3)
  rw [← iter_orders, ← h1, ← e]
theorem lot_sub {w : Int} (hw : w ≤ 5) {zs : List Int} (h : zs.Sublist (rangeZ 0 w)) : Lot w zs :=
  ⟨fun x hx => mem_rangeZ.mp (h.subset hx), sorted_rangeZ.sublist h, by
    have := h.length_le
    rw [length_rangeZ] at this
    omega⟩
theorem lot_filter {w : Int} (hw : w ≤ 5) (p : Int → Bool) : Lot w ((rangeZ 0 w).filter p) := lot_sub hw List.filter_sublist
theorem law_finds : Tot (m_law_finds 5) fun p => Fin p.1 p.2 := by
  unfold m_law_finds
  rw [opq_eq]
  simp only [m1, m2, mIf, mAnd, ret_bnd, bnd_assoc]
  refine Tot.bind (Tot.any (by simp) (by simp)) fun a ha => ?_
  have ha : 0 ≤ a ∧ a ≤ 4 := by simp at ha; omega
  refine Tot.bind (Tot.any (by simp) (by simp)) fun b hb => ?_
  have hb : 0 ≤ b ∧ b ≤ 4 := by simp at hb; omega
  obtain ⟨w, hw⟩ : ∃ w, w = 1 + a := ⟨_, rfl⟩
  obtain ⟨m, hm⟩ : ∃ m, m = maxZ 1 (5 - b) := ⟨_, rfl⟩
  have hm2 : 1 ≤ m ∧ m ≤ 5 := by
    rw [hm]; unfold maxZ
    split <;> omega
  rw [← hw, ← hm]
  have fin : ∀ fs : List (List Int), fs.length = m.toNat → (∀ f ∈ fs, Lot w f) → Fin w fs := fun fs h1 h2 => ⟨by omega, by omega, by omega, by omega, h2⟩
  have r1 : mRng 0 w = rtn (rangeZ 0 w) := mRng_ok (by omega) (by omega)
  have r2 : mRng 0 m = rtn (rangeZ 0 m) := mRng_ok (by omega) (by omega)
  simp only [r1, r2, ret_bnd, bnd_ret']
  refine Tot.bind (Tot.draw (by omega)) fun d hd => Tot.ite (fun _ => ?_) fun _ => ?_
  · refine Tot.bind (Tot.foldS (fun done s => s.length = done.length ∧ ∀ f ∈ s, Lot w f) (all := rangeZ 0 m) (done := []) rfl ⟨rfl, fun _ h => (nomatch h)⟩ fun done x rest s hx hs => ?_) fun s hs => Tot.ret (fin s (by rw [hs.1, length_rangeZ]; omega) hs.2)
    have hd := (split_len hx).1
    refine Tot.bind (Tot.lst (g := id) (by rw [length_rangeZ]; omega) (fun x _ => Tot.bind (Tot.draw (by omega)) fun r _ => Tot.ret trivial) fun x _ => rfl) fun ys hy => ?_
    obtain ⟨zs, hz, rfl⟩ := hy
    rw [mApp_ok (by omega)]
    refine Tot.ret ⟨by simp [hs.1], fun f hf => ?_⟩
    rcases List.mem_append.mp hf with q | q
    · exact hs.2 f q
    · rw [List.mem_singleton] at q
      subst q
      rw [List.map_id]
      exact lot_sub (by omega) hz
  · refine Tot.bind (Tot.foldS (fun done (s : List (Int × Int)) => s.length = done.length) (all := rangeZ 0 w) (done := []) rfl rfl fun done x rest s hx hs => ?_) fun sp hsp => ?_
    · have hd := (split_len hx).1
      refine Tot.bind (Tot.draw (by omega)) fun r _ => Tot.bind (Tot.draw (by omega)) fun r2 _ => ?_
      rw [mApp_ok (by omega)]
      exact Tot.ret (by simp [hs])
    · rw [length_rangeZ] at hsp
      rw [mCut_ok (lim2 (by rw [length_rangeZ]; omega)), ret_bnd]
      refine Tot.bind (Tot.mixed (by rw [length_rangeZ]; omega)) fun od hod => ?_
      have hol : od.length = m.toNat := by rw [hod.length_eq, length_rangeZ]; omega
      refine Tot.bind (Tot.foldS (fun done (s : List (List Int)) => s.length = done.length ∧ ∀ f ∈ s, Lot w f) (all := rangeZ 0 m) (done := []) rfl ⟨rfl, fun _ h => (nomatch h)⟩ fun done x rest s hx hs => ?_) fun s hs => ?_
      · have hd := split_len hx
        have ho : L2.atI od x = some (od[x.toNat]'(by omega)) := atI_of (by omega) (by omega)
        have e : mLst (fun x31 : Int => bnd (opt (L2.atI sp x31)) fun x_1 => bnd (opt (L2.atI od x)) fun y => if relI .le x_1.1 y = true then bnd (opt (L2.atI sp x31)) fun x_2 => rtn (relI .le y x_2.2) else rtn false) (fun x31 : Int => rtn x31) (rangeZ 0 w) = rtn (((rangeZ 0 w).filter fun i => relI .le ((L2.atI sp i).getD (0, 0)).1 (od[x.toNat]'(by omega)) && relI .le (od[x.toNat]'(by omega)) ((L2.atI sp i).getD (0, 0)).2).map id) := mLst_ok (lim2 (by rw [length_rangeZ]; omega)) (fun i hi => by
          have hi := mem_rangeZ.mp hi
          rw [atI_of (xs := sp) (i := i) (by omega) (by omega), ho]
          simp only [opt_some, ret_bnd, Option.getD_some]
          cases relI .le (sp[i.toNat]'(by omega)).1 (od[x.toNat]'(by omega)) <;> rfl) fun _ _ _ => rfl
        rw [e, ret_bnd, mApp_ok (by omega)]
        refine Tot.ret ⟨by simp [hs.1], fun f hf => ?_⟩
        rcases List.mem_append.mp hf with q | q
        · exact hs.2 f q
        · rw [List.mem_singleton] at q
          subst q
          rw [List.map_id]
          exact lot_filter (by omega) _
      · have hl : s.length = m.toNat := by rw [hs.1, length_rangeZ]; omega
        refine Tot.bind (Tot.draw (by omega)) fun d2 _ => ?_
        rw [bnd_ite]
        refine Tot.ite (fun _ => ?_) fun _ => Tot.ret (fin s hl hs.2)
        simp only [bnd_assoc]
        refine Tot.bind (Tot.draw (by omega)) fun at_ hat => Tot.bind (Tot.draw (by omega)) fun wr _ => ?_
        have e : mLst (fun x43 : Int => bnd (opt (L2.atI s at_)) fun y => rtn (!decide (decide (x43 ∈ y) = decide (x43 = wr)))) (fun x43 : Int => rtn x43) (rangeZ 0 w) = rtn (((rangeZ 0 w).filter fun i => !decide (decide (i ∈ (s[at_.toNat]'(by omega))) = decide (i = wr))).map id) := mLst_ok (lim2 (by rw [length_rangeZ]; omega)) (fun i hi => by
          rw [atI_of (xs := s) (i := at_) (by omega) (by omega)]
          rfl) fun _ _ _ => rfl
        have es : ∀ v : List Int, mSet s at_ v = rtn (s.set at_.toNat v) := fun v => by
          unfold mSet
          rw [ixN_nat (by omega) (by omega)]
        simp only [e, ret_bnd, es]
        refine Tot.ret (fin _ (by rw [List.length_set]; exact hl) fun f hf => ?_)
        rcases List.mem_or_eq_of_mem_set hf with q | q
        · exact hs.2 f q
        · subst q
          rw [List.map_id]
          exact lot_filter (by omega) _
theorem all_orders {n : Int} (h0 : 0 ≤ n) (h : n ≤ 5) : m_all_orders n = rtn (ordersT n) := by
  unfold m_all_orders
  rw [opq_eq]
  have r1 : mRng 0 n = rtn (rangeZ 0 n) := mRng_ok (by omega) (by omega)
  simp only [m1, m2, mIf, ret_bnd, bnd_ret', r1]
  have inner : ∀ found : List (List Int), (∀ r ∈ found, r.length ≤ 5) → found.length ≤ 625 → mLst2 (fun _ : List Int => rtn true) (fun _ => rtn (rangeZ 0 n)) (fun (x8 : List Int) (x9 : Int) => rtn (!decide (x9 ∈ x8))) (fun (x8 : List Int) (x9 : Int) => mCat x8 [x9]) found = rtn (stepO n found) := by
    intro found hr hf
    have e : (((found.filter fun _ => true).map fun x => ((rangeZ 0 n).filter fun c => !decide (c ∈ x)).map fun c => x ++ [c]).flatten) = stepO n found := by
      rw [List.filter_eq_self.mpr fun _ _ => rfl]
      rfl
    rw [mLst2_ok (p := fun _ => true) (zs := fun _ => rangeZ 0 n) (p2 := fun x c => !decide (c ∈ x)) (g := fun x c => x ++ [c]) ?_ (fun _ _ => rfl) (fun _ _ _ => rfl) (fun _ _ _ _ _ => rfl) fun x hx _ c _ _ => mCat_ok (by have := hr x hx; simp; omega), e]
    rw [e]
    refine Nat.le_trans (length_flatMap_le (m := 5) fun y _ => by rw [List.length_map]; exact Nat.le_trans length_left (by omega)) (by omega)
  obtain ⟨s', e, h1, h2, h3⟩ := mFold_split (F := fun (x6 : Int) (s5 : List (List Int)) => mLst2 (fun _ : List Int => rtn true) (fun _ => rtn (rangeZ 0 n)) (fun (x8 : List Int) (x9 : Int) => rtn (!decide (x9 ∈ x8))) (fun (x8 : List Int) (x9 : Int) => mCat x8 [x9]) s5) (fun done s => s = done.foldl (fun f _ => stepO n f) [[]] ∧ (∀ r ∈ s, r.length = done.length) ∧ s.length ≤ 5 ^ done.length) (all := rangeZ 0 n) (xs := rangeZ 0 n) (done := []) (s := [[]]) rfl ⟨rfl, fun r hr => by rw [List.mem_singleton] at hr; rw [hr], Nat.le_refl _⟩ fun done x rest s ha hI => by
    obtain ⟨h1, h2, h3⟩ := hI
    have hd := (split_len ha).1
    have hp : 5 ^ done.length ≤ 625 := Nat.le_trans (Nat.pow_le_pow_right (by omega) (show done.length ≤ 4 by omega)) (by decide)
    refine ⟨_, inner s (fun r hr => by rw [h2 r hr]; omega) (by omega), ?_, ?_, ?_⟩
    · rw [List.foldl_append, ← h1]; rfl
    · intro r hr
      obtain ⟨y, hy, hr⟩ := List.mem_flatMap.mp hr
      obtain ⟨c, _, rfl⟩ := List.mem_map.mp hr
      simp [h2 y hy]
    · rw [List.length_append, List.length_singleton, Nat.pow_succ]
      exact Nat.le_trans (length_flatMap_le (m := 5) fun y _ => by rw [List.length_map]; exact Nat.le_trans length_left (by omega)) (Nat.mul_le_mul_right _ h3)
  rw [← iter_orders, ← h1, ← e]
theorem is_order {n : Int} {o : List Int} (h0 : 0 ≤ n) (h5 : n ≤ 5) (h : Ord n o) : m_is_order n o = rtn true := by
  unfold m_is_order
  rw [opq_eq]
  have hl := h.len
  have e1 : mLst (fun _ => rtn true) (fun x1 : Int => m_is_within x1 0 (n - 1)) o = rtn (o.map fun _ => true) := mLst_all (lim2 (by omega)) fun x hx => by
    have := h.mem.mp hx
    have e : (decide (0 ≤ x) && decide (x ≤ n - 1)) = true := by simp; omega
    rw [is_within, e]
  simp [mOr, m1, m2, mIf, e1, h.sort, mRng_ok (a := 0) (b := n) (by omega) (by omega), mCut_ok (xs := rangeZ 0 n) (lim2 (by rw [length_rangeZ]; omega))]
theorem check_aged {w : Int} {fs : List (List Int)} {o : List Int} (h : Fin w fs) (ho : Ord fs.length o) : m_check_aged w fs o = rtn () := by
  unfold m_check_aged
  rw [opq_eq]
  have h6 := h.f6
  simp [m1, m2, mIf, check_finds h, is_order (n := fs.length) (by omega) (by omega) ho]
/-- the spans of a row of finds -/
def spans (w : Int) (s : List (List Int)) : List (Option (Int × Int)) := (rangeZ 0 w).map fun x => span (pl x s)
theorem span_get (P : List Int) : span P = if 0 < P.length then some (P.getD 0 0, P.getLast?.getD 0) else none := by
  cases P with
  | nil => rfl
  | cons x xs =>
    rw [if_pos (by simp), List.getLast?_eq_some_getLast (by simp)]
    rfl
theorem raw_spans {w : Int} {fs : List (List Int)} {o : List Int} (h : Fin w fs) (ho : Ord fs.length o) : m_raw_spans w fs o = rtn (spans w (o.map (fnd fs))) := by
  unfold m_raw_spans
  rw [opq_eq]
  have h9 := h.w9
  have h1 := h.w1
  have h6 := h.f6
  have hl := ho.len
  have r1 : mRng 0 w = rtn (rangeZ 0 w) := mRng_ok (by omega) (by omega)
  simp only [m1, m2, mIf, ret_bnd, bnd_ret', r1]
  obtain ⟨s', e, hs⟩ := mFold_split (F := fun (x6 : Int) (s5 : List (Option (Int × Int))) => bnd (mLst (fun x8 : Int × Int => bnd (opt (L2.atI fs x8.2)) fun y => rtn (decide (x6 ∈ y))) (fun x8 : Int × Int => rtn x8.1) (enumZ o)) fun v7 => bnd (if decide ((0 : Int) < (v7.length : Int)) = true then bnd (bnd (opt (L2.atI v7 0)) fun x => bnd (opt (L2.atI v7 (-1))) fun y => rtn (x, y)) fun a => rtn (some a) else rtn none) fun x => mApp s5 x) (fun done s => s = done.map fun x => span (pl x (o.map (fnd fs)))) (all := rangeZ 0 w) (xs := rangeZ 0 w) (done := []) (s := []) rfl rfl fun done x rest s ha hI => by
    have hd := (split_len ha).1
    have el : mLst (fun x8 : Int × Int => bnd (opt (L2.atI fs x8.2)) fun y => rtn (decide (x ∈ y))) (fun x8 : Int × Int => rtn x8.1) (enumZ o) = rtn (pl x (o.map (fnd fs))) := by
      rw [mLst_ok (p := fun q : Int × Int => decide (x ∈ fnd fs q.2)) (g := fun q : Int × Int => q.1) (lim2 (by unfold enumZ; simp; omega)) (fun q hq => by
        have hm : q.2 ∈ o := by
          unfold enumZ at hq
          obtain ⟨r, hr, rfl⟩ := List.mem_map.mp hq
          exact (List.of_mem_zip hr).2
        rw [at_fnd (ho.mem.mp hm)]
        rfl) (fun _ _ _ => rfl), ← enum_pl, enumZ_map, List.filter_map, List.map_map]
      rfl
    refine ⟨s ++ [span (pl x (o.map (fnd fs)))], ?_, by rw [List.map_append, hI]; rfl⟩
    rw [el, ret_bnd, span_get]
    have hsl : s.length < 1000000 := by rw [hI, List.length_map]; omega
    by_cases q : 0 < (pl x (o.map (fnd fs))).length
    · have q2 : (0 : Int) < ((pl x (o.map (fnd fs))).length : Int) := by omega
      have hne : pl x (o.map (fnd fs)) ≠ [] := List.length_pos_iff.mp q
      rw [if_pos (decide_eq_true q2), atI_of (xs := pl x (o.map (fnd fs))) (i := 0) (by omega) (by omega), atI_last, List.getLast?_eq_some_getLast hne, if_pos q]
      simp only [opt_some, ret_bnd]
      rw [mApp_ok hsl]
      congr 4
      rw [List.getD_eq_getElem?_getD, List.getElem?_eq_getElem q]
      rfl
    · have q2 : ¬ (0 : Int) < ((pl x (o.map (fnd fs))).length : Int) := by omega
      rw [if_neg (by simpa using q), if_neg q, ret_bnd, mApp_ok hsl]
  rw [e, hs]
  rfl
theorem law_spans {w : Int} {fs : List (List Int)} {o : List Int} (h : Fin w fs) (ho : Ord fs.length o) : m_law_spans w fs o = rtn (spans w (o.map (fnd fs))) := by
  have e : m_law_spans w fs o = m_raw_spans w fs o := by
    unfold m_law_spans m_raw_spans
    rw [opq_eq]
  rw [e, raw_spans h ho]
theorem brk_step {fs : List (List Int)} {o : List Int} (ho : Ord fs.length o) (x : Int) {s : Int × Int} (e : span (pl x (o.map (fnd fs))) = some s) : s.2 - s.1 + 1 - ((fs.filter fun f => decide (x ∈ f)).length : Int) = brk (pl x (o.map (fnd fs))) := by
  unfold brk
  rw [e]
  show _ = s.2 - s.1 + 1 - ((pl x (o.map (fnd fs))).length : Int)
  rw [pl_len, ((ho.perm (fs := fs)).filter _).length_eq]
theorem foldl_sum {α : Type} (f : α → Int) : ∀ (xs : List α) (a : Int), xs.foldl (fun t x => t + f x) a = a + (xs.map f).sum
  | [], a => by simp
  | x :: xs, a => by
    rw [List.foldl_cons, foldl_sum f xs, List.map_cons, List.sum_cons]
    omega
theorem enum_spans (w : Int) (s : List (List Int)) : enumZ (spans w s) = (rangeZ 0 w).map fun x => (x, span (pl x s)) := by
  rw [enumZ_eq (spans w s) none]
  have hl : (spans w s).length = w.toNat := by unfold spans; rw [List.length_map, length_rangeZ]; simp
  have e1 : rangeZ 0 ((spans w s).length : Int) = rangeZ 0 w := by
    rw [hl]
    unfold rangeZ
    have : ((w.toNat : Int) - 0).toNat = (w - 0).toNat := by omega
    rw [this]
  rw [e1]
  refine List.map_congr_left fun x hx => ?_
  have hx := mem_rangeZ.mp hx
  congr 1
  unfold spans
  rw [List.getD_eq_getElem?_getD, List.getElem?_map, get_rangeZ (by omega)]
  have : (0 : Int) + (x.toNat : Int) = x := by omega
  rw [this]
  rfl
theorem raw_breaks {w : Int} {fs : List (List Int)} {o : List Int} (h : Fin w fs) (ho : Ord fs.length o) : m_raw_breaks w fs o = rtn (brks w (o.map (fnd fs))) := by
  unfold m_raw_breaks
  rw [opq_eq]
  have h6 := h.f6
  simp only [m1, m2, mIf, ret_bnd, bnd_ret', raw_spans h ho]
  rw [enum_spans]
  have hc : ∀ x : Int, mLst (fun x19 : List Int => rtn (decide (x ∈ x19))) (fun x19 : List Int => rtn x19) fs = rtn (fs.filter fun f => decide (x ∈ f)) := fun x => by
    rw [mLst_ok (p := fun f : List Int => decide (x ∈ f)) (g := fun f => f) (lim2 (by omega)) (fun _ _ => rfl) (fun _ _ _ => rfl), List.map_id']
  rw [mFold_rtn (g := fun t q => t + brk (pl q.1 (o.map (fnd fs)))) fun q hq s => by
    obtain ⟨x, hx, rfl⟩ := List.mem_map.mp hq
    cases e : span (pl x (o.map (fnd fs))) with
    | none =>
      have e2 : brk (pl x (o.map (fnd fs))) = 0 := by unfold brk; rw [e]
      simp [e2]
    | some p =>
      have e2 := brk_step ho x e
      simp [hc, e2]]
  rw [foldl_sum (fun q : Int × Option (Int × Int) => brk (pl q.1 (o.map (fnd fs)))), List.map_map, Int.zero_add]
  rfl
theorem law_breaks {w : Int} {fs : List (List Int)} {o : List Int} (h : Fin w fs) (ho : Ord fs.length o) : m_law_breaks w fs o = rtn (brks w (o.map (fnd fs))) := by
  unfold m_law_breaks
  rw [opq_eq]
  have h6 := h.f6
  simp only [m1, m2, mIf, ret_bnd, bnd_ret', law_spans h ho]
  rw [enum_spans]
  have hc : ∀ x : Int, mLst (fun x19 : List Int => rtn (decide (x ∈ x19))) (fun x19 : List Int => rtn x19) fs = rtn (fs.filter fun f => decide (x ∈ f)) := fun x => by
    rw [mLst_ok (p := fun f : List Int => decide (x ∈ f)) (g := fun f => f) (lim2 (by omega)) (fun _ _ => rfl) (fun _ _ _ => rfl), List.map_id']
  rw [mFold_rtn (g := fun t q => t + brk (pl q.1 (o.map (fnd fs)))) fun q hq s => by
    obtain ⟨x, hx, rfl⟩ := List.mem_map.mp hq
    cases e : span (pl x (o.map (fnd fs))) with
    | none =>
      have e2 : brk (pl x (o.map (fnd fs))) = 0 := by unfold brk; rw [e]
      simp [e2]
    | some p =>
      have e2 := brk_step ho x e
      have e4 : s + p.2 - p.1 + 1 - ((fs.filter fun f => decide (x ∈ f)).length : Int) = s + brk (pl x (o.map (fnd fs))) := by omega
      simp [hc, e4]]
  rw [foldl_sum (fun q : Int × Option (Int × Int) => brk (pl q.1 (o.map (fnd fs)))), List.map_map, Int.zero_add]
  rfl
theorem spans_of {w : Int} {fs : List (List Int)} {o : List Int} (h : Fin w fs) (ho : Ord fs.length o) : m_spans_of w fs o = rtn (spans w (o.map (fnd fs))) := by
  unfold m_spans_of
  rw [opq_eq]
  simp [check_aged h ho, raw_spans h ho]
theorem breaks_of {w : Int} {fs : List (List Int)} {o : List Int} (h : Fin w fs) (ho : Ord fs.length o) : m_breaks_of w fs o = rtn (brks w (o.map (fnd fs))) := by
  unfold m_breaks_of
  rw [opq_eq]
  simp [check_aged h ho, raw_breaks h ho]
/-- breaks of an order -/
abbrev Bo (w : Int) (fs : List (List Int)) (o : List Int) : Int := brks w (o.map (fnd fs))
theorem least_breaks {w : Int} {fs : List (List Int)} (h : Fin w fs) : ∃ b, m_least_breaks w fs = rtn (some (Bo w fs b, b)) ∧ IsMin (Bo w fs) (ordersT fs.length) b := by
  unfold m_least_breaks
  rw [opq_eq]
  have h6 := h.f6
  have h7 : ¬ (7 : Int) < (fs.length : Int) := by omega
  simp only [m1, m2, mIf, mOr, ret_bnd, bnd_ret', check_finds h, h7, decide_false, Bool.false_eq_true, if_false, all_orders (n := fs.length) (by omega) (by omega)]
  obtain ⟨s', e, hs⟩ := mFold_split (F := fun (x15 : List Int) (s13 : Option (Int × List Int)) => bnd (m_raw_breaks w fs x15) fun v16 => bnd (if isNon (eO (e2 eI (eT eI)) s13) = true then rtn true else bnd (bnd (opt s13) fun x => rtn x.1) fun y => rtn (decide (v16 < y))) fun k => if k = true then rtn (some (v16, x15)) else rtn s13)
    (fun done s => (done = [] ∧ s = none) ∨ ∃ b, s = some (Bo w fs b, b) ∧ IsMin (Bo w fs) done b) (all := ordersT fs.length) (xs := ordersT fs.length) (done := []) (s := none) rfl (.inl ⟨rfl, rfl⟩) fun done o rest s ha hI => by
    have ho : Ord fs.length o := mem_ordersT.mp (by rw [ha]; simp)
    have hsorted := ordersT_sorted fs.length
    rw [ha] at hsorted
    rw [raw_breaks h ho, ret_bnd]
    rcases hI with ⟨rfl, rfl⟩ | ⟨b, rfl, hb⟩
    · exact ⟨some (Bo w fs o, o), rfl, .inr ⟨o, rfl, IsMin.one⟩⟩
    · have e3 : isNon (eO (e2 eI (eT eI)) (some (Bo w fs b, b))) = false := rfl
      rw [e3]
      simp only [Bool.false_eq_true, if_false, opt_some, ret_bnd]
      have hsn := hb.snoc (o := o) fun r hr => (List.pairwise_append.mp hsorted).2.2 r hr o List.mem_cons_self
      by_cases q : Bo w fs o < Bo w fs b
      · rw [if_pos q] at hsn
        refine ⟨_, if_pos (decide_eq_true q), .inr ⟨o, rfl, hsn⟩⟩
      · rw [if_neg q] at hsn
        refine ⟨_, if_neg (by simpa using q), .inr ⟨b, rfl, hsn⟩⟩
  rcases hs with ⟨h0, _⟩ | ⟨b, rfl, hb⟩
  · exfalso
    have : rangeZ 0 fs.length ∈ ordersT fs.length := mem_ordersT.mpr (List.Perm.refl _)
    rw [h0] at this; cases this
  · exact ⟨b, e, hb⟩
theorem Ord.rev {n : Int} {o : List Int} (h : Ord n o) : Ord n o.reverse := (List.reverse_perm o).trans h
theorem age_first {w : Int} {fs : List (List Int)} (h : Fin w fs) {b : List Int} (hb : IsMin (Bo w fs) (ordersT fs.length) b) :
    (decide (Bo w fs b = 0) = decide ((0 : Int) < ((sufs fs.length (gA fs []) fs.length []).length : Int))) ∧ ∀ x xs, sufs fs.length (gA fs []) fs.length [] = x :: xs → x = b := by
  have eg : gA fs [] = canF fs := by
    funext r c
    show (canF fs r c && tellOk [] r c) = _
    simp [tellOk]
  have e : sufs fs.length (gA fs []) fs.length [] = (ordersT fs.length).filter (okS (canF fs) []) := by
    rw [eg, sufs_filter]
    unfold ordersT
    rw [Int.toNat_natCast]
  rw [e]
  have hz : ∀ o ∈ ordersT fs.length, (okS (canF fs) [] o = true ↔ Bo w fs o = 0) := fun o ho => age_brks h (mem_ordersT.mp ho)
  constructor
  · by_cases q : Bo w fs b = 0
    · have : b ∈ (ordersT fs.length).filter (okS (canF fs) []) := List.mem_filter.mpr ⟨hb.mem, (hz b hb.mem).mpr q⟩
      have := List.length_pos_of_mem this
      have q2 : (0 : Int) < (((ordersT fs.length).filter (okS (canF fs) [])).length : Int) := by omega
      rw [decide_eq_true q, decide_eq_true q2]
    · have q2 : (ordersT fs.length).filter (okS (canF fs) []) = [] := by
        rw [List.filter_eq_nil_iff]
        intro o ho hk
        have h1 := (hz o ho).mp hk
        have h2 := hb.le o ho
        have h3 := brks_nonneg w (b.map (fnd fs))
        have h4 : Bo w fs b = 0 := by
          have : 0 ≤ Bo w fs b := h3
          omega
        exact q h4
      rw [q2]
      simp [q]
  · intro x xs ex
    have hx : x ∈ (ordersT fs.length).filter (okS (canF fs) []) := by rw [ex]; simp
    obtain ⟨x1, x2⟩ := List.mem_filter.mp hx
    have x3 := (hz x x1).mp x2
    have b0 : Bo w fs b = 0 := by
      have h2 := hb.le x x1
      have h3 : 0 ≤ Bo w fs b := brks_nonneg w (b.map (fnd fs))
      omega
    have hbm : b ∈ x :: xs := by rw [← ex]; exact List.mem_filter.mpr ⟨hb.mem, (hz b hb.mem).mpr b0⟩
    rcases List.mem_cons.mp hbm with q | q
    · exact q.symm
    · have hs : ((ordersT fs.length).filter (okS (canF fs) [])).Pairwise fun a b => ltL ltZ a b = true := List.Pairwise.filter _ (ordersT_sorted _)
      rw [ex] at hs
      have l1 := (List.pairwise_cons.mp hs).1 b q
      rcases hb.first x x1 (by rw [x3, b0]) with q2 | q2
      · exact q2
      · rw [ltL_asymm l1] at q2; cases q2
/-- the fewest breaks are told by the finds alone -/
theorem least_perm {w : Int} {fs gs : List (List Int)} (hp : gs.Perm fs) {a b : List Int} (ha : IsMin (Bo w fs) (ordersT fs.length) a) (hb : IsMin (Bo w gs) (ordersT gs.length) b) : Bo w gs b ≤ Bo w fs a := by
  have h1 : (a.map (fnd fs)).Perm gs := ((mem_ordersT.mp ha.mem).perm (fs := fs)).trans hp.symm
  obtain ⟨o, ho, e⟩ := perm_ord h1
  have := hb.le o (mem_ordersT.mpr ho)
  have e2 : Bo w gs o = Bo w fs a := by
    show brks w _ = brks w _
    rw [← e]
  omega
theorem lim9 {n : Nat} (h : n ≤ 1000) : n ≤ lim := lim2 (by omega)
theorem is_right {w : Int} {fs : List (List Int)} (h : Fin w fs) : Tot (m_law_is_right w fs) fun b => b = true := by
  unfold m_law_is_right
  rw [opq_eq]
  have h6 := h.f6
  have h1 := h.f1
  have w9 := h.w9
  have w1 := h.w1
  have r4 : mRng 0 4 = rtn (rangeZ 0 4) := mRng_ok (by omega) (by omega)
  have rn : mRng 0 (fs.length : Int) = rtn (rangeZ 0 fs.length) := mRng_ok (by omega) (by omega)
  have rc : mCut (rangeZ 0 (fs.length : Int)) = rtn (rangeZ 0 fs.length) := mCut_ok (lim2 (by rw [length_rangeZ]; omega))
  simp only [m1, m2, mIf, mOr, mAnd, ret_bnd, bnd_ret', bnd_assoc, r4, rn, rc]
  refine Tot.bind (P := fun w => ∃ s : Unit, w = .nxt s ∧ True) (Tot.foldF (fun _ => True) trivial fun x _ s _ => ?_) fun wv hw => ?_
  · refine Tot.bind (Tot.mixed (by rw [length_rangeZ]; omega)) fun o ho => ?_
    have ho : Ord fs.length o := ho
    have hr := Ord.rev ho
    have sl : ∀ s, (spans w s).length ≤ lim := fun s => lim9 (by unfold spans; rw [List.length_map, length_rangeZ]; omega)
    have sm : ∀ p : List (Option (Int × Int)) × Int, p.1.length ≤ lim → mSm 4 (l2 (eT (eO (e2 eI eI))) eI p) (l2 (eT (eO (e2 eI eI))) eI p) = rtn true := fun p hp => by
      have q := (sml2 (smT (smO (sm2 smI smI) smn2)) smI).same 0 p p ⟨⟨hp, fun y _ a _ => ⟨trivial, trivial⟩⟩, trivial⟩
      rw [decide_eq_true rfl] at q
      rw [mSm_eq]
      exact q
    have er : (spans w (o.map (fnd fs))).map (fun x => x.map fun s => ((fs.length : Int) - 1 - s.2, (fs.length : Int) - 1 - s.1)) = spans w (o.reverse.map (fnd fs)) := by
      unfold spans
      rw [List.map_map]
      refine List.map_congr_left fun x _ => ?_
      rw [List.map_reverse, pl_rev, span_rev]
      have : ((o.map (fnd fs)).length : Int) = fs.length := by rw [List.length_map, ho.len]; omega
      rw [this]
      rfl
    have el : mLst (fun _ : Option (Int × Int) => rtn true) (fun x67 : Option (Int × Int) => if isNon (eO (e2 eI eI) x67) = true then rtn none else bnd (opt x67) fun x => bnd (opt x67) fun x_1 => rtn (some ((fs.length : Int) - 1 - x.2, (fs.length : Int) - 1 - x_1.1))) (spans w (o.map (fnd fs))) = rtn (spans w (o.reverse.map (fnd fs))) := by
      rw [mLst_all (g := fun x => x.map fun s => ((fs.length : Int) - 1 - s.2, (fs.length : Int) - 1 - s.1)) (sl _) fun x _ => by cases x <;> rfl, er]
    have eb : brks w (o.reverse.map (fnd fs)) = brks w (o.map (fnd fs)) := by rw [List.map_reverse, brks_rev]
    have s1 := sm (spans w (o.map (fnd fs)), brks w (o.map (fnd fs))) (sl _)
    have s2 := sm (spans w (o.reverse.map (fnd fs)), brks w (o.map (fnd fs))) (sl _)
    simp only [law_spans h ho, law_breaks h ho, spans_of h ho, breaks_of h ho, ret_bnd, s1, s2, Bool.not_true, Bool.false_eq_true, if_false, el, spans_of h hr, breaks_of h hr, eb]
    exact Tot.ret ⟨(), rfl, trivial⟩
  · obtain ⟨_, rfl, _⟩ := hw
    obtain ⟨b, e1, hb⟩ := least_breaks h
    have hne : ∃ x xs, ordersT fs.length = x :: xs := by
      cases e : ordersT fs.length with
      | nil =>
        have : rangeZ 0 fs.length ∈ ordersT fs.length := mem_ordersT.mpr (List.Perm.refl _)
        rw [e] at this; cases this
      | cons x xs => exact ⟨x, xs, rfl⟩
    have ol : (ordersT fs.length).length ≤ 1000000 := by
      unfold ordersT
      rw [Int.toNat_natCast]
      exact Nat.le_trans (sufs_len ⟨Nat.zero_le _, List.nodup_nil, fun _ h => (nomatch h)⟩) (Nat.le_trans (df_le (by simp; omega) h6) (by omega))
    have em : mLst (fun _ : List Int => rtn true) (fun x84 : List Int => bnd (m_law_breaks w fs x84) fun x => rtn (x, x84)) (ordersT fs.length) = rtn ((ordersT fs.length).map fun o => (Bo w fs o, o)) := mLst_all (lim2 ol) fun o ho => by
      rw [law_breaks h (mem_ordersT.mp ho)]
      rfl
    have emin : mMin (lt2 ltZ (ltL ltZ)) ((ordersT fs.length).map fun o => (Bo w fs o, o)) = rtn (Bo w fs b, b) := by
      obtain ⟨x, xs, ex⟩ := hne
      have hs := ordersT_sorted fs.length
      rw [ex] at hs
      obtain ⟨b', q1, q2⟩ := minT_isMin (B := Bo w fs) (rest := xs) (done := [x]) (h := x) hs IsMin.one
      have q3 : b' = b := by
        have q2 : IsMin (Bo w fs) (x :: xs) b' := q2
        rw [← ex] at q2
        exact q2.uniq hb
      rw [ex]
      show rtn (minT (lt2 ltZ (ltL ltZ)) (Bo w fs x, x) (xs.map fun o => (Bo w fs o, o))) = _
      rw [q1, q3]
    have sm : mSm 3 (eO (e2 eI (eT eI)) (some (Bo w fs b, b))) (eO (e2 eI (eT eI)) (some (Bo w fs b, b))) = rtn true := by
      have q := (smO (sm2 smI (smT smI)) smn2).same 0 (some (Bo w fs b, b)) (some (Bo w fs b, b)) fun a e => by
        cases e
        exact ⟨trivial, lim9 (by rw [(mem_ordersT.mp hb.mem).len]; omega), fun _ _ => trivial⟩
      rw [decide_eq_true rfl] at q
      rw [mSm_eq]
      exact q
    obtain ⟨a1, a2⟩ := age_first h hb
    have hl2 := law_orders (n := fs.length) (by omega) (by omega)
    show Tot (bnd (m_law_orders fs.length) _) _
    simp only [hl2, ret_bnd, em, emin, e1, sm, Bool.not_true, Bool.false_eq_true, if_false, age_orders h Told.nil, a1, decide_true]
    have hno : (if decide ((0 : Int) < ((sufs fs.length (gA fs []) fs.length []).length : Int)) = true then bnd (opt (L2.atI (sufs fs.length (gA fs []) fs.length []) 0)) fun x => rtn (!decide (x = b)) else rtn false) = rtn false := by
      cases e : sufs fs.length (gA fs []) fs.length [] with
      | nil => rfl
      | cons x xs =>
        rw [if_pos (by simp)]
        have q := a2 x xs e
        have at0 : L2.atI (x :: xs) 0 = some x := by
          rw [atI_of (by omega) (by simp)]
          rfl
        rw [at0, q]
        simp
    simp only [hno, ret_bnd, Bool.false_eq_true, if_false]
    refine Tot.bind (Tot.mixed (by omega)) fun gs hg => ?_
    have hF : Fin w gs := ⟨h.w1, h.w9, by rw [hg.length_eq]; exact h1, by rw [hg.length_eq]; exact h6, fun f hf => h.lot f (hg.mem_iff.mp hf)⟩
    obtain ⟨b2, e2, hb2⟩ := least_breaks hF
    have le1 := least_perm (w := w) hg hb hb2
    have le2 := least_perm (w := w) hg.symm hb2 hb
    rw [e2]
    refine Tot.ret ?_
    exact decide_eq_true (by show Bo w gs b2 = Bo w fs b; omega)
abbrev fs0 : List (List Int) := [[0, 1], [2], [0], [1, 2]]
theorem lot_of {w : Int} {f : List Int} (h1 : ∀ x ∈ f, 0 ≤ x ∧ x < w) (h2 : f.Pairwise (· < ·)) (h3 : f.length ≤ 9) : Lot w f := ⟨h1, h2, h3⟩
theorem fin0 : Fin 4 fs0 := ⟨by decide, by decide, by decide, by decide, fun f hf => by
  simp only [List.mem_cons, List.not_mem_nil, or_false] at hf
  rcases hf with rfl | rfl | rfl | rfl <;> exact lot_of (by decide) (by decide) (by decide)⟩
theorem fin1 : Fin 1 [[]] := ⟨by decide, by decide, by decide, by decide, fun f hf => by
  simp only [List.mem_cons, List.not_mem_nil, or_false] at hf
  subst hf
  exact lot_of (by decide) (by decide) (by decide)⟩
theorem fin2 : Fin 1 [[], [0]] := ⟨by decide, by decide, by decide, by decide, fun f hf => by
  simp only [List.mem_cons, List.not_mem_nil, or_false] at hf
  rcases hf with rfl | rfl <;> exact lot_of (by decide) (by decide) (by decide)⟩
theorem ord_of {n : Int} {o : List Int} (h : o ∈ ordersT n) : Ord n o := mem_ordersT.mp h
theorem o0 : Ord (fs0.length : Int) [2, 1, 0, 3] := ord_of (by decide +kernel)
theorem o2 : Ord (([[], [0]] : List (List Int)).length : Int) [1, 0] := ord_of (by decide +kernel)
theorem min0 : IsMin (Bo 4 fs0) (ordersT fs0.length) [1, 3, 0, 2] := ⟨by decide +kernel, by decide +kernel, by decide +kernel⟩
theorem min1 : IsMin (Bo 1 [[]]) (ordersT ([[]] : List (List Int)).length) [0] := ⟨by decide +kernel, by decide +kernel, by decide +kernel⟩
theorem c0 : Bo 4 fs0 [1, 3, 0, 2] = 0 := by decide +kernel
theorem c1 : Bo 1 [[]] [0] = 0 := by decide +kernel
theorem s0 : spans 4 ([2, 1, 0, 3].map (fnd fs0)) = [some (0, 2), some (2, 3), some (1, 3), none] := by decide +kernel
theorem s2 : spans 1 ([1, 0].map (fnd [[], [0]])) = [some (0, 0)] := by decide +kernel
theorem b2 : brks 4 ([2, 1, 0, 3].map (fnd fs0)) = 2 := by decide +kernel
theorem sp0 : m_spans_of 4 fs0 [2, 1, 0, 3] = rtn [some (0, 2), some (2, 3), some (1, 3), none] := by rw [spans_of fin0 o0, s0]
theorem br0 : m_breaks_of 4 fs0 [2, 1, 0, 3] = rtn 2 := by rw [breaks_of fin0 o0, b2]
theorem sp2 : m_spans_of 1 [[], [0]] [1, 0] = rtn [some (0, 0)] := by rw [spans_of fin2 o2, s2]
theorem lb0 : m_least_breaks 4 fs0 = rtn (some (0, [1, 3, 0, 2])) := by
  obtain ⟨b0, e0, h0⟩ := least_breaks fin0
  rw [e0, h0.uniq min0, c0]
theorem lb1 : m_least_breaks 1 [[]] = rtn (some (0, [0])) := by
  obtain ⟨b0, e0, h0⟩ := least_breaks fin1
  rw [e0, h0.uniq min1, c1]
theorem sm1 : mSm 4 (l2 (eT (eO (e2 eI eI))) eI ([some (0, 2), some (2, 3), some (1, 3), none], 2)) (l2 (eT (eO (e2 eI eI))) eI ([some (0, 2), some (2, 3), some (1, 3), none], 2)) = rtn true := by
  have q := (sml2 (smT (smO (sm2 smI smI) smn2)) smI).same 0 ([some (0, 2), some (2, 3), some (1, 3), none], 2) ([some (0, 2), some (2, 3), some (1, 3), none], 2) ⟨⟨lim9 (by simp), fun y _ a _ => ⟨trivial, trivial⟩⟩, trivial⟩
  rw [decide_eq_true rfl] at q
  rw [mSm_eq]
  exact q
theorem sm2b : mSm 4 (l3 (eO (e2 eI (eT eI))) (eO (e2 eI (eT eI))) (eT (eO (e2 eI eI))) (some (0, [1, 3, 0, 2]), some (0, [0]), [some (0, 0)])) (l3 (eO (e2 eI (eT eI))) (eO (e2 eI (eT eI))) (eT (eO (e2 eI eI))) (some (0, [1, 3, 0, 2]), some (0, [0]), [some (0, 0)])) = rtn true := by
  have q := (sml3 (smO (sm2 smI (smT smI)) smn2) (smO (sm2 smI (smT smI)) smn2) (smT (smO (sm2 smI smI) smn2))).same 0 (some (0, [1, 3, 0, 2]), some (0, [0]), [some (0, 0)]) (some (0, [1, 3, 0, 2]), some (0, [0]), [some (0, 0)]) ⟨fun a e => by
    cases e
    exact ⟨trivial, lim9 (by simp), fun _ _ => trivial⟩, fun a e => by
    cases e
    exact ⟨trivial, lim9 (by simp), fun _ _ => trivial⟩, lim9 (by simp), fun y _ a _ => ⟨trivial, trivial⟩⟩
  rw [decide_eq_true rfl] at q
  rw [mSm_eq]
  exact q
theorem law_ok : Tot m_law fun b => b = true := by
  unfold m_law
  rw [opq_eq]
  have r6 : mRng 0 6 = rtn (rangeZ 0 6) := mRng_ok (by omega) (by omega)
  simp only [m1, m2, m3, m4, mIf, mOr, mAnd, ret_bnd, bnd_ret', bnd_assoc, sp0, br0, sm1, Bool.not_true, Bool.false_eq_true, if_false, lb0, lb1, sp2, sm2b, r6]
  refine Tot.bind (P := fun w => ∃ s, w = .nxt s ∧ True) (Tot.foldF (fun _ => True) trivial fun x _ s _ => ?_) fun wv hw => ?_
  · refine Tot.bind law_finds fun p hp => ?_
    refine Tot.bind (is_right hp) fun r hr => ?_
    subst hr
    exact Tot.ret ⟨_, rfl, trivial⟩
  · obtain ⟨_, rfl, _⟩ := hw
    exact Tot.ret rfl
theorem good : Good := good_of law_ok
end K86

section
open PySem PySem.W PySem.Calls PyProof.Rows
theorem K86.holds (good : K86.Good) : PySem.Challenge.rw_stretchwebs_k86_whole_spans_and_breaks.Holds := by
  w_on; o_law
  refine HandSHeadRun.head_any (r := OpenLaw.row PySem.Challenge.rw_stretchwebs_k86_whole_spans_and_breaks) (q := view (OpenLaw.row PySem.Challenge.rw_stretchwebs_k86_whole_spans_and_breaks).prog [41]) (H := K86.hk) (ob := K86.ob) (M := 4000) (loose := K86.loose) (d := HandSHeadRun.topDef (OpenLaw.row PySem.Challenge.rw_stretchwebs_k86_whole_spans_and_breaks).prog 41) (kwd := []) K86.ob_eq
    (by kernel_rfl) (fun s => by kernel_rfl) K86.run (by kernel_rfl) (by kernel_rfl) (by kernel_rfl) (by rfl) (by first | assumption | decide +kernel) (by decide +kernel) ⟨rfl, rfl, rfl, rfl, rfl, by decide +kernel⟩ ?hw ?hc
  case hw => w_witness2
  case hc =>
    refine Mi.walk_law (l := PySem.Challenge.rw_stretchwebs_k86_whole_spans_and_breaks) (m := 63) (k := 14) (x := "script") rfl (by decide) (by kernel_rfl) ⟨rfl, by decide, by decide⟩ ?F
    intro w mg fa h Y G hmg0
    obtain ⟨K, KX, c⟩ := Y
    have hmg : mg ("law" : PySem.Str) = some (.ref fa) := by
      have e : (HandSHeadRun.topDef (OpenLaw.row PySem.Challenge.rw_stretchwebs_k86_whole_spans_and_breaks).prog 41).name = ("law" : PySem.Str) := by kernel_rfl
      rw [← e]
      exact hmg0
    obtain ⟨fd, sp, hb, hs, hF⟩ := Mi.Law.facts (P := PySem.Challenge.pw_stretchwebs_k86_whole_spans_and_breaks) (w := w) (x := "script") K86.oks (show K86.law.ds[27]? = some K86.q_law from rfl) rfl good KX G hmg c
    exact ⟨K, fd, sp, KX, hb, hs, hF⟩

end
theorem PySem.Challenge.cw_stretchwebs_k86_whole_spans_and_breaks_holds : PySem.Challenge.rw_stretchwebs_k86_whole_spans_and_breaks.Holds := by
  exact K86.holds K86.good

